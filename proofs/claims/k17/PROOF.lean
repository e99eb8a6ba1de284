import PyProof.Rows.All
import Wide.All
import OpenK.AllK
import Wide.FinOn
import HandS.ForMost
import HandS.IsInst
import HandS.TupAny
import HandS.TupMul
import HandS.Wide
import HandS.Style
import HandS.Flow
import HandS.Codes
import HandS.Walk
import PyProof.ReprRoads
import PySem.Challenge.RW_keptviews_k17_asks_answers_nodes_steps_r
set_option Elab.async false
set_option maxRecDepth 100000
set_option maxHeartbeats 4000000
namespace G
open PySem L2

/-! ### heaps that go on -/
/-- what of an object stays when it changes: its kind -/
def norm : HO → HO
  | .lst _ => .lst []
  | .dK _ => .dK []
  | .dT _ => .dT []
  | .set _ _ => .set (fun _ => false) 0
  | .ins C d _ => .ins C d []
  | .tbl _ => .tbl #[]
  | a => a
def Kin (a b : HO) : Prop := norm a = norm b
theorem Kin.refl (a : HO) : Kin a a := rfl
theorem Kin.trans {a b c : HO} (h : Kin a b) (k : Kin b c) : Kin a c := Eq.trans h k
/-- a is none of these -/
def Nin (a : Addr) : List Addr → Prop
  | [] => True
  | m :: r => a ≠ m ∧ Nin a r
theorem nin_of {a : Addr} : ∀ {M : List Addr}, a ∉ M → Nin a M
  | [], _ => True.intro
  | m :: r, h => ⟨fun e => h (by rw [e]; exact List.mem_cons_self), nin_of fun e => h (List.mem_cons_of_mem _ e)⟩
theorem nin_mem {a : Addr} : ∀ {M : List Addr}, Nin a M → a ∉ M
  | [], _ => by simp
  | m :: r, h => fun e => (List.mem_cons.mp e).elim h.1 (nin_mem h.2)
/-- all stays but what the objects at M hold -/
def Ex (M : List Addr) (H H' : Hp) : Prop := ∀ a o, H a = some o → (Nin a M → H' a = some o) ∧ ∃ o', H' a = some o' ∧ Kin o o'
theorem Ex.refl (M : List Addr) (H : Hp) : Ex M H H := fun _ o h => ⟨fun _ => h, o, h, Kin.refl o⟩
theorem Ex.get {M : List Addr} {H H' : Hp} {a : Addr} {o : HO} (e : Ex M H H') (h : H a = some o) (n : Nin a M) : H' a = some o := (e a o h).1 n
theorem Ex.get0 {H H' : Hp} {a : Addr} {o : HO} (e : Ex [] H H') (h : H a = some o) : H' a = some o := (e a o h).1 True.intro
theorem Ex.tup {M : List Addr} {H H' : Hp} {a : Addr} {xs : List V} (e : Ex M H H') (h : H a = some (.tup xs)) : H' a = some (.tup xs) := by
  obtain ⟨o', h1, k⟩ := (e a _ h).2
  cases o' <;> simp_all [Kin, norm]
theorem Ex.frz {M : List Addr} {H H' : Hp} {a : Addr} {o : Obj} {u : HO} (e : Ex M H H') (h : H a = some (.frz o u)) : H' a = some (.frz o u) := by
  obtain ⟨o', h1, k⟩ := (e a _ h).2
  cases o' <;> simp_all [Kin, norm]
theorem Ex.trans {M : List Addr} {H H1 H2 : Hp} (a : Ex M H H1) (b : Ex M H1 H2) : Ex M H H2 := fun c o h => by
  obtain ⟨h1, o1, h2, k1⟩ := a c o h
  obtain ⟨_, o2, h4, k2⟩ := b c o1 h2
  exact ⟨fun n => (b c o (h1 n)).1 n, o2, h4, k1.trans k2⟩
theorem Ex.mono {M N : List Addr} {H H' : Hp} (a : Ex M H H') (h : ∀ x ∈ M, x ∈ N) : Ex N H H' := fun c o e =>
  ⟨fun n => (a c o e).1 (nin_of fun m => nin_mem n (h c m)), (a c o e).2⟩
theorem Ex.of0 {M : List Addr} {H H' : Hp} (a : Ex [] H H') : Ex M H H' := a.mono (fun _ h => nomatch h)
theorem Ex.new {M : List Addr} {H : Hp} {p : Addr} {o : HO} (h : H p = none) : Ex M H (upd H p o) := fun a u e =>
  have q : upd H p o a = some u := by rw [upd_ne (ne_of_none e h)]; exact e
  ⟨fun _ => q, u, q, Kin.refl u⟩
theorem Ex.put {M : List Addr} {H : Hp} {p : Addr} {o o' : HO} (h : H p = some o) (k : Kin o o') (m : p ∈ M) : Ex M H (upd H p o') := fun a u e => by
  by_cases z : a = p
  · subst z
    rw [h] at e
    cases e
    exact ⟨fun n => absurd m (nin_mem n), o', upd_same, k⟩
  · exact ⟨fun _ => by rw [upd_ne z]; exact e, u, by rw [upd_ne z]; exact e, Kin.refl u⟩
/-- an object that was not there ahead may change -/
theorem Ex.put_new {M : List Addr} {H H' : Hp} {p : Addr} {o' : HO} (e : Ex M H H') (h : H p = none) : Ex M H (upd H' p o') := fun a u q => by
  have z : a ≠ p := ne_of_none q h
  obtain ⟨h1, o1, h2, k⟩ := e a u q
  exact ⟨fun n => by rw [upd_ne z]; exact h1 n, o1, by rw [upd_ne z]; exact h2, k⟩
/-- what is new behind is new ahead -/
theorem Ex.none {M : List Addr} {H H' : Hp} {p : Addr} (e : Ex M H H') (h : H' p = none) : H p = none := by
  cases q : H p with
  | none => rfl
  | some o =>
    obtain ⟨_, o', h1, _⟩ := e p o q
    rw [h] at h1
    cases h1
theorem upd_none {H : Hp} {p q : Addr} {o : HO} (h : upd H q o p = none) : p ≠ q ∧ H p = none := by
  by_cases z : p = q
  · subst z; rw [upd_same] at h; cases h
  · exact ⟨z, by rw [upd_ne z] at h; exact h⟩
theorem upd_new {H : Hp} {p a : Addr} {o u : HO} (h : H p = none) (e : H a = some u) : upd H p o a = some u := by rw [upd_ne (ne_of_none e h)]; exact e
theorem upd_oth {H : Hp} {p a : Addr} {o : HO} {u : Option HO} (h : a ≠ p) (e : H a = u) : upd H p o a = u := by rw [upd_ne h]; exact e
theorem upd_oth2 {H : Hp} {p a : Addr} {o u : HO} (e : H a = some u) (h : a ≠ p) : upd H p o a = some u := by rw [upd_ne h]; exact e
theorem ne_new {H : Hp} {p a : Addr} {u : HO} (h : H p = none) (e : H a = some u) : a ≠ p := ne_of_none e h
theorem rd_rd {M : List Addr} {H H' : Hp} {a : Addr} {xs : List V} (e : Ex M H H') (h : Rd H a (.tup xs)) : Rd H' a (.tup xs) := by
  rcases h with h | ⟨o, h⟩
  · exact .inl (e.tup h)
  · exact .inr ⟨o, e.frz h⟩
theorem Ex.sqT {K : PySem.W.Frag} {M : List Addr} {H H' : Hp} {a : Addr} {xs : List V} (e : Ex M H H') (h : SqT K H a xs) : SqT K H' a xs := by
  rcases h with h | h
  · exact .inl (rd_rd e h)
  · exact .inr h

/-! ### data -/
inductive Dt where
  | non | bl (b : Bool) | int (i : Int) | str (s : Str) | tup (l : List Dt) | oth
/-- a list or a dict -/
def Oth (H : Hp) (a : Addr) : Prop := (∃ xs, H a = some (.lst xs)) ∨ ∃ kvs, H a = some (.dK kvs)
mutual
inductive Rep (K : PySem.W.Frag) (H : Hp) : V → Dt → Prop
  | non : Rep K H .non .non
  | bl (b : Bool) : Rep K H (.bl b) (.bl b)
  | int (i : Int) : Rep K H (.int i) (.int i)
  | str (x : Str) (h : x.length ≤ 1000000) : Rep K H (.str x) (.str x)
  | tup {a : Addr} {xs : List V} {l : List Dt} : SqT K H a xs → RepL K H xs l → Rep K H (.ref a) (.tup l)
  | oth {a : Addr} : Oth H a → Rep K H (.ref a) .oth
inductive RepL (K : PySem.W.Frag) (H : Hp) : List V → List Dt → Prop
  | nil : RepL K H [] []
  | cons {v : V} {d : Dt} {vs : List V} {l : List Dt} : Rep K H v d → RepL K H vs l → RepL K H (v :: vs) (d :: l)
end
theorem Ex.oth {M : List Addr} {H H' : Hp} {a : Addr} (e : Ex M H H') (h : Oth H a) : Oth H' a := by
  rcases h with ⟨xs, h⟩ | ⟨kvs, h⟩
  · obtain ⟨_, o', h1, k⟩ := e a _ h
    cases o' <;> first | exact .inl ⟨_, h1⟩ | exact absurd k (by simp [Kin, norm])
  · obtain ⟨_, o', h1, k⟩ := e a _ h
    cases o' <;> first | exact .inr ⟨_, h1⟩ | exact absurd k (by simp [Kin, norm])
mutual
theorem Ex.rep {K : PySem.W.Frag} {M : List Addr} {H H' : Hp} (e : Ex M H H') : ∀ {v : V} {d : Dt}, Rep K H v d → Rep K H' v d
  | _, _, .non => .non
  | _, _, .bl b => .bl b
  | _, _, .int i => .int i
  | _, _, .str x h => .str x h
  | _, _, .tup h hl => .tup (e.sqT h) (e.repL hl)
  | _, _, .oth h => .oth (e.oth h)
theorem Ex.repL {K : PySem.W.Frag} {M : List Addr} {H H' : Hp} (e : Ex M H H') : ∀ {vs : List V} {l : List Dt}, RepL K H vs l → RepL K H' vs l
  | _, _, .nil => .nil
  | _, _, .cons h hl => .cons (e.rep h) (e.repL hl)
end
theorem RepL.length {K : PySem.W.Frag} {H : Hp} : ∀ {vs : List V} {l : List Dt}, RepL K H vs l → vs.length = l.length
  | _, _, .nil => rfl
  | _, _, .cons _ t => by rw [List.length_cons, List.length_cons, t.length]
theorem RepL.get {K : PySem.W.Frag} {H : Hp} : ∀ {vs : List V} {l : List Dt} {i : Nat} {v : V}, RepL K H vs l → vs[i]? = some v → ∃ d, l[i]? = some d ∧ Rep K H v d
  | _, _, _, _, .nil, e => by simp at e
  | _, _, 0, _, .cons (d := d) h _, e => by simp at e; subst e; exact ⟨d, by simp, h⟩
  | _, _, i + 1, _, .cons _ t, e => by
    obtain ⟨d, h1, h2⟩ := t.get (i := i) (by simpa using e)
    exact ⟨d, by simpa using h1, h2⟩
theorem RepL.snoc {K : PySem.W.Frag} {H : Hp} {d : Dt} : ∀ {l : List Dt} {vs : List V}, RepL K H vs (l ++ [d]) → ∃ ws y, vs = ws ++ [y] ∧ RepL K H ws l ∧ Rep K H y d
  | [], _, .cons h .nil => ⟨[], _, rfl, .nil, h⟩
  | _ :: l, _, .cons h t => by
    obtain ⟨ws, y, e, a, b⟩ := RepL.snoc t
    exact ⟨_ :: ws, y, by rw [e]; rfl, .cons h a, b⟩
theorem RepL.mem {K : PySem.W.Frag} {H : Hp} {x : V} : ∀ {l : List Dt} {vs : List V}, RepL K H vs l → x ∈ vs → ∃ d, d ∈ l ∧ Rep K H x d
  | _, _, .cons (d := d) h t, e => by
    rcases List.mem_cons.mp e with e | e
    · subst e; exact ⟨d, List.mem_cons_self, h⟩
    · obtain ⟨d', h1, h2⟩ := RepL.mem t e
      exact ⟨d', List.mem_cons_of_mem _ h1, h2⟩
theorem RepL.memOf {K : PySem.W.Frag} {H : Hp} {x : V} {vs : List V} {l : List Dt} (hx : x ∈ vs) (h : RepL K H vs l) : ∃ d, d ∈ l ∧ Rep K H x d := h.mem hx
theorem RepL.append {K : PySem.W.Frag} {H : Hp} : ∀ {vs ws : List V} {l m : List Dt}, RepL K H vs l → RepL K H ws m → RepL K H (vs ++ ws) (l ++ m)
  | _, _, _, _, .nil, h => h
  | _, _, _, _, .cons a t, h => .cons a (t.append h)
end G
namespace G
open PySem L2
section
variable {K : PySem.W.Frag} {H : Hp} {p : Addr} {o o' : HO}
theorem SqT.of {a : Addr} {xs : List V} (h : H a = some (.tup xs)) : SqT K H a xs := .inl (.inl h)
theorem Rep.oth_l {a : Addr} {xs : List V} (h : H a = some (.lst xs)) : Rep K H (.ref a) .oth := .oth (.inl ⟨xs, h⟩)
theorem Rep.oth_d {a : Addr} {kvs : List (Key × V)} (h : H a = some (.dK kvs)) : Rep K H (.ref a) .oth := .oth (.inr ⟨kvs, h⟩)
theorem sqt_new {a : Addr} {xs : List V} (h : H p = none) (r : SqT K H a xs) : SqT K (upd H p o) a xs := (Ex.new (M := []) h).sqT r
theorem sqt_put {a : Addr} {xs : List V} (h : H p = some o) (k : norm o = norm o') (r : SqT K H a xs) : SqT K (upd H p o') a xs := (Ex.put (M := [p]) h k List.mem_cons_self).sqT r
theorem rep_new {v : V} {d : Dt} (h : H p = none) (r : Rep K H v d) : Rep K (upd H p o) v d := (Ex.new (M := []) h).rep r
theorem rep_put {v : V} {d : Dt} (h : H p = some o) (k : norm o = norm o') (r : Rep K H v d) : Rep K (upd H p o') v d := (Ex.put (M := [p]) h k List.mem_cons_self).rep r
theorem repl_new {v : List V} {d : List Dt} (h : H p = none) (r : RepL K H v d) : RepL K (upd H p o) v d := (Ex.new (M := []) h).repL r
theorem repl_put {v : List V} {d : List Dt} (h : H p = some o) (k : norm o = norm o') (r : RepL K H v d) : RepL K (upd H p o') v d := (Ex.put (M := [p]) h k List.mem_cons_self).repL r
end
/-- what is new behind is new ahead -/
def Dom (H H' : Hp) : Prop := ∀ p, H' p = none → H p = none
theorem Dom.refl (H : Hp) : Dom H H := fun _ h => h
theorem Dom.step {M : List Addr} {H H1 H2 : Hp} (e : Ex M H1 H2) (d : Dom H H1) : Dom H H2 := fun p h => d p (e.none h)
theorem Dom.none {H H' : Hp} {p : Addr} (h : H' p = none) (d : Dom H H') : H p = none := d p h
theorem side0 {M : List Addr} {H : Hp} : ∀ x ∈ ([] : List Addr), x ∈ M ∨ H x = none := fun _ h => nomatch h
theorem side1 {M : List Addr} {H : Hp} {q : Addr} (h : q ∈ M ∨ H q = none) : ∀ x ∈ [q], x ∈ M ∨ H x = none := fun x e => by
  rw [List.mem_singleton] at e
  subst e
  exact h
theorem Ex.step {M N : List Addr} {H H1 H2 : Hp} (b : Ex N H1 H2) (s : ∀ x ∈ N, x ∈ M ∨ H x = Option.none) (a : Ex M H H1) : Ex M H H2 := fun c o h => by
  obtain ⟨h1, o1, h2, k1⟩ := a c o h
  obtain ⟨h3, o2, h4, k2⟩ := b c o1 h2
  refine ⟨fun n => (b c o (h1 n)).1 (nin_of fun m => ?_), o2, h4, k1.trans k2⟩
  rcases s c m with z | z
  · exact nin_mem n z
  · rw [h] at z
    cases z
theorem Ex.stepNew {M : List Addr} {H H1 : Hp} {p : Addr} {o : HO} (h : H1 p = Option.none) (a : Ex M H H1) : Ex M H (upd H1 p o) := a.trans (Ex.new h)
end G

namespace G
open PySem L2

/-! ### weaker readings -/
section
variable {X : Cx}
theorem opImp {f : Value → Value → Sem Value} {r r' : R2} (h : OpR X f r) (i : ∀ x y H Q, r' x y H Q → r x y H Q) : OpR X f r' := fun pins s σ H x y v u Q I rx ry q => h pins s σ H x y v u Q I rx ry (i _ _ _ _ q)
theorem opOr {f : Value → Value → Sem Value} {r1 r2 : R2} {r' : R2} (h1 : OpR X f r1) (h2 : OpR X f r2) (i : ∀ x y H Q, r' x y H Q → r1 x y H Q ∨ r2 x y H Q) : OpR X f r' := fun pins s σ H x y v u Q I rx ry q =>
  (i _ _ _ _ q).elim (h1 pins s σ H x y v u Q I rx ry) (h2 pins s σ H x y v u Q I rx ry)
theorem callImp {f : Value} {r r' : List V → Hp → VK → Prop} (h : CallR X f r) (i : ∀ xs H Q, r' xs H Q → r xs H Q) : CallR X f r' := fun pins s σ H xs us Q I rv q => h pins s σ H xs us Q I rv (i _ _ _ q)
theorem peImp {e : Expr} {t t' : TE} (h : PE X e t) (i : ∀ σ H Q, t' σ H Q → t σ H Q) : PE X e t' := ⟨fun pins s σ H Q I q => h.run pins s σ H Q I (i _ _ _ q)⟩
end

/-! ### defs by their names -/
structure Cl (P : Program) (w : World) (K : PySem.W.Frag) (mg : Str → Option Value) (base : Heap) (k : Nat) (x : Str) (sp : Sp) : Prop where
  ex : ∃ (f : Addr) (fd : FuncData) (ps : List Str), FnOk P w K mg base CX0 k f fd ps sp ∧ mg x = some (.ref f) ∧ PySem.W.keepIn K (.ref f) = true ∧ Binds K fd ps []
def tCl (sp : Sp) (E : XK) (t : TA) : TE := fun σ H Q => t σ H fun vs H1 => sp vs H1 Q E
section
variable {X : Cx}
theorem pe_cl {k j : Nat} {x : Str} {sp : Sp} {p pos : Pos} {e : Expr} {es : List Expr} {t : TA} (c : Cl X.prog X.w X.K X.mg X.base k x sp) (hr : Room j X.A) (hk : k ≤ j) (hg : Gl X x) (ha : PA X (e :: es) t)
    (hdb : (x == ("__debug__" : Str)) = false := by decide) (he : starEach (e :: es) X.env = (false, eval e X.env) :: starEach es X.env := by rfl) (hpl : (backTo pos (starEach es X.env)).any (·.1) = false := by rfl) :
    PE X (.Call (.Name x p) (e :: es) [] pos) (tCl sp E0 t) := by
  obtain ⟨f, fd, ps, F, m, kp, b⟩ := c.ex
  refine peImp (pe_call F (hr.mono hk) hg m kp b .nil pass0 ha hdb he hpl) fun σ H Q q => ?_
  show t σ H fun vs H1 => sp (vs ++ []) H1 Q E0
  simp only [List.append_nil]
  exact q
theorem pe_cl0 {k j : Nat} {x : Str} {sp : Sp} {p pos : Pos} (c : Cl X.prog X.w X.K X.mg X.base k x sp) (hr : Room j X.A) (hk : k ≤ j) (hg : Gl X x) (hdb : (x == ("__debug__" : Str)) = false := by decide) :
    PE X (.Call (.Name x p) [] [] pos) (tCl sp E0 tNil) := by
  obtain ⟨f, fd, ps, F, m, kp, b⟩ := c.ex
  exact pe_call0 F (hr.mono hk) hg m kp b .nil pass0 hdb
end

/-! ### the classes of data -/
def isTy : String → Dt → Option Bool
  | "int", .int _ => some true
  | "int", .bl _ => some true
  | "int", _ => some false
  | "bool", .bl _ => some true
  | "bool", _ => some false
  | "str", .str _ => some true
  | "str", _ => some false
  | "tuple", .tup _ => some true
  | "tuple", _ => some false
  | _, _ => none
theorem SqT.ty {K : PySem.W.Frag} {H : Hp} {a : Addr} {xs : List V} (h : SqT K H a xs) : TyX K H (.ref a) (.type "tuple") := by
  rcases h with (h | ⟨o, h⟩) | ⟨o, its, n, h, c, _⟩
  · exact .base (.tup h)
  · exact .fTuple h
  · exact .kTuple h c
def rIs (K : PySem.W.Frag) : List V → Hp → VK → Prop := fun xs H Q => ∃ (x : V) (T : String) (d : Dt) (b : Bool), (xs = [x, .ty T] ∧ Rep K H x d ∧ isTy T d = some b) ∧ Q (.bl b) H
theorem isTy_kit {K : PySem.W.Frag} {H : Hp} {x : V} {d : Dt} {T : String} {b : Bool} (r : Rep K H x d) (h : isTy T d = some b) : ∃ t, TyX K H x t ∧ PySem.W.kitOne K t (.type T) = some b := by
  have cs : T = "int" ∨ T = "bool" ∨ T = "str" ∨ T = "tuple" := by
    unfold isTy at h
    split at h <;> simp_all
  rcases cs with rfl | rfl | rfl | rfl <;> cases r <;> simp [isTy] at h <;> subst h
  all_goals first
    | exact ⟨_, .base .non, kit_ty (by decide +kernel)⟩
    | exact ⟨_, .base (.bl _), kit_ty (by decide +kernel)⟩
    | exact ⟨_, .base (.int _), kit_ty (by decide +kernel)⟩
    | exact ⟨_, .base (.str _), kit_ty (by decide +kernel)⟩
    | (rename_i hs _; exact ⟨_, SqT.ty hs, kit_ty (by decide +kernel)⟩)
    | (rename_i hs; rcases hs with ⟨_, hs⟩ | ⟨_, hs⟩
       · exact ⟨_, .base (.lst hs), kit_ty (by decide +kernel)⟩
       · exact ⟨_, .base (.dK hs), kit_ty (by decide +kernel)⟩)
theorem call_Is {X : Cx} : CallR X (.builtin "isinstance") (rIs X.K) := callImp call_isi fun xs H Q ⟨x, T, d, b, ⟨e, r, h⟩, q⟩ => by
  obtain ⟨t, ty, k⟩ := isTy_kit r h
  exact ⟨x, .ty T, t, .type T, b, e, .ty T, ty, k, q⟩

/-! ### lengths -/
inductive LenX (K : PySem.W.Frag) (H : Hp) : V → Nat → Prop
  | str (z : Str) (h : z.length ≤ sizeLine) : LenX K H (.str z) z.length
  | lst {p : Addr} {xs : List V} (h : SqL K H p xs) : LenX K H (.ref p) xs.length
  | tup {p : Addr} {xs : List V} (h : SqT K H p xs) : LenX K H (.ref p) xs.length
def rLn (K : PySem.W.Frag) : List V → Hp → VK → Prop := fun xs H Q => ∃ x n, (xs = [x] ∧ LenX K H x n) ∧ Q (.int n) H
theorem call_Len {X : Cx} : CallR X (.builtin "len") (rLn X.K) := callImp call_len fun xs H Q ⟨x, n, ⟨e, l⟩, q⟩ => ⟨x, n, e, by
  cases l with
  | str z h => exact ⟨h, rfl⟩
  | lst h => exact .inl ⟨_, h, rfl⟩
  | tup h => exact .inr ⟨_, h, rfl⟩, q⟩

/-! ### operators of several kinds -/
def rAddG (K : PySem.W.Frag) : R2 := fun x y H Q =>
  (∃ i j, (x = .int i ∧ y = .int j) ∧ Q (.int (i + j)) H) ∨ (∃ i j, (x = .str i ∧ y = .str j ∧ i.length + j.length ≤ sizeLine) ∧ Q (.str (i ++ j)) H) ∨
  (∃ l b xs zs, (x = .ref l ∧ y = .ref b ∧ H l = some (.lst xs) ∧ H b = some (.lst zs) ∧ xs.length + zs.length ≤ sizeLine) ∧ ∀ p H', H p = none → H' p = some (.lst (xs ++ zs)) → Ex [] H H' → Q (.ref p) H') ∨
  (∃ l b xs zs, (x = .ref l ∧ y = .ref b ∧ SqT K H l xs ∧ SqT K H b zs ∧ xs.length + zs.length ≤ sizeLine) ∧ ∀ p H', SqT K H' p (xs ++ zs) → Ex [] H H' → Q (.ref p) H')
theorem SqT.of_new {K : PySem.W.Frag} {H : Hp} {a : Addr} {xs : List V} : SqT K (upd H a (.tup xs)) a xs := .inl (.inl upd_same)
theorem op_AddG {X : Cx} : OpR X (binaryOp .Add) (rAddG X.K) := fun pins s σ H x y v u Q I rx ry q => by
  rcases q with ⟨i, j, ⟨rfl, rfl⟩, q⟩ | ⟨i, j, ⟨rfl, rfl, hl⟩, q⟩ | ⟨l, b, xs, zs, ⟨rfl, rfl, h1, h2, hl⟩, q⟩ | ⟨l, b, xs, zs, ⟨rfl, rfl, h1, h2, hl⟩, q⟩
  · exact op_add pins s σ H _ _ v u Q I rx ry ⟨i, j, rfl, rfl, q⟩
  · exact op_add_str pins s σ H _ _ v u Q I rx ry ⟨i, j, rfl, rfl, hl, q⟩
  · exact op_cat pins s σ H _ _ v u Q I rx ry ⟨l, b, xs, zs, rfl, rfl, h1, h2, hl, fun p hp => q p _ hp upd_same (Ex.new hp)⟩
  · refine op_catA pins s σ H _ _ v u Q I rx ry ⟨l, b, xs, zs, rfl, rfl, h1, h2, hl, fun e => ?_, fun _ e => ?_, fun _ _ p hp => ?_⟩
    · exact q b H (by rw [e]; exact h2) (Ex.refl _ _)
    · exact q l H (by rw [e, List.append_nil]; exact h1) (Ex.refl _ _)
    · exact q p _ SqT.of_new (Ex.new hp)
def rEqS (a b : V) (k : Bool) : Prop := scal a b = true ∧ k = decide (a = b)
/-- an item by its place -/
def rIxG (K : PySem.W.Frag) : R2 := fun x y H Q =>
  (∃ p xs i v, (x = .ref p ∧ y = .int i ∧ SqL K H p xs ∧ atI xs i = some v) ∧ Q v H) ∨ (∃ p xs i v, (x = .ref p ∧ y = .int i ∧ SqT K H p xs ∧ atI xs i = some v) ∧ Q v H) ∨
  (∃ z i c, (x = .str z ∧ y = .int i ∧ z.length ≤ sizeLine ∧ atI z.cps.toList i = some c) ∧ Q (.str ⟨#[c]⟩) H)
theorem ix_G {X : Cx} : IxR X (rIxG X.K) := fun value slice pins s σ H x y v u Q I rx ry q hs => by
  rcases q with ⟨p, xs, i, z, ⟨a, b, c, d⟩, q⟩ | ⟨p, xs, i, z, ⟨a, b, c, d⟩, q⟩ | ⟨z, i, c, ⟨a, b, e, d⟩, q⟩
  · exact ix_list value slice pins s σ H x y v u Q I rx ry ⟨p, xs, i, z, a, b, c, d, q⟩ hs
  · exact ix_tup value slice pins s σ H x y v u Q I rx ry ⟨p, xs, i, z, a, b, c, d, q⟩ hs
  · exact ix_str value slice pins s σ H x y v u Q I rx ry ⟨z, i, c, a, b, e, d, q⟩ hs

/-! ### loops -/
theorem while_w {c : TT} {tb : TS} {D : Ends} {σ : St} {H : Hp} (W : Nat → St → Hp → Prop) (m₀ : Nat) (h0 : W m₀ σ H)
    (hs : ∀ m σ H, W m σ H → c σ H fun b H1 => if b = true then ∃ N : St → Hp → Prop, (∀ σ' H', N σ' H' → ∃ m', m' < m ∧ W m' σ' H') ∧ tb { D with nx := N, ct := N, bk := D.nx } σ H1 else D.nx σ H1) : tWhile c tb D σ H := ⟨W, ⟨m₀, h0⟩, hs⟩
/-- what holds while a list is made of others -/
structure LcP (D : Addr) (M : List Addr) (P : Hp → Prop) (R : Nat → V → Hp → Prop) (H1 : Hp) (i : Nat) (H : Hp) : Prop where
  ex : Ex M H1 H
  p : P H
  l : ∃ acc, H D = some (.lst acc) ∧ acc.length = i ∧ ∀ j y, acc[j]? = some y → R j y H
theorem LcP.start {D : Addr} {M : List Addr} {P : Hp → Prop} {R : Nat → V → Hp → Prop} {H1 : Hp} (hD : H1 D = none) (p : P H1) (pl : ∀ H o, P H → P (upd H D o)) : LcP D M P R H1 0 (upd H1 D (.lst [])) :=
  ⟨Ex.new hD, pl _ _ p, [], upd_same, rfl, fun j y e => by simp at e⟩
/-- R does not hang on what changes -/
def Stab (R : Nat → V → Hp → Prop) : Prop := ∀ i y M H H', Ex M H H' → R i y H → R i y H'
theorem LcP.step {D : Addr} {M : List Addr} {P : Hp → Prop} {R : Nat → V → Hp → Prop} {H1 H H4 : Hp} {i n : Nat} {y : V} (h : LcP D M P R H1 i H) (hD : H1 D = none) (st : Stab R) (pl : ∀ H o, P H → P (upd H D o))
    (e : Ex M H H4) (nD : Nin D M) (p : P H4) (r : R i y H4) (hi : i < n) (hn : n ≤ 1000000) : ∃ acc, H4 D = some (.lst acc) ∧ acc.length < sizeLine ∧ LcP D M P R H1 (i + 1) (upd H4 D (.lst (acc ++ [y]))) := by
  obtain ⟨e0, _, acc, h1, h2, h3⟩ := h
  have h4 : H4 D = some (.lst acc) := e.get h1 nD
  have e5 : Ex [D] H4 (upd H4 D (.lst (acc ++ [y]))) := Ex.put h4 rfl (by simp)
  have hz : (1000000 : Nat) < sizeLine := by decide
  refine ⟨acc, h4, by omega, (e0.trans e).put_new hD, pl _ _ p, acc ++ [y], upd_same, by simp [h2], fun j z hj => ?_⟩
  by_cases hlt : j < acc.length
  · rw [List.getElem?_append_left hlt] at hj
    exact st _ _ _ _ _ e5 (st _ _ _ _ _ e (h3 j z hj))
  · rw [List.getElem?_append_right (by omega)] at hj
    have hj0 : j - acc.length = 0 := by
      have := (List.getElem?_eq_some_iff.mp hj).1
      simp at this
      omega
    rw [hj0] at hj
    simp at hj
    subst hj
    have : j = i := by omega
    subst this
    exact st _ _ _ _ _ e5 r
end G

namespace G
open PySem PySem.Spec PyProof.Rows L2
theorem flat_len {α : Type} (its : List α) (m : Nat) : (List.replicate m its).flatten.length = m * its.length := PyProof.Rows.lm_len_rep_flat _ _
/-- t * 1, () * k: the very tuple -/
theorem tmul_same (l : Addr) (items : Array Value) (n : Nat) (dd : Option Addr) (sl : Array (Option Value)) (x : Int) (u : Tok)
    (c0 : (decide (x < -(2 ^ 63)) || decide (x ≥ 2 ^ 63)) = false) (c1 : (items.isEmpty || x == 1) = true) :
    Meets (Builtin.«tuple.__mul__» ⟨[.ref l, .int x u], []⟩)
      (fun _ R s => s.heap.get? l = some { cls := .type "tuple", dict := dd, data := .seq items n, slots := sl } ∧ R (.ok (.ret (Value.ref l))) s) :=
  .of_wp fun prog w A R s h => by
    obtain ⟨hp, g, d, tk, os⟩ := s
    obtain ⟨hl, h⟩ := h
    have f1 := AutoSeq1.idx_int
    wp_walk using wpAny_loadPart' hl
    repeat (first
      | (refine wpAny_ite_false (decide_eq_false (by rw [c0]; exact Bool.false_ne_true)) ?_; wp_walk using wpAny_loadPart' hl)
      | (refine wpAny_ite_true (decide_eq_true c1) ?_; wp_walk using wpAny_loadPart' hl))
    exact ⟨_, rfl, h⟩
/-- t * k, k ≤ 0: an empty one -/
theorem tmul_none (l : Addr) (items : Array Value) (n : Nat) (dd : Option Addr) (sl : Array (Option Value)) (x : Int) (u : Tok)
    (c0 : (decide (x < -(2 ^ 63)) || decide (x ≥ 2 ^ 63)) = false) (c1 : (items.isEmpty || x == 1) = false) (c2 : (decide (x ≤ 0) || items.isEmpty) = true) :
    Meets (Builtin.«tuple.__mul__» ⟨[.ref l, .int x u], []⟩)
      (fun _ R s => s.heap.get? l = some { cls := .type "tuple", dict := dd, data := .seq items n, slots := sl } ∧
        R (.ok (.ret (Value.ref s.heap.objs.size))) { s with heap := s.heap.push { cls := Value.type "tuple", data := Data.seq #[] } }) :=
  .of_wp fun prog w A R s h => by
    obtain ⟨hp, g, d, tk, os⟩ := s
    obtain ⟨hl, h⟩ := h
    have f1 := AutoSeq1.idx_int
    wp_walk using wpAny_loadPart' hl
    repeat (first
      | (refine wpAny_ite_false (decide_eq_false (by rw [c0]; exact Bool.false_ne_true)) ?_; wp_walk using wpAny_loadPart' hl)
      | (refine wpAny_ite_false (decide_eq_false (by rw [c1]; exact Bool.false_ne_true)) ?_; wp_walk using wpAny_loadPart' hl)
      | (refine wpAny_ite_true (decide_eq_true c2) ?_; wp_walk using wpAny_loadPart' hl))
    exact ⟨_, rfl, h⟩
def repS (z : Str) (k : Int) : Str := ⟨((List.replicate k.toNat z.cps.toList).flatten).toArray⟩
def rMulG (K : PySem.W.Frag) : R2 := fun x y H Q =>
  (∃ i j, (x = .int i ∧ y = .int j ∧ CMul i j) ∧ Q (.int (i * j)) H) ∨
  (∃ z k, (x = .str z ∧ y = .int k ∧ 0 ≤ k ∧ k ≤ 1000000 ∧ z.length * k.toNat ≤ 1000000) ∧ Q (.str (repS z k)) H) ∨
  (∃ l k xs, (x = .ref l ∧ y = .int k ∧ H l = some (.lst xs) ∧ 0 ≤ k ∧ k ≤ 1000000 ∧ xs.length * k.toNat ≤ 1000000) ∧ ∀ p H', H p = none → H' p = some (.lst (List.replicate k.toNat xs).flatten) → Ex [] H H' → Q (.ref p) H') ∨
  (∃ l k xs, (x = .ref l ∧ y = .int k ∧ SqT K H l xs ∧ 0 ≤ k ∧ k ≤ 1000000 ∧ xs.length * k.toNat ≤ 1000000) ∧ ∀ p H', SqT K H' p (List.replicate k.toNat xs).flatten → Ex [] H H' → Q (.ref p) H')
theorem flat_nil {α : Type} : ∀ n : Nat, (List.replicate n ([] : List α)).flatten = []
  | 0 => rfl
  | n + 1 => by rw [List.replicate_succ, List.flatten_cons, flat_nil n]; rfl
theorem vals_rep {xs : List V} {us : List Value} (r : Vals xs us) : ∀ n : Nat, Vals (List.replicate n xs).flatten (List.replicate n us).flatten
  | 0 => .nil
  | n + 1 => by
    rw [List.replicate_succ, List.flatten_cons, List.replicate_succ, List.flatten_cons]
    exact r.append (vals_rep r n)
theorem op_mulT {X : Cx} {pins : List (Addr × Obj)} {s : Shared} {σ : L2.St} {H : Hp} {l : Addr} {k : Int} {xs : List V} {v u : Value} {Q : VK} (I : L2.Inv X pins σ H s) (rx : RelV (.ref l) v) (ry : RelV (.int k) u)
    (hT : SqT X.K H l xs) (h0 : 0 ≤ k) (h1 : k ≤ 1000000) (hz : xs.length * k.toNat ≤ 1000000) (q : ∀ p H', SqT X.K H' p (List.replicate k.toNat xs).flatten → Ex [] H H' → Q (.ref p) H') :
    wpAny (model X.prog X.w) X.A (binaryOp .Mult v u) (EP X pins σ Q) X.xe s := by
  cases rx
  obtain ⟨t, rfl⟩ := ry
  obtain ⟨its, r, ⟨⟨cls, dd, data, sl⟩, ho, hc, n, hd⟩, hs⟩ := I.tuple hT
  simp only at hc hd
  subst hc hd
  have hle : its.length = xs.length := r.length.symm
  have c0 : (decide (k < -(2 ^ 63)) || decide (k ≥ 2 ^ 63)) = false := by
    rw [decide_eq_false (by omega), decide_eq_false (by omega)]
    rfl
  have run : ∀ (R : Value → Shared → Prop), (∀ (P : Prop), wpAny (model X.prog X.w) X.A (call (.builtin "tuple.__mul__") [.ref l, .int k t]) R X.xe s → P → P) → wpAny (model X.prog X.w) X.A (call (.builtin "tuple.__mul__") [.ref l, .int k t]) R X.xe s →
      wpAny (model X.prog X.w) X.A (binaryOp .Mult (.ref l) (.int k t)) R X.xe s := fun R _ h =>
    wpAny_binaryOp_repeat_ref (T := "tuple") (U := "int") (by decide) ⟨_, ho, rfl⟩ (fun s' => typeIs_int s' k t) noFill_tuple_mul F.fills_int_mul F.slot_int_rmul repeat_tuple F.slot_int_index.lookup
      (call_meets F.slot_int_rmul (typeIs_int s k t) F.entry_int_rmul (F.args_int_rmul_2 _ _) (int_rmul_tuple k t l its.toArray n dd sl) ⟨ho, rfl, ⟨_, ho, rfl⟩, h⟩)
  refine run _ (fun _ _ p => p) ?_
  cases c1 : (its.toArray.isEmpty || k == 1) with
  | true =>
    refine call_meets F.slot_tuple_mul ⟨_, ho, rfl⟩ F.entry_tuple_mul (F.args_tuple_mul_2 _ _) (tmul_same l its.toArray n dd sl k t c0 c1) ⟨ho, ?_⟩
    have e : (List.replicate k.toNat xs).flatten = xs := by
      rcases Bool.or_eq_true _ _ |>.mp c1 with z | z
      · have : its = [] := by simpa using z
        subst this
        have : xs = [] := List.eq_nil_of_length_eq_zero hle.symm
        subst this
        exact flat_nil _
      · have : k = 1 := by simpa using z
        subst this
        simp
    exact ⟨.ref l, H, I.tok _, rfl, q l H (by rw [e]; exact hT) (Ex.refl _ _)⟩
  | false =>
    have c1' := c1
    rw [Bool.or_eq_false_iff] at c1
    obtain ⟨hi, hk1⟩ := c1
    cases c2 : (decide (k ≤ 0) || its.toArray.isEmpty) with
    | true =>
      refine call_meets F.slot_tuple_mul ⟨_, ho, rfl⟩ F.entry_tuple_mul (F.args_tuple_mul_2 _ _) (tmul_none l its.toArray n dd sl k t c0 c1' c2) ⟨ho, ?_⟩
      have hk0 : k = 0 := by
        rw [hi, Bool.or_false] at c2
        have := of_decide_eq_true c2
        omega
      subst hk0
      refine ⟨.ref s.heap.objs.size, _, I.laid (t' := s.toks) (o := .tup []) (fun b ob z => Heap.get?_push_of_some _ z) (Nat.le_refl _) ?_, rfl, q _ _ (by simpa using SqT.of_new) (Ex.new (I.hok.fresh (Nat.le_refl _)))⟩
      exact ⟨Nat.zero_le _, [], .nil, IsTup.new _ _⟩
    | false =>
      have hpos : ¬ k ≤ 0 := by
        intro z
        rw [decide_eq_true z] at c2
        cases c2
      have hm : ((its.toArray.size : Nat) : Int) * k ≤ 1000000 := by
        have e1 : k = ((k.toNat : Nat) : Int) := by omega
        have a1 : ((xs.length * k.toNat : Nat) : Int) ≤ 1000000 := by omega
        rw [List.size_toArray, hle, e1]
        rw [Int.natCast_mul] at a1
        exact a1
      have c4 : Builtin.Tuple.tupleTooMany (((its.toArray.size : Nat) : Int) * k) = false := by
        unfold Builtin.Tuple.tupleTooMany
        rw [sizeLine_eq]
        exact decide_eq_false (by omega)
      have flen : (List.replicate k.toNat its).flatten.length ≤ sizeLine := by
        rw [flat_len, hle, sizeLine_eq, Nat.mul_comm]
        omega
      refine call_meets F.slot_tuple_mul ⟨_, ho, rfl⟩ F.entry_tuple_mul (F.args_tuple_mul_2 _ _) (tuple_mulW l its.toArray n dd sl k t c0 c1' c2 (by omega) c4 (by rw [size_rep, List.size_toArray]; exact flen)) ⟨ho, ?_⟩
      rw [size_rep]
      have ok : xs.length * k.toNat ≤ sizeLine := by rw [sizeLine_eq]; omega
      refine ⟨.ref s.heap.objs.size, _, I.laid (t' := s.toks) (o := .tup (List.replicate k.toNat xs).flatten) (fun b ob z => Heap.get?_push_of_some _ z) (Nat.le_refl _) ?_, rfl, q _ _ SqT.of_new (Ex.new (I.hok.fresh (Nat.le_refl _)))⟩
      exact ⟨by rw [flat_len, Nat.mul_comm]; exact ok, _, vals_rep r _, IsTup.new _ _⟩
theorem fold_app {α : Type} : ∀ (l : List (List α)) (acc : Array α), ((l.map List.toArray).foldl (· ++ ·) acc) = acc ++ l.flatten.toArray
  | [], acc => by simp
  | x :: r, acc => by
    rw [List.map_cons, List.foldl_cons, fold_app r]
    simp
theorem op_mulS {X : Cx} {pins : List (Addr × Obj)} {s : Shared} {σ : L2.St} {H : Hp} {k : Int} {z : Str} {v u : Value} {Q : VK} (I : L2.Inv X pins σ H s) (rx : RelV (.str z) v) (ry : RelV (.int k) u)
    (h0 : 0 ≤ k) (h1 : k ≤ 1000000) (hz : z.length * k.toNat ≤ 1000000) (q : Q (.str (repS z k)) H) :
    wpAny (model X.prog X.w) X.A (binaryOp .Mult v u) (EP X pins σ Q) X.xe s := by
  obtain ⟨t, rfl⟩ := rx
  obtain ⟨t', rfl⟩ := ry
  have c0 : (decide (k < -(2 ^ 63)) || decide (k ≥ 2 ^ 63)) = false := by
    rw [decide_eq_false (by omega), decide_eq_false (by omega)]
    rfl
  have hzl : z.length = z.cps.size := rfl
  refine P.mul_str c0 (fun a b => ?_) (fun a b => ?_) ?_
  · intro c
    have a2 : (z.length : Int) ≤ 1000000 := by
      have : z.length * 1 ≤ z.length * k.toNat := Nat.mul_le_mul_left _ (by omega)
      omega
    have a3 : (1000000 : Int) ≤ (2 ^ 63 - 1) / k := (Int.le_ediv_iff_mul_le (by omega)).mpr (by omega)
    omega
  · unfold PySem.Builtin.Str.tooLong
    rw [sizeLine_eq]
    exact decide_eq_false (by omega)
  · by_cases hk : k < 1
    · rw [if_pos hk]
      have : k = 0 := by omega
      subst this
      refine ⟨by decide, .str Str.empty, H, I.tok _, ⟨_, rfl⟩, ?_⟩
      exact q
    · rw [if_neg hk]
      by_cases c : (k == 1 || z.length == 0) = true
      · rw [if_pos c]
        have e : repS z k = z := by
          rcases Bool.or_eq_true _ _ |>.mp c with y | y
          · have : k = 1 := by simpa using y
            subst this
            simp [repS]
          · have y' : z.cps.size = 0 := by simpa [hzl] using y
            have : z.cps = #[] := Array.eq_empty_of_size_eq_zero y'
            obtain ⟨a⟩ := z
            simp at this
            subst this
            simp [repS]
        refine ⟨.str z, H, I.tok _, ⟨_, rfl⟩, ?_⟩
        rw [e] at q
        exact q
      · rw [if_neg c]
        have e : (⟨(List.replicate k.toNat z.cps).foldl (· ++ ·) #[]⟩ : Str) = repS z k := by
          unfold repS
          congr 1
          have := fold_app (List.replicate k.toNat z.cps.toList) (#[] : Array Nat)
          simpa using this
        rw [e]
        refine ⟨?_, .str (repS z k), H, I.tok _, ⟨_, rfl⟩, q⟩
        show (repS z k).cps.size ≤ sizeLine
        rw [sizeLine_eq]
        simp only [repS, List.size_toArray, flat_len, Array.length_toList]
        rw [Nat.mul_comm, ← hzl]
        omega
theorem op_MulG {X : Cx} : OpR X (binaryOp .Mult) (rMulG X.K) := fun pins s σ H x y v u Q I rx ry q => by
  rcases q with ⟨i, j, ⟨rfl, rfl, c⟩, q⟩ | ⟨z, k, ⟨rfl, rfl, h0, h1, hz⟩, q⟩ | ⟨l, k, xs, ⟨rfl, rfl, hl, h0, h1, hz⟩, q⟩ | ⟨l, k, xs, ⟨rfl, rfl, hT, h0, h1, hz⟩, q⟩
  · exact op_mul pins s σ H _ _ v u Q I rx ry ⟨i, j, rfl, rfl, c, q⟩
  · exact op_mulS I rx ry h0 h1 hz q
  · exact op_rep pins s σ H _ _ v u Q I rx ry ⟨l, k, xs, rfl, rfl, hl, by omega, by omega, by rw [sizeLine_eq]; omega, fun p hp => q p _ hp upd_same (Ex.new hp)⟩
  · exact op_mulT I rx ry hT h0 h1 hz q
end G

namespace G
open PySem L2
section
variable {CX : CXT} {P : Program} {w : World} {K : PySem.W.Frag} {mg : Str → Option Value} {base : Heap} {N : List Str} {qual : Str} {scope : Scope} {f : Addr} {cd : Value} {A : Around} {outer : List Env} {s : Shared} {H : Hp} {E : XK}
theorem cx_K : (cxOf CX P w K mg base N qual scope f cd A outer s H E).K = K := rfl
theorem cx_nK : (cxOf CX P w K mg base N qual scope f cd A outer s H E).nox.K = K := rfl
end
theorem cmul_r {i j : Int} (h1 : -(2 ^ 64) < j) (h2 : j < 2 ^ 64) : CMul i j := .inr ⟨h1, h2⟩
theorem cmul_l {i j : Int} (h1 : -(2 ^ 64) < i) (h2 : i < 2 ^ 64) : CMul i j := .inl ⟨h1, h2⟩
theorem cdivw {i j : Int} (h1 : 0 < j) (h2 : j < 2 ^ 64) : CDivW i j := wide_div (b := 64) h1 (by omega) (by decide) (by decide)
theorem tyL {K : PySem.W.Frag} {H : Hp} {p : Addr} {xs : List V} (h : SqL K H p xs) : tyV K "list" (.ref p) H := Or.inl ⟨rfl, xs, h⟩
theorem pop_last (ws : List V) (y : V) : (ws ++ [y])[(ws ++ [y]).length - 1]? = some y := by simp
/-! ### lists of data that a comprehension makes -/
def RepAt (K : PySem.W.Frag) (ds : List Dt) (i : Nat) (y : V) (H : Hp) : Prop := ∃ d, ds[i]? = some d ∧ Rep K H y d
theorem RepAt.stab {K : PySem.W.Frag} {ds : List Dt} : Stab (RepAt K ds) := fun _ _ _ _ _ e ⟨d, h, r⟩ => ⟨d, h, e.rep r⟩
theorem repL_of {K : PySem.W.Frag} {H : Hp} : ∀ {ys : List V} {ds : List Dt}, ys.length = ds.length → (∀ j y, ys[j]? = some y → RepAt K ds j y H) → RepL K H ys ds
  | [], [], _, _ => .nil
  | y :: ys, d :: ds, hl, h => by
    obtain ⟨d', e, r⟩ := h 0 y (by simp)
    have e' : d = d' := by simpa using e
    subst e'
    refine .cons r (repL_of (by simpa using hl) fun j z hz => ?_)
    obtain ⟨d2, e2, r2⟩ := h (j + 1) z (by simpa using hz)
    exact ⟨d2, by simpa using e2, r2⟩
theorem LcP.done {K : PySem.W.Frag} {D : Addr} {M : List Addr} {P : Hp → Prop} {ds : List Dt} {H1 H : Hp} {n : Nat} (h : LcP D M P (RepAt K ds) H1 n H) (hn : ds.length = n) : ∃ ys, H D = some (.lst ys) ∧ RepL K H ys ds := by
  obtain ⟨_, _, acc, h1, h2, h3⟩ := h
  exact ⟨acc, h1, repL_of (by omega) h3⟩
theorem RepL.bls {K : PySem.W.Frag} {H : Hp} : ∀ {ys : List V} {bs : List Bool}, RepL K H ys (bs.map Dt.bl) → ys = bs.map V.bl
  | _, [], h => by cases h; rfl
  | _, b :: bs, h => by
    rw [List.map_cons] at h
    cases h with
    | cons a t =>
      cases a
      rw [t.bls, List.map_cons]
theorem RepL.ints {K : PySem.W.Frag} {H : Hp} : ∀ {ys : List V} {bs : List Int}, RepL K H ys (bs.map Dt.int) → ys = bs.map V.int
  | _, [], h => by cases h; rfl
  | _, b :: bs, h => by
    rw [List.map_cons] at h
    cases h with
    | cons a t =>
      cases a
      rw [t.ints, List.map_cons]
theorem RepL.strs {K : PySem.W.Frag} {H : Hp} : ∀ {ys : List V} {bs : List Str}, RepL K H ys (bs.map Dt.str) → ys = bs.map V.str
  | _, [], h => by cases h; rfl
  | _, b :: bs, h => by
    rw [List.map_cons] at h
    cases h with
    | cons a t =>
      cases a
      rw [t.strs, List.map_cons]
theorem SqL.bls {K : PySem.W.Frag} {H : Hp} {D : Addr} {ys : List V} {bs : List Bool} (h : H D = some (.lst ys)) (r : RepL K H ys (bs.map Dt.bl)) : SqL K H D (bs.map V.bl) := by
  rw [← r.bls]
  exact SqL.of h
theorem true_loc : ∀ (D : Addr) (H : Hp) (o : HO), (fun _ : Hp => True) H → (fun _ : Hp => True) (upd H D o) := fun _ _ _ h => h

/-! ### signs -/
def signOk (c : Nat) : Bool := decide (32 ≤ c) && decide (c ≤ 126)
theorem lt1 (a b : Nat) : decide (([a] : List Nat) < [b]) = decide (a < b) := by
  by_cases h : a < b
  · rw [decide_eq_true h, decide_eq_true]
    exact List.Lex.rel h
  · rw [decide_eq_false h, decide_eq_false]
    intro z
    cases z with
    | rel z => exact h z
    | cons z => cases z
theorem le1 (a b : Nat) : (!decide (([a] : List Nat) < [b])) = decide (b ≤ a) := by
  rw [lt1]
  by_cases h : a < b
  · rw [decide_eq_true h, decide_eq_false (by omega)]
    rfl
  · rw [decide_eq_false h, decide_eq_true (by omega)]
    rfl
theorem wipe_set1 (σ : L2.St) (j : Nat) (x : Option V) : wipe (σ.set j x) [j] = wipe σ [j] := by
  show (σ.set j x).set j none = σ.set j none
  rw [List.set_set]
theorem wipe_set1' (σ : L2.St) (j : Nat) (x : Option V) : wipe ((wipe σ [j]).set j x) [j] = wipe σ [j] := by
  show ((σ.set j none).set j x).set j none = σ.set j none
  rw [List.set_set, List.set_set]
theorem get_set1 (σ : L2.St) {j : Nat} (x : Option V) (h : j < σ.length) : ((wipe σ [j]).set j x)[j]? = some x := by
  show ((σ.set j none).set j x)[j]? = some x
  rw [List.getElem?_set_self (by rw [List.length_set]; exact h)]
/-! ### slices -/
def rSlG (K : PySem.W.Frag) : V → Option Int → Option Int → Hp → VK → Prop := fun x lo hi H Q =>
  (∃ z, (x = .str z ∧ z.length ≤ sizeLine) ∧ Q (.str (cutS z lo hi)) H) ∨
  (∃ a xs, (x = .ref a ∧ SqL K H a xs) ∧ ∀ p H', H p = none → H' p = some (.lst (cutV xs lo hi)) → Ex [] H H' → Q (.ref p) H') ∨
  (∃ a xs, (x = .ref a ∧ SqT K H a xs) ∧ ∀ p H', SqT K H' p (cutV xs lo hi) → Ex [] H H' → Q (.ref p) H')
theorem cutV_whole {xs : List V} {lo hi : Option Int} (h : HT.sIx xs.length 0 lo = 0 ∧ HT.sIx xs.length xs.length hi = xs.length) : cutV xs lo hi = xs := by
  unfold cutV
  rw [h.1, h.2]
  simp
theorem sl_G {X : Cx} : SlR X (rSlG X.K) := fun pins s σ H x v vl vu lo hi sl Q I rx hs pl pu q => by
  rcases q with ⟨z, ⟨rfl, hz⟩, q⟩ | ⟨a, xs, ⟨rfl, hx⟩, q⟩ | ⟨a, xs, ⟨rfl, hx⟩, q⟩
  · exact sl_str pins s σ H _ v vl vu lo hi sl Q I rx hs pl pu ⟨z, rfl, hz, q⟩
  · exact sl_list pins s σ H _ v vl vu lo hi sl Q I rx hs pl pu ⟨a, xs, rfl, hx, fun p hp => q p _ hp upd_same (Ex.new hp)⟩
  · refine sl_tupA pins s σ H _ v vl vu lo hi sl Q I rx hs pl pu ⟨a, xs, rfl, hx, fun e => ?_, fun _ p hp => ?_⟩
    · exact q a H (by rw [cutV_whole e]; exact hx) (Ex.refl _ _)
    · exact q p _ SqT.of_new (Ex.new hp)
/-! ### the same with the written part named -/
section
variable {X : Cx} {K : PySem.W.Frag}
theorem oAdd (h : X.K = K) : OpR X (binaryOp .Add) (rAddG K) := by subst h; exact op_AddG
theorem oMul (h : X.K = K) : OpR X (binaryOp .Mult) (rMulG K) := by subst h; exact op_MulG
theorem ixG (h : X.K = K) : IxR X (rIxG K) := by subst h; exact ix_G
theorem slG (h : X.K = K) : SlR X (rSlG K) := by subst h; exact sl_G
theorem cIs (h : X.K = K) : CallR X (.builtin "isinstance") (rIs K) := by subst h; exact call_Is
theorem cLen (h : X.K = K) : CallR X (.builtin "len") (rLn K) := by subst h; exact call_Len
theorem cAll (h : X.K = K) (hc : X.calm = true) : CallR X (.builtin "all") (rAll K) := by subst h; exact cr_all hc
theorem cAny (h : X.K = K) (hc : X.calm = true) : CallR X (.builtin "any") (rAny K) := by subst h; exact cr_any hc
end
end G

/-! ### rules in one form: facts, then what follows, over any heap that goes on -/
namespace G
open PySem PySem.Spec PyProof.Rows L2
section
variable {X : Cx} {K : PySem.W.Frag}
def tTupA (t : TA) : TE := fun σ H Q => t σ H fun xs H1 => xs.length ≤ sizeLine ∧ ∀ p H2, H1 p = none → H2 p = some (.tup xs) → Ex [] H1 H2 → Q (.ref p) H2
def tLstA (t : TA) : TE := fun σ H Q => t σ H fun xs H1 => xs.length ≤ sizeLine ∧ ∀ p H2, H1 p = none → H2 p = some (.lst xs) → Ex [] H1 H2 → Q (.ref p) H2
theorem peTup {es : List Expr} {t : TA} {pos : Pos} {x1} (h : PA X es t) : PE X (.Tuple es x1 pos) (tTupA t) := by
  constructor
  intro pins s σ H Q I hq
  apply wpAny_Tuple_spliced
  refine thn (h.run pos pins s σ H _ I hq) ?_
  rintro us s1 ⟨xs, H1, I1, r, z, q⟩
  have new := I1.hok.fresh (Nat.le_refl s1.heap.objs.size)
  refine ⟨r.length ▸ z, .ref s1.heap.objs.size, _, I1.laid (t' := s1.toks) (o := .tup xs) (fun _ _ e => Heap.get?_push_of_some _ e) (Nat.le_refl _) ?_, rfl, q _ _ new upd_same (Ex.new new)⟩
  exact ⟨z, us, r, IsTup.new _ _⟩
theorem peLst {es : List Expr} {t : TA} {pos : Pos} (h : PA X es t) : PE X (.List es pos) (tLstA t) := by
  constructor
  intro pins s σ H Q I hq
  apply wpAny_List_spliced
  refine thn (h.run pos pins s σ H _ I hq) ?_
  rintro us s1 ⟨xs, H1, I1, r, z, q⟩
  have new := I1.hok.fresh (Nat.le_refl s1.heap.objs.size)
  refine ⟨r.length ▸ z, .ref s1.heap.objs.size, _, I1.laid (t' := s1.toks) (o := .lst xs) (fun _ _ e => Heap.get?_push_of_some _ e) (Nat.le_refl _) ?_, rfl, q _ _ new upd_same (Ex.new new)⟩
  exact ⟨z, us, 0, r, Heap.get?_push_size _ rfl⟩
def rSub : R2 := fun x y H Q => ∃ i j, (x = .int i ∧ y = .int j) ∧ Q (.int (i - j)) H
theorem oSub : OpR X (binaryOp .Sub) rSub := opImp op_sub fun _ _ _ _ ⟨i, j, ⟨a, b⟩, q⟩ => ⟨i, j, a, b, q⟩
def rMod : R2 := fun x y H Q => ∃ i j, (x = .int i ∧ y = .int j ∧ 0 < j) ∧ Q (.int (i % j)) H
theorem oMod : OpR X (binaryOp .Mod) rMod := opImp op_mod fun _ _ _ _ ⟨i, j, ⟨a, b, c⟩, q⟩ => ⟨i, j, a, b, c, q⟩
def rFdv : R2 := fun x y H Q => ∃ i j, (x = .int i ∧ y = .int j ∧ CDivW i j) ∧ Q (.int (i / j)) H
theorem oFdv : OpR X (binaryOp .FloorDiv) rFdv := opImp op_fdivW fun _ _ _ _ ⟨i, j, ⟨a, b, c⟩, q⟩ => ⟨i, j, a, b, c, q⟩
def rPow : R2 := fun x y H Q => ∃ i j, (x = .int i ∧ y = .int j ∧ CPow i j) ∧ Q (.int (i ^ j.toNat)) H
theorem oPow : OpR X (binaryOp .Pow) rPow := opImp op_pow fun _ _ _ _ ⟨i, j, ⟨a, b, c⟩, q⟩ => ⟨i, j, a, b, c, q⟩
def rNeg : V → Hp → VK → Prop := fun x H Q => ∃ i, x = .int i ∧ Q (.int (-i)) H
theorem oNeg : UnR X (unaryOp .USub) rNeg := fun pins s σ H x v Q I rx ⟨i, a, q⟩ => un_neg pins s σ H x v Q I rx ⟨i, a, q⟩
/-- two ints, two texts compared -/
def rLt : R2 := fun x y H Q => (∃ i j, (x = .int i ∧ y = .int j) ∧ Q (.bl (decide (i < j))) H) ∨ ∃ i j, (x = .str i ∧ y = .str j) ∧ Q (.bl (decide (i.cps.toList < j.cps.toList))) H
def rLe : R2 := fun x y H Q => (∃ i j, (x = .int i ∧ y = .int j) ∧ Q (.bl (decide (i ≤ j))) H) ∨ ∃ i j, (x = .str i ∧ y = .str j) ∧ Q (.bl (!decide (j.cps.toList < i.cps.toList))) H
def rGt : R2 := fun x y H Q => (∃ i j, (x = .int i ∧ y = .int j) ∧ Q (.bl (decide (j < i))) H) ∨ ∃ i j, (x = .str i ∧ y = .str j) ∧ Q (.bl (decide (j.cps.toList < i.cps.toList))) H
def rGe : R2 := fun x y H Q => (∃ i j, (x = .int i ∧ y = .int j) ∧ Q (.bl (decide (j ≤ i))) H) ∨ ∃ i j, (x = .str i ∧ y = .str j) ∧ Q (.bl (!decide (i.cps.toList < j.cps.toList))) H
theorem oLt : OpR X (compareOp .Lt) rLt := fun pins s σ H x y v u Q I rx ry q => by
  rcases q with ⟨i, j, ⟨rfl, rfl⟩, q⟩ | ⟨i, j, ⟨rfl, rfl⟩, q⟩
  · exact op_lt pins s σ H _ _ v u Q I rx ry ⟨i, j, rfl, rfl, q⟩
  · exact op_lt_str pins s σ H _ _ v u Q I rx ry ⟨i, j, rfl, rfl, q⟩
theorem oLe : OpR X (compareOp .LtE) rLe := fun pins s σ H x y v u Q I rx ry q => by
  rcases q with ⟨i, j, ⟨rfl, rfl⟩, q⟩ | ⟨i, j, ⟨rfl, rfl⟩, q⟩
  · exact op_le pins s σ H _ _ v u Q I rx ry ⟨i, j, rfl, rfl, q⟩
  · exact op_le_str pins s σ H _ _ v u Q I rx ry ⟨i, j, rfl, rfl, q⟩
theorem oGt : OpR X (compareOp .Gt) rGt := fun pins s σ H x y v u Q I rx ry q => by
  rcases q with ⟨i, j, ⟨rfl, rfl⟩, q⟩ | ⟨i, j, ⟨rfl, rfl⟩, q⟩
  · exact op_gt pins s σ H _ _ v u Q I rx ry ⟨i, j, rfl, rfl, q⟩
  · exact op_gt_str pins s σ H _ _ v u Q I rx ry ⟨i, j, rfl, rfl, q⟩
theorem oGe : OpR X (compareOp .GtE) rGe := fun pins s σ H x y v u Q I rx ry q => by
  rcases q with ⟨i, j, ⟨rfl, rfl⟩, q⟩ | ⟨i, j, ⟨rfl, rfl⟩, q⟩
  · exact op_ge pins s σ H _ _ v u Q I rx ry ⟨i, j, rfl, rfl, q⟩
  · exact op_ge_str pins s σ H _ _ v u Q I rx ry ⟨i, j, rfl, rfl, q⟩
/-- changes of lists -/
def rAppA : V → List V → Hp → VK → Prop := fun x vs H Q => ∃ l xs y, (x = .ref l ∧ vs = [y] ∧ H l = some (.lst xs) ∧ xs.length < sizeLine) ∧ ∀ H', H' l = some (.lst (xs ++ [y])) → Ex [l] H H' → Q .non H'
theorem mAppend : MtR X "list.append" rAppA := fun pins s σ H x vs v us Q I rx rv ⟨l, xs, y, ⟨a, b, c, d⟩, q⟩ => mt_append pins s σ H x vs v us Q I rx rv ⟨l, xs, y, a, b, c, d, q _ upd_same (Ex.put c rfl (by simp))⟩
def rExtA : V → List V → Hp → VK → Prop := fun x vs H Q => ∃ l b xs zs, (x = .ref l ∧ vs = [.ref b] ∧ H l = some (.lst xs) ∧ H b = some (.lst zs) ∧ xs.length + zs.length ≤ sizeLine) ∧ ∀ H', H' l = some (.lst (xs ++ zs)) → Ex [l] H H' → Q .non H'
theorem mExtend : MtR X "list.extend" rExtA := fun pins s σ H x vs v us Q I rx rv ⟨l, b, xs, zs, ⟨a, b', c, d, e⟩, q⟩ => mt_extend pins s σ H x vs v us Q I rx rv ⟨l, b, xs, zs, a, b', c, d, e, q _ upd_same (Ex.put c rfl (by simp))⟩
def rPopA : V → List V → Hp → VK → Prop := fun x vs H Q => ∃ l ws y, (x = .ref l ∧ vs = [] ∧ H l = some (.lst (ws ++ [y]))) ∧ ∀ H', H' l = some (.lst ws) → Ex [l] H H' → Q y H'
theorem mPop : MtR X "list.pop" rPopA := fun pins s σ H x vs v us Q I rx rv ⟨l, ws, y, ⟨a, b, c⟩, q⟩ => mt_pop pins s σ H x vs v us Q I rx rv ⟨l, ws ++ [y], y, a, b, c, by simp, q _ (by rw [upd_same, List.dropLast_concat]) (Ex.put c rfl (by simp))⟩
def rSetA : TSet := fun o i v H Q => ∃ p xs k j, (o = .ref p ∧ i = .int k ∧ H p = some (.lst xs) ∧ ixN xs.length k = some j) ∧ ∀ H', H' p = some (.lst (xs.set j v)) → Ex [p] H H' → Q H'
theorem setL : PSet X rSetA := fun pins s σ H o i v ov iv u Q I ro ri rv ⟨p, xs, k, j, ⟨a, b, c, d⟩, q⟩ => set_list pins s σ H o i v ov iv u Q I ro ri rv ⟨p, xs, k, j, a, b, c, d, q _ upd_same (Ex.put c rfl (by simp))⟩
def rAugAdd : TIp := fun x y H Q => ∃ i j, (x = .int i ∧ y = .int j) ∧ Q (.int (i + j)) H
def rAugSub : TIp := fun x y H Q => ∃ i j, (x = .int i ∧ y = .int j) ∧ Q (.int (i - j)) H
theorem pAdd : PIp X .Add rAugAdd := fun pins s σ H x y v u Q I rx ry ⟨i, j, ⟨a, b⟩, q⟩ => ip_add pins s σ H x y v u Q I rx ry ⟨i, j, a, b, q⟩
theorem pSub : PIp X .Sub rAugSub := fun pins s σ H x y v u Q I rx ry ⟨i, j, ⟨a, b⟩, q⟩ => ip_sub pins s σ H x y v u Q I rx ry ⟨i, j, a, b, q⟩
def rAbs : List V → Hp → VK → Prop := fun xs H Q => ∃ i, xs = [.int i] ∧ Q (.int (if i < 0 then -i else i)) H
theorem cAbs : CallR X (.builtin "abs") rAbs := call_abs
end
/-- all([lo <= sign <= hi for sign in z]) -/
theorem all_signs {K : PySem.W.Frag} {σ : L2.St} {H : Hp} {Q : VK} {i j : Nat} {z lo hi : Str} {a b : Nat} (hi' : σ[i]? = some (some (.str z))) (hj : j < σ.length) (hlo : lo.cps.toList = [a]) (hhi : hi.cps.toList = [b]) (hz : z.length ≤ 1000000)
    (k : ∀ H', Ex [] H H' → Q (.bl (z.cps.toList.all fun c => decide (a ≤ c) && decide (c ≤ b))) H') :
    tCB (rAll K) (tCons (tLc (iStr (tVar i)) (gName j) tYes (tChain rLe rLe (tC (.str lo)) (tVar j) (tC (.str hi))) [j]) tNil) σ H Q := by
  refine ⟨_, hi', z, rfl, fun D hD => ?_⟩
  refine lc_it walk_str (LcP D [] (fun _ => True) (RepAt K ((z.cps.toList.map fun c => decide (a ≤ c) && decide (c ≤ b)).map Dt.bl)) H) (LcP.start hD trivial (true_loc D)) (fun _ _ _ _ => trivial) ?_ ?_
  · rintro n x H1 H2 hn p ⟨rfl, c, hc, rfl⟩
    have fin : ∀ v, v = (decide (a ≤ c) && decide (c ≤ b)) → ∃ acc, H2 D = some (.lst acc) ∧ acc.length < sizeLine ∧ LcP D [] (fun _ => True) (RepAt K ((z.cps.toList.map fun c => decide (a ≤ c) && decide (c ≤ b)).map Dt.bl)) H (n + 1) (upd H2 D (.lst (acc ++ [V.bl v]))) := fun v hv =>
      p.step hD RepAt.stab (true_loc D) (Ex.refl _ _) trivial trivial ⟨.bl v, by rw [List.getElem?_map, List.getElem?_map, Array.getElem?_toList, hc, hv]; rfl, .bl v⟩ hn (by
        have e : z.length = z.cps.size := rfl
        omega)
    refine ⟨wipe_set1' _ _ _, ?_⟩
    show tChain rLe rLe (tC (.str lo)) (tVar j) (tC (.str hi)) _ _ _
    refine ⟨_, get_set1 _ _ hj, .inr ⟨lo, ⟨#[c]⟩, ⟨rfl, rfl⟩, _, rfl, ?_⟩⟩
    have e1 : (!decide ((⟨#[c]⟩ : Str).cps.toList < lo.cps.toList)) = decide (a ≤ c) := by
      rw [hlo, show (⟨#[c]⟩ : Str).cps.toList = [c] from rfl, le1]
    rw [e1]
    refine ite2 (fun h => ?_) (fun h => ?_)
    · refine .inr ⟨⟨#[c]⟩, hi, ⟨rfl, rfl⟩, fin _ ?_⟩
      rw [h, Bool.true_and, hhi, show (⟨#[c]⟩ : Str).cps.toList = [c] from rfl, le1]
    · refine fin _ ?_
      rw [Bool.eq_false_iff.mpr h, Bool.false_and]
  · intro H1 p
    obtain ⟨ys, h1, h2⟩ := p.done (by rw [List.length_map, List.length_map, Array.length_toList])
    refine ⟨D, _, rfl, SqL.bls h1 h2, ?_⟩
    rw [List.all_map]
    exact k _ p.ex
/-! ### tuple(..), list(..) -/
def rTupOf (K : PySem.W.Frag) : List V → Hp → VK → Prop := fun xs H Q => (∃ p ys, (xs = [.ref p] ∧ SqL K H p ys) ∧ ∀ l H', H l = none → H' l = some (.tup ys) → Ex [] H H' → Q (.ref l) H') ∨ ∃ p ys, (xs = [.ref p] ∧ SqT K H p ys) ∧ Q (.ref p) H
theorem cTuple {X : Cx} {K : PySem.W.Frag} (h : X.K = K) : CallR X (.type "tuple") (rTupOf K) := by
  subst h
  refine callImp call_tuple_of fun xs H Q q => ?_
  rcases q with ⟨p, ys, ⟨a, b⟩, q⟩ | ⟨p, ys, ⟨a, b⟩, q⟩
  · exact ⟨p, ys, a, .inl ⟨b, fun l hl => q l _ hl upd_same (Ex.new hl)⟩⟩
  · exact ⟨p, ys, a, .inr ⟨b, q⟩⟩
def rLstOf (K : PySem.W.Frag) : List V → Hp → VK → Prop := fun xs H Q => (∃ p ys, (xs = [.ref p] ∧ SqL K H p ys) ∧ ∀ l H', H l = none → H' l = some (.lst ys) → Ex [] H H' → Q (.ref l) H') ∨ ∃ p ys, (xs = [.ref p] ∧ SqT K H p ys) ∧ ∀ l H', H l = none → H' l = some (.lst ys) → Ex [] H H' → Q (.ref l) H'
theorem cList {X : Cx} {K : PySem.W.Frag} (h : X.K = K) : CallR X (.type "list") (rLstOf K) := by
  subst h
  refine callImp call_list_of fun xs H Q q => ?_
  rcases q with ⟨p, ys, ⟨a, b⟩, q⟩ | ⟨p, ys, ⟨a, b⟩, q⟩
  · exact ⟨p, ys, a, .inl b, fun l hl => q l _ hl upd_same (Ex.new hl)⟩
  · exact ⟨p, ys, a, .inr b, fun l hl => q l _ hl upd_same (Ex.new hl)⟩
theorem cutV_to (xs : List V) (n : Nat) : cutV xs none (some (n : Int)) = xs.take n := by
  unfold cutV
  rw [HT.sIx_none, HT.sIx_nat, List.drop_zero, Nat.sub_zero]
  by_cases h : n ≤ xs.length
  · rw [Nat.min_eq_left h]
  · rw [Nat.min_eq_right (by omega), List.take_length, List.take_of_length_le (by omega)]
theorem cutV_from (xs : List V) (n : Nat) : cutV xs (some (n : Int)) none = xs.drop n := by
  unfold cutV
  rw [HT.sIx_none, HT.sIx_nat]
  by_cases h : n ≤ xs.length
  · rw [Nat.min_eq_left h, List.take_of_length_le (by rw [List.length_drop]; omega)]
  · rw [Nat.min_eq_right (by omega), List.drop_of_length_le (by omega), List.drop_of_length_le (by omega)]
    simp
theorem RepL.take {K : PySem.W.Frag} {H : Hp} : ∀ {vs : List V} {l : List Dt} (n : Nat), RepL K H vs l → RepL K H (vs.take n) (l.take n)
  | _, _, 0, _ => by rw [List.take_zero, List.take_zero]; exact .nil
  | _, _, n + 1, .nil => .nil
  | _, _, n + 1, .cons h t => .cons h (RepL.take n t)
theorem RepL.drop {K : PySem.W.Frag} {H : Hp} : ∀ {vs : List V} {l : List Dt} (n : Nat), RepL K H vs l → RepL K H (vs.drop n) (l.drop n)
  | _, _, 0, h => h
  | _, _, n + 1, .nil => .nil
  | _, _, n + 1, .cons _ t => RepL.drop n t
theorem repS_len (z : Str) (k : Int) : (repS z k).length = z.length * k.toNat := by
  show (repS z k).cps.size = z.cps.size * k.toNat
  simp only [repS, List.size_toArray, flat_len, Array.length_toList]
  rw [Nat.mul_comm]
theorem RepL.rep {K : PySem.W.Frag} {H : Hp} {vs : List V} {l : List Dt} (h : RepL K H vs l) : ∀ n : Nat, RepL K H (List.replicate n vs).flatten (List.replicate n l).flatten
  | 0 => .nil
  | n + 1 => by
    rw [List.replicate_succ, List.flatten_cons, List.replicate_succ, List.flatten_cons]
    exact h.append (RepL.rep h n)
def rDictOf (K : PySem.W.Frag) : List V → Hp → VK → Prop := fun xs H Q => ∃ (a : Addr) (ps : List Addr) (kvs : List (Key × V)), (xs = [.ref a] ∧ SqL K H a (ps.map V.ref) ∧ Paired (fun p kv => SqT K H p [kV kv.1, kv.2]) ps kvs) ∧
  ∀ p H', H p = none → H' p = some (.dK (mergeK [] kvs)) → Ex [] H H' → Q (.ref p) H'
theorem cDict {X : Cx} {K : PySem.W.Frag} (h : X.K = K) (hc : X.calm = true) : CallR X (.type "dict") (rDictOf K) := by
  subst h
  exact callImp (call_dictP hc) fun xs H Q ⟨a, ps, kvs, ⟨h1, h2, h3⟩, q⟩ => ⟨a, ps, kvs, h1, h2, h3, fun p hp => q p _ hp upd_same (Ex.new hp)⟩
/-- a list of pairs (an int, a thing), as dict(..) takes it -/
theorem pairs_of {K : PySem.W.Frag} {H : Hp} : ∀ {ys : List V} {ds : List Dt}, RepL K H ys ds → (∀ d ∈ ds, ∃ (i : Int) (e : Dt), d = .tup [.int i, e]) → ∃ (ps : List Addr) (kvs : List (Key × V)), ys = ps.map V.ref ∧ Paired (fun p kv => SqT K H p [kV kv.1, kv.2]) ps kvs
  | _, _, .nil, _ => ⟨[], [], rfl, .nil⟩
  | _, _, .cons (v := v) h t, hd => by
    obtain ⟨ps, kvs, e, q⟩ := pairs_of t fun d m => hd d (List.mem_cons_of_mem _ m)
    obtain ⟨i, e1, rfl⟩ := hd _ List.mem_cons_self
    cases h with
    | tup hs hl =>
      rename_i a xs
      cases hl with
      | cons h1 t1 =>
        cases t1 with
        | cons h2 t2 =>
          cases t2
          cases h1
          rename_i v2
          exact ⟨a :: ps, (Sum.inl i, v2) :: kvs, by rw [e]; rfl, .cons hs q⟩
theorem Ex.stepPut {M : List Addr} {H H1 : Hp} {p : Addr} {o o' : HO} (h : H1 p = some o) (k : norm o = norm o') (s : p ∈ M ∨ H p = Option.none) (a : Ex M H H1) : Ex M H (upd H1 p o') :=
  Ex.step (Ex.put (M := [p]) h k List.mem_cons_self) (side1 s) a
theorem Dom.upd {H H1 : Hp} {p : Addr} {o : HO} (a : Dom H H1) : Dom H (upd H1 p o) := fun _ h => a _ (upd_none h).2
theorem kvs_nil : ([] : List (V × V)) = List.map (fun kv => (kV kv.1, kv.2)) ([] : List (Key × V)) := rfl
theorem kvs_ci {i : Int} {v : V} {ps : List (V × V)} {kvs : List (Key × V)} (h : ps = List.map (fun kv => (kV kv.1, kv.2)) kvs) : (V.int i, v) :: ps = List.map (fun kv => (kV kv.1, kv.2)) ((Sum.inl i, v) :: kvs) := by rw [h]; rfl
theorem kvs_cs {z : Str} {v : V} {ps : List (V × V)} {kvs : List (Key × V)} (h : ps = List.map (fun kv => (kV kv.1, kv.2)) kvs) : (V.str z, v) :: ps = List.map (fun kv => (kV kv.1, kv.2)) ((Sum.inr z, v) :: kvs) := by rw [h]; rfl
section
variable {X : Cx}
def tDNewA : TE := fun _ H Q => ∀ p H', H p = none → H' p = some (.dK []) → Ex [] H H' → Q (.ref p) H'
theorem peDict0 {pos : Pos} : PE X (.Dict [] [] pos) tDNewA := peImp pe_dnewK fun _ _ _ q => fun p hp => q p _ hp upd_same (Ex.new hp)
end
theorem strapp_len (x y : Str) : (x ++ y).length = x.length + y.length := by
  show (x.cps ++ y.cps).size = _
  rw [Array.size_append]
  rfl
end G
namespace G
open PySem PySem.Spec PyProof.Rows L2
/-! ### repr, where nothing is being shown already -/
def rRepr (K : PySem.W.Frag) : List V → Hp → VK → Prop := fun xs H Q => (∃ b, (xs = [.bl b]) ∧ Q (.str (if b then "True" else "False")) H) ∨
  ∃ a d, (xs = [.ref a] ∧ Dp K H (.ref a) d ∧ d.showable = true ∧ d.hasDict = false ∧ d.depth ≤ 32 ∧ d.shown.length ≤ sizeLine) ∧ Q (.str d.shown) H
theorem cRepr {X : Cx} {K : PySem.W.Frag} (h : X.K = K) (hg : X.A.guards = some []) (hu : X.A.units + 64 < cLine) : CallR X (.builtin "repr") (rRepr K) := by
  subst h
  intro pins s σ H xs us Q I r h
  rcases h with ⟨b, rfl, q⟩ | ⟨a, d, ⟨rfl, hd, hs, hn, hdp, hz⟩, q⟩
  · obtain ⟨u, rfl, rfl⟩ := vals1 r
    exact PySem.P.repr_of_bool ⟨.str _, H, I.tok _, ⟨_, rfl⟩, q⟩
  · obtain ⟨u, rfl, rv⟩ := vals1 r
    obtain ⟨as, rd⟩ := Dp.reads I d _ _ hd rv
    obtain rfl : u = .ref a := rv
    exact repr_of_reads' rd hs (PyData.noDict_hsm hn) hg (by omega) (fun _ _ e => e) (fun h' u tk hk => ⟨.str _, H, I.kept hk, ⟨_, rfl⟩, q⟩) hz
/-! ### == and != of nested lists and tuples -/
def rEqP (K : PySem.W.Frag) : R2 := fun x y H Q => ∃ d e, (Dp K H x d ∧ Dp K H y e ∧ SeqAt.shaped d = true ∧ SeqAt.shaped e = true) ∧ Q (.bl (PyData.eqv d e)) H
def rNeP (K : PySem.W.Frag) : R2 := fun x y H Q => ∃ d e, (Dp K H x d ∧ Dp K H y e ∧ SeqAt.shaped d = true ∧ SeqAt.shaped e = true) ∧ Q (.bl (!PyData.eqv d e)) H
theorem oEqP {X : Cx} {K : PySem.W.Frag} (h : X.K = K) (hu : X.A.units + 64 < cLine) : OpR X (compareOp .Eq) (rEqP K) := by
  subst h
  exact opImp (op_eqD hu) fun x y H Q ⟨d, e, ⟨a, b, c, z⟩, q⟩ => ⟨d, e, a, b, c, z, q⟩
theorem oNeP {X : Cx} {K : PySem.W.Frag} (h : X.K = K) (hu : X.A.units + 64 < cLine) : OpR X (compareOp .NotEq) (rNeP K) := by
  subst h
  exact opImp (op_neD hu) fun x y H Q ⟨d, e, ⟨a, b, c, z⟩, q⟩ => ⟨d, e, a, b, c, z, q⟩
theorem dpBlsAll {K : PySem.W.Frag} {H : Hp} : ∀ bs : List Bool, DpAll K H (bs.map V.bl) (bs.map PyData.bool)
  | [] => .nil
  | b :: bs => .cons (.bl b) (dpBlsAll bs)
theorem dpBls {K : PySem.W.Frag} {H : Hp} {a : Addr} {bs : List Bool} (h : SqL K H a (bs.map V.bl)) : Dp K H (.ref a) (.list (bs.map PyData.bool)) := .lst h (dpBlsAll bs)
end G
namespace G
open PySem PySem.Spec PyProof.Rows L2
/-! ### the law's def, called by the claim alone: nothing is being shown there -/
/-- the def runs as promised where the claim calls it -/
def RunG (P : Program) (w : World) (K : PySem.W.Frag) (mg : Str → Option Value) (base : Heap) (fa : Addr) (sp : Sp) : Prop :=
  ∀ (s : Shared) (H : Hp) (u : Value) (v : V) (Q : VK) (E : XK), Env0 P w K mg base callerA [] s H → RelV v u → sp [v] H Q E →
    codeAny (model P w) callerA (.call (.ref fa) ⟨[u], []⟩) (CR CX0 [] P w H s Q E) s
section
variable {P : Program} {w : World} {K : PySem.W.Frag} {mg mb : Str → Option Value} {fa a : Addr} {sp : Sp} {t : Shared} {vs : List Value} {ns : List Int}
/-- the script, and nothing else, is followed; and that only where it is no part of the module -/
noncomputable def scriptHp (K : PySem.W.Frag) (a : Addr) (vs : List Value) (ns : List Int) : Hp := fun b =>
  open Classical in if b = a ∧ K.lookup a = none then some (.frz { cls := .type "list", data := .seq vs.toArray } (.lst (ns.map V.int))) else none
theorem scriptHp_of (b : Addr) : scriptHp K a vs ns b = none ∨ (b = a ∧ K.lookup a = none ∧ scriptHp K a vs ns b = some (.frz { cls := .type "list", data := .seq vs.toArray } (.lst (ns.map V.int)))) := by
  unfold scriptHp
  by_cases h : b = a ∧ K.lookup a = none
  · exact .inr ⟨h.1, h.2, if_pos h⟩
  · exact .inl (if_neg h)
theorem script_run (KX : K.In t.heap) (gn : t.heap.Ns mainGlobals mg) (gb : t.heap.Ns builtinsNs mb) (bb : ∀ x : Str, x ≠ "__name__" → mb x = bootBuiltins x) (nl : t.heap.NoLimit) (ge : t.gens = #[])
    (la : t.heap.get? a = some { cls := .type "list", data := .seq vs.toArray }) (iv : IntsAre vs ns) (sz : ns.length ≤ sizeLine)
    (F : ∀ base : Heap, K.In base → base.Ns mainGlobals mg → RunG P w K mg base fa sp)
    (hsp : ∀ H : Hp, SqL K H a (ns.map V.int) → sp [.ref a] H (fun v _ => v = .bl true) fun _ _ _ => False) :
    codeAny (model P w) callerA (.call (.ref fa) ⟨[.ref a], []⟩) (fun r t' => r = .ok (.ret (.bool true)) ∧ OldK t.heap t'.heap ∧ t'.os = t.os ∧ AllBare t'.gens) t := by
  have rv := vals_ints iv
  have ln := iv.length
  generalize hH : scriptHp K a vs ns = H
  have cs : ∀ b, H b = none ∨ (b = a ∧ K.lookup a = none ∧ H b = some (.frz { cls := .type "list", data := .seq vs.toArray } (.lst (ns.map V.int)))) := fun b => by
    rw [← hH]
    exact scriptHp_of b
  have hq : SqL K H a (ns.map V.int) := by
    cases hk : K.lookup a with
    | none =>
      refine .inl (.inr ⟨{ cls := .type "list", data := .seq vs.toArray }, ?_⟩)
      rw [← hH]
      exact if_pos ⟨rfl, hk⟩
    | some o =>
      have e := (KX a o hk).symm.trans la
      cases e
      exact .inr ⟨_, vs.toArray, _, hk, rfl, rfl, rfl, by rw [List.size_toArray, ln]; exact sz, by simpa using rv⟩
  have ok : HOk P w H t.heap := fun b o e => by
    rcases cs b with z | ⟨rfl, _, z⟩
    · rw [z] at e
      cases e
    · rw [z] at e
      cases e
      exact ⟨la, by rw [List.length_map]; exact sz, vs, _, rv, la⟩
  have keep : ∀ {b : Addr} {o : Obj}, t.heap.get? b = some o → (∀ xs n, o.data ≠ .seq xs n) → (hidT t.heap H).get? b = some o := fun {b o} e nd => by
    refine hidT_get e ?_
    rcases cs b with z | ⟨rfl, _, _⟩
    · exact z
    · rw [la] at e
      cases e
      exact absurd rfl (nd _ _)
  have ns' : ∀ {b : Addr} {m : Str → Option Value}, t.heap.Ns b m → (hidT t.heap H).Ns b m := fun {b m} ⟨o, es, ep, e, d, r⟩ =>
    ⟨o, es, ep, keep e (fun xs n z => by rw [d] at z; cases z), d, r⟩
  have KB : K.In (hidT t.heap H) := fun b o e => hidT_get (KX b o e) (by
    rcases cs b with z | ⟨rfl, z, _⟩
    · exact z
    · rw [z] at e
      cases e)
  have hM : Mod K mg (hidT t.heap H) := ⟨KB, ns' gn, ⟨mb, ns' gb, bb⟩, let ⟨mc, h1, h2⟩ := nl; ⟨mc, ns' h1, h2⟩⟩
  have e0 : Env0 P w K mg (hidT t.heap H) callerA [] t H :=
    { frames := rfl, mod := hM, bs := fun b o e => of_hidT e, bsz := Nat.le_of_eq (hidT_size _ _), funs := trivial, frf := fun b hb => absurd (show b ∈ ([] : List Addr) from hb) (by simp), hok := ok, bare := .of_eq ge }
  refine codeAny_mono (F _ KB (ns' gn) t H (.ref a) (.ref a) _ _ e0 rfl (hsp H hq)) fun r t' h => ?_
  cases r with
  | error e => exact False.elim h
  | ok fl =>
    cases fl with
    | ret u =>
      obtain ⟨v, H', os, bare, un, ok', r', q⟩ := h
      obtain rfl : v = .bl true := q
      obtain rfl : u = Value.bool true := r'
      refine ⟨rfl, OldK.of_keep fun b o e => ?_, os, bare⟩
      rcases cs b with z | ⟨rfl, _, z⟩
      · exact un.keep b o e z (by intro hb; exact absurd (show b ∈ ([] : List Addr) from hb) (by simp)) (by simp)
      · have z2 := un.frzs b _ _ z
        obtain ⟨e1, _⟩ := ok b _ z
        obtain ⟨e2, _⟩ := ok' b _ z2
        rw [e] at e1
        cases e1
        exact e2
    | next => exact False.elim h
    | brk => exact False.elim h
    | cont => exact False.elim h
/-- the law's def by its body, where the claim calls it -/
theorem claim_run {base : Heap} {x qual an : Str} {st : Stmt} {f : Addr} {fd : FuncData} {N : List Str} {k : Nat} (F : Fun K x qual st f fd) (S : FnScope N [an] (defScope st)) (hr : Room (k + 1) callerA)
    (bd : ∀ (s : Shared) (u : Value), BindsTo s fd ⟨[u], []⟩ [(an, u)])
    (body : ∀ (cdv : Value) (s : Shared) (H : Hp) (v : V) (Q : VK) (E : XK), Room k (callerA.deeper (envOfC qual (defScope st) s.heap.objs.size f cdv)) → sp [v] H Q E →
      ∃ r, PSs (cxOf CX0 P w K mg base N qual (defScope st) f cdv callerA [] s H E).nox (defBody st) r ∧ r { nx := fun _ H' => Q .non H', rt := Q } (start N [v]) H) :
    RunG P w K mg base f sp := by
  intro s H u v Q E e0 rv h
  obtain ⟨oc, od, kV, doc, pm, an, cdv, ct, osl, rfl, lk, hcd⟩ := F.ex
  have old : ∀ b o, base.get? b = some o → s.heap.get? b = some o := fun b o e => (e0.bs b o e).1
  have KX : K.In s.heap := e0.mod.kin.keeps old
  have nl : s.heap.NoLimit := e0.mod.nolimit.keeps old
  refine codeAny_call_function hr.depth (KX _ _ lk) rfl S.co S.gen rfl (PySem.W.codeRec_of KX hcd) (bd s u _ _ _ _ ?_)
  refine wpAny_newFunctionEnv_cells S.kind (fun y hy => ?_) fun env he s1 e => ?_
  · rcases List.mem_singleton.mp hy with rfl
    rcases S.par _ List.mem_cons_self with q | q
    · exact .inl q
    · exact .inr ⟨q, PySem.W.cellsFrom_some _ _ _ (.inl q)⟩
  · subst he
    refine ⟨nl.keeps e.toInCall.keep, codeAny_func ?_⟩
    obtain ⟨r, hp, hq⟩ := body cdv s H v Q E (hr.deeper _) h
    have I : Inv (cxOf CX0 P w K mg base N qual (defScope st) f cdv callerA [] s H E) [] (start N [v]) H s1 := inv_start S hr.hd e0 rfl (.cons rv .nil) e
    refine wpAny_mono (hp.nox.run [] s1 (start N [v]) H _ I hq) (fun fl s' o => ?_) fun _ _ o => o
    cases fl with
    | ret z =>
      obtain ⟨y, _, H', J, ry, qy⟩ := o
      exact ⟨y, H', J.os, J.bare, J.base, J.hok, ry, qy⟩
    | next =>
      obtain ⟨_, H', J, qy⟩ := o
      exact ⟨V.non, H', J.os, J.bare, J.base, J.hok, rfl, qy⟩
    | brk =>
      obtain ⟨_, _, _, qy⟩ := o
      exact False.elim qy
    | cont =>
      obtain ⟨_, _, _, qy⟩ := o
      exact False.elim qy
end
/-- the goal that k_head leaves, from the law's promise where the claim calls it -/
theorem walk_claim {l : PySem.W.OpenLaw} {n : Nat} {q : Program} {loose : List Str} {XP : (Str → Option Value) → Heap → Prop} {YP : World → Heap → Prop} {d : DefRec} {K : Params → PySem.W.Frag} {sp : World → Sp}
    (hn : l.most = some n) (big : n ≤ sizeLine) (hdf : d.params.defaults = []) (hY : ∀ (w : World) (h : Heap), YP w h → (K w.params).In h)
    (F : ∀ (w : World) (mg : Str → Option Value) (fa : Addr) (h : Heap), (K w.params).In h → h.Ns mainGlobals mg → mg d.name = some (.ref fa) →
      ∀ base : Heap, (K w.params).In base → base.Ns mainGlobals mg → RunG l.prog w (K w.params) mg base fa (sp w))
    (hsp : ∀ (w : World) (H : Hp) (a : Addr) (ns : List Int), ns.length ≤ n → SqL (K w.params) H a (ns.map V.int) → sp w [.ref a] H (fun v _ => v = .bl true) fun _ _ _ => False) :
    PySem.W.WalkO q loose XP YP l.row.toRowW d [] (fun f vs => PySem.call f vs) := by
  refine Att.attach_call hn hdf fun w _ s₁ mg mb fa _ _ _ _ a vs ns G Y _ _ _ hm ha hi hl hg => ?_
  have KX := hY w _ Y
  exact script_run KX G.T.g G.T.b G.T.builtins G.T.nolimit hg ha hi (Nat.le_trans hl big) (F w mg fa _ KX G.T.g hm) fun H hS => hsp w H a ns hl hS
end G
namespace G
open PySem L2
def top (i : Nat) : Stmt := PySem.Challenge.pw_keptviews_k17_asks_answers_nodes_steps_r.main.body.getD i (.Pass ⟨0, 0, 0, 0⟩)
abbrev s_is_integer : Stmt := top 1
abbrev n_is_integer : List Str := ["thing"]
theorem sc_is_integer : FnScope n_is_integer ["thing"] (defScope s_is_integer) := ⟨rfl, rfl, rfl, by decide +kernel, rfl, by decide +kernel, by decide +kernel⟩
abbrev s_is_tuple_of : Stmt := top 2
abbrev n_is_tuple_of : List Str := ["thing", "size"]
theorem sc_is_tuple_of : FnScope n_is_tuple_of ["thing", "size"] (defScope s_is_tuple_of) := ⟨rfl, rfl, rfl, by decide +kernel, rfl, by decide +kernel, by decide +kernel⟩
abbrev s_is_name : Stmt := top 3
abbrev n_is_name : List Str := ["thing", "sign"]
theorem sc_is_name : FnScope n_is_name ["thing"] (defScope s_is_name) := ⟨rfl, rfl, rfl, by decide +kernel, rfl, by decide +kernel, by decide +kernel⟩
abbrev s_is_plain_worth : Stmt := top 10
abbrev n_is_plain_worth : List Str := ["thing", "sign"]
theorem sc_is_plain_worth : FnScope n_is_plain_worth ["thing"] (defScope s_is_plain_worth) := ⟨rfl, rfl, rfl, by decide +kernel, rfl, by decide +kernel, by decide +kernel⟩
abbrev s_is_worth : Stmt := top 11
abbrev n_is_worth : List Str := ["thing", "row", "many", "one", "deep", "item"]
theorem sc_is_worth : FnScope n_is_worth ["thing"] (defScope s_is_worth) := ⟨rfl, rfl, rfl, by decide +kernel, rfl, by decide +kernel, by decide +kernel⟩
abbrev s_are_args : Stmt := top 15
abbrev n_are_args : List Str := ["thing", "one"]
theorem sc_are_args : FnScope n_are_args ["thing"] (defScope s_are_args) := ⟨rfl, rfl, rfl, by decide +kernel, rfl, by decide +kernel, by decide +kernel⟩
abbrev s_is_ask : Stmt := top 16
abbrev n_is_ask : List Str := ["thing"]
theorem sc_is_ask : FnScope n_is_ask ["thing"] (defScope s_is_ask) := ⟨rfl, rfl, rfl, by decide +kernel, rfl, by decide +kernel, by decide +kernel⟩
abbrev s_is_answer : Stmt := top 17
abbrev n_is_answer : List Str := ["thing"]
theorem sc_is_answer : FnScope n_is_answer ["thing"] (defScope s_is_answer) := ⟨rfl, rfl, rfl, by decide +kernel, rfl, by decide +kernel, by decide +kernel⟩
abbrev s_is_node : Stmt := top 18
abbrev n_is_node : List Str := ["thing"]
theorem sc_is_node : FnScope n_is_node ["thing"] (defScope s_is_node) := ⟨rfl, rfl, rfl, by decide +kernel, rfl, by decide +kernel, by decide +kernel⟩
abbrev s_is_step : Stmt := top 19
abbrev n_is_step : List Str := ["thing"]
theorem sc_is_step : FnScope n_is_step ["thing"] (defScope s_is_step) := ⟨rfl, rfl, rfl, by decide +kernel, rfl, by decide +kernel, by decide +kernel⟩
abbrev s_fits : Stmt := top 20
abbrev n_fits : List Str := ["ask", "answer"]
theorem sc_fits : FnScope n_fits ["ask", "answer"] (defScope s_fits) := ⟨rfl, rfl, rfl, by decide +kernel, rfl, by decide +kernel, by decide +kernel⟩
abbrev s_is_pair : Stmt := top 21
abbrev n_is_pair : List Str := ["thing"]
theorem sc_is_pair : FnScope n_is_pair ["thing"] (defScope s_is_pair) := ⟨rfl, rfl, rfl, by decide +kernel, rfl, by decide +kernel, by decide +kernel⟩
abbrev s_is_row : Stmt := top 22
abbrev n_is_row : List Str := ["thing", "one"]
theorem sc_is_row : FnScope n_is_row ["thing"] (defScope s_is_row) := ⟨rfl, rfl, rfl, by decide +kernel, rfl, by decide +kernel, by decide +kernel⟩
abbrev s_law_pot : Stmt := top 24
abbrev n_law_pot : List Str := ["script", "cells", "cell"]
theorem sc_law_pot : FnScope n_law_pot ["script"] (defScope s_law_pot) := ⟨rfl, rfl, rfl, by decide +kernel, rfl, by decide +kernel, by decide +kernel⟩
abbrev s_law_draw : Stmt := top 25
abbrev n_law_draw : List Str := ["pot", "many", "cell", "digit", "number"]
theorem sc_law_draw : FnScope n_law_draw ["pot", "many"] (defScope s_law_draw) := ⟨rfl, rfl, rfl, by decide +kernel, rfl, by decide +kernel, by decide +kernel⟩
abbrev s_law_any : Stmt := top 26
abbrev n_law_any : List Str := ["pot", "things"]
theorem sc_law_any : FnScope n_law_any ["pot", "things"] (defScope s_law_any) := ⟨rfl, rfl, rfl, by decide +kernel, rfl, by decide +kernel, by decide +kernel⟩
abbrev s_law_worth : Stmt := top 27
abbrev n_law_worth : List Str := ["pot", "some"]
theorem sc_law_worth : FnScope n_law_worth ["pot"] (defScope s_law_worth) := ⟨rfl, rfl, rfl, by decide +kernel, rfl, by decide +kernel, by decide +kernel⟩
abbrev s_law_deep_worth : Stmt := top 28
abbrev n_law_deep_worth : List Str := ["pot", "deep", "found", "turn", "more", "at", "anew"]
theorem sc_law_deep_worth : FnScope n_law_deep_worth ["pot", "deep"] (defScope s_law_deep_worth) := ⟨rfl, rfl, rfl, by decide +kernel, rfl, by decide +kernel, by decide +kernel⟩
abbrev s_law_is_int : Stmt := top 29
abbrev n_law_is_int : List Str := ["thing"]
theorem sc_law_is_int : FnScope n_law_is_int ["thing"] (defScope s_law_is_int) := ⟨rfl, rfl, rfl, by decide +kernel, rfl, by decide +kernel, by decide +kernel⟩
abbrev s_law_is_worth : Stmt := top 30
abbrev n_law_is_worth : List Str := ["thing", "waiting", "many", "one", "deep", "item", "sign"]
theorem sc_law_is_worth : FnScope n_law_is_worth ["thing"] (defScope s_law_is_worth) := ⟨rfl, rfl, rfl, by decide +kernel, rfl, by decide +kernel, by decide +kernel⟩
abbrev s_law_odd : Stmt := top 33
abbrev n_law_odd : List Str := ["pot", "deep", "turn", "odd", "wide", "key"]
theorem sc_law_odd : FnScope n_law_odd ["pot"] (defScope s_law_odd) := ⟨rfl, rfl, rfl, by decide +kernel, rfl, by decide +kernel, by decide +kernel⟩
abbrev s_law_is_name : Stmt := top 34
abbrev n_law_is_name : List Str := ["thing", "sign"]
theorem sc_law_is_name : FnScope n_law_is_name ["thing"] (defScope s_law_is_name) := ⟨rfl, rfl, rfl, by decide +kernel, rfl, by decide +kernel, by decide +kernel⟩
abbrev s_law_are_args : Stmt := top 35
abbrev n_law_are_args : List Str := ["thing", "one"]
theorem sc_law_are_args : FnScope n_law_are_args ["thing"] (defScope s_law_are_args) := ⟨rfl, rfl, rfl, by decide +kernel, rfl, by decide +kernel, by decide +kernel⟩
abbrev s_law_is_node : Stmt := top 36
abbrev n_law_is_node : List Str := ["thing"]
theorem sc_law_is_node : FnScope n_law_is_node ["thing"] (defScope s_law_is_node) := ⟨rfl, rfl, rfl, by decide +kernel, rfl, by decide +kernel, by decide +kernel⟩
abbrev s_law_is_word : Stmt := top 37
abbrev n_law_is_word : List Str := ["thing", "size", "word"]
theorem sc_law_is_word : FnScope n_law_is_word ["thing", "size", "word"] (defScope s_law_is_word) := ⟨rfl, rfl, rfl, by decide +kernel, rfl, by decide +kernel, by decide +kernel⟩
abbrev s_law_is_ask : Stmt := top 38
abbrev n_law_is_ask : List Str := ["thing"]
theorem sc_law_is_ask : FnScope n_law_is_ask ["thing"] (defScope s_law_is_ask) := ⟨rfl, rfl, rfl, by decide +kernel, rfl, by decide +kernel, by decide +kernel⟩
abbrev s_law_is_answer : Stmt := top 39
abbrev n_law_is_answer : List Str := ["thing"]
theorem sc_law_is_answer : FnScope n_law_is_answer ["thing"] (defScope s_law_is_answer) := ⟨rfl, rfl, rfl, by decide +kernel, rfl, by decide +kernel, by decide +kernel⟩
abbrev s_law_is_step : Stmt := top 40
abbrev n_law_is_step : List Str := ["thing"]
theorem sc_law_is_step : FnScope n_law_is_step ["thing"] (defScope s_law_is_step) := ⟨rfl, rfl, rfl, by decide +kernel, rfl, by decide +kernel, by decide +kernel⟩
abbrev s_law_is_pair : Stmt := top 41
abbrev n_law_is_pair : List Str := ["thing"]
theorem sc_law_is_pair : FnScope n_law_is_pair ["thing"] (defScope s_law_is_pair) := ⟨rfl, rfl, rfl, by decide +kernel, rfl, by decide +kernel, by decide +kernel⟩
abbrev s_law_is_row : Stmt := top 42
abbrev n_law_is_row : List Str := ["thing", "one"]
theorem sc_law_is_row : FnScope n_law_is_row ["thing"] (defScope s_law_is_row) := ⟨rfl, rfl, rfl, by decide +kernel, rfl, by decide +kernel, by decide +kernel⟩
abbrev s_law_bent : Stmt := top 43
abbrev n_law_bent : List Str := ["pot", "thing", "deep", "way", "at"]
theorem sc_law_bent : FnScope n_law_bent ["pot", "thing", "deep"] (defScope s_law_bent) := ⟨rfl, rfl, rfl, by decide +kernel, rfl, by decide +kernel, by decide +kernel⟩
abbrev s_law_name : Stmt := top 44
abbrev n_law_name : List Str := ["pot"]
theorem sc_law_name : FnScope n_law_name ["pot"] (defScope s_law_name) := ⟨rfl, rfl, rfl, by decide +kernel, rfl, by decide +kernel, by decide +kernel⟩
abbrev s_law_args : Stmt := top 45
abbrev n_law_args : List Str := ["pot", "arg"]
theorem sc_law_args : FnScope n_law_args ["pot"] (defScope s_law_args) := ⟨rfl, rfl, rfl, by decide +kernel, rfl, by decide +kernel, by decide +kernel⟩
abbrev s_law_any_ask : Stmt := top 46
abbrev n_law_any_ask : List Str := ["pot"]
theorem sc_law_any_ask : FnScope n_law_any_ask ["pot"] (defScope s_law_any_ask) := ⟨rfl, rfl, rfl, by decide +kernel, rfl, by decide +kernel, by decide +kernel⟩
abbrev s_law_any_answer : Stmt := top 47
abbrev n_law_any_answer : List Str := ["pot"]
theorem sc_law_any_answer : FnScope n_law_any_answer ["pot"] (defScope s_law_any_answer) := ⟨rfl, rfl, rfl, by decide +kernel, rfl, by decide +kernel, by decide +kernel⟩
abbrev s_law_any_row : Stmt := top 48
abbrev n_law_any_row : List Str := ["pot", "many", "pair"]
theorem sc_law_any_row : FnScope n_law_any_row ["pot"] (defScope s_law_any_row) := ⟨rfl, rfl, rfl, by decide +kernel, rfl, by decide +kernel, by decide +kernel⟩
abbrev s_law_thing : Stmt := top 49
abbrev n_law_thing : List Str := ["pot", "way"]
theorem sc_law_thing : FnScope n_law_thing ["pot"] (defScope s_law_thing) := ⟨rfl, rfl, rfl, by decide +kernel, rfl, by decide +kernel, by decide +kernel⟩
abbrev s_law_in_tuples : Stmt := top 50
abbrev n_law_in_tuples : List Str := ["worth", "many", "turn"]
theorem sc_law_in_tuples : FnScope n_law_in_tuples ["worth", "many"] (defScope s_law_in_tuples) := ⟨rfl, rfl, rfl, by decide +kernel, rfl, by decide +kernel, by decide +kernel⟩
abbrev s_law_edge : Stmt := top 51
abbrev n_law_edge : List Str := ["pot", "far", "way", "worth", "name", "args", "many", "tens", "some", "pairs", "right", "at", "row"]
theorem sc_law_edge : FnScope n_law_edge ["pot"] (defScope s_law_edge) := ⟨rfl, rfl, rfl, by decide +kernel, rfl, by decide +kernel, by decide +kernel⟩
abbrev s_law : Stmt := top 52
abbrev n_law : List Str := ["script", "pot", "turn", "thing", "told", "due", "row", "ask", "answer"]
theorem sc_law : FnScope n_law ["script"] (defScope s_law) := ⟨rfl, rfl, rfl, by decide +kernel, rfl, by decide +kernel, by decide +kernel⟩
/-- what the top has left -/
structure Txt (K : PySem.W.Frag) (mg : Str → Option Value) : Prop where
  b_abs : mg "abs" = none
  b_all : mg "all" = none
  b_bool : mg "bool" = none
  b_dict : mg "dict" = none
  b_int : mg "int" = none
  b_isinstance : mg "isinstance" = none
  b_len : mg "len" = none
  b_list : mg "list" = none
  b_range : mg "range" = none
  b_repr : mg "repr" = none
  b_str : mg "str" = none
  b_tuple : mg "tuple" = none
  c_MOST : ∃ u, mg "MOST" = some u ∧ RelV (.int 1000000000000000000000000000000) u
  c_MOST_ARGS : ∃ u, mg "MOST_ARGS" = some u ∧ RelV (.int 6) u
  c_MOST_ASKS : ∃ u, mg "MOST_ASKS" = some u ∧ RelV (.int 300) u
  c_MOST_DEEP : ∃ u, mg "MOST_DEEP" = some u ∧ RelV (.int 8) u
  c_MOST_ITEMS : ∃ u, mg "MOST_ITEMS" = some u ∧ RelV (.int 50) u
  c_MOST_SIGNS : ∃ u, mg "MOST_SIGNS" = some u ∧ RelV (.int 40) u
  c_MOST_WORTHS : ∃ u, mg "MOST_WORTHS" = some u ∧ RelV (.int 200) u
theorem bt_isinstance : bootBuiltins "isinstance" = some (.builtin "isinstance") := by decide +kernel
theorem bt_int : bootBuiltins "int" = some (.type "int") := by decide +kernel
theorem bt_bool : bootBuiltins "bool" = some (.type "bool") := by decide +kernel
theorem bt_str : bootBuiltins "str" = some (.type "str") := by decide +kernel
theorem bt_tuple : bootBuiltins "tuple" = some (.type "tuple") := by decide +kernel
theorem bt_len : bootBuiltins "len" = some (.builtin "len") := by decide +kernel
theorem bt_all : bootBuiltins "all" = some (.builtin "all") := by decide +kernel
theorem bt_abs : bootBuiltins "abs" = some (.builtin "abs") := by decide +kernel
local macro_rules | `(tactic| walk_at "ne") => `(tactic| first
  | assumption
  | (apply Ne.symm; assumption)
  | (with_reducible apply ne_new; (focus with_reducible assumption); walk_at "hp")
  | (apply Ne.symm; with_reducible apply ne_new; (focus with_reducible assumption); walk_at "hp")
  | walk_at "ne2")
local macro_rules | `(tactic| walk_at "nin") => `(tactic| with_unfolding_all first | exact True.intro | (apply And.intro; (focus walk_at "ne"); walk_at "nin"))
local macro_rules | `(tactic| walk_at "hp") => `(tactic| with_reducible first
  | assumption
  | exact upd_same
  | (apply Ex.get; (focus with_reducible assumption); (focus walk_at "hp"); walk_at "nin")
  | (apply upd_oth2; (focus walk_at "hp"); walk_at "ne"))
local macro_rules | `(tactic| walk_at "sqt") => `(tactic| with_reducible first
  | assumption
  | (apply SqT.of; assumption)
  | (apply Ex.sqT; (focus with_reducible assumption); walk_at "sqt")
  | exact SqT.of_new
  | (apply sqt_new; (focus with_reducible assumption); walk_at "sqt")
  | (apply sqt_put; (focus walk_at "hp"); (focus with_unfolding_all exact rfl); walk_at "sqt"))
local macro_rules | `(tactic| walk_at "sql") => `(tactic| with_reducible first
  | assumption
  | (apply SqL.of; walk_at "hp"))
local macro_rules | `(tactic| walk_at "rep") => `(tactic| with_reducible first
  | assumption
  | exact Rep.non
  | exact Rep.bl _
  | exact Rep.int _
  | (apply Rep.str; walk_at "sz")
  | (apply Rep.tup; (focus walk_at "sqt"); walk_at "repl")
  | (apply Ex.rep; (focus with_reducible assumption); walk_at "rep")
  | (apply rep_new; (focus with_reducible assumption); walk_at "rep")
  | (apply rep_put; (focus walk_at "hp"); (focus with_unfolding_all exact rfl); walk_at "rep")
  | (apply Rep.oth_l; walk_at "hp")
  | (apply Rep.oth_d; walk_at "hp"))
local macro_rules | `(tactic| walk_at "repl") => `(tactic| with_reducible first
  | assumption
  | exact RepL.nil
  | (apply RepL.cons; (focus walk_at "rep"); walk_at "repl")
  | (apply RepL.rep; walk_at "repl")
  | (apply RepL.append; (focus walk_at "repl"); walk_at "repl")
  | (apply Ex.repL; (focus with_reducible assumption); walk_at "repl")
  | (apply repl_new; (focus with_reducible assumption); walk_at "repl")
  | (apply repl_put; (focus walk_at "hp"); (focus with_unfolding_all exact rfl); walk_at "repl"))
/-- what is new is new ahead -/
local macro_rules | `(tactic| walk_at "dom") => `(tactic| with_reducible first
  | exact Dom.refl _
  | (apply Dom.step; (focus with_reducible assumption); walk_at "dom")
  | (apply Dom.upd; walk_at "dom"))
local macro_rules | `(tactic| walk_at "nn") => `(tactic| with_reducible first
  | assumption
  | (apply Dom.none; (focus with_reducible assumption); walk_at "dom"))
local macro_rules | `(tactic| walk_at "side") => `(tactic| first
  | exact side0
  | (apply side1; first | (apply Or.inl; simp; done) | (apply Or.inr; walk_at "nn")))
/-- one heap behind another -/
local macro_rules | `(tactic| walk_at "ex") => `(tactic| first
  | (with_reducible exact Ex.refl _ _)
  | assumption
  | (with_reducible apply Ex.step; (focus with_reducible assumption); (focus walk_at "side"); walk_at "ex")
  | (with_reducible apply Ex.stepNew; (focus with_reducible assumption); walk_at "ex")
  | (with_reducible apply Ex.stepPut; (focus walk_at "hp"); (focus with_unfolding_all exact rfl); (focus first | (apply Or.inl; simp; done) | (apply Or.inr; walk_at "nn")); walk_at "ex"))
local macro_rules | `(tactic| walk_at "lenx") => `(tactic| first
  | (apply LenX.lst; walk_at "sql")
  | (apply LenX.tup; walk_at "sqt")
  | (apply LenX.str; walk_at "sz"))
local macro_rules | `(tactic| walk_at "sz") => `(tactic| first
  | exact Nat.le_of_ble_eq_true rfl
  | assumption
  | omega
  | (show _ ≤ 16777216; omega)
  | (show _ < 16777216; omega)
  | (show _ ≤ 16777216; simp only [List.length_append, List.length_cons, List.length_nil, List.length_map, flat_len, repS_len, strapp_len]; omega)
  | (show _ ≤ 16777216; decide)
  | (simp only [repS_len, strapp_len]; first | exact Nat.le_of_ble_eq_true rfl | omega | (simp (config := { decide := true }) only []; omega)))
local macro_rules | `(tactic| walk_at "kvs") => `(tactic| with_reducible first
  | exact kvs_nil
  | (apply kvs_ci; walk_at "kvs")
  | (apply kvs_cs; walk_at "kvs"))
/-- one of the facts that a reading asks -/
local macro_rules | `(tactic| walk_at "fact") => `(tactic| first
  | rfl
  | with_reducible assumption
  | walk_at "hp"
  | walk_at "sqt"
  | walk_at "sql"
  | walk_at "rep"
  | walk_at "repl"
  | walk_at "lenx"
  | walk_at "kvs"
  | (apply tyL; walk_at "sql")
  | (apply Exists.intro; walk_at "sqt")
  | (apply Exists.intro; walk_at "sql")
  | (apply cmul_r; (focus decide); decide)
  | (apply cmul_l; (focus omega); omega)
  | (apply cdivw; (focus first | decide | omega); first | decide | omega)
  | decide
  | omega
  | (show (0 : Int) < _; omega)
  | walk_at "sz"
  | walk_at "fact2")
local macro_rules | `(tactic| walk_at "facts") => `(tactic| first
  | (apply And.intro; (focus walk_at "fact"); walk_at "facts")
  | walk_at "fact")
local macro_rules | `(tactic| walk_at "exs") => `(tactic| repeat (apply Exists.intro))
/-- one part of a reading -/
local macro_rules | `(tactic| walk_at "rd1") => `(tactic| first
  | (apply Exists.intro; walk_at "exs"; (apply And.intro; focus walk_at "facts"))
  | (apply And.intro; focus walk_at "facts")
  | (apply Or.inl; walk_at "exs"; (apply And.intro; focus walk_at "facts"))
  | (apply Or.inr; walk_at "rd1"))
local macro_rules | `(tactic| walk_at "rd") => `(tactic| repeat (walk_at "rd1"))
local macro_rules | `(tactic| walk_at "rdi") => `(tactic| repeat (first | walk_at "rd1" | intro _))
/-- the written part by its name -/
local macro_rules | `(tactic| walk_at "nm") => `(tactic| try dsimp only [cx_nK, cx_K, List.map_cons, List.map_nil])
/-! ### what the worths' judges say -/
def isInt : Dt → Bool
  | .int _ => true
  | _ => false
def spIsInt (K : PySem.W.Frag) : Sp := fun vs H Q _ => ∃ v d, (vs = [v] ∧ Rep K H v d) ∧ Q (.bl (isInt d)) H
-- @SP is_integer (spIsInt K)
-- @SP is_plain_worth (spPlain K)
def plainW : Dt → Bool
  | .non => true
  | .int i => decide (-(10 ^ 30) ≤ i) && decide (i ≤ 10 ^ 30)
  | .str s => decide (s.length ≤ 40) && s.cps.toList.all signOk
  | _ => false
def spPlain (K : PySem.W.Frag) : Sp := fun vs H Q _ => ∃ v d, (vs = [v] ∧ Rep K H v d) ∧ ∀ H', Ex [] H H' → Q (.bl (plainW d)) H'
section
variable {P : Program} {w : World} {K : PySem.W.Frag} {mg : Str → Option Value} {base : Heap}
theorem ok_is_integer {f : Addr} {fd : FuncData} (F : Fun K "is_integer" "is_integer" s_is_integer f fd) (T : Txt K mg)  : FnOk P w K mg base CX0 1 f fd ["thing"] (spIsInt K) := by
  refine F.ok sc_is_integer (fun vs H Q E h => ?_) (fun cdv A outer s H vs Q E hr h => ?_)
  · obtain ⟨v, d, ⟨rfl, _⟩, _⟩ := h
    rfl
  · obtain ⟨v, d, ⟨rfl, r⟩, k⟩ := h
    refine ⟨_, (pss_one (ps_ret (pe_and (pe_callB (cIs (K := K) rfl) (by rfl) T.b_isinstance bt_isinstance (pa_cons (pv 0) (pa_cons (pe_bltn (v := .ty "int") (by rfl) T.b_int bt_int rfl) pa_nil))) (pe_one (pe_not (pe_callB (cIs (K := K) rfl) (by rfl) T.b_isinstance bt_isinstance (pa_cons (pv 0) (pa_cons (pe_bltn (v := .ty "bool") (by rfl) T.b_bool bt_bool rfl) pa_nil)))))))), ?_⟩
    walk_at "nm"
    have r0 := r
    cases r <;> walk_at "rd"
    all_goals exact k
theorem ok_is_plain_worth {f : Addr} {fd : FuncData} (F : Fun K "is_plain_worth" "is_plain_worth" s_is_plain_worth f fd) (T : Txt K mg) (C_is_integer : Cl P w K mg base 1 "is_integer" (spIsInt K)) : FnOk P w K mg base CX0 2 f fd ["thing"] (spPlain K) := by
  refine F.ok sc_is_plain_worth (fun vs H Q E h => ?_) (fun cdv A outer s H vs Q E hr h => ?_)
  · obtain ⟨v, d, ⟨rfl, _⟩, _⟩ := h
    rfl
  · obtain ⟨v, d, ⟨rfl, r⟩, k⟩ := h
    refine ⟨_, (pss_cons (ps_if (pt_cmpR op_isN (pv 0) pe_non (nomark _)) (pss_one (ps_ret pe_bl)) pss_nil) (pss_cons (ps_if (pt_val (pe_cl C_is_integer hr (by decide) (by rfl) (pa_cons (pv 0) pa_nil))) (pss_one (ps_ret (pe_chain oLe oLe (pe_un oNeg (C8.pe_gc (by rfl) T.c_MOST)) (pv 0) (C8.pe_gc (by rfl) T.c_MOST)))) pss_nil) (pss_one (ps_ret (pe_and (pe_callB (cIs (K := K) rfl) (by rfl) T.b_isinstance bt_isinstance (pa_cons (pv 0) (pa_cons (pe_bltn (v := .ty "str") (by rfl) T.b_str bt_str rfl) pa_nil))) (pe_and (pe_cmpR oLe (pe_callB (cLen (K := K) rfl) (by rfl) T.b_len bt_len (pa_cons (pv 0) pa_nil)) (C8.pe_gc (by rfl) T.c_MOST_SIGNS) (nomark _)) (pe_one (pe_callB (cAll (K := K) rfl rfl) (by rfl) T.b_all bt_all (pa_cons (pe_lc (own := [("sign", 1)]) (g := gName 1) (tt := tYes) rfl sc_is_plain_worth.nd (pi_str (pv 0)) (blkOk_by (N := n_is_plain_worth) (sc := defScope s_is_plain_worth) (by decide +kernel)) (fun _ _ _ _ _ => (pg_name (i := 1) sc_is_plain_worth.nd rfl (Or.inl rfl))) (fun _ _ _ _ _ => pts_nil) (fun _ _ _ _ _ => (pe_chain oLe oLe pe_str (pv 1) pe_str))) pa_nil))))))))), ?_⟩
    walk_at "nm"
    have r0 := r
    cases r with
    | non => walk_at "rd"; exact k _ (Ex.refl _ _)
    | bl b => walk_at "rd"; exact k _ (Ex.refl _ _)
    | tup h1 h2 => walk_at "rd"; exact k _ (Ex.refl _ _)
    | oth h1 => walk_at "rd"; exact k _ (Ex.refl _ _)
    | int i =>
      walk_at "rd"
      refine ite2 (fun h1 => ?_) (fun h1 => ?_)
      · walk_at "rd"
        have e : plainW (.int i) = decide (i ≤ 10 ^ 30) := by
          simp only [plainW]
          rw [show decide (-(10 ^ 30 : Int) ≤ i) = true from h1, Bool.true_and]
        rw [e] at k
        exact k _ (Ex.refl _ _)
      · have e : plainW (.int i) = false := by
          simp only [plainW]
          rw [show decide (-(10 ^ 30 : Int) ≤ i) = false from Bool.eq_false_iff.mpr h1, Bool.false_and]
        rw [e] at k
        exact k _ (Ex.refl _ _)
    | str z hz =>
      walk_at "rd"
      refine ite2 (fun h1 => ?_) (fun h1 => ?_)
      · have h2 : z.length ≤ 40 := by
          have := of_decide_eq_true h1
          omega
        refine all_signs (z := z) (a := 32) (b := 126) rfl (by show 1 < 2; decide) (by decide +kernel) (by decide +kernel) (by omega) fun H' e => ?_
        have e2 : plainW (.str z) = z.cps.toList.all fun c => decide (32 ≤ c) && decide (c ≤ 126) := by
          show (decide (z.length ≤ 40) && _) = _
          rw [decide_eq_true h2, Bool.true_and]
          rfl
        rw [e2] at k
        exact k _ e
      · have e2 : plainW (.str z) = false := by
          have h2 : ¬ z.length ≤ 40 := fun q => h1 (decide_eq_true (by omega))
          show (decide (z.length ≤ 40) && _) = _
          rw [decide_eq_false h2, Bool.false_and]
        rw [e2] at k
        exact k _ (Ex.refl _ _)
end
-- @SP is_integer (spIsInt K)
-- @SP is_plain_worth (spPlain K)
-- @SP is_worth (spWorth K)
def wl : Nat → List (Dt × Int) → Bool
  | _, [] => true
  | 0, _ :: _ => false
  | f + 1, (d, k) :: s => if 8 < k then false else match d with
    | .tup l => if 50 < l.length then false else wl f ((l.map fun x => (x, k + 1)).reverse ++ s)
    | d => if plainW d then wl f s else false
def isWorth (d : Dt) : Bool := wl 200 [(d, 1)]
def enc (p : Dt × Int) : Dt := .tup [p.1, .int p.2]
def spWorth (K : PySem.W.Frag) : Sp := fun vs H Q _ => ∃ v d, (vs = [v] ∧ Rep K H v d) ∧ ∀ H', Ex [] H H' → Q (.bl (isWorth d)) H'
theorem rep_tup2 {K : PySem.W.Frag} {H : Hp} {y : V} {d : Dt} {k : Int} (r : Rep K H y (enc (d, k))) : ∃ a x, y = .ref a ∧ SqT K H a [x, .int k] ∧ Rep K H x d := by
  cases r with
  | tup h hl =>
    cases hl with
    | cons h1 t =>
      cases t with
      | cons h2 t =>
        cases t
        cases h2
        exact ⟨_, _, rfl, h, h1⟩
theorem wl_tup {m : Nat} {l : List Dt} {k : Int} {s : List (Dt × Int)} (h : ¬ 8 < k) : wl (m + 1) ((.tup l, k) :: s) = if 50 < l.length then false else wl m ((l.map fun x => (x, k + 1)).reverse ++ s) := by
  rw [wl, if_neg h]
theorem wl_flat {m : Nat} {d : Dt} {k : Int} {s : List (Dt × Int)} (h : ¬ 8 < k) (hd : ∀ l, d ≠ .tup l) : wl (m + 1) ((d, k) :: s) = if plainW d then wl m s else false := by
  cases d with
  | tup l => exact absurd rfl (hd l)
  | _ =>
    rw [wl, if_neg h]
    exact fun l q => hd l q
/-- what holds at the loop of a judge: v is asked, it is d; the stack lies at ro -/
def wInv (K : PySem.W.Frag) (v : V) (d : Dt) (ro : Addr) (H0 : Hp) (n : Nat) (m : Nat) (σ : L2.St) (H' : Hp) : Prop :=
  ∃ (st : List (Dt × Int)) (many : Int) (vs : List V) (tl : List (Option V)), σ = some v :: some (.ref ro) :: some (.int many) :: tl ∧ tl.length = n ∧ Ex [] H0 H' ∧ H' ro = some (.lst vs) ∧
    RepL K H' vs (st.map enc).reverse ∧ 0 ≤ many ∧ many ≤ 200 ∧ m = (200 - many).toNat ∧ wl m st = isWorth d ∧ (st.length : Int) ≤ 1 + 50 * many
theorem wInv.start {K : PySem.W.Frag} {v : V} {d : Dt} {q ro : Addr} {H Ha Hb : Hp} (r : Rep K H v d) (h1 : Ha q = some (.tup [v, .int 1])) (e1 : Ex [] H Ha) (h2 : Hb ro = some (.lst [.ref q])) (e2 : Ex [] Ha Hb) {tl : List (Option V)} :
    wInv K v d ro H tl.length 200 (some v :: some (.ref ro) :: some (.int 0) :: tl) Hb := by
  refine ⟨[(d, 1)], 0, [.ref q], tl, rfl, rfl, by walk_at "ex", h2, ?_, by decide, by decide, rfl, rfl, by simp⟩
  have rp : Rep K Ha (.ref q) (enc (d, 1)) := by
    unfold enc
    walk_at "rep"
  exact .cons (e2.rep rp) .nil
theorem wInv.step {K : PySem.W.Frag} {v : V} {d : Dt} {ro : Addr} {H H3 : Hp} {m1 : Nat} {many : Int} {tl : List (Option V)} {ds : List V} {st : List (Dt × Int)} (e : Ex [] H H3) (hl : H3 ro = some (.lst ds)) (hr : RepL K H3 ds (st.map enc).reverse)
    (h0 : 0 ≤ many) (h1 : ¬ 200 < many + 1) (hm : m1 + 1 = (200 - many).toNat) (hw : wl m1 st = isWorth d) (hz : (st.length : Int) ≤ 50 * many + 50) :
    ∃ m', m' < m1 + 1 ∧ wInv K v d ro H tl.length m' (some v :: some (.ref ro) :: some (.int (many + 1)) :: tl) H3 :=
  ⟨m1, by omega, st, many + 1, ds, tl, rfl, rfl, e, hl, hr, by omega, by omega, by omega, hw, by omega⟩
section
variable {P : Program} {w : World} {K : PySem.W.Frag} {mg : Str → Option Value} {base : Heap}
theorem ok_is_worth {f : Addr} {fd : FuncData} (F : Fun K "is_worth" "is_worth" s_is_worth f fd) (T : Txt K mg) (C_is_plain_worth : Cl P w K mg base 2 "is_plain_worth" (spPlain K)) : FnOk P w K mg base CX0 3 f fd ["thing"] (spWorth K) := by
  refine F.ok sc_is_worth (fun vs H Q E h => ?_) (fun cdv A outer s H vs Q E hr h => ?_)
  · obtain ⟨v, d, ⟨rfl, _⟩, _⟩ := h
    rfl
  · obtain ⟨v, d, ⟨rfl, r⟩, k⟩ := h
    refine ⟨_, (pss_cons (ps_par (i := 1) (j := 2) rfl sc_is_worth.nd rfl rfl (by decide) rfl rfl (pa_cons (peLst (pa_cons (peTup (pa_cons (pv 0) (pa_cons pe_int pa_nil))) pa_nil)) (pa_cons pe_int pa_nil)) (by rfl)) (pss_cons (ps_while PassesOwn.never (pt_cmpR oGt (pe_callB (cLen (K := K) rfl) (by rfl) T.b_len bt_len (pa_cons (pv 1) pa_nil)) pe_int (nomark _)) (pss_cons (ps_asg (pe_bm0 PySem.F.plainAttrs_list PySem.F.slot_list_pop PySem.F.type_list_pop mPop (pv 1)) (pg_tup (by rfl) (pgs_cons (pg_name (i := 3) sc_is_worth.nd rfl (Or.inl rfl)) (pgs_cons (pg_name (i := 4) sc_is_worth.nd rfl (Or.inr rfl)) pgs_nil)))) (pss_cons (ps_aug (i := 2) sc_is_worth.nd rfl (Or.inl rfl) pe_int pAdd) (pss_cons (ps_if (PW.pt (pw_or (pt_cmpR oGt (pv 2) (C8.pe_gc (by rfl) T.c_MOST_WORTHS) (nomark _)) (pw_or1 (pt_cmpR oGt (pv 4) (C8.pe_gc (by rfl) T.c_MOST_DEEP) (nomark _))))) (pss_one (ps_ret pe_bl)) pss_nil) (pss_one (ps_if (pt_val (pe_callB (cIs (K := K) rfl) (by rfl) T.b_isinstance bt_isinstance (pa_cons (pv 3) (pa_cons (pe_bltn (v := .ty "tuple") (by rfl) T.b_tuple bt_tuple rfl) pa_nil)))) (pss_cons (ps_if (pt_cmpR oGt (pe_callB (cLen (K := K) rfl) (by rfl) T.b_len bt_len (pa_cons (pv 3) pa_nil)) (C8.pe_gc (by rfl) T.c_MOST_ITEMS) (nomark _)) (pss_one (ps_ret pe_bl)) pss_nil) (pss_one (ps_expr (pe_bm PySem.F.plainAttrs_list PySem.F.slot_list_extend PySem.F.type_list_extend mExtend (pv 1) (pa_cons (pe_lc (own := [("item", 5)]) (g := gName 5) (tt := tYes) rfl sc_is_worth.nd (pi_tup (pv 3)) (blkOk_by (N := n_is_worth) (sc := defScope s_is_worth) (by decide +kernel)) (fun _ _ _ _ _ => (pg_name (i := 5) sc_is_worth.nd rfl (Or.inl rfl))) (fun _ _ _ _ _ => pts_nil) (fun _ _ _ _ _ => (peTup (pa_cons (pv 5) (pa_cons (pe_op (oAdd (K := K) rfl) (pv 4) pe_int) pa_nil))))) pa_nil))))) (pss_one (ps_if (pt_not (pt_val (pe_cl C_is_plain_worth hr (by decide) (by rfl) (pa_cons (pv 3) pa_nil)))) (pss_one (ps_ret pe_bl)) pss_nil)))))))) (pss_one (ps_ret pe_bl)))), ?_⟩
    walk_at "nm"
    walk_at "rd"
    intro q Ha hq hqa ea
    walk_at "rd"
    intro ro Hb hro hrob eb
    walk_at "rd"
    have hroH : H ro = none := by walk_at "nn"
    have kf : isWorth d = false → ∀ H', Ex [] H H' → Q (.bl false) H' := fun z H' e => by rw [← z]; exact k H' e
    refine while_w (wInv K v d ro H 3) 200 (wInv.start r hqa ea hrob eb (tl := [none, none, none])) ?_
    rintro m σ H1 ⟨st, many, vs, tl, rfl, htl, e1, hl, hs, hm0, hm2, hm, hw, hz⟩
    match tl, htl with
    | [o1, o2, o3], _ =>
    have hlen : vs.length = st.length := by rw [hs.length, List.length_reverse, List.length_map]
    walk_at "rd"
    refine @ite2 _ _ _ _ (fun h1 => ?_) (fun h1 => ?_)
    · refine ⟨_, fun _ _ z => z, ?_⟩
      cases st with
      | nil =>
        rw [hlen] at h1
        simp at h1
      | cons p st =>
        obtain ⟨d1, k1⟩ := p
        rw [List.map_cons, List.reverse_cons] at hs
        obtain ⟨ws, y, rfl, hs1, hy⟩ := hs.snoc
        obtain ⟨a, x, rfl, ha, hx⟩ := rep_tup2 hy
        walk_at "rd"
        intro H2 hl2 e12
        walk_at "rd"
        refine @ite2 _ _ _ _ (fun c1 => ?_) (fun c1 => ?_)
        · refine kf ?_ _ (by walk_at "ex")
          replace c1 : 200 < many + 1 := of_decide_eq_true c1
          have m0 : m = 0 := by omega
          rw [← hw, m0]
          rfl
        · replace c1 : ¬ 200 < many + 1 := fun z => c1 (decide_eq_true z)
          obtain ⟨m1, rfl⟩ : ∃ m1, m = m1 + 1 := ⟨m - 1, by omega⟩
          walk_at "rd"
          refine @ite2 _ _ _ _ (fun c2 => ?_) (fun c2 => ?_)
          · refine kf ?_ _ (by walk_at "ex")
            rw [← hw]
            replace c2 : 8 < k1 := of_decide_eq_true c2
            simp [wl, c2]
          · replace c2 : ¬ 8 < k1 := fun z => c2 (decide_eq_true z)
            have hz' : (st.length : Int) ≤ 50 * many := by
              rw [List.length_cons] at hz
              omega
            have hs2 : RepL K H2 ws (st.map enc).reverse := e12.repL hs1
            have hx2 : Rep K H2 x d1 := e12.rep hx
            have flat : (∀ l, d1 ≠ .tup l) → plainW d1 = true → ∀ H3, Ex [] H2 H3 → ∀ o1 o2 o3, ∃ m', m' < m1 + 1 ∧ wInv K v d ro H 3 m' [some v, some (.ref ro), some (.int (many + 1)), o1, o2, o3] H3 := fun h1 h2 H3 e3 o1 o2 o3 =>
              wInv.step (tl := [o1, o2, o3]) (by walk_at "ex") (e3.get0 hl2) (e3.repL hs2) hm0 c1 hm (by rw [← hw, wl_flat c2 h1, h2]; rfl) (by omega)
            have bad : (∀ l, d1 ≠ .tup l) → ¬ plainW d1 = true → isWorth d = false := fun h1 h2 => by rw [← hw, wl_flat c2 h1, if_neg h2]
            have hx3 := hx2
            cases hx2 with
            | tup h3 h4 =>
              walk_at "rd"
              refine @ite2 _ _ _ _ (fun c3 => ?_) (fun c3 => ?_)
              · refine kf ?_ _ (by walk_at "ex")
                have c4 := h4.length
                replace c3 : 50 < ((_ : Nat) : Int) := of_decide_eq_true c3
                rw [← hw, wl_tup c2, if_pos (by omega)]
              · rename_i a2 xs2 l2
                have c4 := h4.length
                replace c3 : ¬ 50 < ((xs2.length : Nat) : Int) := fun z => c3 (decide_eq_true z)
                walk_at "rd"
                intro D hD
                refine lc_it (walk_tup (xs := xs2)) (LcP D [] (fun _ => True) (RepAt K (l2.map fun x => enc (x, k1 + 1))) H2) (LcP.start hD trivial (true_loc D)) (fun i H h p => p.ex.sqT h3) ?_ ?_
                · rintro i x H3 H4 hi p ⟨rfl, hx4⟩
                  obtain ⟨dx, hdx, rx⟩ := h4.get hx4
                  have rx' := p.ex.rep rx
                  walk_at "rd"
                  intro t H5 ht ht5 e5
                  have rt : Rep K H5 (.ref t) (enc (dx, k1 + 1)) := by
                    unfold enc
                    walk_at "rep"
                  exact p.step hD RepAt.stab (true_loc D) e5 trivial trivial ⟨_, by rw [List.getElem?_map, hdx]; rfl, rt⟩ hi (by omega)
                · intro H3 p
                  obtain ⟨ys, h5, h6⟩ := p.done (by rw [List.length_map, c4])
                  have e3 : Ex [] H2 H3 := p.ex
                  have h7 := h6.length
                  rw [List.length_map] at h7
                  have h8 := hs2.length
                  rw [List.length_reverse, List.length_map] at h8
                  skip
                  walk_at "rd"
                  intro H4 h9 e4
                  refine wInv.step (tl := [some (.ref a2), some (.int k1), o3]) (st := (l2.map fun x => (x, k1 + 1)).reverse ++ st) (by walk_at "ex") h9 ?_ hm0 c1 hm ?_ ?_
                  · rw [List.map_append, List.reverse_append, List.map_reverse, List.reverse_reverse, List.map_map]
                    exact e4.repL ((e3.repL hs2).append h6)
                  · rw [← hw, wl_tup c2, if_neg (by omega)]
                  · rw [List.length_append, List.length_reverse, List.length_map]
                    omega
            | non =>
              walk_at "rd"
              intro H3 e3
              walk_at "rd"
              refine @ite2 _ _ _ _ (fun c3 => ?_) (fun c3 => ?_)
              · exact kf (bad (fun _ z => nomatch z) (by simpa using c3)) _ (by walk_at "ex")
              · exact flat (fun _ z => nomatch z) (by simpa using c3) _ e3 _ _ _
            | bl b =>
              walk_at "rd"
              intro H3 e3
              walk_at "rd"
              refine @ite2 _ _ _ _ (fun c3 => ?_) (fun c3 => ?_)
              · exact kf (bad (fun _ z => nomatch z) (by simpa using c3)) _ (by walk_at "ex")
              · exact flat (fun _ z => nomatch z) (by simpa using c3) _ e3 _ _ _
            | int i =>
              walk_at "rd"
              intro H3 e3
              walk_at "rd"
              refine @ite2 _ _ _ _ (fun c3 => ?_) (fun c3 => ?_)
              · exact kf (bad (fun _ z => nomatch z) (by simpa using c3)) _ (by walk_at "ex")
              · exact flat (fun _ z => nomatch z) (by simpa using c3) _ e3 _ _ _
            | str z hz =>
              walk_at "rd"
              intro H3 e3
              walk_at "rd"
              refine @ite2 _ _ _ _ (fun c3 => ?_) (fun c3 => ?_)
              · exact kf (bad (fun _ z => nomatch z) (by simpa using c3)) _ (by walk_at "ex")
              · exact flat (fun _ z => nomatch z) (by simpa using c3) _ e3 _ _ _
            | oth h =>
              walk_at "rd"
              intro H3 e3
              walk_at "rd"
              refine @ite2 _ _ _ _ (fun c3 => ?_) (fun c3 => ?_)
              · exact kf (bad (fun _ z => nomatch z) (by simpa using c3)) _ (by walk_at "ex")
              · exact flat (fun _ z => nomatch z) (by simpa using c3) _ e3 _ _ _
    · cases st with
      | nil =>
        have hv : isWorth d = true := by
          rw [← hw]
          cases m <;> rfl
        rw [hv] at k
        exact k _ e1
      | cons p st =>
        exact absurd (decide_eq_true (by rw [hlen, List.length_cons]; omega)) h1
end
-- @SP _law_is_int (spIsInt K)
-- @SP _law_is_worth (spWorth K)
section
variable {P : Program} {w : World} {K : PySem.W.Frag} {mg : Str → Option Value} {base : Heap}
theorem ok_law_is_int {f : Addr} {fd : FuncData} (F : Fun K "_law_is_int" "_law_is_int" s_law_is_int f fd) (T : Txt K mg)  : FnOk P w K mg base CX0 1 f fd ["thing"] (spIsInt K) := by
  refine F.ok sc_law_is_int (fun vs H Q E h => ?_) (fun cdv A outer s H vs Q E hr h => ?_)
  · obtain ⟨v, d, ⟨rfl, _⟩, _⟩ := h
    rfl
  · obtain ⟨v, d, ⟨rfl, r⟩, k⟩ := h
    refine ⟨_, (pss_one (ps_ret (pe_and (pe_callB (cIs (K := K) rfl) (by rfl) T.b_isinstance bt_isinstance (pa_cons (pv 0) (pa_cons (pe_bltn (v := .ty "int") (by rfl) T.b_int bt_int rfl) pa_nil))) (pe_one (pe_not (pe_callB (cIs (K := K) rfl) (by rfl) T.b_isinstance bt_isinstance (pa_cons (pv 0) (pa_cons (pe_bltn (v := .ty "bool") (by rfl) T.b_bool bt_bool rfl) pa_nil)))))))), ?_⟩
    walk_at "nm"
    have r0 := r
    cases r <;> walk_at "rd"
    all_goals exact k
theorem ok_law_is_worth {f : Addr} {fd : FuncData} (F : Fun K "_law_is_worth" "_law_is_worth" s_law_is_worth f fd) (T : Txt K mg) (C_law_is_int : Cl P w K mg base 1 "_law_is_int" (spIsInt K)) : FnOk P w K mg base CX0 2 f fd ["thing"] (spWorth K) := by
  refine F.ok sc_law_is_worth (fun vs H Q E h => ?_) (fun cdv A outer s H vs Q E hr h => ?_)
  · obtain ⟨v, d, ⟨rfl, _⟩, _⟩ := h
    rfl
  · obtain ⟨v, d, ⟨rfl, r⟩, k⟩ := h
    refine ⟨_, (pss_cons (ps_par (i := 1) (j := 2) rfl sc_law_is_worth.nd rfl rfl (by decide) rfl rfl (pa_cons (peLst (pa_cons (peTup (pa_cons (pv 0) (pa_cons pe_int pa_nil))) pa_nil)) (pa_cons pe_int pa_nil)) (by rfl)) (pss_cons (ps_while PassesOwn.never (pt_cmpR oGt (pe_callB (cLen (K := K) rfl) (by rfl) T.b_len bt_len (pa_cons (pv 1) pa_nil)) pe_int (nomark _)) (pss_cons (ps_asg (pe_bm0 PySem.F.plainAttrs_list PySem.F.slot_list_pop PySem.F.type_list_pop mPop (pv 1)) (pg_tup (by rfl) (pgs_cons (pg_name (i := 3) sc_law_is_worth.nd rfl (Or.inl rfl)) (pgs_cons (pg_name (i := 4) sc_law_is_worth.nd rfl (Or.inr rfl)) pgs_nil)))) (pss_cons (ps_set (i := 2) sc_law_is_worth.nd rfl (Or.inl rfl) (pe_op (oAdd (K := K) rfl) (pv 2) pe_int)) (pss_cons (ps_if (PW.pt (pw_or (pt_cmpR oGt (pv 2) pe_int (nomark _)) (pw_or1 (pt_cmpR oGt (pv 4) pe_int (nomark _))))) (pss_one (ps_ret pe_bl)) pss_nil) (pss_one (ps_if (pt_val (pe_callB (cIs (K := K) rfl) (by rfl) T.b_isinstance bt_isinstance (pa_cons (pv 3) (pa_cons (pe_bltn (v := .ty "tuple") (by rfl) T.b_tuple bt_tuple rfl) pa_nil)))) (pss_cons (ps_if (pt_cmpR oGt (pe_callB (cLen (K := K) rfl) (by rfl) T.b_len bt_len (pa_cons (pv 3) pa_nil)) pe_int (nomark _)) (pss_one (ps_ret pe_bl)) pss_nil) (pss_one (ps_expr (pe_bm PySem.F.plainAttrs_list PySem.F.slot_list_extend PySem.F.type_list_extend mExtend (pv 1) (pa_cons (pe_lc (own := [("item", 5)]) (g := gName 5) (tt := tYes) rfl sc_law_is_worth.nd (pi_tup (pv 3)) (blkOk_by (N := n_law_is_worth) (sc := defScope s_law_is_worth) (by decide +kernel)) (fun _ _ _ _ _ => (pg_name (i := 5) sc_law_is_worth.nd rfl (Or.inl rfl))) (fun _ _ _ _ _ => pts_nil) (fun _ _ _ _ _ => (peTup (pa_cons (pv 5) (pa_cons (pe_op (oAdd (K := K) rfl) (pv 4) pe_int) pa_nil))))) pa_nil))))) (pss_one (ps_if (pt_val (pe_callB (cIs (K := K) rfl) (by rfl) T.b_isinstance bt_isinstance (pa_cons (pv 3) (pa_cons (pe_bltn (v := .ty "str") (by rfl) T.b_str bt_str rfl) pa_nil)))) (pss_one (ps_if (PW.pt (pw_or (pt_cmpR oGt (pe_callB (cLen (K := K) rfl) (by rfl) T.b_len bt_len (pa_cons (pv 3) pa_nil)) pe_int (nomark _)) (pw_or1 (pt_not (pt_val (pe_callB (cAll (K := K) rfl rfl) (by rfl) T.b_all bt_all (pa_cons (pe_lc (own := [("sign", 6)]) (g := gName 6) (tt := tYes) rfl sc_law_is_worth.nd (pi_str (pv 3)) (blkOk_by (N := n_law_is_worth) (sc := defScope s_law_is_worth) (by decide +kernel)) (fun _ _ _ _ _ => (pg_name (i := 6) sc_law_is_worth.nd rfl (Or.inl rfl))) (fun _ _ _ _ _ => pts_nil) (fun _ _ _ _ _ => (pe_chain oLe oLe pe_str (pv 6) pe_str))) pa_nil))))))) (pss_one (ps_ret pe_bl)) pss_nil)) (pss_one (ps_if (PW.pt (pw_and (pt_cmpR op_notN (pv 3) pe_non (nomark _)) (pw_and1 (pt_not (PW.pt (pw_and (pt_val (pe_cl C_law_is_int hr (by decide) (by rfl) (pa_cons (pv 3) pa_nil))) (pw_and1 (pt_cmpR oLe (pe_callB cAbs (by rfl) T.b_abs bt_abs (pa_cons (pv 3) pa_nil)) (pe_op oPow pe_int pe_int) (nomark _))))))))) (pss_one (ps_ret pe_bl)) pss_nil)))))))))) (pss_one (ps_ret pe_bl)))), ?_⟩
    walk_at "nm"
    walk_at "rd"
    intro q Ha hq hqa ea
    walk_at "rd"
    intro ro Hb hro hrob eb
    walk_at "rd"
    have hroH : H ro = none := by walk_at "nn"
    have kf : isWorth d = false → ∀ H', Ex [] H H' → Q (.bl false) H' := fun z H' e => by rw [← z]; exact k H' e
    refine while_w (wInv K v d ro H 4) 200 (wInv.start r hqa ea hrob eb (tl := [none, none, none, none])) ?_
    rintro m σ H1 ⟨st, many, vs, tl, rfl, htl, e1, hl, hs, hm0, hm2, hm, hw, hz⟩
    match tl, htl with
    | [o1, o2, o3, o4], _ =>
    have hlen : vs.length = st.length := by rw [hs.length, List.length_reverse, List.length_map]
    walk_at "rd"
    refine @ite2 _ _ _ _ (fun h1 => ?_) (fun h1 => ?_)
    · refine ⟨_, fun _ _ z => z, ?_⟩
      cases st with
      | nil =>
        rw [hlen] at h1
        simp at h1
      | cons p st =>
        obtain ⟨d1, k1⟩ := p
        rw [List.map_cons, List.reverse_cons] at hs
        obtain ⟨ws, y, rfl, hs1, hy⟩ := hs.snoc
        obtain ⟨a, x, rfl, ha, hx⟩ := rep_tup2 hy
        walk_at "rd"
        intro H2 hl2 e12
        walk_at "rd"
        refine @ite2 _ _ _ _ (fun c1 => ?_) (fun c1 => ?_)
        · refine kf ?_ _ (by walk_at "ex")
          replace c1 : 200 < many + 1 := of_decide_eq_true c1
          have m0 : m = 0 := by omega
          rw [← hw, m0]
          rfl
        · replace c1 : ¬ 200 < many + 1 := fun z => c1 (decide_eq_true z)
          obtain ⟨m1, rfl⟩ : ∃ m1, m = m1 + 1 := ⟨m - 1, by omega⟩
          walk_at "rd"
          refine @ite2 _ _ _ _ (fun c2 => ?_) (fun c2 => ?_)
          · refine kf ?_ _ (by walk_at "ex")
            rw [← hw]
            replace c2 : 8 < k1 := of_decide_eq_true c2
            simp [wl, c2]
          · replace c2 : ¬ 8 < k1 := fun z => c2 (decide_eq_true z)
            have hz' : (st.length : Int) ≤ 50 * many := by
              rw [List.length_cons] at hz
              omega
            have hs2 : RepL K H2 ws (st.map enc).reverse := e12.repL hs1
            have hx2 : Rep K H2 x d1 := e12.rep hx
            have flat : (∀ l, d1 ≠ .tup l) → plainW d1 = true → ∀ H3, Ex [] H2 H3 → ∀ o1 o2 o3 o4, ∃ m', m' < m1 + 1 ∧ wInv K v d ro H 4 m' [some v, some (.ref ro), some (.int (many + 1)), o1, o2, o3, o4] H3 := fun h1 h2 H3 e3 o1 o2 o3 o4 =>
              wInv.step (tl := [o1, o2, o3, o4]) (by walk_at "ex") (e3.get0 hl2) (e3.repL hs2) hm0 c1 hm (by rw [← hw, wl_flat c2 h1, h2]; rfl) (by omega)
            have bad : (∀ l, d1 ≠ .tup l) → ¬ plainW d1 = true → isWorth d = false := fun h1 h2 => by rw [← hw, wl_flat c2 h1, if_neg h2]
            have hx3 := hx2
            cases hx2 with
            | tup h3 h4 =>
              walk_at "rd"
              refine @ite2 _ _ _ _ (fun c3 => ?_) (fun c3 => ?_)
              · refine kf ?_ _ (by walk_at "ex")
                have c4 := h4.length
                replace c3 : 50 < ((_ : Nat) : Int) := of_decide_eq_true c3
                rw [← hw, wl_tup c2, if_pos (by omega)]
              · rename_i a2 xs2 l2
                have c4 := h4.length
                replace c3 : ¬ 50 < ((xs2.length : Nat) : Int) := fun z => c3 (decide_eq_true z)
                walk_at "rd"
                intro D hD
                refine lc_it (walk_tup (xs := xs2)) (LcP D [] (fun _ => True) (RepAt K (l2.map fun x => enc (x, k1 + 1))) H2) (LcP.start hD trivial (true_loc D)) (fun i H h p => p.ex.sqT h3) ?_ ?_
                · rintro i x H3 H4 hi p ⟨rfl, hx4⟩
                  obtain ⟨dx, hdx, rx⟩ := h4.get hx4
                  have rx' := p.ex.rep rx
                  walk_at "rd"
                  intro t H5 ht ht5 e5
                  have rt : Rep K H5 (.ref t) (enc (dx, k1 + 1)) := by
                    unfold enc
                    walk_at "rep"
                  exact p.step hD RepAt.stab (true_loc D) e5 trivial trivial ⟨_, by rw [List.getElem?_map, hdx]; rfl, rt⟩ hi (by omega)
                · intro H3 p
                  obtain ⟨ys, h5, h6⟩ := p.done (by rw [List.length_map, c4])
                  have e3 : Ex [] H2 H3 := p.ex
                  have h7 := h6.length
                  rw [List.length_map] at h7
                  have h8 := hs2.length
                  rw [List.length_reverse, List.length_map] at h8
                  skip
                  walk_at "rd"
                  intro H4 h9 e4
                  refine wInv.step (tl := [some (.ref a2), some (.int k1), o3, o4]) (st := (l2.map fun x => (x, k1 + 1)).reverse ++ st) (by walk_at "ex") h9 ?_ hm0 c1 hm ?_ ?_
                  · rw [List.map_append, List.reverse_append, List.map_reverse, List.reverse_reverse, List.map_map]
                    exact e4.repL ((e3.repL hs2).append h6)
                  · rw [← hw, wl_tup c2, if_neg (by omega)]
                  · rw [List.length_append, List.length_reverse, List.length_map]
                    omega
            | non =>
              walk_at "rd"
              exact flat (fun _ z => nomatch z) rfl _ (Ex.refl _ _) _ _ _ _
            | bl b =>
              walk_at "rd"
              exact kf (bad (fun _ z => nomatch z) (fun z => nomatch z)) _ (by walk_at "ex")
            | oth h =>
              walk_at "rd"
              exact kf (bad (fun _ z => nomatch z) (fun z => nomatch z)) _ (by walk_at "ex")
            | int i =>
              have hab : (decide ((if i < 0 then -i else i) ≤ 10 ^ Int.toNat 30)) = plainW (.int i) := by
                show _ = (decide (-(10 ^ 30) ≤ i) && decide (i ≤ 10 ^ 30))
                rw [← Bool.decide_and]
                refine decide_eq_decide.mpr ?_
                show (if i < 0 then -i else i) ≤ (10 : Int) ^ 30 ↔ _
                split <;> omega
              walk_at "rd"
              rw [hab]
              refine @ite2 _ _ _ _ (fun c3 => ?_) (fun c3 => ?_)
              · exact kf (bad (fun _ z => nomatch z) (by simpa using c3)) _ (by walk_at "ex")
              · exact flat (fun _ z => nomatch z) (by simpa using c3) _ (Ex.refl _ _) _ _ _ _
            | str z hz =>
              walk_at "rd"
              refine @ite2 _ _ _ _ (fun c3 => ?_) (fun c3 => ?_)
              · replace c3 : (40 : Int) < (z.length : Nat) := of_decide_eq_true c3
                refine kf (bad (fun _ z => nomatch z) fun e => ?_) _ (by walk_at "ex")
                have e2 : decide (z.length ≤ 40) = true := (Bool.and_eq_true _ _ |>.mp e).1
                have := of_decide_eq_true e2
                omega
              · replace c3 : ¬ (40 : Int) < (z.length : Nat) := fun z => c3 (decide_eq_true z)
                refine all_signs (z := z) (a := 32) (b := 126) rfl (by show 6 < 7; decide) (by decide +kernel) (by decide +kernel) (by omega) fun H3 e3 => ?_
                have e2 : plainW (.str z) = z.cps.toList.all fun c => decide (32 ≤ c) && decide (c ≤ 126) := by
                  show (decide (z.length ≤ 40) && _) = _
                  rw [decide_eq_true (show z.length ≤ 40 by omega), Bool.true_and]
                  rfl
                rw [← e2]
                walk_at "rd"
                refine @ite2 _ _ _ _ (fun c3 => ?_) (fun c3 => ?_)
                · exact kf (bad (fun _ z => nomatch z) (by simpa using c3)) _ (by walk_at "ex")
                · exact flat (fun _ z => nomatch z) (by simpa using c3) _ e3 _ _ _ _
    · cases st with
      | nil =>
        have hv : isWorth d = true := by
          rw [← hw]
          cases m <;> rfl
        rw [hv] at k
        exact k _ e1
      | cons p st =>
        exact absurd (decide_eq_true (by rw [hlen, List.length_cons]; omega)) h1
end
/-! ### what the judges of asks and answers say -/
def spJ (f : Dt → Bool) (K : PySem.W.Frag) : Sp := fun vs H Q _ => ∃ v d, (vs = [v] ∧ Rep K H v d) ∧ ∀ H', Ex [] H H' → Q (.bl (f d)) H'
def isTupO : Dt → Int → Option Bool
  | .tup [_, _], 2 => some true
  | .tup [_, _, _], 3 => some true
  | _, _ => some false
def spTupOf (K : PySem.W.Frag) : Sp := fun vs H Q _ => ∃ v d n b, (vs = [v, .int n] ∧ (n = 2 ∨ n = 3) ∧ Rep K H v d ∧ isTupO d n = some b) ∧ Q (.bl b) H
def lowOk (c : Nat) : Bool := decide (97 ≤ c) && decide (c ≤ 122)
def isName : Dt → Bool
  | .str s => decide (1 ≤ s.length) && (decide (s.length ≤ 12) && s.cps.toList.all fun c => decide (97 ≤ c) && decide (c ≤ 122))
  | _ => false
def areArgs : Dt → Bool
  | .tup l => decide (l.length ≤ 6) && l.all isWorth
  | _ => false
def isW (a : Str) (w : String) : Bool := decide (V.str a = V.str w)
def isAsk : Dt → Bool
  | .tup [.str a, x] => isW a "cell" && isWorth x
  | .tup [.str a, x, y] => isW a "call" && (isName x && areArgs y)
  | _ => false
def isAnswer : Dt → Bool
  | .tup [.str a, x] => (isW a "told" && isWorth x) || (isW a "fault" && isName x)
  | _ => false
def isNode : Dt → Bool
  | .tup [x, y] => isName x && areArgs y
  | _ => false
def isStep : Dt → Bool
  | .tup [.str a, x] => (isW a "ask" && isAsk x) || (isW a "end" && isAnswer x)
  | _ => false
def fitsW : Dt → Dt → Bool
  | .tup (.str a :: _), .tup (.str b :: _) => isW a "call" || isW b "told"
  | _, _ => false
def isPair : Dt → Bool
  | .tup [x, y] => isAsk x && (isAnswer y && fitsW x y)
  | _ => false
def isRow : Dt → Bool
  | .tup l => decide (l.length ≤ 300) && l.all isPair
  | _ => false
-- @SP is_integer (spIsInt K)
-- @SP is_plain_worth (spPlain K)
-- @SP is_worth (spWorth K)
-- @SP is_tuple_of (spTupOf K)
-- @SP is_name (spJ isName K)
-- @SP are_args (spJ areArgs K)
-- @SP is_ask (spJ isAsk K)
-- @SP is_answer (spJ isAnswer K)
-- @SP is_node (spJ isNode K)
-- @SP is_step (spJ isStep K)
-- @SP is_pair (spJ isPair K)
-- @SP is_row (spJ isRow K)
def spFits (K : PySem.W.Frag) : Sp := fun vs H Q _ => ∃ v1 v2 a b l m, (vs = [v1, v2] ∧ Rep K H v1 (.tup (.str a :: l)) ∧ Rep K H v2 (.tup (.str b :: m))) ∧ Q (.bl (isW a "call" || isW b "told")) H
section
variable {P : Program} {w : World} {K : PySem.W.Frag} {mg : Str → Option Value} {base : Heap}
/-- all of a comprehension of judged ones -/
theorem all_judged {f : Dt → Bool} {σ : L2.St} {H : Hp} {Q : VK} {E0 : XK} {i j : Nat} {a : Addr} {xs : List V} {l : List Dt} (hi' : σ[i]? = some (some (.ref a))) (hj : j < σ.length) (hs : SqT K H a xs) (hl : RepL K H xs l) (hz : l.length ≤ 1000000)
    (k : ∀ H', Ex [] H H' → Q (.bl (l.all f)) H') :
    tCB (rAll K) (tCons (tLc (iTup K (tVar i)) (gName j) tYes (tCl (spJ f K) E0 (tCons (tVar j) tNil)) [j]) tNil) σ H Q := by
  refine ⟨_, hi', a, rfl, ⟨xs, hs⟩, fun D hD => ?_⟩
  refine lc_it (walk_tup (xs := xs)) (LcP D [] (fun _ => True) (RepAt K ((l.map f).map Dt.bl)) H) (LcP.start hD trivial (true_loc D)) (fun i H h p => p.ex.sqT hs) ?_ ?_
  · rintro n x H1 H2 hn p ⟨rfl, hx⟩
    obtain ⟨d, hd, r⟩ := hl.get hx
    refine ⟨wipe_set1' _ _ _, ?_⟩
    show tCl (spJ f K) E0 (tCons (tVar j) tNil) (List.set (wipe σ [j]) j (some x)) H2 _
    refine ⟨_, get_set1 _ _ hj, ?_⟩
    refine ⟨_, d, ⟨rfl, p.ex.rep r⟩, fun H3 e3 => ?_⟩
    exact p.step hD RepAt.stab (true_loc D) e3 trivial trivial ⟨.bl (f d), by rw [List.getElem?_map, List.getElem?_map, hd]; rfl, .bl _⟩ hn (by rw [hl.length]; omega)
  · intro H1 p
    obtain ⟨ys, h1, h2⟩ := p.done (by rw [List.length_map, List.length_map, hl.length])
    refine ⟨D, _, rfl, SqL.bls (bs := l.map f) h1 h2, ?_⟩
    rw [List.all_map]
    exact k _ p.ex
theorem ok_is_tuple_of {f : Addr} {fd : FuncData} (F : Fun K "is_tuple_of" "is_tuple_of" s_is_tuple_of f fd) (T : Txt K mg)  : FnOk P w K mg base CX0 1 f fd ["thing", "size"] (spTupOf K) := by
  refine F.ok sc_is_tuple_of (fun vs H Q E h => ?_) (fun cdv A outer s H vs Q E hr h => ?_)
  · obtain ⟨v, d, n, b, ⟨rfl, _⟩, _⟩ := h
    rfl
  · obtain ⟨v, d, n, b, ⟨rfl, hn, r, hb⟩, k⟩ := h
    refine ⟨_, (pss_one (ps_ret (pe_and (pe_callB (cIs (K := K) rfl) (by rfl) T.b_isinstance bt_isinstance (pa_cons (pv 0) (pa_cons (pe_bltn (v := .ty "tuple") (by rfl) T.b_tuple bt_tuple rfl) pa_nil))) (pe_one (pe_cmpR op_eq (pe_callB (cLen (K := K) rfl) (by rfl) T.b_len bt_len (pa_cons (pv 0) pa_nil)) (pv 1) (nomark _)))))), ?_⟩
    walk_at "nm"
    have r0 := r
    cases r with
    | tup h1 h2 =>
      rename_i a xs l
      have e : b = decide (V.int ((xs.length : Nat) : Int) = V.int n) := by
        rw [h2.length]
        match l, hb with
        | [], hb => rcases hn with rfl | rfl <;> simpa [isTupO] using hb.symm
        | [_], hb => rcases hn with rfl | rfl <;> simpa [isTupO] using hb.symm
        | [_, _], hb => rcases hn with rfl | rfl <;> simpa [isTupO] using hb.symm
        | [_, _, _], hb => rcases hn with rfl | rfl <;> simpa [isTupO] using hb.symm
        | _ :: _ :: _ :: _ :: m, hb =>
          have e : b = false := by rcases hn with rfl | rfl <;> simpa [isTupO] using hb.symm
          rw [e]
          refine (decide_eq_false fun z => ?_).symm
          simp only [List.length_cons, V.int.injEq] at z
          omega
      subst e
      walk_at "rd"
      exact k
    | _ =>
      have e : b = false := by rcases hn with rfl | rfl <;> simpa [isTupO] using hb.symm
      subst e
      walk_at "rd"
      exact k
theorem ok_is_name {f : Addr} {fd : FuncData} (F : Fun K "is_name" "is_name" s_is_name f fd) (T : Txt K mg)  : FnOk P w K mg base CX0 1 f fd ["thing"] (spJ isName K) := by
  refine F.ok sc_is_name (fun vs H Q E h => ?_) (fun cdv A outer s H vs Q E hr h => ?_)
  · obtain ⟨v, d, ⟨rfl, _⟩, _⟩ := h
    rfl
  · obtain ⟨v, d, ⟨rfl, r⟩, k⟩ := h
    refine ⟨_, (pss_one (ps_ret (pe_and (pe_callB (cIs (K := K) rfl) (by rfl) T.b_isinstance bt_isinstance (pa_cons (pv 0) (pa_cons (pe_bltn (v := .ty "str") (by rfl) T.b_str bt_str rfl) pa_nil))) (pe_and (pe_chain oLe oLe pe_int (pe_callB (cLen (K := K) rfl) (by rfl) T.b_len bt_len (pa_cons (pv 0) pa_nil)) pe_int) (pe_one (pe_callB (cAll (K := K) rfl rfl) (by rfl) T.b_all bt_all (pa_cons (pe_lc (own := [("sign", 1)]) (g := gName 1) (tt := tYes) rfl sc_is_name.nd (pi_str (pv 0)) (blkOk_by (N := n_is_name) (sc := defScope s_is_name) (by decide +kernel)) (fun _ _ _ _ _ => (pg_name (i := 1) sc_is_name.nd rfl (Or.inl rfl))) (fun _ _ _ _ _ => pts_nil) (fun _ _ _ _ _ => (pe_chain oLe oLe pe_str (pv 1) pe_str))) pa_nil))))))), ?_⟩
    walk_at "nm"
    have r0 := r
    cases r with
    | str z h1 =>
      have fin : ∀ b, b = isName (.str z) → ∀ H', Ex [] H H' → Q (.bl b) H' := fun b e H' x => e ▸ k H' x
      walk_at "rd"
      refine @ite2 _ _ _ _ (fun c1 => ?_) (fun c1 => ?_)
      · replace c1 : 1 ≤ ((z.length : Nat) : Int) := of_decide_eq_true c1
        walk_at "rd"
        refine @ite2 _ _ _ _ (fun c2 => ?_) (fun c2 => ?_)
        · replace c2 : ((z.length : Nat) : Int) ≤ 12 := of_decide_eq_true c2
          refine all_signs (z := z) (a := 97) (b := 122) rfl (by show 1 < 2; decide) (by decide +kernel) (by decide +kernel) (by omega) fun H' e => ?_
          refine fin _ ?_ _ e
          show _ = (decide (1 ≤ z.length) && (decide (z.length ≤ 12) && _))
          rw [decide_eq_true (show 1 ≤ z.length by omega), decide_eq_true (show z.length ≤ 12 by omega), Bool.true_and, Bool.true_and]
        · refine fin false ?_ _ (Ex.refl _ _)
          show _ = (decide (1 ≤ z.length) && (decide (z.length ≤ 12) && _))
          rw [decide_eq_false (show ¬ z.length ≤ 12 from fun q => c2 (decide_eq_true (by omega))), Bool.false_and, Bool.and_false]
      · walk_at "rd"
        refine fin false ?_ _ (Ex.refl _ _)
        show _ = (decide (1 ≤ z.length) && (decide (z.length ≤ 12) && _))
        rw [decide_eq_false (show ¬ 1 ≤ z.length from fun q => c1 (decide_eq_true (by omega))), Bool.false_and]
    | _ => 
      walk_at "rd"
      exact k _ (Ex.refl _ _)
theorem ok_are_args {f : Addr} {fd : FuncData} (F : Fun K "are_args" "are_args" s_are_args f fd) (T : Txt K mg) (C_is_worth : Cl P w K mg base 3 "is_worth" (spWorth K)) : FnOk P w K mg base CX0 4 f fd ["thing"] (spJ areArgs K) := by
  refine F.ok sc_are_args (fun vs H Q E h => ?_) (fun cdv A outer s H vs Q E hr h => ?_)
  · obtain ⟨v, d, ⟨rfl, _⟩, _⟩ := h
    rfl
  · obtain ⟨v, d, ⟨rfl, r⟩, k⟩ := h
    refine ⟨_, (pss_one (ps_ret (pe_and (pe_callB (cIs (K := K) rfl) (by rfl) T.b_isinstance bt_isinstance (pa_cons (pv 0) (pa_cons (pe_bltn (v := .ty "tuple") (by rfl) T.b_tuple bt_tuple rfl) pa_nil))) (pe_and (pe_cmpR oLe (pe_callB (cLen (K := K) rfl) (by rfl) T.b_len bt_len (pa_cons (pv 0) pa_nil)) (C8.pe_gc (by rfl) T.c_MOST_ARGS) (nomark _)) (pe_one (pe_callB (cAll (K := K) rfl rfl) (by rfl) T.b_all bt_all (pa_cons (pe_lc (own := [("one", 1)]) (g := gName 1) (tt := tYes) rfl sc_are_args.nd (pi_tup (pv 0)) (blkOk_by (N := n_are_args) (sc := defScope s_are_args) (by decide +kernel)) (fun _ _ _ _ _ => (pg_name (i := 1) sc_are_args.nd rfl (Or.inl rfl))) (fun _ _ _ _ _ => pts_nil) (fun _ _ _ _ _ => (pe_cl C_is_worth hr (by decide) (by rfl) (pa_cons (pv 1) pa_nil)))) pa_nil))))))), ?_⟩
    walk_at "nm"
    have r0 := r
    cases r with
    | tup h1 h2 =>
      rename_i a xs l
      have e := h2.length
      have fin : ∀ b, b = areArgs (.tup l) → ∀ H', Ex [] H H' → Q (.bl b) H' := fun b e H' x => e ▸ k H' x
      walk_at "rd"
      refine @ite2 _ _ _ _ (fun c1 => ?_) (fun c1 => ?_)
      · replace c1 : ((xs.length : Nat) : Int) ≤ 6 := of_decide_eq_true c1
        refine all_judged (by rfl) (by show 1 < 2; decide) h1 h2 (by omega) fun H' e => ?_
        refine fin _ ?_ _ e
        show _ = (decide (l.length ≤ 6) && _)
        rw [decide_eq_true (show l.length ≤ 6 by omega), Bool.true_and]
      · refine fin false ?_ _ (Ex.refl _ _)
        show _ = (decide (l.length ≤ 6) && _)
        rw [decide_eq_false (show ¬ l.length ≤ 6 from fun q => c1 (decide_eq_true (by omega))), Bool.false_and]
    | _ => 
      walk_at "rd"
      exact k _ (Ex.refl _ _)
theorem at0 (v : V) (xs : List V) : atI (v :: xs) 0 = some v := atI_nat (j := 0) (by simp)
theorem tup_cases {K : PySem.W.Frag} {H : Hp} {xs : List V} {l : List Dt} (h : RepL K H xs l) : (l = [] ∧ xs = []) ∨ (∃ d x, l = [d] ∧ xs = [x] ∧ Rep K H x d) ∨
    (∃ d1 d2 x1 x2, l = [d1, d2] ∧ xs = [x1, x2] ∧ Rep K H x1 d1 ∧ Rep K H x2 d2) ∨
    (∃ d1 d2 d3 x1 x2 x3, l = [d1, d2, d3] ∧ xs = [x1, x2, x3] ∧ Rep K H x1 d1 ∧ Rep K H x2 d2 ∧ Rep K H x3 d3) ∨
    (∃ d1 d2 d3 d4 m x1 x2 x3 x4 ys, l = d1 :: d2 :: d3 :: d4 :: m ∧ xs = x1 :: x2 :: x3 :: x4 :: ys) := by
  cases h with
  | nil => exact .inl ⟨rfl, rfl⟩
  | cons r1 h =>
    cases h with
    | nil => exact .inr (.inl ⟨_, _, rfl, rfl, r1⟩)
    | cons r2 h =>
      cases h with
      | nil => exact .inr (.inr (.inl ⟨_, _, _, _, rfl, rfl, r1, r2⟩))
      | cons r3 h =>
        cases h with
        | nil => exact .inr (.inr (.inr (.inl ⟨_, _, _, _, _, _, rfl, rfl, r1, r2, r3⟩)))
        | cons r4 h => exact .inr (.inr (.inr (.inr ⟨_, _, _, _, _, _, _, _, _, _, rfl, rfl⟩)))
end
-- @SP is_integer (spIsInt K)
-- @SP is_plain_worth (spPlain K)
-- @SP is_worth (spWorth K)
-- @SP is_tuple_of (spTupOf K)
-- @SP is_name (spJ isName K)
-- @SP are_args (spJ areArgs K)
-- @SP is_ask (spJ isAsk K)
-- @SP is_answer (spJ isAnswer K)
-- @SP is_node (spJ isNode K)
-- @SP is_step (spJ isStep K)
-- @SP is_pair (spJ isPair K)
-- @SP is_row (spJ isRow K)
-- @SP fits (spFits K)
-- @SP _law_is_int (spIsInt K)
-- @SP _law_is_worth (spWorth K)
-- @SP _law_is_word (spWord K)
-- @SP _law_is_name (spJ isName K)
-- @SP _law_are_args (spJ areArgs K)
-- @SP _law_is_node (spJ isNode K)
-- @SP _law_is_ask (spJ isAsk K)
-- @SP _law_is_answer (spJ isAnswer K)
-- @SP _law_is_step (spJ isStep K)
-- @SP _law_is_pair (spJ isPair K)
-- @SP _law_is_row (spJ isRow K)
section
variable {P : Program} {w : World} {K : PySem.W.Frag} {mg : Str → Option Value} {base : Heap}
theorem ok_is_ask {f : Addr} {fd : FuncData} (F : Fun K "is_ask" "is_ask" s_is_ask f fd) (T : Txt K mg) (C_is_tuple_of : Cl P w K mg base 1 "is_tuple_of" (spTupOf K)) (C_is_name : Cl P w K mg base 1 "is_name" (spJ isName K)) (C_is_worth : Cl P w K mg base 3 "is_worth" (spWorth K)) (C_are_args : Cl P w K mg base 4 "are_args" (spJ areArgs K)) : FnOk P w K mg base CX0 5 f fd ["thing"] (spJ isAsk K) := by
  refine F.ok sc_is_ask (fun vs H Q E h => ?_) (fun cdv A outer s H vs Q E hr h => ?_)
  · obtain ⟨v, d, ⟨rfl, _⟩, _⟩ := h
    rfl
  · obtain ⟨v, d, ⟨rfl, r⟩, k⟩ := h
    refine ⟨_, (pss_cons (ps_if (pt_val (pe_cl C_is_tuple_of hr (by decide) (by rfl) (pa_cons (pv 0) (pa_cons pe_int pa_nil)))) (pss_one (ps_ret (pe_and (pe_callB (cIs (K := K) rfl) (by rfl) T.b_isinstance bt_isinstance (pa_cons (pe_ix (ixG (K := K) rfl) (pv 0) pe_int (fun _ _ => rfl)) (pa_cons (pe_bltn (v := .ty "str") (by rfl) T.b_str bt_str rfl) pa_nil))) (pe_and (pe_cmpR op_eq (pe_ix (ixG (K := K) rfl) (pv 0) pe_int (fun _ _ => rfl)) pe_str (nomark _)) (pe_one (pe_cl C_is_worth hr (by decide) (by rfl) (pa_cons (pe_ix (ixG (K := K) rfl) (pv 0) pe_int (fun _ _ => rfl)) pa_nil))))))) pss_nil) (pss_cons (ps_if (PW.pt (pw_or (pt_not (pt_val (pe_cl C_is_tuple_of hr (by decide) (by rfl) (pa_cons (pv 0) (pa_cons pe_int pa_nil))))) (pw_or (pt_not (pt_val (pe_callB (cIs (K := K) rfl) (by rfl) T.b_isinstance bt_isinstance (pa_cons (pe_ix (ixG (K := K) rfl) (pv 0) pe_int (fun _ _ => rfl)) (pa_cons (pe_bltn (v := .ty "str") (by rfl) T.b_str bt_str rfl) pa_nil))))) (pw_or1 (pt_cmpR op_ne (pe_ix (ixG (K := K) rfl) (pv 0) pe_int (fun _ _ => rfl)) pe_str (nomark _)))))) (pss_one (ps_ret pe_bl)) pss_nil) (pss_one (ps_ret (pe_and (pe_cl C_is_name hr (by decide) (by rfl) (pa_cons (pe_ix (ixG (K := K) rfl) (pv 0) pe_int (fun _ _ => rfl)) pa_nil)) (pe_one (pe_cl C_are_args hr (by decide) (by rfl) (pa_cons (pe_ix (ixG (K := K) rfl) (pv 0) pe_int (fun _ _ => rfl)) pa_nil)))))))), ?_⟩
    walk_at "nm"
    have r0 := r
    have fin : ∀ b, b = isAsk d → ∀ H', Ex [] H H' → Q (.bl b) H' := fun b e H' x => e ▸ k H' x
    clear k
    cases r with
    | tup h1 h2 =>
      rename_i a xs l
      rcases tup_cases h2 with ⟨rfl, rfl⟩ | ⟨d1, x1, rfl, rfl, r1⟩ | ⟨d1, d2, x1, x2, rfl, rfl, r1, r2⟩ | ⟨d1, d2, d3, x1, x2, x3, rfl, rfl, r1, r2, r3⟩ | ⟨d1, d2, d3, d4, m, x1, x2, x3, x4, ys, rfl, rfl⟩
      · walk_at "rd"
        exact fin false rfl _ (Ex.refl _ _)
      · walk_at "rd"
        exact fin false (by cases d1 <;> rfl) _ (Ex.refl _ _)
      · have r1' := r1
        cases r1
        all_goals
          repeat' (first | walk_at "rd1" | intro _ | (refine @ite2 _ _ _ _ (fun c => ?_) (fun c => ?_) <;> try exact absurd c Bool.false_ne_true) | (refine fin _ ?_ _ (by walk_at "ex")))
          all_goals (clear fin; simp_all [isAsk, isW])
      · have r1' := r1
        cases r1
        all_goals
          repeat' (first | walk_at "rd1" | intro _ | (refine @ite2 _ _ _ _ (fun c => ?_) (fun c => ?_) <;> try exact absurd c Bool.false_ne_true) | (refine fin _ ?_ _ (by walk_at "ex")))
          all_goals (clear fin; simp_all [isAsk, isW])
      · walk_at "rd"
        exact fin false (by cases d1 <;> rfl) _ (Ex.refl _ _)
    | _ =>
      walk_at "rd"
      exact fin false rfl _ (Ex.refl _ _)
end
section
variable {P : Program} {w : World} {K : PySem.W.Frag} {mg : Str → Option Value} {base : Heap}
theorem ok_is_answer {f : Addr} {fd : FuncData} (F : Fun K "is_answer" "is_answer" s_is_answer f fd) (T : Txt K mg) (C_is_tuple_of : Cl P w K mg base 1 "is_tuple_of" (spTupOf K)) (C_is_name : Cl P w K mg base 1 "is_name" (spJ isName K)) (C_is_worth : Cl P w K mg base 3 "is_worth" (spWorth K)) : FnOk P w K mg base CX0 4 f fd ["thing"] (spJ isAnswer K) := by
  refine F.ok sc_is_answer (fun vs H Q E h => ?_) (fun cdv A outer s H vs Q E hr h => ?_)
  · obtain ⟨v, d, ⟨rfl, _⟩, _⟩ := h
    rfl
  · obtain ⟨v, d, ⟨rfl, r⟩, k⟩ := h
    refine ⟨_, (pss_cons (ps_if (PW.pt (pw_or (pt_not (pt_val (pe_cl C_is_tuple_of hr (by decide) (by rfl) (pa_cons (pv 0) (pa_cons pe_int pa_nil))))) (pw_or1 (pt_not (pt_val (pe_callB (cIs (K := K) rfl) (by rfl) T.b_isinstance bt_isinstance (pa_cons (pe_ix (ixG (K := K) rfl) (pv 0) pe_int (fun _ _ => rfl)) (pa_cons (pe_bltn (v := .ty "str") (by rfl) T.b_str bt_str rfl) pa_nil)))))))) (pss_one (ps_ret pe_bl)) pss_nil) (pss_one (ps_ret (pe_or (pe_and (pe_cmpR op_eq (pe_ix (ixG (K := K) rfl) (pv 0) pe_int (fun _ _ => rfl)) pe_str (nomark _)) (pe_one (pe_cl C_is_worth hr (by decide) (by rfl) (pa_cons (pe_ix (ixG (K := K) rfl) (pv 0) pe_int (fun _ _ => rfl)) pa_nil)))) (pe_one (pe_and (pe_cmpR op_eq (pe_ix (ixG (K := K) rfl) (pv 0) pe_int (fun _ _ => rfl)) pe_str (nomark _)) (pe_one (pe_cl C_is_name hr (by decide) (by rfl) (pa_cons (pe_ix (ixG (K := K) rfl) (pv 0) pe_int (fun _ _ => rfl)) pa_nil))))))))), ?_⟩
    walk_at "nm"
    have r0 := r
    have fin : ∀ b, b = isAnswer d → ∀ H', Ex [] H H' → Q (.bl b) H' := fun b e H' x => e ▸ k H' x
    clear k
    cases r with
    | tup h1 h2 =>
      rename_i a xs l
      rcases tup_cases h2 with ⟨rfl, rfl⟩ | ⟨d1, x1, rfl, rfl, r1⟩ | ⟨d1, d2, x1, x2, rfl, rfl, r1, r2⟩ | ⟨d1, d2, d3, x1, x2, x3, rfl, rfl, r1, r2, r3⟩ | ⟨d1, d2, d3, d4, m, x1, x2, x3, x4, ys, rfl, rfl⟩
      · walk_at "rd"
        exact fin false rfl _ (Ex.refl _ _)
      · walk_at "rd"
        exact fin false (by cases d1 <;> rfl) _ (Ex.refl _ _)
      · have r1' := r1
        cases r1
        all_goals
          repeat' (first | walk_at "rd1" | intro _ | (refine @ite2 _ _ _ _ (fun c => ?_) (fun c => ?_) <;> try exact absurd c Bool.false_ne_true) | (refine fin _ ?_ _ (by walk_at "ex")))
          all_goals (clear fin; simp_all [isAnswer, isW])
      · skip
        repeat' (first | walk_at "rd1" | intro _ | (refine @ite2 _ _ _ _ (fun c => ?_) (fun c => ?_) <;> try exact absurd c Bool.false_ne_true) | (refine fin _ ?_ _ (by walk_at "ex")))
        all_goals (clear fin; simp_all [isAnswer, isW])
      · walk_at "rd"
        exact fin false (by cases d1 <;> rfl) _ (Ex.refl _ _)
    | _ =>
      walk_at "rd"
      exact fin false rfl _ (Ex.refl _ _)
end
section
variable {P : Program} {w : World} {K : PySem.W.Frag} {mg : Str → Option Value} {base : Heap}
theorem ok_is_node {f : Addr} {fd : FuncData} (F : Fun K "is_node" "is_node" s_is_node f fd) (T : Txt K mg) (C_is_tuple_of : Cl P w K mg base 1 "is_tuple_of" (spTupOf K)) (C_is_name : Cl P w K mg base 1 "is_name" (spJ isName K)) (C_are_args : Cl P w K mg base 4 "are_args" (spJ areArgs K)) : FnOk P w K mg base CX0 5 f fd ["thing"] (spJ isNode K) := by
  refine F.ok sc_is_node (fun vs H Q E h => ?_) (fun cdv A outer s H vs Q E hr h => ?_)
  · obtain ⟨v, d, ⟨rfl, _⟩, _⟩ := h
    rfl
  · obtain ⟨v, d, ⟨rfl, r⟩, k⟩ := h
    refine ⟨_, (pss_one (ps_ret (pe_and (pe_cl C_is_tuple_of hr (by decide) (by rfl) (pa_cons (pv 0) (pa_cons pe_int pa_nil))) (pe_and (pe_cl C_is_name hr (by decide) (by rfl) (pa_cons (pe_ix (ixG (K := K) rfl) (pv 0) pe_int (fun _ _ => rfl)) pa_nil)) (pe_one (pe_cl C_are_args hr (by decide) (by rfl) (pa_cons (pe_ix (ixG (K := K) rfl) (pv 0) pe_int (fun _ _ => rfl)) pa_nil))))))), ?_⟩
    walk_at "nm"
    have r0 := r
    have fin : ∀ b, b = isNode d → ∀ H', Ex [] H H' → Q (.bl b) H' := fun b e H' x => e ▸ k H' x
    clear k
    cases r with
    | tup h1 h2 =>
      rename_i a xs l
      rcases tup_cases h2 with ⟨rfl, rfl⟩ | ⟨d1, x1, rfl, rfl, r1⟩ | ⟨d1, d2, x1, x2, rfl, rfl, r1, r2⟩ | ⟨d1, d2, d3, x1, x2, x3, rfl, rfl, r1, r2, r3⟩ | ⟨d1, d2, d3, d4, m, x1, x2, x3, x4, ys, rfl, rfl⟩
      · walk_at "rd"
        exact fin false rfl _ (Ex.refl _ _)
      · walk_at "rd"
        exact fin false (by cases d1 <;> rfl) _ (Ex.refl _ _)
      · skip
        repeat' (first | walk_at "rd1" | intro _ | (refine @ite2 _ _ _ _ (fun c => ?_) (fun c => ?_) <;> try exact absurd c Bool.false_ne_true) | (refine fin _ ?_ _ (by walk_at "ex")))
        all_goals (clear fin; simp_all [isNode])
      · skip
        repeat' (first | walk_at "rd1" | intro _ | (refine @ite2 _ _ _ _ (fun c => ?_) (fun c => ?_) <;> try exact absurd c Bool.false_ne_true) | (refine fin _ ?_ _ (by walk_at "ex")))
        all_goals (clear fin; simp_all [isNode])
      · walk_at "rd"
        exact fin false (by cases d1 <;> rfl) _ (Ex.refl _ _)
    | _ =>
      walk_at "rd"
      exact fin false rfl _ (Ex.refl _ _)
theorem ok_is_step {f : Addr} {fd : FuncData} (F : Fun K "is_step" "is_step" s_is_step f fd) (T : Txt K mg) (C_is_tuple_of : Cl P w K mg base 1 "is_tuple_of" (spTupOf K)) (C_is_ask : Cl P w K mg base 5 "is_ask" (spJ isAsk K)) (C_is_answer : Cl P w K mg base 4 "is_answer" (spJ isAnswer K)) : FnOk P w K mg base CX0 6 f fd ["thing"] (spJ isStep K) := by
  refine F.ok sc_is_step (fun vs H Q E h => ?_) (fun cdv A outer s H vs Q E hr h => ?_)
  · obtain ⟨v, d, ⟨rfl, _⟩, _⟩ := h
    rfl
  · obtain ⟨v, d, ⟨rfl, r⟩, k⟩ := h
    refine ⟨_, (pss_cons (ps_if (PW.pt (pw_or (pt_not (pt_val (pe_cl C_is_tuple_of hr (by decide) (by rfl) (pa_cons (pv 0) (pa_cons pe_int pa_nil))))) (pw_or1 (pt_not (pt_val (pe_callB (cIs (K := K) rfl) (by rfl) T.b_isinstance bt_isinstance (pa_cons (pe_ix (ixG (K := K) rfl) (pv 0) pe_int (fun _ _ => rfl)) (pa_cons (pe_bltn (v := .ty "str") (by rfl) T.b_str bt_str rfl) pa_nil)))))))) (pss_one (ps_ret pe_bl)) pss_nil) (pss_one (ps_ret (pe_or (pe_and (pe_cmpR op_eq (pe_ix (ixG (K := K) rfl) (pv 0) pe_int (fun _ _ => rfl)) pe_str (nomark _)) (pe_one (pe_cl C_is_ask hr (by decide) (by rfl) (pa_cons (pe_ix (ixG (K := K) rfl) (pv 0) pe_int (fun _ _ => rfl)) pa_nil)))) (pe_one (pe_and (pe_cmpR op_eq (pe_ix (ixG (K := K) rfl) (pv 0) pe_int (fun _ _ => rfl)) pe_str (nomark _)) (pe_one (pe_cl C_is_answer hr (by decide) (by rfl) (pa_cons (pe_ix (ixG (K := K) rfl) (pv 0) pe_int (fun _ _ => rfl)) pa_nil))))))))), ?_⟩
    walk_at "nm"
    have r0 := r
    have fin : ∀ b, b = isStep d → ∀ H', Ex [] H H' → Q (.bl b) H' := fun b e H' x => e ▸ k H' x
    clear k
    cases r with
    | tup h1 h2 =>
      rename_i a xs l
      rcases tup_cases h2 with ⟨rfl, rfl⟩ | ⟨d1, x1, rfl, rfl, r1⟩ | ⟨d1, d2, x1, x2, rfl, rfl, r1, r2⟩ | ⟨d1, d2, d3, x1, x2, x3, rfl, rfl, r1, r2, r3⟩ | ⟨d1, d2, d3, d4, m, x1, x2, x3, x4, ys, rfl, rfl⟩
      · walk_at "rd"
        exact fin false rfl _ (Ex.refl _ _)
      · walk_at "rd"
        exact fin false (by cases d1 <;> rfl) _ (Ex.refl _ _)
      · have r1' := r1
        cases r1
        all_goals
          repeat' (first | walk_at "rd1" | intro _ | (refine @ite2 _ _ _ _ (fun c => ?_) (fun c => ?_) <;> try exact absurd c Bool.false_ne_true) | (refine fin _ ?_ _ (by walk_at "ex")))
          all_goals (clear fin; simp_all [isStep, isW])
      · skip
        repeat' (first | walk_at "rd1" | intro _ | (refine @ite2 _ _ _ _ (fun c => ?_) (fun c => ?_) <;> try exact absurd c Bool.false_ne_true) | (refine fin _ ?_ _ (by walk_at "ex")))
        all_goals (clear fin; simp_all [isStep, isW])
      · walk_at "rd"
        exact fin false (by cases d1 <;> rfl) _ (Ex.refl _ _)
    | _ =>
      walk_at "rd"
      exact fin false rfl _ (Ex.refl _ _)
end
section
variable {P : Program} {w : World} {K : PySem.W.Frag} {mg : Str → Option Value} {base : Heap}
theorem isAsk_shape {d : Dt} (h : isAsk d = true) : ∃ a l, d = .tup (.str a :: l) := by
  unfold isAsk at h
  split at h
  · exact ⟨_, _, rfl⟩
  · exact ⟨_, _, rfl⟩
  · exact nomatch h
theorem isAnswer_shape {d : Dt} (h : isAnswer d = true) : ∃ a l, d = .tup (.str a :: l) := by
  unfold isAnswer at h
  split at h
  · exact ⟨_, _, rfl⟩
  · exact nomatch h
theorem rep_word {H : Hp} {v : V} {a : Str} {l : List Dt} (r : Rep K H v (.tup (.str a :: l))) : ∃ p xs, v = .ref p ∧ SqT K H p (.str a :: xs) ∧ RepL K H xs l := by
  cases r with
  | tup h1 h2 =>
    cases h2 with
    | cons r1 h3 =>
      cases r1
      exact ⟨_, _, rfl, h1, h3⟩
theorem ok_fits {f : Addr} {fd : FuncData} (F : Fun K "fits" "fits" s_fits f fd) (T : Txt K mg)  : FnOk P w K mg base CX0 1 f fd ["ask", "answer"] (spFits K) := by
  refine F.ok sc_fits (fun vs H Q E h => ?_) (fun cdv A outer s H vs Q E hr h => ?_)
  · obtain ⟨v1, v2, a, b, l, m, ⟨rfl, _⟩, _⟩ := h
    rfl
  · obtain ⟨v1, v2, a, b, l, m, ⟨rfl, r1, r2⟩, k⟩ := h
    refine ⟨_, (pss_one (ps_ret (pe_or (pe_cmpR op_eq (pe_ix (ixG (K := K) rfl) (pv 0) pe_int (fun _ _ => rfl)) pe_str (nomark _)) (pe_one (pe_cmpR op_eq (pe_ix (ixG (K := K) rfl) (pv 1) pe_int (fun _ _ => rfl)) pe_str (nomark _)))))), ?_⟩
    walk_at "nm"
    obtain ⟨p, xs, rfl, h1, _⟩ := rep_word r1
    obtain ⟨q, ys, rfl, h2, _⟩ := rep_word r2
    have i1 := at0 (V.str a) xs
    have i2 := at0 (V.str b) ys
    walk_at "rd"
    refine @ite2 _ _ _ _ (fun c => ?_) (fun c => ?_)
    · have e : (isW a "call" || isW b "told") = true := by unfold isW; rw [c, Bool.true_or]
      rw [e] at k
      exact k
    · have e : (isW a "call" || isW b "told") = isW b "told" := by
        have e1 : isW a "call" = false := Bool.eq_false_iff.mpr c
        rw [e1, Bool.false_or]
      rw [e] at k
      walk_at "rd"
      exact k
theorem ok_is_pair {f : Addr} {fd : FuncData} (F : Fun K "is_pair" "is_pair" s_is_pair f fd) (T : Txt K mg) (C_is_tuple_of : Cl P w K mg base 1 "is_tuple_of" (spTupOf K)) (C_is_ask : Cl P w K mg base 5 "is_ask" (spJ isAsk K)) (C_is_answer : Cl P w K mg base 4 "is_answer" (spJ isAnswer K)) (C_fits : Cl P w K mg base 1 "fits" (spFits K)) : FnOk P w K mg base CX0 6 f fd ["thing"] (spJ isPair K) := by
  refine F.ok sc_is_pair (fun vs H Q E h => ?_) (fun cdv A outer s H vs Q E hr h => ?_)
  · obtain ⟨v, d, ⟨rfl, _⟩, _⟩ := h
    rfl
  · obtain ⟨v, d, ⟨rfl, r⟩, k⟩ := h
    refine ⟨_, (pss_one (ps_ret (pe_and (pe_cl C_is_tuple_of hr (by decide) (by rfl) (pa_cons (pv 0) (pa_cons pe_int pa_nil))) (pe_and (pe_cl C_is_ask hr (by decide) (by rfl) (pa_cons (pe_ix (ixG (K := K) rfl) (pv 0) pe_int (fun _ _ => rfl)) pa_nil)) (pe_and (pe_cl C_is_answer hr (by decide) (by rfl) (pa_cons (pe_ix (ixG (K := K) rfl) (pv 0) pe_int (fun _ _ => rfl)) pa_nil)) (pe_one (pe_cl C_fits hr (by decide) (by rfl) (pa_cons (pe_ix (ixG (K := K) rfl) (pv 0) pe_int (fun _ _ => rfl)) (pa_cons (pe_ix (ixG (K := K) rfl) (pv 0) pe_int (fun _ _ => rfl)) pa_nil))))))))), ?_⟩
    walk_at "nm"
    have r0 := r
    have fin : ∀ b, b = isPair d → ∀ H', Ex [] H H' → Q (.bl b) H' := fun b e H' x => e ▸ k H' x
    clear k
    cases r with
    | tup h1 h2 =>
      rename_i a xs l
      rcases tup_cases h2 with ⟨rfl, rfl⟩ | ⟨d1, x1, rfl, rfl, r1⟩ | ⟨d1, d2, x1, x2, rfl, rfl, r1, r2⟩ | ⟨d1, d2, d3, x1, x2, x3, rfl, rfl, r1, r2, r3⟩ | ⟨d1, d2, d3, d4, m, x1, x2, x3, x4, ys, rfl, rfl⟩
      · walk_at "rd"
        exact fin false rfl _ (Ex.refl _ _)
      · walk_at "rd"
        exact fin false rfl _ (Ex.refl _ _)
      · walk_at "rd"
        intro H1 e1
        walk_at "rd"
        refine @ite2 _ _ _ _ (fun c1 => ?_) (fun c1 => ?_)
        · obtain ⟨u, l, rfl⟩ := isAsk_shape c1
          walk_at "rd"
          intro H2 e2
          walk_at "rd"
          refine @ite2 _ _ _ _ (fun c2 => ?_) (fun c2 => ?_)
          · obtain ⟨t, m, rfl⟩ := isAnswer_shape c2
            walk_at "rd"
            refine fin _ ?_ _ (by walk_at "ex")
            show _ = (isAsk _ && (isAnswer _ && (isW u "call" || isW t "told")))
            rw [c1, c2, Bool.true_and, Bool.true_and]
          · refine fin false ?_ _ (by walk_at "ex")
            show _ = (isAsk _ && (isAnswer _ && _))
            rw [show isAnswer d2 = false from Bool.eq_false_iff.mpr c2, Bool.false_and, Bool.and_false]
        · refine fin false ?_ _ (by walk_at "ex")
          show _ = (isAsk _ && (isAnswer _ && _))
          rw [show isAsk d1 = false from Bool.eq_false_iff.mpr c1, Bool.false_and]
      · walk_at "rd"
        exact fin false rfl _ (Ex.refl _ _)
      · walk_at "rd"
        exact fin false rfl _ (Ex.refl _ _)
    | _ =>
      walk_at "rd"
      exact fin false rfl _ (Ex.refl _ _)
theorem ok_is_row {f : Addr} {fd : FuncData} (F : Fun K "is_row" "is_row" s_is_row f fd) (T : Txt K mg) (C_is_pair : Cl P w K mg base 6 "is_pair" (spJ isPair K)) : FnOk P w K mg base CX0 7 f fd ["thing"] (spJ isRow K) := by
  refine F.ok sc_is_row (fun vs H Q E h => ?_) (fun cdv A outer s H vs Q E hr h => ?_)
  · obtain ⟨v, d, ⟨rfl, _⟩, _⟩ := h
    rfl
  · obtain ⟨v, d, ⟨rfl, r⟩, k⟩ := h
    refine ⟨_, (pss_one (ps_ret (pe_and (pe_callB (cIs (K := K) rfl) (by rfl) T.b_isinstance bt_isinstance (pa_cons (pv 0) (pa_cons (pe_bltn (v := .ty "tuple") (by rfl) T.b_tuple bt_tuple rfl) pa_nil))) (pe_and (pe_cmpR oLe (pe_callB (cLen (K := K) rfl) (by rfl) T.b_len bt_len (pa_cons (pv 0) pa_nil)) (C8.pe_gc (by rfl) T.c_MOST_ASKS) (nomark _)) (pe_one (pe_callB (cAll (K := K) rfl rfl) (by rfl) T.b_all bt_all (pa_cons (pe_lc (own := [("one", 1)]) (g := gName 1) (tt := tYes) rfl sc_is_row.nd (pi_tup (pv 0)) (blkOk_by (N := n_is_row) (sc := defScope s_is_row) (by decide +kernel)) (fun _ _ _ _ _ => (pg_name (i := 1) sc_is_row.nd rfl (Or.inl rfl))) (fun _ _ _ _ _ => pts_nil) (fun _ _ _ _ _ => (pe_cl C_is_pair hr (by decide) (by rfl) (pa_cons (pv 1) pa_nil)))) pa_nil))))))), ?_⟩
    walk_at "nm"
    have r0 := r
    have fin : ∀ b, b = isRow d → ∀ H', Ex [] H H' → Q (.bl b) H' := fun b e H' x => e ▸ k H' x
    clear k
    cases r with
    | tup h1 h2 =>
      rename_i a xs l
      have e := h2.length
      walk_at "rd"
      refine @ite2 _ _ _ _ (fun c1 => ?_) (fun c1 => ?_)
      · replace c1 : ((xs.length : Nat) : Int) ≤ 300 := of_decide_eq_true c1
        refine all_judged (by rfl) (by show 1 < 2; decide) h1 h2 (by omega) fun H' e => ?_
        refine fin _ ?_ _ e
        show _ = (decide (l.length ≤ 300) && _)
        rw [decide_eq_true (show l.length ≤ 300 by omega), Bool.true_and]
      · refine fin false ?_ _ (Ex.refl _ _)
        show _ = (decide (l.length ≤ 300) && _)
        rw [decide_eq_false (show ¬ l.length ≤ 300 from fun q => c1 (decide_eq_true (by omega))), Bool.false_and]
    | _ =>
      walk_at "rd"
      exact fin false rfl _ (Ex.refl _ _)
end
def isWord (d : Dt) (n : Nat) (w : String) : Bool := match d with
  | .tup (.str a :: l) => decide (l.length + 1 = n) && isW a w
  | _ => false
def spWord (K : PySem.W.Frag) : Sp := fun vs H Q _ => ∃ v d n w, (vs = [v, .int ((n : Nat) : Int), .str (w : String)] ∧ 2 ≤ n ∧ Rep K H v d) ∧ Q (.bl (isWord d n w)) H
theorem isWord2 {d : Dt} {w : String} (h : isWord d 2 w = true) : ∃ a x, d = .tup [.str a, x] ∧ isW a w = true := by
  unfold isWord at h
  split at h
  · rename_i a l
    rw [Bool.and_eq_true] at h
    match l, of_decide_eq_true h.1 with
    | [x], _ => exact ⟨a, x, rfl, h.2⟩
  · exact nomatch h
theorem isWord3 {d : Dt} {w : String} (h : isWord d 3 w = true) : ∃ a x y, d = .tup [.str a, x, y] ∧ isW a w = true := by
  unfold isWord at h
  split at h
  · rename_i a l
    rw [Bool.and_eq_true] at h
    match l, of_decide_eq_true h.1 with
    | [x, y], _ => exact ⟨a, x, y, rfl, h.2⟩
  · exact nomatch h
theorem isW_other {a : Str} {u w : String} (h : isW a u = true) (n : V.str (u : Str) ≠ V.str (w : Str)) : isW a w = false := by
  unfold isW at *
  replace h := of_decide_eq_true h
  rw [h]
  exact decide_eq_false n
section
variable {P : Program} {w : World} {K : PySem.W.Frag} {mg : Str → Option Value} {base : Heap}
theorem ok_law_is_word {f : Addr} {fd : FuncData} (F : Fun K "_law_is_word" "_law_is_word" s_law_is_word f fd) (T : Txt K mg)  : FnOk P w K mg base CX0 1 f fd ["thing", "size", "word"] (spWord K) := by
  refine F.ok sc_law_is_word (fun vs H Q E h => ?_) (fun cdv A outer s H vs Q E hr h => ?_)
  · obtain ⟨v, d, n, w, ⟨rfl, _⟩, _⟩ := h
    rfl
  · obtain ⟨v, d, n, w, ⟨rfl, hn, r⟩, k⟩ := h
    refine ⟨_, (pss_one (ps_ret (pe_and (pe_callB (cIs (K := K) rfl) (by rfl) T.b_isinstance bt_isinstance (pa_cons (pv 0) (pa_cons (pe_bltn (v := .ty "tuple") (by rfl) T.b_tuple bt_tuple rfl) pa_nil))) (pe_and (pe_cmpR op_eq (pe_callB (cLen (K := K) rfl) (by rfl) T.b_len bt_len (pa_cons (pv 0) pa_nil)) (pv 1) (nomark _)) (pe_and (pe_callB (cIs (K := K) rfl) (by rfl) T.b_isinstance bt_isinstance (pa_cons (pe_ix (ixG (K := K) rfl) (pv 0) pe_int (fun _ _ => rfl)) (pa_cons (pe_bltn (v := .ty "str") (by rfl) T.b_str bt_str rfl) pa_nil))) (pe_one (pe_cmpR op_eq (pe_ix (ixG (K := K) rfl) (pv 0) pe_int (fun _ _ => rfl)) (pv 2) (nomark _)))))))), ?_⟩
    walk_at "nm"
    have r0 := r
    have fin : ∀ b, b = isWord d n w → Q (.bl b) H := fun b e => e ▸ k
    clear k
    cases r with
    | tup h1 h2 =>
      rename_i a xs l
      walk_at "rd"
      refine @ite2 _ _ _ _ (fun c1 => ?_) (fun c1 => ?_)
      · cases h2 with
        | nil =>
          replace c1 := of_decide_eq_true c1
          rw [V.int.injEq] at c1
          simp only [List.length_nil] at c1
          omega
        | cons r1 h3 =>
          rename_i v1 d1 vs l
          have i1 := at0 v1 vs
          have r1' := r1
          cases r1 with
          | str z hz =>
            walk_at "rd"
            refine fin _ ?_
            show _ = (decide (l.length + 1 = n) && isW z w)
            replace c1 := of_decide_eq_true c1
            rw [V.int.injEq] at c1
            have e := h3.length
            simp only [List.length_cons] at c1
            rw [decide_eq_true (show l.length + 1 = n by omega), Bool.true_and]
            rfl
          | _ =>
            walk_at "rd"
            exact fin false rfl
      · refine fin false ?_
        have e := h2.length
        replace c1 : ¬ xs.length = n := fun z => c1 (decide_eq_true (by rw [z]))
        cases h2 with
        | nil => rfl
        | cons r1 h3 =>
          cases r1 with
          | str z hz =>
            rename_i l
            simp only [List.length_cons] at e c1
            show _ = (decide (l.length + 1 = n) && _)
            rw [decide_eq_false (show ¬ l.length + 1 = n by omega), Bool.false_and]
          | _ => rfl
    | _ =>
      walk_at "rd"
      exact fin false rfl
theorem ok_law_is_name {f : Addr} {fd : FuncData} (F : Fun K "_law_is_name" "_law_is_name" s_law_is_name f fd) (T : Txt K mg)  : FnOk P w K mg base CX0 1 f fd ["thing"] (spJ isName K) := by
  refine F.ok sc_law_is_name (fun vs H Q E h => ?_) (fun cdv A outer s H vs Q E hr h => ?_)
  · obtain ⟨v, d, ⟨rfl, _⟩, _⟩ := h
    rfl
  · obtain ⟨v, d, ⟨rfl, r⟩, k⟩ := h
    refine ⟨_, (pss_one (ps_ret (pe_and (pe_callB (cIs (K := K) rfl) (by rfl) T.b_isinstance bt_isinstance (pa_cons (pv 0) (pa_cons (pe_bltn (v := .ty "str") (by rfl) T.b_str bt_str rfl) pa_nil))) (pe_and (pe_chain oLe oLe pe_int (pe_callB (cLen (K := K) rfl) (by rfl) T.b_len bt_len (pa_cons (pv 0) pa_nil)) pe_int) (pe_one (pe_callB (cAll (K := K) rfl rfl) (by rfl) T.b_all bt_all (pa_cons (pe_lc (own := [("sign", 1)]) (g := gName 1) (tt := tYes) rfl sc_law_is_name.nd (pi_str (pv 0)) (blkOk_by (N := n_law_is_name) (sc := defScope s_law_is_name) (by decide +kernel)) (fun _ _ _ _ _ => (pg_name (i := 1) sc_law_is_name.nd rfl (Or.inl rfl))) (fun _ _ _ _ _ => pts_nil) (fun _ _ _ _ _ => (pe_chain oLe oLe pe_str (pv 1) pe_str))) pa_nil))))))), ?_⟩
    walk_at "nm"
    have r0 := r
    cases r with
    | str z h1 =>
      have fin : ∀ b, b = isName (.str z) → ∀ H', Ex [] H H' → Q (.bl b) H' := fun b e H' x => e ▸ k H' x
      walk_at "rd"
      refine @ite2 _ _ _ _ (fun c1 => ?_) (fun c1 => ?_)
      · replace c1 : 1 ≤ ((z.length : Nat) : Int) := of_decide_eq_true c1
        walk_at "rd"
        refine @ite2 _ _ _ _ (fun c2 => ?_) (fun c2 => ?_)
        · replace c2 : ((z.length : Nat) : Int) ≤ 12 := of_decide_eq_true c2
          refine all_signs (z := z) (a := 97) (b := 122) rfl (by show 1 < 2; decide) (by decide +kernel) (by decide +kernel) (by omega) fun H' e => ?_
          refine fin _ ?_ _ e
          show _ = (decide (1 ≤ z.length) && (decide (z.length ≤ 12) && _))
          rw [decide_eq_true (show 1 ≤ z.length by omega), decide_eq_true (show z.length ≤ 12 by omega), Bool.true_and, Bool.true_and]
        · refine fin false ?_ _ (Ex.refl _ _)
          show _ = (decide (1 ≤ z.length) && (decide (z.length ≤ 12) && _))
          rw [decide_eq_false (show ¬ z.length ≤ 12 from fun q => c2 (decide_eq_true (by omega))), Bool.false_and, Bool.and_false]
      · walk_at "rd"
        refine fin false ?_ _ (Ex.refl _ _)
        show _ = (decide (1 ≤ z.length) && (decide (z.length ≤ 12) && _))
        rw [decide_eq_false (show ¬ 1 ≤ z.length from fun q => c1 (decide_eq_true (by omega))), Bool.false_and]
    | _ => 
      walk_at "rd"
      exact k _ (Ex.refl _ _)
theorem ok_law_are_args {f : Addr} {fd : FuncData} (F : Fun K "_law_are_args" "_law_are_args" s_law_are_args f fd) (T : Txt K mg) (C_law_is_worth : Cl P w K mg base 2 "_law_is_worth" (spWorth K)) : FnOk P w K mg base CX0 3 f fd ["thing"] (spJ areArgs K) := by
  refine F.ok sc_law_are_args (fun vs H Q E h => ?_) (fun cdv A outer s H vs Q E hr h => ?_)
  · obtain ⟨v, d, ⟨rfl, _⟩, _⟩ := h
    rfl
  · obtain ⟨v, d, ⟨rfl, r⟩, k⟩ := h
    refine ⟨_, (pss_one (ps_ret (pe_and (pe_callB (cIs (K := K) rfl) (by rfl) T.b_isinstance bt_isinstance (pa_cons (pv 0) (pa_cons (pe_bltn (v := .ty "tuple") (by rfl) T.b_tuple bt_tuple rfl) pa_nil))) (pe_and (pe_cmpR oLe (pe_callB (cLen (K := K) rfl) (by rfl) T.b_len bt_len (pa_cons (pv 0) pa_nil)) pe_int (nomark _)) (pe_one (pe_callB (cAll (K := K) rfl rfl) (by rfl) T.b_all bt_all (pa_cons (pe_lc (own := [("one", 1)]) (g := gName 1) (tt := tYes) rfl sc_law_are_args.nd (pi_tup (pv 0)) (blkOk_by (N := n_law_are_args) (sc := defScope s_law_are_args) (by decide +kernel)) (fun _ _ _ _ _ => (pg_name (i := 1) sc_law_are_args.nd rfl (Or.inl rfl))) (fun _ _ _ _ _ => pts_nil) (fun _ _ _ _ _ => (pe_cl C_law_is_worth hr (by decide) (by rfl) (pa_cons (pv 1) pa_nil)))) pa_nil))))))), ?_⟩
    walk_at "nm"
    have r0 := r
    have fin : ∀ b, b = areArgs d → ∀ H', Ex [] H H' → Q (.bl b) H' := fun b e H' x => e ▸ k H' x
    clear k
    cases r with
    | tup h1 h2 =>
      rename_i a xs l
      have e := h2.length
      walk_at "rd"
      refine @ite2 _ _ _ _ (fun c1 => ?_) (fun c1 => ?_)
      · replace c1 : ((xs.length : Nat) : Int) ≤ 6 := of_decide_eq_true c1
        refine all_judged (by rfl) (by show 1 < 2; decide) h1 h2 (by omega) fun H' e => ?_
        refine fin _ ?_ _ e
        show _ = (decide (l.length ≤ 6) && _)
        rw [decide_eq_true (show l.length ≤ 6 by omega), Bool.true_and]
      · refine fin false ?_ _ (Ex.refl _ _)
        show _ = (decide (l.length ≤ 6) && _)
        rw [decide_eq_false (show ¬ l.length ≤ 6 from fun q => c1 (decide_eq_true (by omega))), Bool.false_and]
    | _ =>
      walk_at "rd"
      exact fin false rfl _ (Ex.refl _ _)
end
section
variable {P : Program} {w : World} {K : PySem.W.Frag} {mg : Str → Option Value} {base : Heap}
theorem rep_w2 {H : Hp} {v : V} {a : Str} {x : Dt} (r : Rep K H v (.tup [.str a, x])) : ∃ p y, v = .ref p ∧ SqT K H p [.str a, y] ∧ Rep K H y x := by
  obtain ⟨p, xs, rfl, h1, h2⟩ := rep_word r
  cases h2 with
  | cons r1 h3 =>
    cases h3
    exact ⟨_, _, rfl, h1, r1⟩
theorem rep_w3 {H : Hp} {v : V} {a : Str} {x z : Dt} (r : Rep K H v (.tup [.str a, x, z])) : ∃ p y u, v = .ref p ∧ SqT K H p [.str a, y, u] ∧ Rep K H y x ∧ Rep K H u z := by
  obtain ⟨p, xs, rfl, h1, h2⟩ := rep_word r
  cases h2 with
  | cons r1 h3 =>
    cases h3 with
    | cons r2 h4 =>
      cases h4
      exact ⟨_, _, _, rfl, h1, r1, r2⟩
theorem cell_call {a : Str} (h : isW a "cell" = true) : isW a "call" = false := isW_other h (by decide +kernel)
theorem told_fault {a : Str} (h : isW a "told" = true) : isW a "fault" = false := isW_other h (by decide +kernel)
theorem ask_end {a : Str} (h : isW a "ask" = true) : isW a "end" = false := isW_other h (by decide +kernel)
theorem ok_law_is_ask {f : Addr} {fd : FuncData} (F : Fun K "_law_is_ask" "_law_is_ask" s_law_is_ask f fd) (T : Txt K mg) (C_law_is_worth : Cl P w K mg base 2 "_law_is_worth" (spWorth K)) (C_law_is_name : Cl P w K mg base 1 "_law_is_name" (spJ isName K)) (C_law_are_args : Cl P w K mg base 3 "_law_are_args" (spJ areArgs K)) (C_law_is_word : Cl P w K mg base 1 "_law_is_word" (spWord K)) : FnOk P w K mg base CX0 4 f fd ["thing"] (spJ isAsk K) := by
  refine F.ok sc_law_is_ask (fun vs H Q E h => ?_) (fun cdv A outer s H vs Q E hr h => ?_)
  · obtain ⟨v, d, ⟨rfl, _⟩, _⟩ := h
    rfl
  · obtain ⟨v, d, ⟨rfl, r⟩, k⟩ := h
    refine ⟨_, (pss_cons (ps_if (pt_val (pe_cl C_law_is_word hr (by decide) (by rfl) (pa_cons (pv 0) (pa_cons pe_int (pa_cons pe_str pa_nil))))) (pss_one (ps_ret (pe_cl C_law_is_worth hr (by decide) (by rfl) (pa_cons (pe_ix (ixG (K := K) rfl) (pv 0) pe_int (fun _ _ => rfl)) pa_nil)))) pss_nil) (pss_one (ps_ret (pe_and (pe_cl C_law_is_word hr (by decide) (by rfl) (pa_cons (pv 0) (pa_cons pe_int (pa_cons pe_str pa_nil)))) (pe_and (pe_cl C_law_is_name hr (by decide) (by rfl) (pa_cons (pe_ix (ixG (K := K) rfl) (pv 0) pe_int (fun _ _ => rfl)) pa_nil)) (pe_one (pe_cl C_law_are_args hr (by decide) (by rfl) (pa_cons (pe_ix (ixG (K := K) rfl) (pv 0) pe_int (fun _ _ => rfl)) pa_nil)))))))), ?_⟩
    walk_at "nm"
    have r0 := r
    have fin : ∀ b, b = isAsk d → ∀ H', Ex [] H H' → Q (.bl b) H' := fun b e H' x => e ▸ k H' x
    clear k
    walk_at "rd"
    refine @ite2 _ _ _ _ (fun c1 => ?_) (fun c1 => ?_)
    · obtain ⟨u, x, rfl, hu⟩ := isWord2 c1
      obtain ⟨q, y, rfl, h1, r1⟩ := rep_w2 r
      walk_at "rd"
      intro H1 e1
      refine fin _ ?_ _ e1
      show _ = (isW u "cell" && isWorth x)
      rw [hu, Bool.true_and]
    · walk_at "rd"
      refine @ite2 _ _ _ _ (fun c2 => ?_) (fun c2 => ?_)
      · obtain ⟨u, x, z, rfl, hu⟩ := isWord3 c2
        obtain ⟨q, y, t, rfl, h1, r1, r2⟩ := rep_w3 r
        walk_at "rd"
        intro H1 e1
        walk_at "rd"
        refine @ite2 _ _ _ _ (fun c3 => ?_) (fun c3 => ?_)
        · walk_at "rd"
          intro H2 e2
          refine fin _ ?_ _ (by walk_at "ex")
          show _ = (isW u "call" && (isName x && areArgs z))
          rw [hu, c3, Bool.true_and, Bool.true_and]
        · refine fin false ?_ _ (by walk_at "ex")
          show _ = (isW u "call" && (isName x && areArgs z))
          rw [hu, show isName x = false from Bool.eq_false_iff.mpr c3, Bool.true_and, Bool.false_and]
      · refine fin false ?_ _ (Ex.refl _ _)
        unfold isAsk
        split
        · rename_i u x
          have e1 : (decide (1 + 1 = 2) && isW u "cell") ≠ true := c1
          have e1 : isW u "cell" = false := by simpa using e1
          rw [e1, Bool.false_and]
        · rename_i u x z
          have e2 : (decide (2 + 1 = 3) && isW u "call") ≠ true := c2
          have e2 : isW u "call" = false := by simpa using e2
          rw [e2, Bool.false_and]
        · rfl
theorem ok_law_is_answer {f : Addr} {fd : FuncData} (F : Fun K "_law_is_answer" "_law_is_answer" s_law_is_answer f fd) (T : Txt K mg) (C_law_is_worth : Cl P w K mg base 2 "_law_is_worth" (spWorth K)) (C_law_is_name : Cl P w K mg base 1 "_law_is_name" (spJ isName K)) (C_law_is_word : Cl P w K mg base 1 "_law_is_word" (spWord K)) : FnOk P w K mg base CX0 3 f fd ["thing"] (spJ isAnswer K) := by
  refine F.ok sc_law_is_answer (fun vs H Q E h => ?_) (fun cdv A outer s H vs Q E hr h => ?_)
  · obtain ⟨v, d, ⟨rfl, _⟩, _⟩ := h
    rfl
  · obtain ⟨v, d, ⟨rfl, r⟩, k⟩ := h
    refine ⟨_, (pss_cons (ps_if (pt_val (pe_cl C_law_is_word hr (by decide) (by rfl) (pa_cons (pv 0) (pa_cons pe_int (pa_cons pe_str pa_nil))))) (pss_one (ps_ret (pe_cl C_law_is_worth hr (by decide) (by rfl) (pa_cons (pe_ix (ixG (K := K) rfl) (pv 0) pe_int (fun _ _ => rfl)) pa_nil)))) pss_nil) (pss_one (ps_ret (pe_and (pe_cl C_law_is_word hr (by decide) (by rfl) (pa_cons (pv 0) (pa_cons pe_int (pa_cons pe_str pa_nil)))) (pe_one (pe_cl C_law_is_name hr (by decide) (by rfl) (pa_cons (pe_ix (ixG (K := K) rfl) (pv 0) pe_int (fun _ _ => rfl)) pa_nil))))))), ?_⟩
    walk_at "nm"
    have r0 := r
    have fin : ∀ b, b = isAnswer d → ∀ H', Ex [] H H' → Q (.bl b) H' := fun b e H' x => e ▸ k H' x
    clear k
    walk_at "rd"
    refine @ite2 _ _ _ _ (fun c1 => ?_) (fun c1 => ?_)
    · obtain ⟨u, x, rfl, hu⟩ := isWord2 c1
      obtain ⟨q, y, rfl, h1, r1⟩ := rep_w2 r
      walk_at "rd"
      intro H1 e1
      refine fin _ ?_ _ e1
      show _ = ((isW u "told" && isWorth x) || (isW u "fault" && isName x))
      rw [hu, told_fault hu, Bool.true_and, Bool.false_and, Bool.or_false]
    · walk_at "rd"
      refine @ite2 _ _ _ _ (fun c2 => ?_) (fun c2 => ?_)
      · obtain ⟨u, x, rfl, hu⟩ := isWord2 c2
        obtain ⟨q, y, rfl, h1, r1⟩ := rep_w2 r
        walk_at "rd"
        intro H1 e1
        refine fin _ ?_ _ e1
        show _ = ((isW u "told" && isWorth x) || (isW u "fault" && isName x))
        have e2 : isW u "told" = false := by
          have : (decide (1 + 1 = 2) && isW u "told") ≠ true := c1
          simpa using this
        rw [hu, e2, Bool.true_and, Bool.false_and, Bool.false_or]
      · refine fin false ?_ _ (Ex.refl _ _)
        unfold isAnswer
        split
        · rename_i u x
          have e1 : (decide (1 + 1 = 2) && isW u "told") ≠ true := c1
          have e2 : (decide (1 + 1 = 2) && isW u "fault") ≠ true := c2
          have e1 : isW u "told" = false := by simpa using e1
          have e2 : isW u "fault" = false := by simpa using e2
          rw [e1, e2, Bool.false_and, Bool.false_and, Bool.or_false]
        · rfl
theorem ok_law_is_node {f : Addr} {fd : FuncData} (F : Fun K "_law_is_node" "_law_is_node" s_law_is_node f fd) (T : Txt K mg) (C_law_is_name : Cl P w K mg base 1 "_law_is_name" (spJ isName K)) (C_law_are_args : Cl P w K mg base 3 "_law_are_args" (spJ areArgs K)) : FnOk P w K mg base CX0 4 f fd ["thing"] (spJ isNode K) := by
  refine F.ok sc_law_is_node (fun vs H Q E h => ?_) (fun cdv A outer s H vs Q E hr h => ?_)
  · obtain ⟨v, d, ⟨rfl, _⟩, _⟩ := h
    rfl
  · obtain ⟨v, d, ⟨rfl, r⟩, k⟩ := h
    refine ⟨_, (pss_one (ps_ret (pe_and (pe_callB (cIs (K := K) rfl) (by rfl) T.b_isinstance bt_isinstance (pa_cons (pv 0) (pa_cons (pe_bltn (v := .ty "tuple") (by rfl) T.b_tuple bt_tuple rfl) pa_nil))) (pe_and (pe_cmpR op_eq (pe_callB (cLen (K := K) rfl) (by rfl) T.b_len bt_len (pa_cons (pv 0) pa_nil)) pe_int (nomark _)) (pe_and (pe_cl C_law_is_name hr (by decide) (by rfl) (pa_cons (pe_ix (ixG (K := K) rfl) (pv 0) pe_int (fun _ _ => rfl)) pa_nil)) (pe_one (pe_cl C_law_are_args hr (by decide) (by rfl) (pa_cons (pe_ix (ixG (K := K) rfl) (pv 0) pe_int (fun _ _ => rfl)) pa_nil)))))))), ?_⟩
    walk_at "nm"
    have r0 := r
    have fin : ∀ b, b = isNode d → ∀ H', Ex [] H H' → Q (.bl b) H' := fun b e H' x => e ▸ k H' x
    clear k
    cases r with
    | tup h1 h2 =>
      rename_i a xs l
      rcases tup_cases h2 with ⟨rfl, rfl⟩ | ⟨d1, x1, rfl, rfl, r1⟩ | ⟨d1, d2, x1, x2, rfl, rfl, r1, r2⟩ | ⟨d1, d2, d3, x1, x2, x3, rfl, rfl, r1, r2, r3⟩ | ⟨d1, d2, d3, d4, m, x1, x2, x3, x4, ys, rfl, rfl⟩
      · walk_at "rd"
        exact fin false rfl _ (Ex.refl _ _)
      · walk_at "rd"
        exact fin false rfl _ (Ex.refl _ _)
      · walk_at "rd"
        intro H1 e1
        walk_at "rd"
        refine @ite2 _ _ _ _ (fun c1 => ?_) (fun c1 => ?_)
        · walk_at "rd"
          intro H2 e2
          refine fin _ ?_ _ (by walk_at "ex")
          show _ = (isName d1 && areArgs d2)
          rw [c1, Bool.true_and]
        · refine fin false ?_ _ (by walk_at "ex")
          show _ = (isName d1 && areArgs d2)
          rw [show isName d1 = false from Bool.eq_false_iff.mpr c1, Bool.false_and]
      · walk_at "rd"
        exact fin false rfl _ (Ex.refl _ _)
      · walk_at "rd"
        refine @ite2 _ _ _ _ (fun c1 => ?_) (fun c1 => ?_)
        · replace c1 := of_decide_eq_true c1
          rw [V.int.injEq] at c1
          simp only [List.length_cons] at c1
          omega
        · exact fin false rfl _ (Ex.refl _ _)
    | _ =>
      walk_at "rd"
      exact fin false rfl _ (Ex.refl _ _)
theorem ok_law_is_step {f : Addr} {fd : FuncData} (F : Fun K "_law_is_step" "_law_is_step" s_law_is_step f fd) (T : Txt K mg) (C_law_is_word : Cl P w K mg base 1 "_law_is_word" (spWord K)) (C_law_is_ask : Cl P w K mg base 4 "_law_is_ask" (spJ isAsk K)) (C_law_is_answer : Cl P w K mg base 3 "_law_is_answer" (spJ isAnswer K)) : FnOk P w K mg base CX0 5 f fd ["thing"] (spJ isStep K) := by
  refine F.ok sc_law_is_step (fun vs H Q E h => ?_) (fun cdv A outer s H vs Q E hr h => ?_)
  · obtain ⟨v, d, ⟨rfl, _⟩, _⟩ := h
    rfl
  · obtain ⟨v, d, ⟨rfl, r⟩, k⟩ := h
    refine ⟨_, (pss_cons (ps_if (pt_val (pe_cl C_law_is_word hr (by decide) (by rfl) (pa_cons (pv 0) (pa_cons pe_int (pa_cons pe_str pa_nil))))) (pss_one (ps_ret (pe_cl C_law_is_ask hr (by decide) (by rfl) (pa_cons (pe_ix (ixG (K := K) rfl) (pv 0) pe_int (fun _ _ => rfl)) pa_nil)))) pss_nil) (pss_one (ps_ret (pe_and (pe_cl C_law_is_word hr (by decide) (by rfl) (pa_cons (pv 0) (pa_cons pe_int (pa_cons pe_str pa_nil)))) (pe_one (pe_cl C_law_is_answer hr (by decide) (by rfl) (pa_cons (pe_ix (ixG (K := K) rfl) (pv 0) pe_int (fun _ _ => rfl)) pa_nil))))))), ?_⟩
    walk_at "nm"
    have r0 := r
    have fin : ∀ b, b = isStep d → ∀ H', Ex [] H H' → Q (.bl b) H' := fun b e H' x => e ▸ k H' x
    clear k
    walk_at "rd"
    refine @ite2 _ _ _ _ (fun c1 => ?_) (fun c1 => ?_)
    · obtain ⟨u, x, rfl, hu⟩ := isWord2 c1
      obtain ⟨q, y, rfl, h1, r1⟩ := rep_w2 r
      walk_at "rd"
      intro H1 e1
      refine fin _ ?_ _ e1
      show _ = ((isW u "ask" && isAsk x) || (isW u "end" && isAnswer x))
      rw [hu, ask_end hu, Bool.true_and, Bool.false_and, Bool.or_false]
    · walk_at "rd"
      refine @ite2 _ _ _ _ (fun c2 => ?_) (fun c2 => ?_)
      · obtain ⟨u, x, rfl, hu⟩ := isWord2 c2
        obtain ⟨q, y, rfl, h1, r1⟩ := rep_w2 r
        walk_at "rd"
        intro H1 e1
        refine fin _ ?_ _ e1
        show _ = ((isW u "ask" && isAsk x) || (isW u "end" && isAnswer x))
        have e2 : isW u "ask" = false := by
          have : (decide (1 + 1 = 2) && isW u "ask") ≠ true := c1
          simpa using this
        rw [hu, e2, Bool.true_and, Bool.false_and, Bool.false_or]
      · refine fin false ?_ _ (Ex.refl _ _)
        unfold isStep
        split
        · rename_i u x
          have e1 : (decide (1 + 1 = 2) && isW u "ask") ≠ true := c1
          have e2 : (decide (1 + 1 = 2) && isW u "end") ≠ true := c2
          have e1 : isW u "ask" = false := by simpa using e1
          have e2 : isW u "end" = false := by simpa using e2
          rw [e1, e2, Bool.false_and, Bool.false_and, Bool.or_false]
        · rfl
theorem ok_law_is_pair {f : Addr} {fd : FuncData} (F : Fun K "_law_is_pair" "_law_is_pair" s_law_is_pair f fd) (T : Txt K mg) (C_law_is_ask : Cl P w K mg base 4 "_law_is_ask" (spJ isAsk K)) (C_law_is_answer : Cl P w K mg base 3 "_law_is_answer" (spJ isAnswer K)) : FnOk P w K mg base CX0 5 f fd ["thing"] (spJ isPair K) := by
  refine F.ok sc_law_is_pair (fun vs H Q E h => ?_) (fun cdv A outer s H vs Q E hr h => ?_)
  · obtain ⟨v, d, ⟨rfl, _⟩, _⟩ := h
    rfl
  · obtain ⟨v, d, ⟨rfl, r⟩, k⟩ := h
    refine ⟨_, (pss_cons (ps_if (PW.pt (pw_or (pt_not (pt_val (pe_callB (cIs (K := K) rfl) (by rfl) T.b_isinstance bt_isinstance (pa_cons (pv 0) (pa_cons (pe_bltn (v := .ty "tuple") (by rfl) T.b_tuple bt_tuple rfl) pa_nil))))) (pw_or (pt_cmpR op_ne (pe_callB (cLen (K := K) rfl) (by rfl) T.b_len bt_len (pa_cons (pv 0) pa_nil)) pe_int (nomark _)) (pw_or (pt_not (pt_val (pe_cl C_law_is_ask hr (by decide) (by rfl) (pa_cons (pe_ix (ixG (K := K) rfl) (pv 0) pe_int (fun _ _ => rfl)) pa_nil)))) (pw_or1 (pt_not (pt_val (pe_cl C_law_is_answer hr (by decide) (by rfl) (pa_cons (pe_ix (ixG (K := K) rfl) (pv 0) pe_int (fun _ _ => rfl)) pa_nil))))))))) (pss_one (ps_ret pe_bl)) pss_nil) (pss_one (ps_ret (pe_or (pe_cmpR op_eq (pe_ix (ixG (K := K) rfl) (pe_ix (ixG (K := K) rfl) (pv 0) pe_int (fun _ _ => rfl)) pe_int (fun _ _ => rfl)) pe_str (nomark _)) (pe_one (pe_cmpR op_eq (pe_ix (ixG (K := K) rfl) (pe_ix (ixG (K := K) rfl) (pv 0) pe_int (fun _ _ => rfl)) pe_int (fun _ _ => rfl)) pe_str (nomark _))))))), ?_⟩
    walk_at "nm"
    have r0 := r
    have fin : ∀ b, b = isPair d → ∀ H', Ex [] H H' → Q (.bl b) H' := fun b e H' x => e ▸ k H' x
    clear k
    cases r with
    | tup h1 h2 =>
      rename_i a xs l
      rcases tup_cases h2 with ⟨rfl, rfl⟩ | ⟨d1, x1, rfl, rfl, r1⟩ | ⟨d1, d2, x1, x2, rfl, rfl, r1, r2⟩ | ⟨d1, d2, d3, x1, x2, x3, rfl, rfl, r1, r2, r3⟩ | ⟨d1, d2, d3, d4, m, x1, x2, x3, x4, ys, rfl, rfl⟩
      · walk_at "rd"
        exact fin false rfl _ (Ex.refl _ _)
      · walk_at "rd"
        exact fin false rfl _ (Ex.refl _ _)
      · walk_at "rd"
        intro H1 e1
        walk_at "rd"
        refine @ite2 _ _ _ _ (fun c1 => ?_) (fun c1 => ?_)
        · refine fin false ?_ _ (by walk_at "ex")
          replace c1 : isAsk d1 = false := by simpa using c1
          show _ = (isAsk _ && (isAnswer _ && _))
          rw [c1, Bool.false_and]
        · replace c1 : isAsk d1 = true := by simpa using c1
          obtain ⟨u, l, rfl⟩ := isAsk_shape c1
          walk_at "rd"
          intro H2 e2
          walk_at "rd"
          refine @ite2 _ _ _ _ (fun c2 => ?_) (fun c2 => ?_)
          · refine fin false ?_ _ (by walk_at "ex")
            replace c2 : isAnswer d2 = false := by simpa using c2
            show _ = (isAsk _ && (isAnswer _ && _))
            rw [c2, Bool.false_and, Bool.and_false]
          · replace c2 : isAnswer d2 = true := by simpa using c2
            obtain ⟨t, m, rfl⟩ := isAnswer_shape c2
            obtain ⟨p1, xs1, rfl, h11, _⟩ := rep_word r1
            obtain ⟨p2, xs2, rfl, h12, _⟩ := rep_word r2
            have i1 := at0 (V.str u) xs1
            have i2 := at0 (V.str t) xs2
            have fin2 : ∀ b, b = (isW u "call" || isW t "told") → ∀ H', Ex [] H H' → Q (.bl b) H' := fun b e H' x => fin b (by
              rw [e]
              show _ = (isAsk _ && (isAnswer _ && (isW u "call" || isW t "told")))
              rw [c1, c2, Bool.true_and, Bool.true_and]) H' x
            walk_at "rd"
            refine @ite2 _ _ _ _ (fun c3 => ?_) (fun c3 => ?_)
            · refine fin2 _ ?_ _ (by walk_at "ex")
              rw [show isW u "call" = true from c3, Bool.true_or]
            · walk_at "rd"
              refine fin2 _ ?_ _ (by walk_at "ex")
              rw [show isW u "call" = false from Bool.eq_false_iff.mpr c3, Bool.false_or]
              rfl
      · walk_at "rd"
        exact fin false rfl _ (Ex.refl _ _)
      · walk_at "rd"
        refine @ite2 _ _ _ _ (fun c1 => ?_) (fun c1 => ?_)
        · exact fin false rfl _ (Ex.refl _ _)
        · refine absurd (?_ : _ = true) c1
          rw [Bool.not_eq_true', decide_eq_false_iff_not, V.int.injEq]
          simp only [List.length_cons]
          omega
    | _ =>
      walk_at "rd"
      exact fin false rfl _ (Ex.refl _ _)
theorem ok_law_is_row {f : Addr} {fd : FuncData} (F : Fun K "_law_is_row" "_law_is_row" s_law_is_row f fd) (T : Txt K mg) (C_law_is_pair : Cl P w K mg base 5 "_law_is_pair" (spJ isPair K)) : FnOk P w K mg base CX0 6 f fd ["thing"] (spJ isRow K) := by
  refine F.ok sc_law_is_row (fun vs H Q E h => ?_) (fun cdv A outer s H vs Q E hr h => ?_)
  · obtain ⟨v, d, ⟨rfl, _⟩, _⟩ := h
    rfl
  · obtain ⟨v, d, ⟨rfl, r⟩, k⟩ := h
    refine ⟨_, (pss_one (ps_ret (pe_and (pe_callB (cIs (K := K) rfl) (by rfl) T.b_isinstance bt_isinstance (pa_cons (pv 0) (pa_cons (pe_bltn (v := .ty "tuple") (by rfl) T.b_tuple bt_tuple rfl) pa_nil))) (pe_and (pe_cmpR oLe (pe_callB (cLen (K := K) rfl) (by rfl) T.b_len bt_len (pa_cons (pv 0) pa_nil)) pe_int (nomark _)) (pe_one (pe_callB (cAll (K := K) rfl rfl) (by rfl) T.b_all bt_all (pa_cons (pe_lc (own := [("one", 1)]) (g := gName 1) (tt := tYes) rfl sc_law_is_row.nd (pi_tup (pv 0)) (blkOk_by (N := n_law_is_row) (sc := defScope s_law_is_row) (by decide +kernel)) (fun _ _ _ _ _ => (pg_name (i := 1) sc_law_is_row.nd rfl (Or.inl rfl))) (fun _ _ _ _ _ => pts_nil) (fun _ _ _ _ _ => (pe_cl C_law_is_pair hr (by decide) (by rfl) (pa_cons (pv 1) pa_nil)))) pa_nil))))))), ?_⟩
    walk_at "nm"
    have r0 := r
    have fin : ∀ b, b = isRow d → ∀ H', Ex [] H H' → Q (.bl b) H' := fun b e H' x => e ▸ k H' x
    clear k
    cases r with
    | tup h1 h2 =>
      rename_i a xs l
      have e := h2.length
      walk_at "rd"
      refine @ite2 _ _ _ _ (fun c1 => ?_) (fun c1 => ?_)
      · replace c1 : ((xs.length : Nat) : Int) ≤ 300 := of_decide_eq_true c1
        refine all_judged (by rfl) (by show 1 < 2; decide) h1 h2 (by omega) fun H' e => ?_
        refine fin _ ?_ _ e
        show _ = (decide (l.length ≤ 300) && _)
        rw [decide_eq_true (show l.length ≤ 300 by omega), Bool.true_and]
      · refine fin false ?_ _ (Ex.refl _ _)
        show _ = (decide (l.length ≤ 300) && _)
        rw [decide_eq_false (show ¬ l.length ≤ 300 from fun q => c1 (decide_eq_true (by omega))), Bool.false_and]
    | _ =>
      walk_at "rd"
      exact fin false rfl _ (Ex.refl _ _)
end
/-! ### the pot that is drawn from -/
/-- a pot lies at p: its cells at c -/
def PotAt (H : Hp) (p c : Addr) : Prop := ∃ (cells : List Int) (i r s n : Int), H p = some (.lst [.ref c, .int i, .int r, .int s, .int n]) ∧ H c = some (.lst (cells.map V.int)) ∧ c ≠ p ∧
  0 ≤ i ∧ 0 ≤ r ∧ cells.length ≤ 63
theorem PotAt.new {H : Hp} {p c q : Addr} {o : HO} (h : H q = none) (t : PotAt H p c) : PotAt (upd H q o) p c := by
  obtain ⟨cells, i, r, s, n, h1, h2, h3⟩ := t
  exact ⟨cells, i, r, s, n, upd_new h h1, upd_new h h2, h3⟩
theorem PotAt.oth {H : Hp} {p c q : Addr} {o : HO} (h : q ≠ p) (h' : q ≠ c) (t : PotAt H p c) : PotAt (upd H q o) p c := by
  obtain ⟨cells, i, r, s, n, h1, h2, h3⟩ := t
  exact ⟨cells, i, r, s, n, upd_oth h.symm h1, upd_oth h'.symm h2, h3⟩
theorem PotAt.oth' {H : Hp} {p c q : Addr} {o : HO} (t : PotAt H p c) (h : q ≠ p) (h' : q ≠ c) : PotAt (upd H q o) p c := t.oth h h'
theorem PotAt.ex {M : List Addr} {H H' : Hp} {p c : Addr} (e : Ex M H H') (hp : Nin p M) (hc : Nin c M) (t : PotAt H p c) : PotAt H' p c := by
  obtain ⟨cells, i, r, s, n, h1, h2, h3⟩ := t
  exact ⟨cells, i, r, s, n, e.get h1 hp, e.get h2 hc, h3⟩
theorem PotAt.ex0 {H H' : Hp} {p c : Addr} (e : Ex [] H H') (t : PotAt H p c) : PotAt H' p c := t.ex e trivial trivial
theorem PotAt.ne {H : Hp} {p c q : Addr} (t : PotAt H p c) (h : H q = none) : q ≠ p := by
  obtain ⟨_, _, _, _, _, h1, _⟩ := t
  exact (ne_of_none h1 h).symm
theorem PotAt.nec {H : Hp} {p c q : Addr} (t : PotAt H p c) (h : H q = none) : q ≠ c := by
  obtain ⟨_, _, _, _, _, _, h1, _⟩ := t
  exact (ne_of_none h1 h).symm
theorem PotAt.ne' {H : Hp} {p c q : Addr} (h : H q = none) (t : PotAt H p c) : q ≠ p := t.ne h
theorem PotAt.nec' {H : Hp} {p c q : Addr} (h : H q = none) (t : PotAt H p c) : q ≠ c := t.nec h
local macro_rules | `(tactic| walk_at "pot") => `(tactic| with_reducible first
  | assumption
  | (apply PotAt.new; (focus with_reducible assumption); walk_at "pot")
  | (apply PotAt.ex0; (focus with_reducible assumption); walk_at "pot")
  | (apply PotAt.oth'; (focus walk_at "pot"); (focus walk_at "fact2"); walk_at "fact2"))
local macro_rules | `(tactic| walk_at "ne2") => `(tactic| first
  | (with_reducible apply PotAt.ne'; (focus with_reducible assumption); walk_at "pot")
  | (with_reducible apply PotAt.nec'; (focus with_reducible assumption); walk_at "pot"))
local macro_rules | `(tactic| walk_at "fact2") => `(tactic| first
  | walk_at "pot"
  | (with_reducible apply PotAt.ne'; (focus with_reducible assumption); walk_at "pot")
  | (with_reducible apply PotAt.nec'; (focus with_reducible assumption); walk_at "pot"))
def spDraw : Sp := fun vs H Q _ => ∃ p c many, (vs = [.ref p, .int many] ∧ PotAt H p c ∧ 0 < many ∧ many < 1000000) ∧ ∀ r H', 0 ≤ r → r < many → PotAt H' p c → Ex [p] H H' → Q (.int r) H'
-- @SP _law_draw spDraw
section
variable {P : Program} {w : World} {K : PySem.W.Frag} {mg : Str → Option Value} {base : Heap}
theorem ok_law_draw {f : Addr} {fd : FuncData} (F : Fun K "_law_draw" "_law_draw" s_law_draw f fd) (T : Txt K mg)  : FnOk P w K mg base CX0 1 f fd ["pot", "many"] spDraw := by
  refine F.ok sc_law_draw (fun vs H Q E h => ?_) (fun cdv A outer s H vs Q E hr h => ?_)
  · obtain ⟨p, c, many, ⟨rfl, _⟩, _⟩ := h
    rfl
  · obtain ⟨p, c, many, ⟨rfl, ⟨cells, i, r, sd, n, hp, hc, ncp, hi0, hr0, hcl⟩, hm0, hm1⟩, k⟩ := h
    refine ⟨_, (C8.pss_cut (ps_if (PW.pt (pw_and (pt_cmpR op_eq (pe_ix (ixG (K := K) rfl) (pv 0) pe_int (fun _ _ => rfl)) pe_int (nomark _)) (pw_and1 (pt_cmpR oLt (pe_ix (ixG (K := K) rfl) (pv 0) pe_int (fun _ _ => rfl)) (pe_callB (cLen (K := K) rfl) (by rfl) T.b_len bt_len (pa_cons (pe_ix (ixG (K := K) rfl) (pv 0) pe_int (fun _ _ => rfl)) pa_nil)) (nomark _))))) (pss_cons (ps_set (i := 2) sc_law_draw.nd rfl (Or.inl rfl) (pe_ix (ixG (K := K) rfl) (pe_ix (ixG (K := K) rfl) (pv 0) pe_int (fun _ _ => rfl)) (pe_ix (ixG (K := K) rfl) (pv 0) pe_int (fun _ _ => rfl)) (fun _ _ => rfl))) (pss_cons (ps_asg (pe_op (oAdd (K := K) rfl) (pe_ix (ixG (K := K) rfl) (pv 0) pe_int (fun _ _ => rfl)) pe_int) (pg_sub (pv 0) pe_int setL)) (pss_cons (ps_asg (pe_op oMod (pe_callTy call_int1 (by rfl) T.b_int bt_int (pa_cons (pe_op (oAdd (K := K) rfl) (pe_op (oAdd (K := K) rfl) (pe_op (oMul (K := K) rfl) (pe_ix (ixG (K := K) rfl) (pv 0) pe_int (fun _ _ => rfl)) pe_int) (pv 2)) pe_int) pa_nil)) pe_int) (pg_sub (pv 0) pe_int setL)) (pss_one (ps_if (pt_cmpR oGe (pv 2) (pe_op oPow pe_int pe_int) (nomark _)) (pss_one (ps_asg (pv 2) (pg_sub (pv 0) pe_int setL))) pss_nil))))) pss_nil) (pss_cons (ps_if (pt_cmpR oGt (pe_ix (ixG (K := K) rfl) (pv 0) pe_int (fun _ _ => rfl)) pe_int (nomark _)) (pss_cons (ps_set (i := 3) sc_law_draw.nd rfl (Or.inl rfl) (pe_op oMod (pe_callTy call_int1 (by rfl) T.b_int bt_int (pa_cons (pe_ix (ixG (K := K) rfl) (pv 0) pe_int (fun _ _ => rfl)) pa_nil)) (pv 1))) (pss_cons (ps_asg (pe_op oFdv (pe_ix (ixG (K := K) rfl) (pv 0) pe_int (fun _ _ => rfl)) (pv 1)) (pg_sub (pv 0) pe_int setL)) (pss_one (ps_ret (pv 3))))) pss_nil) (pss_cons (ps_asg (pe_op (oAdd (K := K) rfl) (pe_ix (ixG (K := K) rfl) (pv 0) pe_int (fun _ _ => rfl)) pe_int) (pg_sub (pv 0) pe_int setL)) (pss_cons (ps_set (i := 4) sc_law_draw.nd rfl (Or.inl rfl) (pe_op oMod (pe_callTy call_int1 (by rfl) T.b_int bt_int (pa_cons (pe_op (oMul (K := K) rfl) (pe_callTy call_int1 (by rfl) T.b_int bt_int (pa_cons (pe_op (oAdd (K := K) rfl) (pe_ix (ixG (K := K) rfl) (pv 0) pe_int (fun _ _ => rfl)) (pe_op (oMul (K := K) rfl) pe_int (pe_ix (ixG (K := K) rfl) (pv 0) pe_int (fun _ _ => rfl)))) pa_nil)) pe_int) pa_nil)) pe_int)) (pss_cons (ps_set (i := 4) sc_law_draw.nd rfl (Or.inl rfl) (pe_op oMod (pe_callTy call_int1 (by rfl) T.b_int bt_int (pa_cons (pe_op (oMul (K := K) rfl) (pv 4) (pe_op (oAdd (K := K) rfl) (pe_op oFdv (pv 4) pe_int) pe_int)) pa_nil)) pe_int)) (pss_cons (ps_set (i := 4) sc_law_draw.nd rfl (Or.inl rfl) (pe_op oMod (pe_callTy call_int1 (by rfl) T.b_int bt_int (pa_cons (pe_op (oMul (K := K) rfl) (pv 4) (pe_op (oAdd (K := K) rfl) (pe_op oFdv (pv 4) pe_int) pe_int)) pa_nil)) pe_int)) (pss_one (ps_ret (pe_op oMod (pe_callTy call_int1 (by rfl) T.b_int bt_int (pa_cons (pe_op oFdv (pv 4) pe_int) pa_nil)) (pv 1)))))))))), ?_⟩
    walk_at "nm"
    refine ⟨fun σ H' => ∃ o1 o2 o3, σ = [some (.ref p), some (.int many), o1, o2, o3] ∧ PotAt H' p c ∧ Ex [p] H H', ?_, ?_⟩
    · have stay : ∀ o1 o2 o3, ∃ p1 p2 p3 : Option V, [some (V.ref p), some (V.int many), o1, o2, o3] = [some (.ref p), some (.int many), p1, p2, p3] ∧ PotAt H p c ∧ Ex [p] H H := fun o1 o2 o3 => ⟨o1, o2, o3, rfl, ⟨cells, i, r, sd, n, hp, hc, ncp, hi0, hr0, hcl⟩, Ex.refl _ _⟩
      walk_at "rd"
      refine @ite2 _ _ _ _ (fun c1 => ?_) (fun c1 => ?_)
      · walk_at "rd"
        refine @ite2 _ _ _ _ (fun c2 => ?_) (fun c2 => ?_)
        · replace c2 : i < ((cells.map V.int).length : Nat) := of_decide_eq_true c2
          rw [List.length_map] at c2
          obtain ⟨j, rfl⟩ : ∃ j : Nat, i = (j : Int) := ⟨i.toNat, by omega⟩
          have hj : j < cells.length := by omega
          have hat : atI (cells.map V.int) (j : Int) = some (.int cells[j]) := atI_nat (by rw [List.getElem?_map, List.getElem?_eq_getElem hj]; rfl)
          generalize cells[j] = cell at hat
          walk_at "rdi"
          refine @ite2 _ _ _ _ (fun c3 => ?_) (fun c3 => ?_)
          · replace c3 : (10 : Int) ^ 18 ≤ cell := of_decide_eq_true c3
            walk_at "rdi"
            exact ⟨⟨cells, _, _, _, _, by assumption, by walk_at "hp", ncp, by omega, by omega, hcl⟩, by walk_at "ex"⟩
          · walk_at "rdi"
            exact ⟨⟨cells, _, _, _, _, by assumption, by walk_at "hp", ncp, by omega, by omega, hcl⟩, by walk_at "ex"⟩
        · exact stay _ _ _
      · exact stay _ _ _
    · rintro σ H1 ⟨o1, o2, o3, rfl, ⟨cells, i, r, sd, n, hp, hc, ncp, hi0, hr0, hcl⟩, e⟩
      walk_at "rdi"
      refine @ite2 _ _ _ _ (fun c1 => ?_) (fun c1 => ?_)
      · walk_at "rdi"
        exact k _ _ (Int.emod_nonneg _ (by omega)) (Int.emod_lt_of_pos _ hm0) ⟨cells, _, _, _, _, by assumption, by walk_at "hp", ncp, by omega, Int.ediv_nonneg hr0 (by omega), hcl⟩ (by walk_at "ex")
      · walk_at "rdi"
        exact k _ _ (Int.emod_nonneg _ (by omega)) (Int.emod_lt_of_pos _ hm0) ⟨cells, _, _, _, _, by assumption, by walk_at "hp", ncp, by omega, by omega, hcl⟩ (by walk_at "ex")
def spPot (K : PySem.W.Frag) : Sp := fun vs H Q _ => ∃ (a : Addr) (ns : List Int), (vs = [.ref a] ∧ SqL K H a (ns.map V.int) ∧ ns.length ≤ 63) ∧ ∀ p c H', PotAt H' p c → Ex [] H H' → Q (.ref p) H'
def spAny : Sp := fun vs H Q _ => ∃ (p c a : Addr) (xs : List V), (vs = [.ref p, .ref a] ∧ PotAt H p c ∧ H a = some (.lst xs) ∧ a ≠ p ∧ 0 < xs.length ∧ xs.length < 1000000) ∧ ∀ x H', x ∈ xs → PotAt H' p c → Ex [p] H H' → Q x H'
-- @SP _law_pot (spPot K)
-- @SP _law_any spAny
theorem ok_law_any {f : Addr} {fd : FuncData} (F : Fun K "_law_any" "_law_any" s_law_any f fd) (T : Txt K mg) (C_law_draw : Cl P w K mg base 1 "_law_draw" spDraw) : FnOk P w K mg base CX0 2 f fd ["pot", "things"] spAny := by
  refine F.ok sc_law_any (fun vs H Q E h => ?_) (fun cdv A outer s H vs Q E hr h => ?_)
  · obtain ⟨p, c, a, xs, ⟨rfl, _⟩, _⟩ := h
    rfl
  · obtain ⟨p, c, a, xs, ⟨rfl, hp, ha, nap, h0, h1⟩, k⟩ := h
    refine ⟨_, (pss_one (ps_ret (pe_ix (ixG (K := K) rfl) (pv 1) (pe_cl C_law_draw hr (by decide) (by rfl) (pa_cons (pv 0) (pa_cons (pe_callB (cLen (K := K) rfl) (by rfl) T.b_len bt_len (pa_cons (pv 1) pa_nil)) pa_nil))) (fun _ _ => rfl)))), ?_⟩
    walk_at "nm"
    walk_at "rd"
    intro r H1 hr0 hr1 hp1 e1
    obtain ⟨j, rfl⟩ : ∃ j : Nat, r = (j : Int) := ⟨r.toNat, by omega⟩
    have hj : j < xs.length := by omega
    have hat : atI xs (j : Int) = some xs[j] := atI_nat (List.getElem?_eq_getElem hj)
    walk_at "rd"
    exact k _ _ (List.getElem_mem hj) hp1 e1
theorem ok_law_pot {f : Addr} {fd : FuncData} (F : Fun K "_law_pot" "_law_pot" s_law_pot f fd) (T : Txt K mg)  : FnOk P w K mg base CX0 1 f fd ["script"] (spPot K) := by
  refine F.ok sc_law_pot (fun vs H Q E h => ?_) (fun cdv A outer s H vs Q E hr h => ?_)
  · obtain ⟨a, ns, ⟨rfl, _⟩, _⟩ := h
    rfl
  · obtain ⟨a, ns, ⟨rfl, ha, hn⟩, k⟩ := h
    refine ⟨_, (pss_cons (ps_setLc (i := 1) (own := [("cell", 2)]) (g := gName 2) (tt := tYes) rfl sc_law_pot.nd rfl rfl (sw_true rfl rfl rfl (by decide +kernel)) (pi_list (pe_slice (slG (K := K) rfl) (pv 0) po_none (po_some pe_int))) (blkOk_by (N := n_law_pot) (sc := defScope s_law_pot) (by decide +kernel)) (fun _ _ _ _ _ => (pg_name (i := 2) sc_law_pot.nd rfl (Or.inl rfl))) (fun _ _ _ _ _ => pts_nil) (fun _ _ _ _ _ => (pe_callB cAbs (by rfl) T.b_abs bt_abs (pa_cons (pe_callTy call_int1 (by rfl) T.b_int bt_int (pa_cons (pv 2) pa_nil)) pa_nil)))) (pss_one (ps_ret (peLst (pa_cons (pv 1) (pa_cons pe_int (pa_cons pe_int (pa_cons (pe_op (oAdd (K := K) rfl) pe_int (pe_callB (cLen (K := K) rfl) (by rfl) T.b_len bt_len (pa_cons (pv 1) pa_nil))) (pa_cons pe_int pa_nil))))))))), ?_⟩
    walk_at "nm"
    walk_at "rd"
    intro l H1 hl hL e1
    have hcut : cutV (ns.map V.int) none (some 63) = ns.map V.int := by
      refine cutV_whole ⟨rfl, ?_⟩
      show min (Int.toNat 63) (ns.map V.int).length = (ns.map V.int).length
      rw [List.length_map]
      exact Nat.min_eq_right hn
    rw [hcut] at hL
    walk_at "rd"
    intro D hD
    refine lc_it (walk_list (xs := ns.map V.int)) (LcP D [] (fun _ => True) (RepAt K ((ns.map fun i => if i < 0 then -i else i).map Dt.int)) H1) (LcP.start hD trivial (true_loc D)) (fun i H h p => SqL.of (p.ex.get0 hL)) ?_ ?_
    · rintro i x H3 H4 hi p ⟨rfl, hx⟩
      rw [List.getElem?_map] at hx
      obtain ⟨z, hz, rfl⟩ := Option.map_eq_some_iff.mp hx
      walk_at "rd"
      exact p.step hD RepAt.stab (true_loc D) (Ex.refl _ _) trivial trivial ⟨_, by rw [List.getElem?_map, List.getElem?_map, hz]; rfl, .int _⟩ hi (by rw [List.length_map]; omega)
    · intro H3 p
      obtain ⟨ys, h5, h6⟩ := p.done (by simp)
      have h6 := h6.ints
      subst h6
      have e3 : Ex [] H1 H3 := p.ex
      walk_at "rd"
      intro q H4 hq hQ e4
      refine k q D _ ⟨_, 0, 0, _, 0, hQ, e4.get0 h5, ne_of_none h5 hq, by decide, by decide, by simpa using hn⟩ (by walk_at "ex")
end
-- @SP _law_draw spDraw
-- @SP _law_any spAny
/-! ### worths that are drawn -/
def worthMenu : List Dt := [.int 0, .int 0, .int 1, .int 1, .int 2, .int 3, .int (-1), .int 7, .non, .str "", .str "a", .str "ab", .str "z", .tup [], .tup [.int 1], .tup [.int 1, .int 2], .tup [.int 0, .str "a", .non],
  .tup [.tup [.int 2, .int 1], .str "b"], .tup [.str "f", .tup []]]
def spWorthD (K : PySem.W.Frag) : Sp := fun vs H Q _ => ∃ (p c : Addr), (vs = [.ref p] ∧ PotAt H p c) ∧ ∀ x d H', d ∈ worthMenu → Rep K H' x d → PotAt H' p c → Ex [p] H H' → Q x H'
-- @SP _law_worth (spWorthD K)
section
variable {P : Program} {w : World} {K : PySem.W.Frag} {mg : Str → Option Value} {base : Heap}
theorem ok_law_worth {f : Addr} {fd : FuncData} (F : Fun K "_law_worth" "_law_worth" s_law_worth f fd) (T : Txt K mg) (C_law_any : Cl P w K mg base 2 "_law_any" spAny) : FnOk P w K mg base CX0 3 f fd ["pot"] (spWorthD K) := by
  refine F.ok sc_law_worth (fun vs H Q E h => ?_) (fun cdv A outer s H vs Q E hr h => ?_)
  · obtain ⟨p, c, ⟨rfl, _⟩, _⟩ := h
    rfl
  · obtain ⟨p, c, ⟨rfl, hp⟩, k⟩ := h
    refine ⟨_, (pss_cons (ps_set (i := 1) sc_law_worth.nd rfl (Or.inl rfl) (peLst (pa_cons pe_int (pa_cons pe_int (pa_cons pe_int (pa_cons pe_int (pa_cons pe_int (pa_cons pe_int (pa_cons (pe_un oNeg pe_int) (pa_cons pe_int (pa_cons pe_non (pa_cons pe_str (pa_cons pe_str (pa_cons pe_str (pa_cons pe_str (pa_cons (peTup pa_nil) (pa_cons (peTup (pa_cons pe_int pa_nil)) (pa_cons (peTup (pa_cons pe_int (pa_cons pe_int pa_nil))) (pa_cons (peTup (pa_cons pe_int (pa_cons pe_str (pa_cons pe_non pa_nil)))) pa_nil))))))))))))))))))) (pss_one (ps_ret (pe_cl C_law_any hr (by decide) (by rfl) (pa_cons (pv 0) (pa_cons (pe_op (oAdd (K := K) rfl) (pv 1) (peLst (pa_cons (peTup (pa_cons (peTup (pa_cons pe_int (pa_cons pe_int pa_nil))) (pa_cons pe_str pa_nil))) (pa_cons (peTup (pa_cons pe_str (pa_cons (peTup pa_nil) pa_nil))) pa_nil)))) pa_nil)))))), ?_⟩
    walk_at "nm"
    walk_at "rdi"
    rename_i x Hn hx hpn en
    simp only [List.cons_append, List.nil_append] at hx
    obtain ⟨d, hd, r⟩ := RepL.memOf (K := K) (H := Hn) (l := worthMenu) hx (by unfold worthMenu; walk_at "repl")
    exact k x d Hn hd r hpn (by walk_at "ex")
inductive DeepW : Nat → Dt → Prop
  | base {d : Dt} : d ∈ worthMenu → DeepW 0 d
  | step {n : Nat} {d : Dt} {l m : List Dt} : DeepW n d → (∀ x ∈ l ++ m, x ∈ worthMenu) → (l ++ m).length ≤ 2 → DeepW (n + 1) (.tup (l ++ [d] ++ m))
def spDeep (K : PySem.W.Frag) : Sp := fun vs H Q _ => ∃ (p c : Addr) (n : Nat), (vs = [.ref p, .int n] ∧ PotAt H p c ∧ n ≤ 1000) ∧ ∀ x d H', DeepW n d → Rep K H' x d → PotAt H' p c → Ex [p] H H' → Q x H'
-- @SP _law_deep_worth (spDeep K)
def MenuAt (K : PySem.W.Frag) (_ : Nat) (y : V) (H : Hp) : Prop := ∃ d, d ∈ worthMenu ∧ Rep K H y d
theorem MenuAt.stab {K : PySem.W.Frag} : Stab (MenuAt K) := fun _ _ _ _ _ e ⟨d, h, r⟩ => ⟨d, h, e.rep r⟩
theorem menu_list {K : PySem.W.Frag} {H : Hp} : ∀ {ys : List V}, (∀ j y, ys[j]? = some y → MenuAt K j y H) → ∃ ds, RepL K H ys ds ∧ ∀ d ∈ ds, d ∈ worthMenu
  | [], _ => ⟨[], .nil, fun _ h => nomatch h⟩
  | y :: ys, h => by
    obtain ⟨d, hd, r⟩ := h 0 y (by simp)
    obtain ⟨ds, rs, hs⟩ := menu_list (ys := ys) fun j z hz => h (j + 1) z (by simpa using hz)
    exact ⟨d :: ds, .cons r rs, fun e he => (List.mem_cons.mp he).elim (fun q => q ▸ hd) (hs e)⟩
theorem ok_law_deep_worth {f : Addr} {fd : FuncData} (F : Fun K "_law_deep_worth" "_law_deep_worth" s_law_deep_worth f fd) (T : Txt K mg) (C_law_draw : Cl P w K mg base 1 "_law_draw" spDraw) (C_law_worth : Cl P w K mg base 3 "_law_worth" (spWorthD K)) : FnOk P w K mg base CX0 4 f fd ["pot", "deep"] (spDeep K) := by
  refine F.ok sc_law_deep_worth (fun vs H Q E h => ?_) (fun cdv A outer s H vs Q E hr h => ?_)
  · obtain ⟨p, c, n, ⟨rfl, _⟩, _⟩ := h
    rfl
  · obtain ⟨p, c, n, ⟨rfl, hp, hn⟩, k⟩ := h
    refine ⟨_, (pss_cons (ps_set (i := 2) sc_law_deep_worth.nd rfl (Or.inl rfl) (pe_cl C_law_worth hr (by decide) (by rfl) (pa_cons (pv 0) pa_nil))) (pss_cons (ps_for PassesOwn.never rfl (pi_range1 (by rfl) T.b_range (pa_cons (pv 1) pa_nil)) (pg_name (i := 3) sc_law_deep_worth.nd rfl (Or.inl rfl)) (pss_cons (ps_setLc (i := 4) (own := [("anew", 6)]) (g := gName 6) (tt := tYes) rfl sc_law_deep_worth.nd rfl rfl (sw_true rfl rfl rfl (by decide +kernel)) (pi_range1 (by rfl) T.b_range (pa_cons (pe_cl C_law_draw hr (by decide) (by rfl) (pa_cons (pv 0) (pa_cons pe_int pa_nil))) pa_nil)) (blkOk_by (N := n_law_deep_worth) (sc := defScope s_law_deep_worth) (by decide +kernel)) (fun _ _ _ _ _ => (pg_name (i := 6) sc_law_deep_worth.nd rfl (Or.inl rfl))) (fun _ _ _ _ _ => pts_nil) (fun _ _ _ _ _ => (pe_cl C_law_worth hr (by decide) (by rfl) (pa_cons (pv 0) pa_nil)))) (pss_cons (ps_set (i := 5) sc_law_deep_worth.nd rfl (Or.inl rfl) (pe_cl C_law_draw hr (by decide) (by rfl) (pa_cons (pv 0) (pa_cons (pe_op (oAdd (K := K) rfl) (pe_callB (cLen (K := K) rfl) (by rfl) T.b_len bt_len (pa_cons (pv 4) pa_nil)) pe_int) pa_nil)))) (pss_one (ps_set (i := 2) sc_law_deep_worth.nd rfl (Or.inl rfl) (pe_callTy (cTuple (K := K) rfl) (by rfl) T.b_tuple bt_tuple (pa_cons (pe_op (oAdd (K := K) rfl) (pe_op (oAdd (K := K) rfl) (pe_slice (slG (K := K) rfl) (pv 4) po_none (po_some (pv 5))) (peLst (pa_cons (pv 2) pa_nil))) (pe_slice (slG (K := K) rfl) (pv 4) (po_some (pv 5)) po_none)) pa_nil))))))) (pss_one (ps_ret (pv 2))))), ?_⟩
    walk_at "nm"
    walk_at "rd"
    intro x d H1 hd hx hp1 e1
    walk_at "rd"
    refine for_it (walk_range (lo := 0) (n := ((n : Nat) : Int).toNat)) (fun i σ H' => ∃ x d o3 o4 o5, σ = [some (.ref p), some (.int n), some x, o3, o4, o5, none] ∧ DeepW i d ∧ Rep K H' x d ∧ PotAt H' p c ∧ Ex [p] H H')
      ⟨x, d, none, none, none, rfl, .base hd, hx, hp1, e1⟩ (fun _ _ _ _ _ => trivial) ?_ ?_
    · clear hd hx hp1 e1 H1 x d
      rintro i y σ H1 H1' hi ⟨x, d, o3, o4, o5, rfl, hd, hx, hp1, e1⟩ ⟨rfl, rfl⟩
      walk_at "rd"
      intro r H2 hr0 hr1 hp2 e2
      walk_at "rd"
      intro D hD
      refine lc_it (walk_range (lo := 0) (n := r.toNat)) (LcP D [p] (fun H => PotAt H p c) (MenuAt K) H2) (LcP.start hD hp2 fun H o h => h.oth (hp2.ne hD) (hp2.nec hD)) (fun _ _ _ _ => trivial) ?_ ?_
      · rintro j y H3 H3' hj q ⟨rfl, rfl⟩
        have hp3 := q.p
        walk_at "rd"
        intro x1 d1 H4 hd1 hx1 hp4 e4
        exact q.step hD MenuAt.stab (fun H o h => h.oth (hp2.ne hD) (hp2.nec hD)) e4 ⟨hp2.ne hD, trivial⟩ hp4 ⟨d1, hd1, hx1⟩ hj (by omega)
      · intro H3 q
        obtain ⟨e3, hp3, ys, h5, h6, h7⟩ := q
        obtain ⟨ds, h8, h9⟩ := menu_list h7
        have h10 := h8.length
        have hDp := hp2.ne hD
        walk_at "rd"
        intro r2 H4 hr2 hr3 hp4 e4
        obtain ⟨m, rfl⟩ : ∃ m : Nat, r2 = (m : Int) := ⟨r2.toNat, by omega⟩
        have hz : ∀ lo hi, (cutV ys lo hi).length ≤ 1000 := fun lo hi => by
          have := cutV_length ys lo hi
          omega
        have z1 := hz none (some (m : Int))
        have z2 := hz (some (m : Int)) none
        walk_at "rdi"
        refine ⟨DeepW.step (l := ds.take m) (m := ds.drop m) hd ?_ ?_, ?_, by walk_at "pot", by walk_at "ex"⟩
        · rw [List.take_append_drop]
          exact h9
        · rw [List.take_append_drop]
          omega
        · refine .tup (by walk_at "sqt") ?_
          rw [cutV_to, cutV_from]
          have hys : RepL K H4 ys ds := by walk_at "repl"
          have h1 := hys.take m
          have h2 := hys.drop m
          refine RepL.append (RepL.append ?_ (.cons ?_ .nil)) ?_
          · walk_at "repl"
          · walk_at "rep"
          · walk_at "repl"
    · rintro σ H1 ⟨x, d, o3, o4, o5, rfl, hd, hx, hp1, e1⟩
      walk_at "rd"
      exact k x d H1 hd hx hp1 e1
end
/-- no tuple of it is too long -/
inductive Wid : Dt → Prop
  | non : Wid .non
  | bl (b : Bool) : Wid (.bl b)
  | int (i : Int) : Wid (.int i)
  | str (s : Str) : Wid (.str s)
  | oth : Wid .oth
  | tup {l : List Dt} : l.length ≤ 900000 → (∀ x ∈ l, Wid x) → Wid (.tup l)
def WidL (l : List Dt) : Prop := ∀ x ∈ l, Wid x
theorem Wid.mk {l : List Dt} (h : l.length ≤ 900000) (w : WidL l) : Wid (.tup l) := .tup h w
theorem WidL.nil : WidL [] := fun _ h => nomatch h
theorem WidL.cons {d : Dt} {l : List Dt} (h : Wid d) (w : WidL l) : WidL (d :: l) := fun x hx => (List.mem_cons.mp hx).elim (fun e => e ▸ h) (w x)
theorem WidL.append {l m : List Dt} (h : WidL l) (w : WidL m) : WidL (l ++ m) := fun x hx => (List.mem_append.mp hx).elim (h x) (w x)
theorem WidL.rep {l : List Dt} {n : Nat} (h : WidL l) : WidL (List.replicate n l).flatten := fun x hx => by
  obtain ⟨m, hm, hx⟩ := List.mem_flatten.mp hx
  exact h x ((List.eq_of_mem_replicate hm) ▸ hx)
theorem widl_of {d : Dt} {l : List Dt} (h : d ∈ l) (w : WidL l) : Wid d := w d h
theorem Wid.inv {l : List Dt} (h : Wid (.tup l)) : l.length ≤ 900000 ∧ WidL l := by
  cases h with
  | tup a b => exact ⟨a, b⟩
def prevSp (sp : Nat → Sp) : Nat → Sp
  | 0 => fun _ _ _ _ => False
  | n + 1 => sp n
theorem rec_ok {P : Program} {w : World} {K : PySem.W.Frag} {mg : Str → Option Value} {base : Heap} {f : Addr} {fd : FuncData} {ps : List Str} {x : Str} {M : Nat} {sp : Nat → Sp}
    (step : ∀ n, Cl P w K mg base (n + M) x (prevSp sp n) → FnOk P w K mg base CX0 (n + M + 1) f fd ps (sp n)) (m : mg x = some (.ref f)) (kp : PySem.W.keepIn K (.ref f) = true) (b : Binds K fd ps []) :
    ∀ n, FnOk P w K mg base CX0 (n + M + 1) f fd ps (sp n)
  | 0 => step 0 ⟨f, fd, ps, ⟨fun _ _ _ _ h => h.elim, fun _ _ _ _ _ _ _ _ _ _ _ _ _ h => h.elim⟩, m, kp, b⟩
  | n + 1 => step (n + 1) ⟨f, fd, ps, by
      have h := rec_ok step m kp b n
      rw [show n + 1 + M = n + M + 1 by omega]
      exact h, m, kp, b⟩
local macro_rules | `(tactic| walk_at "szw") => `(tactic| first
  | walk_at "sz"
  | (simp only [flat_len, List.length_cons, List.length_nil, List.length_append]; first | assumption | omega | decide))
local macro_rules | `(tactic| walk_at "wid") => `(tactic| with_reducible first
  | assumption
  | exact Wid.non
  | exact Wid.bl _
  | exact Wid.int _
  | exact Wid.str _
  | exact Wid.oth
  | (apply Wid.mk; (focus walk_at "szw"); walk_at "widl"))
local macro_rules | `(tactic| walk_at "widl") => `(tactic| with_reducible first
  | assumption
  | exact WidL.nil
  | (apply WidL.cons; (focus walk_at "wid"); walk_at "widl")
  | (apply WidL.rep; walk_at "widl")
  | (apply WidL.append; (focus walk_at "widl"); walk_at "widl"))
theorem bt_dict : bootBuiltins "dict" = some (.type "dict") := by decide +kernel
theorem bt_list : bootBuiltins "list" = some (.type "list") := by decide +kernel
theorem bt_repr : bootBuiltins "repr" = some (.builtin "repr") := by decide +kernel
theorem worthMenu_wid : WidL worthMenu := by
  unfold worthMenu
  walk_at "widl"
theorem DeepW.wid {n : Nat} {d : Dt} (h : DeepW n d) : Wid d := by
  induction h with
  | base h => exact worthMenu_wid _ h
  | step _ h hl ih =>
    rw [List.length_append] at hl
    refine .tup (by rw [List.length_append, List.length_append, List.length_singleton]; omega) fun x hx => ?_
    rcases List.mem_append.mp hx with hx | hx
    · rcases List.mem_append.mp hx with hx | hx
      · exact worthMenu_wid _ (h x (List.mem_append_left _ hx))
      · rw [List.mem_singleton.mp hx]
        exact ih
    · exact worthMenu_wid _ (h x (List.mem_append_right _ hx))
def spOdd (K : PySem.W.Frag) : Sp := fun vs H Q _ => ∃ (p c : Addr), (vs = [.ref p] ∧ PotAt H p c) ∧ ∀ x d H', Wid d → Rep K H' x d → PotAt H' p c → Ex [p] H H' → Q x H'
-- @SP _law_draw spDraw
-- @SP _law_any spAny

/-! ### odd things -/
-- @SP _law_odd (spOdd K)
section
variable {P : Program} {w : World} {K : PySem.W.Frag} {mg : Str → Option Value} {base : Heap}
theorem ok_law_odd {f : Addr} {fd : FuncData} (F : Fun K "_law_odd" "_law_odd" s_law_odd f fd) (T : Txt K mg) (C_law_draw : Cl P w K mg base 1 "_law_draw" spDraw) (C_law_any : Cl P w K mg base 2 "_law_any" spAny) : FnOk P w K mg base CX0 3 f fd ["pot"] (spOdd K) := by
  refine F.ok sc_law_odd (fun vs H Q E h => ?_) (fun cdv A outer s H vs Q E hr h => ?_)
  · obtain ⟨p, c, ⟨rfl, _⟩, _⟩ := h
    rfl
  · obtain ⟨p, c, ⟨rfl, hp⟩, k⟩ := h
    refine ⟨_, (pss_cons (ps_set (i := 1) sc_law_odd.nd rfl (Or.inl rfl) (pe_cl C_law_any hr (by decide) (by rfl) (pa_cons (pv 0) (pa_cons (peLst (pa_cons pe_non (pa_cons pe_int (pa_cons (peTup pa_nil) (pa_cons pe_str pa_nil))))) pa_nil)))) (pss_cons (ps_for PassesOwn.never rfl (pi_range1 (by rfl) T.b_range (pa_cons (pe_cl C_law_any hr (by decide) (by rfl) (pa_cons (pv 0) (pa_cons (peLst (pa_cons (pe_op (oAdd (K := K) rfl) pe_int (pe_cl C_law_draw hr (by decide) (by rfl) (pa_cons (pv 0) (pa_cons pe_int pa_nil)))) (pa_cons (pe_op (oAdd (K := K) rfl) pe_int (pe_cl C_law_draw hr (by decide) (by rfl) (pa_cons (pv 0) (pa_cons pe_int pa_nil)))) pa_nil))) pa_nil))) pa_nil)) (pg_name (i := 2) sc_law_odd.nd rfl (Or.inl rfl)) (pss_one (ps_set (i := 1) sc_law_odd.nd rfl (Or.inl rfl) (pe_ix (ixG (K := K) rfl) (peLst (pa_cons (peTup (pa_cons (pv 1) pa_nil)) (pa_cons (peLst (pa_cons (pv 1) pa_nil)) (pa_cons (peTup (pa_cons pe_int (pa_cons (pv 1) pa_nil))) pa_nil)))) (pe_cl C_law_draw hr (by decide) (by rfl) (pa_cons (pv 0) (pa_cons pe_int pa_nil))) (fun _ _ => rfl))))) (pss_cons (ps_set (i := 3) sc_law_odd.nd rfl (Or.inl rfl) (peLst (pa_cons pe_bl (pa_cons pe_bl (pa_cons (peLst pa_nil) (pa_cons peDict0 (pa_cons (peLst (pa_cons pe_int pa_nil)) (pa_cons (pe_disp (pps_cons pe_int pe_int pps_nil) (by rfl) (by rfl) (fun z => by cases z) (by decide)) (pa_cons (pe_disp (pps_cons pe_str (peTup (pa_cons pe_int pa_nil)) pps_nil) (by rfl) (by rfl) (fun z => by cases z) (by decide)) (pa_cons (peTup (pa_cons pe_bl pa_nil)) (pa_cons (peTup (pa_cons (peLst pa_nil) pa_nil)) (pa_cons (pe_op (oAdd (K := K) rfl) (pe_op oPow pe_int pe_int) pe_int) (pa_cons (pe_op oSub pe_int (pe_op oPow pe_int pe_int)) pa_nil))))))))))))) (pss_cons (ps_set (i := 3) sc_law_odd.nd rfl (Or.inl rfl) (pe_op (oAdd (K := K) rfl) (pv 3) (peLst (pa_cons (pe_op (oMul (K := K) rfl) pe_str pe_int) (pa_cons pe_str (pa_cons (pv 1) (pa_cons (pv 1) pa_nil))))))) (pss_cons (ps_set (i := 4) sc_law_odd.nd rfl (Or.inl rfl) (peLst (pa_cons (pe_op (oMul (K := K) rfl) (peTup (pa_cons pe_int pa_nil)) pe_int) (pa_cons (pe_op (oMul (K := K) rfl) (peLst (pa_cons pe_int pa_nil)) pe_int) (pa_cons (pe_op (oMul (K := K) rfl) (peTup (pa_cons (peTup (pa_cons pe_int (pa_cons pe_str pa_nil))) pa_nil)) pe_int) (pa_cons (pe_op (oMul (K := K) rfl) (peTup (pa_cons (pe_op (oMul (K := K) rfl) (peTup (pa_cons pe_int pa_nil)) pe_int) pa_nil)) pe_int) (pa_cons (pe_callTy (cDict (K := K) rfl rfl) (by rfl) T.b_dict bt_dict (pa_cons (pe_lc (own := [("key", 5)]) (g := gName 5) (tt := tYes) rfl sc_law_odd.nd (pi_range1 (by rfl) T.b_range (pa_cons pe_int pa_nil)) (blkOk_by (N := n_law_odd) (sc := defScope s_law_odd) (by decide +kernel)) (fun _ _ _ _ _ => (pg_name (i := 5) sc_law_odd.nd rfl (Or.inl rfl))) (fun _ _ _ _ _ => pts_nil) (fun _ _ _ _ _ => (peTup (pa_cons (pv 5) (pa_cons (peTup pa_nil) pa_nil))))) pa_nil)) pa_nil))))))) (pss_one (ps_ret (pe_cl C_law_any hr (by decide) (by rfl) (pa_cons (pv 0) (pa_cons (pe_op (oAdd (K := K) rfl) (pv 3) (peLst (pa_cons (pv 1) (pa_cons (pe_cl C_law_any hr (by decide) (by rfl) (pa_cons (pv 0) (pa_cons (pv 4) pa_nil))) pa_nil)))) pa_nil)))))))))), ?_⟩
    walk_at "nm"
    walk_at "rdi"
    rename_i q1 A1 h1 h2 h3 q2 A2 h4 h5 h6 x1 A3 h7 h8 h9 r1 A4 h10 h11 h12 h13 r2 A5 h14 h15 h16 h17 q3 A6 h18 h19 h20 x2 A7 h21 h22 h23
    obtain ⟨d1, hd1, hr1⟩ := RepL.memOf (K := K) (H := A3) (l := [.non, .int 0, .tup [], .str "a"]) h7 (by walk_at "repl")
    obtain ⟨n, rfl, hn⟩ : ∃ n : Nat, x2 = .int n ∧ n ≤ 1000 := by
      rcases List.mem_cons.mp h21 with e | e
      · exact ⟨(20 + r1).toNat, by rw [e]; congr 1; omega, by omega⟩
      · have e := List.mem_singleton.mp e
        exact ⟨(54 + r2).toNat, by rw [e]; congr 1; omega, by omega⟩
    have w1 : Wid d1 := widl_of hd1 (by walk_at "widl")
    have hr7 : Rep K A7 x1 d1 := by walk_at "rep"
    have e7 : Ex [p] H A7 := by walk_at "ex"
    clear hd1 hr1 h1 h2 h3 h4 h5 h6 h7 h8 h9 h10 h11 h12 h13 h14 h15 h16 h17 h18 h19 h20 h21 h23
    clear A1 A2 A3 A4 A5 A6 q1 q2 q3 r1 r2
    walk_at "rd"
    refine for_it (walk_range (lo := 0) (n := ((n : Nat) : Int).toNat)) (fun i σ H' => ∃ x d o2, σ = [some (.ref p), some x, o2, none, none, none] ∧ Rep K H' x d ∧ Wid d ∧ PotAt H' p c ∧ Ex [p] H H')
      ⟨x1, d1, none, rfl, hr7, w1, h22, e7⟩ (fun _ _ _ _ _ => trivial) ?_ ?_
    · clear w1 hr7 h22 e7 A7 x1 d1
      rintro i y σ H1 H1' hi ⟨x, d, o2, rfl, hx, w1, hp1, e1⟩ ⟨rfl, rfl⟩
      walk_at "rdi"
      rename_i q1 B1 h1 h2 h3 q2 B2 h4 h5 h6 q3 B3 h7 h8 h9 q4 B4 h10 h11 h12 r B5 h13 h14 h15 h16
      have hr : r = 0 ∨ r = 1 ∨ r = 2 := by omega
      rcases hr with rfl | rfl | rfl
      all_goals walk_at "rd"
      all_goals exact ⟨by walk_at "wid", by walk_at "pot", by walk_at "ex"⟩
    · rintro σ H1 ⟨x, d, o2, rfl, hx, w1, hp1, e1⟩
      walk_at "rdi"
      rename_i Hc hsc ec D hD
      refine lc_it (walk_range (lo := 0) (n := 1000)) (LcP D [] (fun _ => True) (RepAt K ((List.range 1000).map fun i => Dt.tup [.int (0 + (i : Nat)), .tup []])) Hc) (LcP.start hD trivial (true_loc D)) (fun _ _ _ _ => trivial) ?_ ?_
      · clear hx hp1 e1 hsc ec
        rintro j y H3 H3' hj q ⟨rfl, rfl⟩
        walk_at "rd"
        intro t1 H4 ht1 hs1 e4
        walk_at "rd"
        intro t2 H5 ht2 hs2 e5
        exact q.step hD RepAt.stab (true_loc D) (by walk_at "ex") trivial trivial ⟨_, by rw [List.getElem?_map, List.getElem?_range hj]; rfl, by walk_at "rep"⟩ hj (by decide)
      · intro H3 q
        obtain ⟨ys, h5, h6⟩ := q.done (by rw [List.length_map, List.length_range])
        obtain ⟨ps, kvs, rfl, hps⟩ := pairs_of h6 fun d hd => by
          obtain ⟨i, _, e⟩ := List.mem_map.mp hd
          exact ⟨_, _, e.symm⟩
        have e3 := q.ex
        clear q h6
        walk_at "rdi"
        rename_i xw Hw hxw hpw ew q8 H8 g1 g2 g3 q7 H7 g4 g5 g6 x9 H9 hx9 hp9 e9
        obtain ⟨dw, hdw, rw⟩ := RepL.memOf (K := K) (H := Hw) (l := [.tup (List.replicate (Int.toNat 3000) [.int 0]).flatten, .oth, .tup (List.replicate (Int.toNat 1500) [.tup [.int 1, .str "a"]]).flatten,
          .tup (List.replicate (Int.toNat 50) [.tup (List.replicate (Int.toNat 50) [.int 0]).flatten]).flatten, .oth]) hxw (by walk_at "repl")
        have ww : Wid dw := widl_of hdw (by walk_at "widl")
        simp only [List.cons_append, List.nil_append] at hx9
        obtain ⟨d9, hd9, r9⟩ := RepL.memOf (K := K) (H := H9) (l := [.bl true, .bl false, .oth, .oth, .oth, .oth, .oth, .tup [.bl true], .tup [.oth], .int _, .int _, .str _, .str _, d, d, d, dw]) hx9 (by walk_at "repl")
        have w9 : Wid d9 := widl_of hd9 (by walk_at "widl")
        exact k x9 d9 H9 w9 r9 hp9 (by walk_at "ex")
end
-- @SP _law_draw spDraw
-- @SP _law_any spAny
-- @SP _law_worth (spWorthD K)
-- @SP _law_deep_worth (spDeep K)
-- @SP _law_odd (spOdd K)
-- @SP _law_name (spOdd K)
-- @SP _law_args (spOdd K)
-- @SP _law_any_ask (spOdd K)
-- @SP _law_any_answer (spOdd K)
-- @SP _law_any_row (spOdd K)
-- @SP _law_thing (spOdd K)
section
variable {P : Program} {w : World} {K : PySem.W.Frag} {mg : Str → Option Value} {base : Heap}
theorem ok_law_name {f : Addr} {fd : FuncData} (F : Fun K "_law_name" "_law_name" s_law_name f fd) (T : Txt K mg) (C_law_any : Cl P w K mg base 2 "_law_any" spAny) : FnOk P w K mg base CX0 3 f fd ["pot"] (spOdd K) := by
  refine F.ok sc_law_name (fun vs H Q E h => ?_) (fun cdv A outer s H vs Q E hr h => ?_)
  · obtain ⟨p, c, ⟨rfl, _⟩, _⟩ := h
    rfl
  · obtain ⟨p, c, ⟨rfl, hp⟩, k⟩ := h
    refine ⟨_, (pss_one (ps_ret (pe_cl C_law_any hr (by decide) (by rfl) (pa_cons (pv 0) (pa_cons (peLst (pa_cons pe_str (pa_cons pe_str (pa_cons pe_str (pa_cons pe_str (pa_cons pe_str (pa_cons pe_str (pa_cons pe_str (pa_cons pe_str (pa_cons pe_str (pa_cons pe_str pa_nil))))))))))) pa_nil))))), ?_⟩
    walk_at "nm"
    walk_at "rdi"
    rename_i x Hn hx hpn en
    obtain ⟨d, hd, r⟩ := RepL.memOf (K := K) (H := Hn) (l := [.str "f", .str "told", .str "cell", .str "abcdefghijkl", .str "abcdefghijkl", .str "abcdefghijklm", .str "", .str "F", .str "a b", .str "z"]) hx (by walk_at "repl")
    exact k x d Hn (widl_of hd (by walk_at "widl")) r hpn (by walk_at "ex")
theorem ok_law_args {f : Addr} {fd : FuncData} (F : Fun K "_law_args" "_law_args" s_law_args f fd) (T : Txt K mg) (C_law_any : Cl P w K mg base 2 "_law_any" spAny) (C_law_worth : Cl P w K mg base 3 "_law_worth" (spWorthD K)) : FnOk P w K mg base CX0 4 f fd ["pot"] (spOdd K) := by
  refine F.ok sc_law_args (fun vs H Q E h => ?_) (fun cdv A outer s H vs Q E hr h => ?_)
  · obtain ⟨p, c, ⟨rfl, _⟩, _⟩ := h
    rfl
  · obtain ⟨p, c, ⟨rfl, hp⟩, k⟩ := h
    refine ⟨_, (pss_one (ps_ret (pe_callTy (cTuple (K := K) rfl) (by rfl) T.b_tuple bt_tuple (pa_cons (pe_lc (own := [("arg", 1)]) (g := gName 1) (tt := tYes) rfl sc_law_args.nd (pi_range1 (by rfl) T.b_range (pa_cons (pe_cl C_law_any hr (by decide) (by rfl) (pa_cons (pv 0) (pa_cons (peLst (pa_cons pe_int (pa_cons pe_int (pa_cons pe_int (pa_cons pe_int (pa_cons pe_int (pa_cons pe_int pa_nil))))))) pa_nil))) pa_nil)) (blkOk_by (N := n_law_args) (sc := defScope s_law_args) (by decide +kernel)) (fun _ _ _ _ _ => (pg_name (i := 1) sc_law_args.nd rfl (Or.inl rfl))) (fun _ _ _ _ _ => pts_nil) (fun _ _ _ _ _ => (pe_cl C_law_worth hr (by decide) (by rfl) (pa_cons (pv 0) pa_nil)))) pa_nil)))), ?_⟩
    walk_at "nm"
    walk_at "rdi"
    rename_i x Hn hx hpn en
    obtain ⟨n, rfl, hn⟩ : ∃ n : Nat, x = .int n ∧ n ≤ 7 := by
      simp only [List.mem_cons, List.not_mem_nil, or_false] at hx
      rcases hx with e | e | e | e | e | e
      · exact ⟨0, e, by omega⟩
      · exact ⟨1, e, by omega⟩
      · exact ⟨2, e, by omega⟩
      · exact ⟨2, e, by omega⟩
      · exact ⟨6, e, by omega⟩
      · exact ⟨7, e, by omega⟩
    have e1 : Ex [p] H Hn := by walk_at "ex"
    walk_at "rd"
    intro D hD
    refine lc_it (walk_range (lo := 0) (n := ((n : Nat) : Int).toNat)) (LcP D [p] (fun H => PotAt H p c) (MenuAt K) Hn) (LcP.start hD hpn fun H o h => h.oth (hpn.ne hD) (hpn.nec hD)) (fun _ _ _ _ => trivial) ?_ ?_
    · rintro j y H3 H3' hj q ⟨rfl, rfl⟩
      have hp3 := q.p
      walk_at "rd"
      intro x1 d1 H4 hd1 hx1 hp4 e4
      exact q.step hD MenuAt.stab (fun H o h => h.oth (hpn.ne hD) (hpn.nec hD)) e4 ⟨hpn.ne hD, trivial⟩ hp4 ⟨d1, hd1, hx1⟩ hj (by omega)
    · intro H3 q
      obtain ⟨e3, hp3, ys, h5, h6, h7⟩ := q
      obtain ⟨ds, h8, h9⟩ := menu_list h7
      have h10 := h8.length
      have hz : ds.length ≤ 900000 := by omega
      have hw : WidL ds := fun d hd => worthMenu_wid d (h9 d hd)
      walk_at "rdi"
      exact k _ (.tup ds) _ (by walk_at "wid") (by walk_at "rep") (by walk_at "pot") (by walk_at "ex")
theorem ok_law_any_ask {f : Addr} {fd : FuncData} (F : Fun K "_law_any_ask" "_law_any_ask" s_law_any_ask f fd) (T : Txt K mg) (C_law_draw : Cl P w K mg base 1 "_law_draw" spDraw) (C_law_any : Cl P w K mg base 2 "_law_any" spAny) (C_law_deep_worth : Cl P w K mg base 4 "_law_deep_worth" (spDeep K)) (C_law_name : Cl P w K mg base 3 "_law_name" (spOdd K)) (C_law_args : Cl P w K mg base 4 "_law_args" (spOdd K)) : FnOk P w K mg base CX0 5 f fd ["pot"] (spOdd K) := by
  refine F.ok sc_law_any_ask (fun vs H Q E h => ?_) (fun cdv A outer s H vs Q E hr h => ?_)
  · obtain ⟨p, c, ⟨rfl, _⟩, _⟩ := h
    rfl
  · obtain ⟨p, c, ⟨rfl, hp⟩, k⟩ := h
    refine ⟨_, (pss_cons (ps_if (pt_cmpR op_eq (pe_cl C_law_draw hr (by decide) (by rfl) (pa_cons (pv 0) (pa_cons pe_int pa_nil))) pe_int (nomark _)) (pss_one (ps_ret (peTup (pa_cons pe_str (pa_cons (pe_cl C_law_deep_worth hr (by decide) (by rfl) (pa_cons (pv 0) (pa_cons (pe_cl C_law_any hr (by decide) (by rfl) (pa_cons (pv 0) (pa_cons (peLst (pa_cons pe_int (pa_cons pe_int (pa_cons pe_int (pa_cons pe_int pa_nil))))) pa_nil))) pa_nil))) pa_nil))))) pss_nil) (pss_one (ps_ret (peTup (pa_cons pe_str (pa_cons (pe_cl C_law_name hr (by decide) (by rfl) (pa_cons (pv 0) pa_nil)) (pa_cons (pe_cl C_law_args hr (by decide) (by rfl) (pa_cons (pv 0) pa_nil)) pa_nil))))))), ?_⟩
    walk_at "nm"
    walk_at "rdi"
    refine @ite2 _ _ _ _ (fun c1 => ?_) (fun c1 => ?_)
    · walk_at "rdi"
      rename_i x Hn hx hpn en
      obtain ⟨n, rfl, hn⟩ : ∃ n : Nat, x = .int n ∧ n ≤ 1000 := by
        simp only [List.mem_cons, List.not_mem_nil, or_false] at hx
        rcases hx with e | e | e | e
        · exact ⟨0, e, by omega⟩
        · exact ⟨1, e, by omega⟩
        · exact ⟨8, e, by omega⟩
        · exact ⟨9, e, by omega⟩
      walk_at "rd"
      intro y d H4 hd hy hp4 e4
      have hw := hd.wid
      walk_at "rdi"
      (refine k _ _ _ ?_ (by walk_at "rep") (by walk_at "pot") (by walk_at "ex"); walk_at "wid")
    · walk_at "rdi"
      (refine k _ _ _ ?_ (by walk_at "rep") (by walk_at "pot") (by walk_at "ex"); walk_at "wid")
theorem ok_law_any_answer {f : Addr} {fd : FuncData} (F : Fun K "_law_any_answer" "_law_any_answer" s_law_any_answer f fd) (T : Txt K mg) (C_law_draw : Cl P w K mg base 1 "_law_draw" spDraw) (C_law_any : Cl P w K mg base 2 "_law_any" spAny) (C_law_deep_worth : Cl P w K mg base 4 "_law_deep_worth" (spDeep K)) (C_law_name : Cl P w K mg base 3 "_law_name" (spOdd K)) : FnOk P w K mg base CX0 5 f fd ["pot"] (spOdd K) := by
  refine F.ok sc_law_any_answer (fun vs H Q E h => ?_) (fun cdv A outer s H vs Q E hr h => ?_)
  · obtain ⟨p, c, ⟨rfl, _⟩, _⟩ := h
    rfl
  · obtain ⟨p, c, ⟨rfl, hp⟩, k⟩ := h
    refine ⟨_, (pss_cons (ps_if (pt_cmpR op_eq (pe_cl C_law_draw hr (by decide) (by rfl) (pa_cons (pv 0) (pa_cons pe_int pa_nil))) pe_int (nomark _)) (pss_one (ps_ret (peTup (pa_cons pe_str (pa_cons (pe_cl C_law_deep_worth hr (by decide) (by rfl) (pa_cons (pv 0) (pa_cons (pe_cl C_law_any hr (by decide) (by rfl) (pa_cons (pv 0) (pa_cons (peLst (pa_cons pe_int (pa_cons pe_int (pa_cons pe_int pa_nil)))) pa_nil))) pa_nil))) pa_nil))))) pss_nil) (pss_one (ps_ret (peTup (pa_cons pe_str (pa_cons (pe_cl C_law_name hr (by decide) (by rfl) (pa_cons (pv 0) pa_nil)) pa_nil)))))), ?_⟩
    walk_at "nm"
    walk_at "rdi"
    refine @ite2 _ _ _ _ (fun c1 => ?_) (fun c1 => ?_)
    · walk_at "rdi"
      rename_i x Hn hx hpn en
      obtain ⟨n, rfl, hn⟩ : ∃ n : Nat, x = .int n ∧ n ≤ 1000 := by
        simp only [List.mem_cons, List.not_mem_nil, or_false] at hx
        rcases hx with e | e | e
        · exact ⟨0, e, by omega⟩
        · exact ⟨1, e, by omega⟩
        · exact ⟨2, e, by omega⟩
      walk_at "rd"
      intro y d H4 hd hy hp4 e4
      have hw := hd.wid
      walk_at "rdi"
      (refine k _ _ _ ?_ (by walk_at "rep") (by walk_at "pot") (by walk_at "ex"); walk_at "wid")
    · walk_at "rdi"
      (refine k _ _ _ ?_ (by walk_at "rep") (by walk_at "pot") (by walk_at "ex"); walk_at "wid")
end
-- @SP _law_draw spDraw
-- @SP _law_any spAny
-- @SP _law_worth (spWorthD K)
-- @SP _law_deep_worth (spDeep K)
-- @SP _law_odd (spOdd K)
-- @SP _law_name (spOdd K)
-- @SP _law_args (spOdd K)
-- @SP _law_any_ask (spOdd K)
-- @SP _law_any_answer (spOdd K)
-- @SP _law_any_row (spOdd K)
-- @SP _law_thing (spOdd K)
def WidAt (K : PySem.W.Frag) (_ : Nat) (y : V) (H : Hp) : Prop := ∃ d, Wid d ∧ Rep K H y d
theorem WidAt.stab {K : PySem.W.Frag} : Stab (WidAt K) := fun _ _ _ _ _ e ⟨d, h, r⟩ => ⟨d, h, e.rep r⟩
theorem wid_list {K : PySem.W.Frag} {H : Hp} : ∀ {ys : List V}, (∀ j y, ys[j]? = some y → WidAt K j y H) → ∃ ds, RepL K H ys ds ∧ WidL ds
  | [], _ => ⟨[], .nil, WidL.nil⟩
  | y :: ys, h => by
    obtain ⟨d, hd, r⟩ := h 0 y (by simp)
    obtain ⟨ds, rs, hs⟩ := wid_list (ys := ys) fun j z hz => h (j + 1) z (by simpa using hz)
    exact ⟨d :: ds, .cons r rs, WidL.cons hd hs⟩
section
variable {P : Program} {w : World} {K : PySem.W.Frag} {mg : Str → Option Value} {base : Heap}
theorem ok_law_any_row {f : Addr} {fd : FuncData} (F : Fun K "_law_any_row" "_law_any_row" s_law_any_row f fd) (T : Txt K mg) (C_law_draw : Cl P w K mg base 1 "_law_draw" spDraw) (C_law_any : Cl P w K mg base 2 "_law_any" spAny) (C_law_any_ask : Cl P w K mg base 5 "_law_any_ask" (spOdd K)) (C_law_any_answer : Cl P w K mg base 5 "_law_any_answer" (spOdd K)) : FnOk P w K mg base CX0 6 f fd ["pot"] (spOdd K) := by
  refine F.ok sc_law_any_row (fun vs H Q E h => ?_) (fun cdv A outer s H vs Q E hr h => ?_)
  · obtain ⟨p, c, ⟨rfl, _⟩, _⟩ := h
    rfl
  · obtain ⟨p, c, ⟨rfl, hp⟩, k⟩ := h
    refine ⟨_, (pss_cons (ps_set (i := 1) sc_law_any_row.nd rfl (Or.inl rfl) (pe_ifExp (pt_cmpR oGt (pe_cl C_law_draw hr (by decide) (by rfl) (pa_cons (pv 0) (pa_cons pe_int pa_nil))) pe_int (nomark _)) (pe_cl C_law_any hr (by decide) (by rfl) (pa_cons (pv 0) (pa_cons (peLst (pa_cons pe_int (pa_cons pe_int (pa_cons pe_int (pa_cons pe_int (pa_cons pe_int (pa_cons pe_int pa_nil))))))) pa_nil))) (pe_op (oAdd (K := K) rfl) pe_int (pe_cl C_law_draw hr (by decide) (by rfl) (pa_cons (pv 0) (pa_cons pe_int pa_nil)))))) (pss_cons (ps_if (pt_cmpR oGt (pv 1) pe_int (nomark _)) (pss_one (ps_ret (pe_op (oMul (K := K) rfl) (peTup (pa_cons (peTup (pa_cons (pe_cl C_law_any_ask hr (by decide) (by rfl) (pa_cons (pv 0) pa_nil)) (pa_cons (peTup (pa_cons pe_str (pa_cons pe_int pa_nil))) pa_nil))) pa_nil)) (pv 1)))) pss_nil) (pss_one (ps_ret (pe_callTy (cTuple (K := K) rfl) (by rfl) T.b_tuple bt_tuple (pa_cons (pe_lc (own := [("pair", 2)]) (g := gName 2) (tt := tYes) rfl sc_law_any_row.nd (pi_range1 (by rfl) T.b_range (pa_cons (pv 1) pa_nil)) (blkOk_by (N := n_law_any_row) (sc := defScope s_law_any_row) (by decide +kernel)) (fun _ _ _ _ _ => (pg_name (i := 2) sc_law_any_row.nd rfl (Or.inl rfl))) (fun _ _ _ _ _ => pts_nil) (fun _ _ _ _ _ => (peTup (pa_cons (pe_cl C_law_any_ask hr (by decide) (by rfl) (pa_cons (pv 0) pa_nil)) (pa_cons (pe_cl C_law_any_answer hr (by decide) (by rfl) (pa_cons (pv 0) pa_nil)) pa_nil))))) pa_nil)))))), ?_⟩
    walk_at "nm"
    walk_at "rdi"
    rename_i r H1 a1 a2 a3 a4
    refine @ite2 _ _ _ _ (fun c1 => ?_) (fun c1 => ?_)
    · walk_at "rdi"
      rename_i x Hn hx hpn en
      obtain ⟨n, rfl, hn⟩ : ∃ n : Nat, x = .int n ∧ n ≤ 5 := by
        simp only [List.mem_cons, List.not_mem_nil, or_false] at hx
        rcases hx with e | e | e | e | e | e
        · exact ⟨0, e, by omega⟩
        · exact ⟨1, e, by omega⟩
        · exact ⟨2, e, by omega⟩
        · exact ⟨3, e, by omega⟩
        · exact ⟨3, e, by omega⟩
        · exact ⟨5, e, by omega⟩
      have e1 : Ex [p] H Hn := by walk_at "ex"
      walk_at "rd"
      refine @ite2 _ _ _ _ (fun c2 => ?_) (fun c2 => ?_)
      · replace c2 := of_decide_eq_true c2
        omega
      · walk_at "rd"
        intro D hD
        refine lc_it (walk_range (lo := 0) (n := ((n : Nat) : Int).toNat)) (LcP D [p] (fun H => PotAt H p c) (WidAt K) Hn) (LcP.start hD hpn fun H o h => h.oth (hpn.ne hD) (hpn.nec hD)) (fun _ _ _ _ => trivial) ?_ ?_
        · rintro j y H3 H3' hj q ⟨rfl, rfl⟩
          have hp3 := q.p
          walk_at "rd"
          intro y1 d1 H4 w1 r1 hp4 e4
          walk_at "rd"
          intro y2 d2 H5 w2 r2 hp5 e5
          walk_at "rd"
          intro q6 H6 n6 h6 e6
          exact q.step hD WidAt.stab (fun H o h => h.oth (hpn.ne hD) (hpn.nec hD)) (by walk_at "ex") ⟨hpn.ne hD, trivial⟩ (by walk_at "pot") ⟨.tup [d1, d2], by walk_at "wid", by walk_at "rep"⟩ hj (by omega)
        · intro H3 q
          obtain ⟨e3, hp3, ys, h5, h6, h7⟩ := q
          obtain ⟨ds, h8, hw⟩ := wid_list h7
          have h10 := h8.length
          have hz : ds.length ≤ 900000 := by omega
          walk_at "rdi"
          (refine k _ _ _ ?_ (by walk_at "rep") (by walk_at "pot") (by walk_at "ex"); walk_at "wid")
    · walk_at "rdi"
      rename_i r2 H2 b1 b2 b3 b4
      refine @ite2 _ _ _ _ (fun c2 => ?_) (fun c2 => ?_)
      · have z1 : 1 * (299 + r2).toNat ≤ 1000000 := by omega
        have z2 : (299 + r2).toNat * (0 + 1) ≤ 900000 := by omega
        walk_at "rdi"
        (refine k _ _ _ ?_ (by walk_at "rep") (by walk_at "pot") (by walk_at "ex"); walk_at "wid")
      · exact absurd (decide_eq_true (by omega)) c2
theorem ok_law_thing {f : Addr} {fd : FuncData} (F : Fun K "_law_thing" "_law_thing" s_law_thing f fd) (T : Txt K mg) (C_law_draw : Cl P w K mg base 1 "_law_draw" spDraw) (C_law_any : Cl P w K mg base 2 "_law_any" spAny) (C_law_odd : Cl P w K mg base 3 "_law_odd" (spOdd K)) (C_law_name : Cl P w K mg base 3 "_law_name" (spOdd K)) (C_law_args : Cl P w K mg base 4 "_law_args" (spOdd K)) (C_law_any_ask : Cl P w K mg base 5 "_law_any_ask" (spOdd K)) (C_law_any_answer : Cl P w K mg base 5 "_law_any_answer" (spOdd K)) (C_law_any_row : Cl P w K mg base 6 "_law_any_row" (spOdd K)) : FnOk P w K mg base CX0 7 f fd ["pot"] (spOdd K) := by
  refine F.ok sc_law_thing (fun vs H Q E h => ?_) (fun cdv A outer s H vs Q E hr h => ?_)
  · obtain ⟨p, c, ⟨rfl, _⟩, _⟩ := h
    rfl
  · obtain ⟨p, c, ⟨rfl, hp⟩, k⟩ := h
    refine ⟨_, (pss_cons (ps_set (i := 1) sc_law_thing.nd rfl (Or.inl rfl) (pe_cl C_law_draw hr (by decide) (by rfl) (pa_cons (pv 0) (pa_cons pe_int pa_nil)))) (pss_cons (ps_if (pt_cmpR op_eq (pv 1) pe_int (nomark _)) (pss_one (ps_ret (pe_cl C_law_any_ask hr (by decide) (by rfl) (pa_cons (pv 0) pa_nil)))) pss_nil) (pss_cons (ps_if (pt_cmpR op_eq (pv 1) pe_int (nomark _)) (pss_one (ps_ret (pe_cl C_law_any_answer hr (by decide) (by rfl) (pa_cons (pv 0) pa_nil)))) pss_nil) (pss_cons (ps_if (pt_cmpR op_eq (pv 1) pe_int (nomark _)) (pss_one (ps_ret (peTup (pa_cons (pe_cl C_law_name hr (by decide) (by rfl) (pa_cons (pv 0) pa_nil)) (pa_cons (pe_cl C_law_args hr (by decide) (by rfl) (pa_cons (pv 0) pa_nil)) pa_nil))))) pss_nil) (pss_cons (ps_if (pt_cmpR op_eq (pv 1) pe_int (nomark _)) (pss_one (ps_ret (pe_cl C_law_any hr (by decide) (by rfl) (pa_cons (pv 0) (pa_cons (peLst (pa_cons (peTup (pa_cons pe_str (pa_cons (pe_cl C_law_any_ask hr (by decide) (by rfl) (pa_cons (pv 0) pa_nil)) pa_nil))) (pa_cons (peTup (pa_cons pe_str (pa_cons (pe_cl C_law_any_answer hr (by decide) (by rfl) (pa_cons (pv 0) pa_nil)) pa_nil))) (pa_cons (peTup (pa_cons pe_str (pa_cons (pe_cl C_law_any_answer hr (by decide) (by rfl) (pa_cons (pv 0) pa_nil)) pa_nil))) pa_nil)))) pa_nil))))) pss_nil) (pss_one (ps_ret (pe_ifExp (pt_cmpR op_eq (pv 1) pe_int (nomark _)) (pe_cl C_law_any_row hr (by decide) (by rfl) (pa_cons (pv 0) pa_nil)) (pe_cl C_law_odd hr (by decide) (by rfl) (pa_cons (pv 0) pa_nil)))))))))), ?_⟩
    walk_at "nm"
    walk_at "rdi"
    refine @ite2 _ _ _ _ (fun c1 => ?_) (fun c1 => ?_)
    · walk_at "rdi"
      (refine k _ _ _ ?_ (by walk_at "rep") (by walk_at "pot") (by walk_at "ex"); walk_at "wid")
    walk_at "rd"
    refine @ite2 _ _ _ _ (fun c2 => ?_) (fun c2 => ?_)
    · walk_at "rdi"
      (refine k _ _ _ ?_ (by walk_at "rep") (by walk_at "pot") (by walk_at "ex"); walk_at "wid")
    walk_at "rd"
    refine @ite2 _ _ _ _ (fun c3 => ?_) (fun c3 => ?_)
    · walk_at "rdi"
      (refine k _ _ _ ?_ (by walk_at "rep") (by walk_at "pot") (by walk_at "ex"); walk_at "wid")
    walk_at "rd"
    refine @ite2 _ _ _ _ (fun c4 => ?_) (fun c4 => ?_)
    · walk_at "rd"
      intro y1 d1 A1 w1 r1 hp1 e1
      walk_at "rd"
      intro q2 A2 n2 h2 e2
      walk_at "rd"
      intro y3 d3 A3 w3 r3 hp3 e3
      walk_at "rd"
      intro q4 A4 n4 h4 e4
      walk_at "rd"
      intro y5 d5 A5 w5 r5 hp5 e5
      walk_at "rd"
      intro q6 A6 n6 h6 e6
      walk_at "rd"
      intro q7 A7 n7 h7 e7
      walk_at "rd"
      intro x A8 hx hp8 e8
      obtain ⟨d, hd, r⟩ := RepL.memOf (K := K) (H := A8) (l := [.tup [.str "ask", d1], .tup [.str "end", d3], .tup [.str "ask", d5]]) hx (by walk_at "repl")
      exact k x d A8 (widl_of hd (by walk_at "widl")) r hp8 (by walk_at "ex")
    walk_at "rd"
    refine @ite2 _ _ _ _ (fun c5 => ?_) (fun c5 => ?_)
    · walk_at "rdi"
      (refine k _ _ _ ?_ (by walk_at "rep") (by walk_at "pot") (by walk_at "ex"); walk_at "wid")
    · walk_at "rdi"
      (refine k _ _ _ ?_ (by walk_at "rep") (by walk_at "pot") (by walk_at "ex"); walk_at "wid")
end
-- @SP _law_draw spDraw
-- @SP _law_any spAny
-- @SP _law_worth (spWorthD K)
-- @SP _law_deep_worth (spDeep K)
-- @SP _law_odd (spOdd K)
-- @SP _law_name (spOdd K)
-- @SP _law_args (spOdd K)
-- @SP _law_any_ask (spOdd K)
-- @SP _law_any_answer (spOdd K)
-- @SP _law_any_row (spOdd K)
-- @SP _law_thing (spOdd K)
def spBent (K : PySem.W.Frag) (n : Nat) : Sp := fun vs H Q _ => ∃ (p c : Addr) (v : V) (d : Dt) (z : Int), (vs = [.ref p, v, .int z] ∧ z = n ∧ PotAt H p c ∧ Rep K H v d ∧ Wid d) ∧ ∀ x d H', Rep K H' x d → PotAt H' p c → Ex [p] H H' → Q x H'
-- @SP _law_bent (spBent K 4)
-- @SPR _law_bent (spBent K)
section
variable {P : Program} {w : World} {K : PySem.W.Frag} {mg : Str → Option Value} {base : Heap}
theorem ok_law_bent {f : Addr} {fd : FuncData} (F : Fun K "_law_bent" "_law_bent" s_law_bent f fd) (T : Txt K mg) (C_law_draw : Cl P w K mg base 1 "_law_draw" spDraw) (C_law_any : Cl P w K mg base 2 "_law_any" spAny) (C_law_worth : Cl P w K mg base 3 "_law_worth" (spWorthD K)) (C_law_odd : Cl P w K mg base 3 "_law_odd" (spOdd K)) (n : Nat) (C_law_bent : Cl P w K mg base (n + 3) "_law_bent" (prevSp (spBent K) n)) : FnOk P w K mg base CX0 (n + 3 + 1) f fd ["pot", "thing", "deep"] ((spBent K) n) := by
  refine F.ok sc_law_bent (fun vs H Q E h => ?_) (fun cdv A outer s H vs Q E hr h => ?_)
  · obtain ⟨p, c, v, d, z, ⟨rfl, _⟩, _⟩ := h
    rfl
  · obtain ⟨p, c, v, d, z, ⟨rfl, hzn, hp, r, hw⟩, k⟩ := h
    refine ⟨_, (pss_cons (ps_set (i := 3) sc_law_bent.nd rfl (Or.inl rfl) (pe_cl C_law_draw hr (by omega) (by rfl) (pa_cons (pv 0) (pa_cons pe_int pa_nil)))) (pss_cons (ps_if (PW.pt (pw_or (pt_cmpR op_eq (pv 2) pe_int (nomark _)) (pw_or (pt_cmpR op_eq (pv 3) pe_int (nomark _)) (pw_or (pt_not (pt_val (pe_callB (cIs (K := K) rfl) (by rfl) T.b_isinstance bt_isinstance (pa_cons (pv 1) (pa_cons (pe_bltn (v := .ty "tuple") (by rfl) T.b_tuple bt_tuple rfl) pa_nil))))) (pw_or1 (pt_cmpR op_eq (pe_callB (cLen (K := K) rfl) (by rfl) T.b_len bt_len (pa_cons (pv 1) pa_nil)) pe_int (nomark _))))))) (pss_cons (ps_if (PW.pt (pw_and (pt_val (pe_callB (cIs (K := K) rfl) (by rfl) T.b_isinstance bt_isinstance (pa_cons (pv 1) (pa_cons (pe_bltn (v := .ty "tuple") (by rfl) T.b_tuple bt_tuple rfl) pa_nil)))) (pw_and1 (pt_cmpR op_eq (pe_cl C_law_draw hr (by omega) (by rfl) (pa_cons (pv 0) (pa_cons pe_int pa_nil))) pe_int (nomark _))))) (pss_one (ps_ret (pe_callTy (cList (K := K) rfl) (by rfl) T.b_list bt_list (pa_cons (pv 1) pa_nil)))) pss_nil) (pss_one (ps_ret (pe_cl C_law_any hr (by omega) (by rfl) (pa_cons (pv 0) (pa_cons (peLst (pa_cons (pe_cl C_law_odd hr (by omega) (by rfl) (pa_cons (pv 0) pa_nil)) (pa_cons (pe_cl C_law_worth hr (by omega) (by rfl) (pa_cons (pv 0) pa_nil)) (pa_cons pe_str (pa_cons pe_str (pa_cons pe_str (pa_cons (peTup (pa_cons pe_str (pa_cons pe_int pa_nil))) (pa_cons (peTup (pa_cons pe_str (pa_cons pe_int pa_nil))) (pa_cons (pv 1) pa_nil))))))))) pa_nil)))))) pss_nil) (pss_cons (ps_set (i := 4) sc_law_bent.nd rfl (Or.inl rfl) (pe_cl C_law_draw hr (by omega) (by rfl) (pa_cons (pv 0) (pa_cons (pe_callB (cLen (K := K) rfl) (by rfl) T.b_len bt_len (pa_cons (pv 1) pa_nil)) pa_nil)))) (pss_cons (ps_if (pt_cmpR op_eq (pv 3) pe_int (nomark _)) (pss_one (ps_ret (pe_op (oAdd (K := K) rfl) (pe_slice (slG (K := K) rfl) (pv 1) po_none (po_some (pv 4))) (pe_slice (slG (K := K) rfl) (pv 1) (po_some (pe_op (oAdd (K := K) rfl) (pv 4) pe_int)) po_none)))) pss_nil) (pss_cons (ps_if (pt_cmpR op_eq (pv 3) pe_int (nomark _)) (pss_one (ps_ret (pe_op (oAdd (K := K) rfl) (pv 1) (peTup (pa_cons (pe_cl C_law_any hr (by omega) (by rfl) (pa_cons (pv 0) (pa_cons (peLst (pa_cons (pe_ix (ixG (K := K) rfl) (pv 1) (pv 4) (fun _ _ => rfl)) (pa_cons (pe_cl C_law_worth hr (by omega) (by rfl) (pa_cons (pv 0) pa_nil)) (pa_cons (peTup (pa_cons pe_str (pa_cons pe_int pa_nil))) pa_nil)))) pa_nil))) pa_nil))))) pss_nil) (pss_one (ps_ret (pe_op (oAdd (K := K) rfl) (pe_op (oAdd (K := K) rfl) (pe_slice (slG (K := K) rfl) (pv 1) po_none (po_some (pv 4))) (peTup (pa_cons (pe_cl C_law_bent hr (by omega) (by rfl) (pa_cons (pv 0) (pa_cons (pe_ix (ixG (K := K) rfl) (pv 1) (pv 4) (fun _ _ => rfl)) (pa_cons (pe_op oSub (pv 2) pe_int) pa_nil)))) pa_nil))) (pe_slice (slG (K := K) rfl) (pv 1) (po_some (pe_op (oAdd (K := K) rfl) (pv 4) pe_int)) po_none))))))))), ?_⟩
    walk_at "nm"
    walk_at "rd"
    intro way H1 w0 w1 hp1 e1
    have r0 := r
    cases r with
    | tup h1 h2 =>
      rename_i a xs l
      have hl := h2.length
      obtain ⟨hwl, hwm⟩ := hw.inv
      walk_at "rd"
      refine @ite2 _ _ _ _ (fun c1 => ?_) (fun c1 => ?_)
      · walk_at "rd"
        intro rr G1 g1 g2 g3 g4
        walk_at "rd"
        refine @ite2 _ _ _ _ (fun c7 => ?_) (fun c7 => ?_)
        · walk_at "rdi"
          exact k _ .oth _ (by walk_at "rep") (by walk_at "pot") (by walk_at "ex")
        · walk_at "rdi"
          rename_i xo d_o Ho wo ro po eo xw dw Hw hdw rw pw ew q1 A1 n1 h1' e1' q2 A2 n2 h2' e2' q3 A3 n3 h3' e3' x A4 hx hp4 e4
          obtain ⟨d', _, r'⟩ := RepL.memOf (K := K) (H := A4) (l := [d_o, dw, .str "f", .str "told", .str "cell", .tup [.str "worth", .int 1], .tup [.str "local", .int 0], .tup l]) hx (by walk_at "repl")
          exact k x d' A4 r' hp4 (by walk_at "ex")
      walk_at "rd"
      refine @ite2 _ _ _ _ (fun c2 => ?_) (fun c2 => ?_)
      · walk_at "rd"
        intro rr G1 g1 g2 g3 g4
        walk_at "rd"
        refine @ite2 _ _ _ _ (fun c7 => ?_) (fun c7 => ?_)
        · walk_at "rdi"
          exact k _ .oth _ (by walk_at "rep") (by walk_at "pot") (by walk_at "ex")
        · walk_at "rdi"
          rename_i xo d_o Ho wo ro po eo xw dw Hw hdw rw pw ew q1 A1 n1 h1' e1' q2 A2 n2 h2' e2' q3 A3 n3 h3' e3' x A4 hx hp4 e4
          obtain ⟨d', _, r'⟩ := RepL.memOf (K := K) (H := A4) (l := [d_o, dw, .str "f", .str "told", .str "cell", .tup [.str "worth", .int 1], .tup [.str "local", .int 0], .tup l]) hx (by walk_at "repl")
          exact k x d' A4 r' hp4 (by walk_at "ex")
      walk_at "rd"
      refine @ite2 _ _ _ _ (fun c3 => ?_) (fun c3 => ?_)
      · walk_at "rd"
        intro rr G1 g1 g2 g3 g4
        walk_at "rd"
        refine @ite2 _ _ _ _ (fun c7 => ?_) (fun c7 => ?_)
        · walk_at "rdi"
          exact k _ .oth _ (by walk_at "rep") (by walk_at "pot") (by walk_at "ex")
        · walk_at "rdi"
          rename_i xo d_o Ho wo ro po eo xw dw Hw hdw rw pw ew q1 A1 n1 h1' e1' q2 A2 n2 h2' e2' q3 A3 n3 h3' e3' x A4 hx hp4 e4
          obtain ⟨d', _, r'⟩ := RepL.memOf (K := K) (H := A4) (l := [d_o, dw, .str "f", .str "told", .str "cell", .tup [.str "worth", .int 1], .tup [.str "local", .int 0], .tup l]) hx (by walk_at "repl")
          exact k x d' A4 r' hp4 (by walk_at "ex")
      have hx0 : 0 < xs.length := by
        rcases Nat.eq_zero_or_pos xs.length with e | e
        · exact absurd (decide_eq_true (by rw [e]; rfl)) c3
        · exact e
      walk_at "rd"
      intro at_ H2 t0 t1 hp2 e2
      obtain ⟨j, rfl⟩ : ∃ j : Nat, at_ = (j : Int) := ⟨at_.toNat, by omega⟩
      have hj : j < xs.length := by omega
      have hat : atI xs (j : Int) = some xs[j] := atI_nat (List.getElem?_eq_getElem hj)
      obtain ⟨dj, hdj, rj⟩ := h2.get (List.getElem?_eq_getElem hj)
      have wj : Wid dj := hwm dj (List.mem_of_getElem? hdj)
      generalize xs[j] = xj at hat rj
      have hz : ∀ lo hi, (cutV xs lo hi).length ≤ 900000 := fun lo hi => by
        have := cutV_length xs lo hi
        omega
      have z1 := hz none (some (j : Int))
      have z2 := hz (some ((j : Int) + 1)) none
      have p1 : RepL K H (cutV xs none (some (j : Int))) (l.take j) := by
        rw [cutV_to]
        exact h2.take j
      have p2 : RepL K H (cutV xs (some ((j : Int) + 1)) none) (l.drop (j + 1)) := by
        rw [show (j : Int) + 1 = ((j + 1 : Nat) : Int) by omega, cutV_from]
        exact h2.drop (j + 1)
      have z3 : xs.length ≤ 900000 := by omega
      walk_at "rd"
      refine @ite2 _ _ _ _ (fun c4 => ?_) (fun c4 => ?_)
      · walk_at "rdi"
        exact k _ _ _ (by walk_at "rep") (by walk_at "pot") (by walk_at "ex")
      walk_at "rd"
      refine @ite2 _ _ _ _ (fun c5 => ?_) (fun c5 => ?_)
      · walk_at "rdi"
        rename_i xw dw Hw hdw rw pw ew q1 A1 n1 h1' e1' q3 A3 n3 h3' e3' x A4 hx hp4 e4 q5 A5 n5 h5' e5' q6 A6 n6 h6'
        obtain ⟨d', _, r'⟩ := RepL.memOf (K := K) (H := A4) (l := [dj, dw, .tup [.str "worth", .int 0]]) hx (by walk_at "repl")
        exact k _ _ _ (by walk_at "rep") (by walk_at "pot") (by walk_at "ex")
      · cases n with
        | zero => exact absurd (decide_eq_true (by rw [hzn]; rfl)) c1
        | succ m =>
          have hz' : z - 1 = m := by omega
          walk_at "rdi"
          exact k _ _ _ (by walk_at "rep") (by walk_at "pot") (by walk_at "ex")
    | non =>
      walk_at "rd"
      refine @ite2 _ _ _ _ (fun c1 => ?_) (fun c1 => ?_)
      · walk_at "rdi"
        rename_i xo d_o Ho wo ro po eo xw dw Hw hdw rw pw ew q1 A1 n1 h1' e1' q2 A2 n2 h2' e2' q3 A3 n3 h3' e3' x A4 hx hp4 e4
        obtain ⟨d', _, r'⟩ := RepL.memOf (K := K) (H := A4) (l := [d_o, dw, .str "f", .str "told", .str "cell", .tup [.str "worth", .int 1], .tup [.str "local", .int 0], .non]) hx (by walk_at "repl")
        exact k x d' A4 r' hp4 (by walk_at "ex")
      walk_at "rd"
      refine @ite2 _ _ _ _ (fun c2 => ?_) (fun c2 => ?_)
      · walk_at "rdi"
        rename_i xo d_o Ho wo ro po eo xw dw Hw hdw rw pw ew q1 A1 n1 h1' e1' q2 A2 n2 h2' e2' q3 A3 n3 h3' e3' x A4 hx hp4 e4
        obtain ⟨d', _, r'⟩ := RepL.memOf (K := K) (H := A4) (l := [d_o, dw, .str "f", .str "told", .str "cell", .tup [.str "worth", .int 1], .tup [.str "local", .int 0], .non]) hx (by walk_at "repl")
        exact k x d' A4 r' hp4 (by walk_at "ex")
      walk_at "rdi"
      rename_i xo d_o Ho wo ro po eo xw dw Hw hdw rw pw ew q1 A1 n1 h1' e1' q2 A2 n2 h2' e2' q3 A3 n3 h3' e3' x A4 hx hp4 e4
      obtain ⟨d', _, r'⟩ := RepL.memOf (K := K) (H := A4) (l := [d_o, dw, .str "f", .str "told", .str "cell", .tup [.str "worth", .int 1], .tup [.str "local", .int 0], .non]) hx (by walk_at "repl")
      exact k x d' A4 r' hp4 (by walk_at "ex")
    | bl b =>
      walk_at "rd"
      refine @ite2 _ _ _ _ (fun c1 => ?_) (fun c1 => ?_)
      · walk_at "rdi"
        rename_i xo d_o Ho wo ro po eo xw dw Hw hdw rw pw ew q1 A1 n1 h1' e1' q2 A2 n2 h2' e2' q3 A3 n3 h3' e3' x A4 hx hp4 e4
        obtain ⟨d', _, r'⟩ := RepL.memOf (K := K) (H := A4) (l := [d_o, dw, .str "f", .str "told", .str "cell", .tup [.str "worth", .int 1], .tup [.str "local", .int 0], .bl b]) hx (by walk_at "repl")
        exact k x d' A4 r' hp4 (by walk_at "ex")
      walk_at "rd"
      refine @ite2 _ _ _ _ (fun c2 => ?_) (fun c2 => ?_)
      · walk_at "rdi"
        rename_i xo d_o Ho wo ro po eo xw dw Hw hdw rw pw ew q1 A1 n1 h1' e1' q2 A2 n2 h2' e2' q3 A3 n3 h3' e3' x A4 hx hp4 e4
        obtain ⟨d', _, r'⟩ := RepL.memOf (K := K) (H := A4) (l := [d_o, dw, .str "f", .str "told", .str "cell", .tup [.str "worth", .int 1], .tup [.str "local", .int 0], .bl b]) hx (by walk_at "repl")
        exact k x d' A4 r' hp4 (by walk_at "ex")
      walk_at "rdi"
      rename_i xo d_o Ho wo ro po eo xw dw Hw hdw rw pw ew q1 A1 n1 h1' e1' q2 A2 n2 h2' e2' q3 A3 n3 h3' e3' x A4 hx hp4 e4
      obtain ⟨d', _, r'⟩ := RepL.memOf (K := K) (H := A4) (l := [d_o, dw, .str "f", .str "told", .str "cell", .tup [.str "worth", .int 1], .tup [.str "local", .int 0], .bl b]) hx (by walk_at "repl")
      exact k x d' A4 r' hp4 (by walk_at "ex")
    | int i =>
      walk_at "rd"
      refine @ite2 _ _ _ _ (fun c1 => ?_) (fun c1 => ?_)
      · walk_at "rdi"
        rename_i xo d_o Ho wo ro po eo xw dw Hw hdw rw pw ew q1 A1 n1 h1' e1' q2 A2 n2 h2' e2' q3 A3 n3 h3' e3' x A4 hx hp4 e4
        obtain ⟨d', _, r'⟩ := RepL.memOf (K := K) (H := A4) (l := [d_o, dw, .str "f", .str "told", .str "cell", .tup [.str "worth", .int 1], .tup [.str "local", .int 0], .int i]) hx (by walk_at "repl")
        exact k x d' A4 r' hp4 (by walk_at "ex")
      walk_at "rd"
      refine @ite2 _ _ _ _ (fun c2 => ?_) (fun c2 => ?_)
      · walk_at "rdi"
        rename_i xo d_o Ho wo ro po eo xw dw Hw hdw rw pw ew q1 A1 n1 h1' e1' q2 A2 n2 h2' e2' q3 A3 n3 h3' e3' x A4 hx hp4 e4
        obtain ⟨d', _, r'⟩ := RepL.memOf (K := K) (H := A4) (l := [d_o, dw, .str "f", .str "told", .str "cell", .tup [.str "worth", .int 1], .tup [.str "local", .int 0], .int i]) hx (by walk_at "repl")
        exact k x d' A4 r' hp4 (by walk_at "ex")
      walk_at "rdi"
      rename_i xo d_o Ho wo ro po eo xw dw Hw hdw rw pw ew q1 A1 n1 h1' e1' q2 A2 n2 h2' e2' q3 A3 n3 h3' e3' x A4 hx hp4 e4
      obtain ⟨d', _, r'⟩ := RepL.memOf (K := K) (H := A4) (l := [d_o, dw, .str "f", .str "told", .str "cell", .tup [.str "worth", .int 1], .tup [.str "local", .int 0], .int i]) hx (by walk_at "repl")
      exact k x d' A4 r' hp4 (by walk_at "ex")
    | str z hz =>
      walk_at "rd"
      refine @ite2 _ _ _ _ (fun c1 => ?_) (fun c1 => ?_)
      · walk_at "rdi"
        rename_i xo d_o Ho wo ro po eo xw dw Hw hdw rw pw ew q1 A1 n1 h1' e1' q2 A2 n2 h2' e2' q3 A3 n3 h3' e3' x A4 hx hp4 e4
        obtain ⟨d', _, r'⟩ := RepL.memOf (K := K) (H := A4) (l := [d_o, dw, .str "f", .str "told", .str "cell", .tup [.str "worth", .int 1], .tup [.str "local", .int 0], .str z]) hx (by walk_at "repl")
        exact k x d' A4 r' hp4 (by walk_at "ex")
      walk_at "rd"
      refine @ite2 _ _ _ _ (fun c2 => ?_) (fun c2 => ?_)
      · walk_at "rdi"
        rename_i xo d_o Ho wo ro po eo xw dw Hw hdw rw pw ew q1 A1 n1 h1' e1' q2 A2 n2 h2' e2' q3 A3 n3 h3' e3' x A4 hx hp4 e4
        obtain ⟨d', _, r'⟩ := RepL.memOf (K := K) (H := A4) (l := [d_o, dw, .str "f", .str "told", .str "cell", .tup [.str "worth", .int 1], .tup [.str "local", .int 0], .str z]) hx (by walk_at "repl")
        exact k x d' A4 r' hp4 (by walk_at "ex")
      walk_at "rdi"
      rename_i xo d_o Ho wo ro po eo xw dw Hw hdw rw pw ew q1 A1 n1 h1' e1' q2 A2 n2 h2' e2' q3 A3 n3 h3' e3' x A4 hx hp4 e4
      obtain ⟨d', _, r'⟩ := RepL.memOf (K := K) (H := A4) (l := [d_o, dw, .str "f", .str "told", .str "cell", .tup [.str "worth", .int 1], .tup [.str "local", .int 0], .str z]) hx (by walk_at "repl")
      exact k x d' A4 r' hp4 (by walk_at "ex")
    | oth ho =>
      walk_at "rd"
      refine @ite2 _ _ _ _ (fun c1 => ?_) (fun c1 => ?_)
      · walk_at "rdi"
        rename_i xo d_o Ho wo ro po eo xw dw Hw hdw rw pw ew q1 A1 n1 h1' e1' q2 A2 n2 h2' e2' q3 A3 n3 h3' e3' x A4 hx hp4 e4
        obtain ⟨d', _, r'⟩ := RepL.memOf (K := K) (H := A4) (l := [d_o, dw, .str "f", .str "told", .str "cell", .tup [.str "worth", .int 1], .tup [.str "local", .int 0], .oth]) hx (by walk_at "repl")
        exact k x d' A4 r' hp4 (by walk_at "ex")
      walk_at "rd"
      refine @ite2 _ _ _ _ (fun c2 => ?_) (fun c2 => ?_)
      · walk_at "rdi"
        rename_i xo d_o Ho wo ro po eo xw dw Hw hdw rw pw ew q1 A1 n1 h1' e1' q2 A2 n2 h2' e2' q3 A3 n3 h3' e3' x A4 hx hp4 e4
        obtain ⟨d', _, r'⟩ := RepL.memOf (K := K) (H := A4) (l := [d_o, dw, .str "f", .str "told", .str "cell", .tup [.str "worth", .int 1], .tup [.str "local", .int 0], .oth]) hx (by walk_at "repl")
        exact k x d' A4 r' hp4 (by walk_at "ex")
      walk_at "rdi"
      rename_i xo d_o Ho wo ro po eo xw dw Hw hdw rw pw ew q1 A1 n1 h1' e1' q2 A2 n2 h2' e2' q3 A3 n3 h3' e3' x A4 hx hp4 e4
      obtain ⟨d', _, r'⟩ := RepL.memOf (K := K) (H := A4) (l := [d_o, dw, .str "f", .str "told", .str "cell", .tup [.str "worth", .int 1], .tup [.str "local", .int 0], .oth]) hx (by walk_at "repl")
      exact k x d' A4 r' hp4 (by walk_at "ex")
end
def nest : Nat → Dt → Dt
  | 0, d => d
  | n + 1, d => .tup [nest n d]
def spInT (K : PySem.W.Frag) : Sp := fun vs H Q _ => ∃ (v : V) (d : Dt) (n : Nat) (z : Int), (vs = [v, .int z] ∧ z = n ∧ n ≤ 1000 ∧ Rep K H v d) ∧ ∀ x H', Rep K H' x (nest n d) → Ex [] H H' → Q x H'
-- @SP _law_in_tuples (spInT K)
-- @SP _law_draw spDraw
-- @SP _law_any spAny
section
variable {P : Program} {w : World} {K : PySem.W.Frag} {mg : Str → Option Value} {base : Heap}
theorem ok_law_in_tuples {f : Addr} {fd : FuncData} (F : Fun K "_law_in_tuples" "_law_in_tuples" s_law_in_tuples f fd) (T : Txt K mg)  : FnOk P w K mg base CX0 1 f fd ["worth", "many"] (spInT K) := by
  refine F.ok sc_law_in_tuples (fun vs H Q E h => ?_) (fun cdv A outer s H vs Q E hr h => ?_)
  · obtain ⟨v, d, n, z, ⟨rfl, _⟩, _⟩ := h
    rfl
  · obtain ⟨v, d, n, z, ⟨rfl, rfl, hn, r⟩, k⟩ := h
    refine ⟨_, (pss_cons (ps_for PassesOwn.never rfl (pi_range1 (by rfl) T.b_range (pa_cons (pv 1) pa_nil)) (pg_name (i := 2) sc_law_in_tuples.nd rfl (Or.inl rfl)) (pss_one (ps_set (i := 0) sc_law_in_tuples.nd rfl (Or.inl rfl) (peTup (pa_cons (pv 0) pa_nil))))) (pss_one (ps_ret (pv 0)))), ?_⟩
    walk_at "nm"
    walk_at "rd"
    refine for_it (walk_range (lo := 0) (n := ((n : Nat) : Int).toNat)) (fun i σ H' => ∃ x o2, σ = [some x, some (.int n), o2] ∧ Rep K H' x (nest i d) ∧ Ex [] H H')
      ⟨v, none, rfl, r, Ex.refl _ _⟩ (fun _ _ _ _ _ => trivial) ?_ ?_
    · rintro i y σ H1 H1' hi ⟨x, o2, rfl, hx, e1⟩ ⟨rfl, rfl⟩
      clear r
      walk_at "rd"
      intro q H2 nq hq e2
      walk_at "rd"
      refine ⟨?_, by walk_at "ex"⟩
      show Rep K H2 (.ref q) (.tup [nest i d])
      walk_at "rep"
    · rintro σ H1 ⟨x, o2, rfl, hx, e1⟩
      walk_at "rd"
      exact k x H1 hx e1
end
/-- a pair of tuples ahead; a row of such -/
def PairShape (d : Dt) : Prop := ∃ a b, d = .tup [.tup a, b]
def RowShape (d : Dt) : Prop := ∃ l, d = .tup l ∧ ∀ x ∈ l, PairShape x
/-- what the edge asks: a row and what is due of it -/
def spRowDue (K : PySem.W.Frag) : Sp := fun vs H Q _ => ∃ (p c : Addr), (vs = [.ref p] ∧ PotAt H p c) ∧ ∀ x d (b : Bool) y H', Rep K H' x d → RowShape d → isRow d = b → SqT K H' y [x, .bl b] → PotAt H' p c → Ex [p] H H' → Q (.ref y) H'
-- @SP _law_edge (spRowDue K)
-- @SP _law_in_tuples (spInT K)
-- @SP _law_draw spDraw
-- @SP _law_any spAny
def dTold0 : Dt := .tup [.str "told", .int 0]
/-- what the names hold after the first choice -/
def EdgeA (far way many : Int) (name : Str) (dw da : Dt) : Prop :=
  (way < 3 ∧ many = 300 + far ∧ isName (.str name) = true ∧ areArgs da = true) ∨ (way = 3 ∧ isName (.str name) = decide (far = 0) ∧ areArgs da = true) ∨
  (way = 4 ∧ isName (.str name) = true ∧ areArgs da = decide (far = 0)) ∨ (4 < way ∧ isWorth dw = decide (far = 0))
def EdgeB (far way many : Int) (ds : List Dt) : Prop := (∀ d ∈ ds, PairShape d) ∧ ((way < 3 ∧ many = 300 + far ∧ ∀ d ∈ ds, isPair d = true) ∨ (¬ way < 3 ∧ ∀ d ∈ ds, isPair d = decide (far = 0)))
theorem shapes1 {x : Dt} (h : PairShape x) : ∀ d ∈ [x], PairShape d := fun d hd => (List.mem_singleton.mp hd) ▸ h
theorem shapes_cons {x : Dt} {l : List Dt} (h : PairShape x) (t : ∀ d ∈ l, PairShape d) : ∀ d ∈ x :: l, PairShape d := fun d hd => (List.mem_cons.mp hd).elim (fun e => e ▸ h) (t d)
theorem shapes_rep {x : Dt} {n : Nat} (h : PairShape x) : ∀ d ∈ (List.replicate n [x]).flatten, PairShape d := fun d hd => by
  obtain ⟨m, hm, hd⟩ := List.mem_flatten.mp hd
  rw [List.eq_of_mem_replicate hm, List.mem_singleton] at hd
  rw [hd]
  exact h
theorem shapes_app {l m : List Dt} (h : ∀ d ∈ l, PairShape d) (t : ∀ d ∈ m, PairShape d) : ∀ d ∈ l ++ m, PairShape d := fun d hd => (List.mem_append.mp hd).elim (h d) (t d)
theorem w_call : isW "call" "call" = true := by decide +kernel
theorem w_cell : isW "cell" "cell" = true := by decide +kernel
theorem w_told : isW "told" "told" = true := by decide +kernel
theorem w_fault : isW "fault" "fault" = true := by decide +kernel
theorem w_faultT : isW "fault" "told" = false := by decide +kernel
theorem w_toldF : isW "told" "fault" = false := by decide +kernel
theorem n_f : isName (.str "f") = true := by decide +kernel
theorem wo0 : isWorth (.int 0) = true := by decide +kernel
theorem ar0 : areArgs (.tup []) = true := by decide +kernel
theorem pair1 (name : Str) (da : Dt) : isPair (.tup [.tup [.str "call", .str name, da], .tup [.str "told", .int 0]]) = (isName (.str name) && areArgs da) := by
  show ((isW "call" "call" && (isName (.str name) && areArgs da)) && (((isW "told" "told" && isWorth (.int 0)) || (isW "told" "fault" && isName (.int 0))) && (isW "call" "call" || isW "told" "told"))) = _
  simp [w_call, w_told, wo0]
theorem pair2 (name : Str) : isPair (.tup [.tup [.str "call", .str "f", .tup []], .tup [.str "fault", .str name]]) = isName (.str name) := by
  show ((isW "call" "call" && (isName (.str "f") && areArgs (.tup []))) && (((isW "fault" "told" && isWorth (.str name)) || (isW "fault" "fault" && isName (.str name))) && (isW "call" "call" || isW "fault" "told"))) = _
  simp [w_call, w_fault, w_faultT, n_f, ar0]
theorem pair3 (dw : Dt) : isPair (.tup [.tup [.str "cell", dw], .tup [.str "told", .int 0]]) = isWorth dw := by
  show ((isW "cell" "cell" && isWorth dw) && (((isW "told" "told" && isWorth (.int 0)) || (isW "told" "fault" && isName (.int 0))) && (isW "cell" "call" || isW "told" "told"))) = _
  simp [w_cell, w_told, wo0]
theorem pair4 (dw : Dt) : isPair (.tup [.tup [.str "call", .str "f", .tup [dw]], .tup [.str "told", .int 0]]) = isWorth dw := by
  rw [pair1, n_f, Bool.true_and]
  show (decide (1 ≤ 6) && (isWorth dw && true)) = _
  simp
theorem pair5 (dw : Dt) : isPair (.tup [.tup [.str "cell", .int 0], .tup [.str "told", dw]]) = isWorth dw := by
  show ((isW "cell" "cell" && isWorth (.int 0)) && (((isW "told" "told" && isWorth dw) || (isW "told" "fault" && isName dw)) && (isW "cell" "call" || isW "told" "told"))) = _
  simp [w_cell, w_told, w_toldF, wo0]
theorem row_one {d : Dt} {n : Nat} (h : isPair d = true) : isRow (.tup (List.replicate n [d]).flatten) = decide (n ≤ 300) := by
  show (decide ((List.replicate n [d]).flatten.length ≤ 300) && (List.replicate n [d]).flatten.all isPair) = _
  have e : (List.replicate n [d]).flatten.all isPair = true := List.all_eq_true.mpr fun x hx => by
    obtain ⟨m, hm, hx⟩ := List.mem_flatten.mp hx
    rw [List.eq_of_mem_replicate hm, List.mem_singleton] at hx
    rw [hx, h]
  rw [e, Bool.and_true, flat_len, List.length_singleton, Nat.mul_one]
def dRight : Dt := .tup [.tup [.str "cell", .str "a"], .tup [.str "told", .int 1]]
theorem row_mid {d : Dt} {a b : Nat} (ha : a ≤ 2) (hb : b ≤ 2) : isRow (.tup ((List.replicate a [dRight]).flatten ++ [d] ++ (List.replicate b [dRight]).flatten)) = isPair d := by
  have r : isPair dRight = true := by decide +kernel
  have al : ∀ n, (List.replicate n [dRight]).flatten.all isPair = true := fun n => List.all_eq_true.mpr fun x hx => by
    obtain ⟨m, hm, hx⟩ := List.mem_flatten.mp hx
    rw [List.eq_of_mem_replicate hm, List.mem_singleton] at hx
    rw [hx, r]
  show (decide (((List.replicate a [dRight]).flatten ++ [d] ++ (List.replicate b [dRight]).flatten).length ≤ 300) && ((List.replicate a [dRight]).flatten ++ [d] ++ (List.replicate b [dRight]).flatten).all isPair) = _
  rw [List.all_append, List.all_append, al, al, Bool.true_and, Bool.and_true, decide_eq_true (by
    rw [List.length_append, List.length_append, flat_len, flat_len, List.length_singleton, List.length_singleton]
    omega), Bool.true_and]
  simp
section
variable {P : Program} {w : World} {K : PySem.W.Frag} {mg : Str → Option Value} {base : Heap}
theorem ok_law_edge {f : Addr} {fd : FuncData} (F : Fun K "_law_edge" "_law_edge" s_law_edge f fd) (T : Txt K mg) (C_law_draw : Cl P w K mg base 1 "_law_draw" spDraw) (C_law_any : Cl P w K mg base 2 "_law_any" spAny) (C_law_in_tuples : Cl P w K mg base 1 "_law_in_tuples" (spInT K)) : FnOk P w K mg base CX0 3 f fd ["pot"] (spRowDue K) := by
  refine F.ok sc_law_edge (fun vs H Q E h => ?_) (fun cdv A outer s H vs Q E hr h => ?_)
  · obtain ⟨p, c, ⟨rfl, _⟩, _⟩ := h
    rfl
  · obtain ⟨p, c, ⟨rfl, hp⟩, k⟩ := h
    refine ⟨_, (pss_cons (ps_asg (peTup (pa_cons (pe_cl C_law_draw hr (by decide) (by rfl) (pa_cons (pv 0) (pa_cons pe_int pa_nil))) (pa_cons (pe_cl C_law_draw hr (by decide) (by rfl) (pa_cons (pv 0) (pa_cons pe_int pa_nil))) (pa_cons pe_int (pa_cons pe_str (pa_cons (peTup (pa_cons pe_int pa_nil)) (pa_cons pe_int pa_nil))))))) (pg_tup (by rfl) (pgs_cons (pg_name (i := 1) sc_law_edge.nd rfl (Or.inl rfl)) (pgs_cons (pg_name (i := 2) sc_law_edge.nd rfl (Or.inl rfl)) (pgs_cons (pg_name (i := 3) sc_law_edge.nd rfl (Or.inl rfl)) (pgs_cons (pg_name (i := 4) sc_law_edge.nd rfl (Or.inl rfl)) (pgs_cons (pg_name (i := 5) sc_law_edge.nd rfl (Or.inl rfl)) (pgs_cons (pg_name (i := 6) sc_law_edge.nd rfl (Or.inl rfl)) pgs_nil)))))))) (C8.pss_cut (ps_if (pt_cmpR oLt (pv 2) pe_int (nomark _)) (pss_one (ps_set (i := 6) sc_law_edge.nd rfl (Or.inl rfl) (pe_op (oAdd (K := K) rfl) pe_int (pv 1)))) (pss_one (ps_if (pt_cmpR op_eq (pv 2) pe_int (nomark _)) (pss_one (ps_set (i := 4) sc_law_edge.nd rfl (Or.inl rfl) (pe_op (oAdd (K := K) rfl) pe_str (pe_op (oMul (K := K) rfl) pe_str (pv 1))))) (pss_one (ps_if (pt_cmpR op_eq (pv 2) pe_int (nomark _)) (pss_one (ps_set (i := 5) sc_law_edge.nd rfl (Or.inl rfl) (pe_slice (slG (K := K) rfl) (peTup (pa_cons pe_int (pa_cons pe_non (pa_cons pe_str (pa_cons (peTup pa_nil) (pa_cons pe_int (pa_cons pe_int (pa_cons pe_int pa_nil)))))))) po_none (po_some (pe_op (oAdd (K := K) rfl) pe_int (pv 1)))))) (pss_cons (ps_set (i := 7) sc_law_edge.nd rfl (Or.inl rfl) (pe_op (oAdd (K := K) rfl) (pe_op (oMul (K := K) rfl) (peTup (pa_cons (pe_op (oMul (K := K) rfl) (peTup (pa_cons pe_int pa_nil)) pe_int) pa_nil)) pe_int) (pe_op (oMul (K := K) rfl) (peTup (pa_cons pe_int pa_nil)) (pe_op (oAdd (K := K) rfl) pe_int (pv 1))))) (pss_cons (ps_set (i := 8) sc_law_edge.nd rfl (Or.inl rfl) (peLst (pa_cons (pe_cl C_law_in_tuples hr (by decide) (by rfl) (pa_cons pe_int (pa_cons (pe_op (oAdd (K := K) rfl) pe_int (pv 1)) pa_nil))) (pa_cons (pe_op (oMul (K := K) rfl) pe_str (pe_op (oAdd (K := K) rfl) pe_int (pv 1))) (pa_cons (pe_op (oAdd (K := K) rfl) (pe_op oPow pe_int pe_int) (pv 1)) (pa_cons (pe_op (oMul (K := K) rfl) (peTup (pa_cons pe_int pa_nil)) (pe_op (oAdd (K := K) rfl) pe_int (pv 1))) (pa_cons (pv 7) pa_nil))))))) (pss_one (ps_set (i := 3) sc_law_edge.nd rfl (Or.inl rfl) (pe_ix (ixG (K := K) rfl) (pv 8) (pe_op oSub (pv 2) pe_int) (fun _ _ => rfl))))))))))) (pss_cons (ps_set (i := 9) sc_law_edge.nd rfl (Or.inl rfl) (peLst (pa_cons (peTup (pa_cons (peTup (pa_cons pe_str (pa_cons (pv 4) (pa_cons (pv 5) pa_nil)))) (pa_cons (peTup (pa_cons pe_str (pa_cons pe_int pa_nil))) pa_nil))) (pa_cons (peTup (pa_cons (peTup (pa_cons pe_str (pa_cons pe_str (pa_cons (peTup pa_nil) pa_nil)))) (pa_cons (peTup (pa_cons pe_str (pa_cons (pv 4) pa_nil))) pa_nil))) pa_nil)))) (C8.pss_cut (ps_if (pt_cmpR op_eq (pv 2) pe_int (nomark _)) (pss_one (ps_set (i := 9) sc_law_edge.nd rfl (Or.inl rfl) (pe_slice (slG (K := K) rfl) (pv 9) po_none (po_some pe_int)))) pss_nil) (C8.pss_cut (ps_if (pt_cmpR oGt (pv 2) pe_int (nomark _)) (pss_one (ps_set (i := 9) sc_law_edge.nd rfl (Or.inl rfl) (peLst (pa_cons (peTup (pa_cons (peTup (pa_cons pe_str (pa_cons (pv 3) pa_nil))) (pa_cons (peTup (pa_cons pe_str (pa_cons pe_int pa_nil))) pa_nil))) (pa_cons (peTup (pa_cons (peTup (pa_cons pe_str (pa_cons pe_str (pa_cons (peTup (pa_cons (pv 3) pa_nil)) pa_nil)))) (pa_cons (peTup (pa_cons pe_str (pa_cons pe_int pa_nil))) pa_nil))) (pa_cons (peTup (pa_cons (peTup (pa_cons pe_str (pa_cons pe_int pa_nil))) (pa_cons (peTup (pa_cons pe_str (pa_cons (pv 3) pa_nil))) pa_nil))) pa_nil)))))) pss_nil) (pss_cons (ps_set (i := 10) sc_law_edge.nd rfl (Or.inl rfl) (peTup (pa_cons (peTup (pa_cons pe_str (pa_cons pe_str pa_nil))) (pa_cons (peTup (pa_cons pe_str (pa_cons pe_int pa_nil))) pa_nil)))) (pss_cons (ps_set (i := 11) sc_law_edge.nd rfl (Or.inl rfl) (pe_cl C_law_draw hr (by decide) (by rfl) (pa_cons (pv 0) (pa_cons pe_int pa_nil)))) (pss_cons (ps_set (i := 12) sc_law_edge.nd rfl (Or.inl rfl) (pe_ifExp (pt_cmpR oLt (pv 2) pe_int (nomark _)) (pe_op (oMul (K := K) rfl) (peTup (pa_cons (pe_cl C_law_any hr (by decide) (by rfl) (pa_cons (pv 0) (pa_cons (pv 9) pa_nil))) pa_nil)) (pv 6)) (pe_op (oAdd (K := K) rfl) (pe_op (oAdd (K := K) rfl) (pe_op (oMul (K := K) rfl) (peTup (pa_cons (pv 10) pa_nil)) (pv 11)) (peTup (pa_cons (pe_cl C_law_any hr (by decide) (by rfl) (pa_cons (pv 0) (pa_cons (pv 9) pa_nil))) pa_nil))) (pe_op (oMul (K := K) rfl) (peTup (pa_cons (pv 10) pa_nil)) (pe_op oSub pe_int (pv 11)))))) (pss_one (ps_ret (peTup (pa_cons (pv 12) (pa_cons (pe_cmpR op_eq (pv 1) pe_int (nomark _)) pa_nil))))))))))))), ?_⟩
    walk_at "nm"
    walk_at "rdi"
    rename_i far A1 f0 f1 hp1 e1 way A2 w0 w1 hp2 e2 qa A3 n3 h3 e3 q4 A4 n4 h4 e4
    have hra : Rep K A4 (.ref qa) (.tup [.int 0]) := by walk_at "rep"
    have hp4 : PotAt A4 p c := by walk_at "pot"
    have e14 : Ex [p] H A4 := by walk_at "ex"
    clear hp1 e1 hp2 e2 n3 h3 e3 n4 h4 e4 A1 A2 A3 hp q4
    refine ⟨fun σ H' => ∃ (wv : V) (dw : Dt) (name : Str) (av : V) (da : Dt) (many : Int) (o7 o8 : Option V), σ = [some (.ref p), some (.int far), some (.int way), some wv, some (.str name), some av, some (.int many), o7, o8, none, none, none, none] ∧ Rep K H' wv dw ∧ Rep K H' av da ∧ name.length ≤ 1000 ∧ PotAt H' p c ∧ Ex [p] H H' ∧ EdgeA far way many name dw da, ?_, ?_⟩
    · obtain ⟨m, rfl⟩ : ∃ m : Nat, far = (m : Int) := ⟨far.toNat, by omega⟩
      have hm : m = 0 ∨ m = 1 := by omega
      walk_at "rd"
      refine @ite2 _ _ _ _ (fun c1 => ?_) (fun c1 => ?_)
      · walk_at "rd"
        exact .inl ⟨of_decide_eq_true c1, rfl, by decide +kernel, by decide +kernel⟩
      walk_at "rd"
      refine @ite2 _ _ _ _ (fun c2 => ?_) (fun c2 => ?_)
      · have s1 : ("abcdefghijkl" : Str).length = 12 := by decide +kernel
        have s2 : ("m" : Str).length = 1 := by decide +kernel
        have z1 : ("m" : Str).length * ((m : Int)).toNat ≤ 1000000 := by rw [s2]; omega
        have z3 : ("abcdefghijkl" ++ repS "m" (m : Int) : Str).length ≤ 1000 := by rw [strapp_len, repS_len, s1, s2]; omega
        have z2 : ("abcdefghijkl" : Str).length + (repS "m" (m : Int)).length ≤ 1000 := by rw [repS_len, s1, s2]; omega
        walk_at "rd"
        exact .inr (.inl ⟨by simpa using c2, by rcases hm with rfl | rfl <;> decide +kernel, by decide +kernel⟩)
      walk_at "rd"
      refine @ite2 _ _ _ _ (fun c3 => ?_) (fun c3 => ?_)
      · have z1 : (6 : Int) + (m : Int) = ((6 + m : Nat) : Int) := by omega
        walk_at "rd"
        intro q1 B1 n1 h1 e1
        walk_at "rd"
        intro q2 B2 n2 h2 e2
        walk_at "rd"
        intro q3 B3 h3 e3
        have hc : RepL K B2 (cutV [.int 0, .non, .str "a", .ref q1, .int 1, .int 2, .int 3] none (some (6 + (m : Int)))) ([.int 0, .non, .str "a", .tup [], .int 1, .int 2, .int 3].take (6 + m)) := by
          rw [z1, cutV_to]
          exact RepL.take _ (by walk_at "repl")
        refine ⟨_, .int 0, "f", _, .tup _, _, none, none, rfl, .int 0, .tup h3 (e3.repL hc), by decide +kernel, by walk_at "pot", by walk_at "ex", .inr (.inr (.inl ⟨by simpa using c3, by decide +kernel, ?_⟩))⟩
        rcases hm with rfl | rfl <;> decide +kernel
      have hw : 4 < way := by
        have h1 : ¬ way < 3 := fun z => c1 (decide_eq_true z)
        have h2 : ¬ way = 3 := fun z => c2 (decide_eq_true (by rw [z]))
        have h3 : ¬ way = 4 := fun z => c3 (decide_eq_true (by rw [z]))
        omega
      have z0 : (7 : Int) + (m : Int) = ((7 + m : Nat) : Int) := by omega
      have s1 : ("~" : Str).length = 1 := by decide +kernel
      have z1 : ("~" : Str).length * (40 + (m : Int)).toNat ≤ 1000000 := by rw [s1]; omega
      have z2 : 1 * (7 + (m : Int)).toNat ≤ 1000000 := by omega
      have z3 : 1 * (50 + (m : Int)).toNat ≤ 1000000 := by omega
      walk_at "rd"
      intro q1 B1 n1 h1 e1
      walk_at "rdi"
      rename_i q8 A8 h8 e8 q7 A7 n7 h7 e7 q6 A6 h6 e6 q5 A5 n5 h5 e5 q4 A4' h4 e4 q3 A3 h3 e3 x A2 rx e2 q9 A9 n9 h9 e9 q10 A10 h10 e10 qL AL nL hL eL
      obtain ⟨ds, hds⟩ : ∃ ds : List Dt, ds = [nest (7 + m) (.int 0), .str (repS "~" (40 + (m : Int))), .int (10 ^ Int.toNat 30 + (m : Int)), .tup (List.replicate (50 + (m : Int)).toNat [.int 0]).flatten,
        .tup ((List.replicate (Int.toNat 4) [.tup (List.replicate (Int.toNat 47) [.int 0]).flatten]).flatten ++ (List.replicate (7 + (m : Int)).toNat [.int 0]).flatten)] := ⟨_, rfl⟩
      have hl : RepL K AL [x, .str (repS "~" (40 + (m : Int))), .int (10 ^ Int.toNat 30 + (m : Int)), .ref q10, .ref q3] ds := by
        rw [hds]
        walk_at "repl"
      have hw2 : ∀ d ∈ ds, isWorth d = decide ((m : Int) = 0) := by
        rw [hds]
        rcases hm with rfl | rfl <;> decide +kernel
      obtain ⟨j, hj⟩ : ∃ j : Nat, way - 5 = (j : Int) := ⟨(way - 5).toNat, by omega⟩
      generalize [x, .str (repS "~" (40 + (m : Int))), .int (10 ^ Int.toNat 30 + (m : Int)), .ref q10, .ref q3] = xs at hL hl
      have hxl : xs.length = 5 := by rw [hl.length, hds]; rfl
      have hjl : j < xs.length := by omega
      have hat : atI xs (way - 5) = some xs[j] := by rw [hj]; exact atI_nat (List.getElem?_eq_getElem hjl)
      obtain ⟨dj, hdj, rj⟩ := hl.get (List.getElem?_eq_getElem hjl)
      have hwj := hw2 dj (List.mem_of_getElem? hdj)
      generalize xs[j] = xj at hat rj
      walk_at "rd"
      exact ⟨by walk_at "ex", .inr (.inr (.inr ⟨hw, hwj⟩))⟩
    · clear hra hp4 e14 A4 qa
      rintro σ A5 ⟨wv, dw, name, av, da, many, o7, o8, rfl, hwv, hav, hnl, hp5, e5, hE⟩
      walk_at "rdi"
      rename_i q1 B1 n1 h1 e1 q2 B2 n2 h2 e2 q3 B3 n3 h3 e3 q4 B4 n4 h4 e4 q5 B5 n5 h5 e5' q6 B6 n6 h6 e6 q7 B7 n7 h7 e7 q8 B8 n8 h8 e8
      have hl : RepL K B8 [.ref q3, .ref q7] [.tup [.tup [.str "call", .str name, da], .tup [.str "told", .int 0]], .tup [.tup [.str "call", .str "f", .tup []], .tup [.str "fault", .str name]]] := by walk_at "repl"
      have hwv8 : Rep K B8 wv dw := by walk_at "rep"
      have hp8 : PotAt B8 p c := by walk_at "pot"
      have e58 : Ex [p] H B8 := by walk_at "ex"
      have n8p : q8 ≠ p := by walk_at "ne2"
      clear n1 h1 e1 n2 h2 e2 n3 h3 e3 n4 h4 e4 n5 h5 e5' n6 h6 e6 n7 h7 e7 n8 e8 hwv hav hp5 e5
      refine ⟨fun σ H' => ∃ (lst : Addr) (xs : List V) (ds : List Dt), σ = [some (.ref p), some (.int far), some (.int way), some wv, some (.str name), some av, some (.int many), o7, o8, some (.ref lst), none, none, none] ∧ H' lst = some (.lst xs) ∧ RepL K H' xs ds ∧
        0 < xs.length ∧ xs.length ≤ 3 ∧ lst ≠ p ∧ Rep K H' wv dw ∧ PotAt H' p c ∧ Ex [p] H H' ∧ ((4 < way ∧ isWorth dw = decide (far = 0)) ∨ EdgeB far way many ds), ?_, ?_⟩
      · walk_at "rd"
        refine @ite2 _ _ _ _ (fun c1 => ?_) (fun c1 => ?_)
        · have hw : way = 4 := by simpa using c1
          walk_at "rd"
          intro l B9 nl hL e9
          have hl2 : RepL K B9 (cutV [.ref q3, .ref q7] none (some 1)) [.tup [.tup [.str "call", .str name, da], .tup [.str "told", .int 0]]] := by
            show RepL K B9 (cutV _ none (some ((1 : Nat) : Int))) _
            rw [cutV_to]
            exact e9.repL (hl.take 1)
          have hln := hl2.length
          rw [List.length_singleton] at hln
          refine ⟨l, _, _, rfl, hL, hl2, by omega, by omega, hp8.ne nl, by walk_at "rep", by walk_at "pot", by walk_at "ex", ?_⟩
          rcases hE with ⟨a1, _⟩ | ⟨a1, _⟩ | ⟨a1, a2, a3⟩ | ⟨a1, _⟩
          · omega
          · omega
          · exact .inr ⟨shapes1 ⟨_, _, rfl⟩, .inr ⟨by omega, by simp [pair1, a2, a3]⟩⟩
          · omega
        · have hw : ¬ way = 4 := by simpa using c1
          refine ⟨q8, _, _, rfl, h8, hl, Nat.le_of_ble_eq_true rfl, Nat.le_of_ble_eq_true rfl, n8p, hwv8, hp8, e58, ?_⟩
          rcases hE with ⟨a1, a2, a3, a4⟩ | ⟨a1, a2, a3⟩ | ⟨a1, _⟩ | ⟨a1, a2⟩
          · exact .inr ⟨shapes_cons ⟨_, _, rfl⟩ (shapes1 ⟨_, _, rfl⟩), .inl ⟨a1, a2, by simp [pair1, pair2, a3, a4]⟩⟩
          · exact .inr ⟨shapes_cons ⟨_, _, rfl⟩ (shapes1 ⟨_, _, rfl⟩), .inr ⟨by omega, by simp [pair1, pair2, a2, a3]⟩⟩
          · exact absurd a1 hw
          · exact .inl ⟨a1, a2⟩
      · clear hl hwv8 hp8 e58 n8p h8 q1 q2 q3 q4 q5 q6 q7 q8 B1 B2 B3 B4 B5 B6 B7 B8
        rintro σ C0 ⟨lst, xs, ds, rfl, hL, hl, l0, l1, nlp, hwv, hp0, e0, hB⟩
        refine ⟨fun σ H' => ∃ (lst : Addr) (xs : List V) (ds : List Dt), σ = [some (.ref p), some (.int far), some (.int way), some wv, some (.str name), some av, some (.int many), o7, o8, some (.ref lst), none, none, none] ∧ H' lst = some (.lst xs) ∧ RepL K H' xs ds ∧
          0 < xs.length ∧ xs.length ≤ 3 ∧ lst ≠ p ∧ PotAt H' p c ∧ Ex [p] H H' ∧ EdgeB far way many ds, ?_, ?_⟩
        · walk_at "rd"
          refine @ite2 _ _ _ _ (fun c1 => ?_) (fun c1 => ?_)
          · have hw : 4 < way := of_decide_eq_true c1
            have hww : isWorth dw = decide (far = 0) := by
              rcases hB with ⟨_, h⟩ | ⟨_, ⟨a1, _⟩ | ⟨a1, a2⟩⟩
              · exact h
              · omega
              · rcases hE with ⟨b1, _⟩ | ⟨b1, _⟩ | ⟨b1, _⟩ | ⟨_, b2⟩
                · omega
                · omega
                · omega
                · exact b2
            walk_at "rdi"
            rename_i q1 B1 n1 h1 e1 q2 B2 n2 h2 e2 q3 B3 n3 h3 e3 q4 B4 n4 h4 e4 q5 B5 n5 h5 e5' q6 B6 n6 h6 e6 q7 B7 n7 h7 e7 q8 B8 n8 h8 e8 q9 B9 n9 h9 e9 qA BA nA hA eA qL AL nL hL2 eL
            have hl2 : RepL K AL [.ref q3, .ref q7, .ref qA] [.tup [.tup [.str "cell", dw], .tup [.str "told", .int 0]], .tup [.tup [.str "call", .str "f", .tup [dw]], .tup [.str "told", .int 0]], .tup [.tup [.str "cell", .int 0], .tup [.str "told", dw]]] := by walk_at "repl"
            refine ⟨by walk_at "ex", shapes_cons ⟨_, _, rfl⟩ (shapes_cons ⟨_, _, rfl⟩ (shapes1 ⟨_, _, rfl⟩)), .inr ⟨by omega, ?_⟩⟩
            simp only [List.mem_cons, List.not_mem_nil, or_false, forall_eq_or_imp, forall_eq, pair3, pair4, pair5, hww, and_self]
          · have hw : ¬ 4 < way := fun z => c1 (decide_eq_true z)
            refine ⟨lst, xs, ds, rfl, hL, hl, l0, l1, nlp, hp0, e0, ?_⟩
            rcases hB with ⟨h, _⟩ | h
            · exact absurd h hw
            · exact h
        · clear hL hl l0 l1 nlp hwv hp0 e0 hB lst xs ds C0
          rintro σ C0 ⟨lst, xs, ds, rfl, hL, hl, l0, l1, nlp, hp0, e0, hB⟩
          walk_at "rdi"
          rename_i q1 B1 n1 h1 e1 q2 B2 n2 h2 e2 q3 B3 n3 h3 e3 at_ B4 t0 t1 hp4 e4
          have hR : Rep K B4 (.ref q3) dRight := by
            unfold dRight
            walk_at "rep"
          have hL4 : B4 lst = some (.lst xs) := by walk_at "hp"
          have hl4 : RepL K B4 xs ds := by walk_at "repl"
          have e04 : Ex [p] H B4 := by walk_at "ex"
          have l2 : xs.length < 1000000 := by omega
          clear n1 h1 e1 n2 h2 e2 n3 h3 e3 e4 hp0 e0 hL hl
          refine @ite2 _ _ _ _ (fun c1 => ?_) (fun c1 => ?_)
          · have hw : way < 3 := of_decide_eq_true c1
            obtain ⟨hm, hpr⟩ : many = 300 + far ∧ ∀ d ∈ ds, isPair d = true := by
              rcases hB.2 with ⟨_, a, b⟩ | ⟨a, _⟩
              · exact ⟨a, b⟩
              · exact absurd hw a
            subst hm
            walk_at "rd"
            intro x B5 hx hp5 e5
            obtain ⟨d, hd, rd⟩ := RepL.memOf (K := K) (H := B5) (l := ds) hx (by walk_at "repl")
            have hpd := hpr d hd
            have z1 : 1 * (300 + far).toNat ≤ 1000000 := by omega
            walk_at "rdi"
            refine k _ (.tup (List.replicate (300 + far).toNat [d]).flatten) _ _ _ (by walk_at "rep") ⟨_, rfl, shapes_rep (hB.1 d hd)⟩ ?_ (by walk_at "sqt") (by walk_at "pot") (by walk_at "ex")
            rw [row_one hpd]
            refine decide_eq_decide.mpr ?_
            rw [V.int.injEq]
            omega
          · have hw : ¬ way < 3 := fun z => c1 (decide_eq_true z)
            have hpr : ∀ d ∈ ds, isPair d = decide (far = 0) := by
              rcases hB.2 with ⟨a, _⟩ | ⟨_, a⟩
              · exact absurd a hw
              · exact a
            have z1 : 1 * at_.toNat ≤ 1000000 := by omega
            have z2 : 1 * (2 - at_).toNat ≤ 1000000 := by omega
            walk_at "rdi"
            rename_i u1 C1 g1 g2 g3 u2 C2 g4 g5 x C3 hx hp5 e5 u3 C4 g6 g7 g8 u4 C5 g9 g10 u5 C6 g11 g12 g13 u6 C7 g14 g15 u7 C8 g16 g17 u8 C9 g18 g19 g20
            obtain ⟨d, hd, rd⟩ := RepL.memOf (K := K) (H := C3) (l := ds) hx (by walk_at "repl")
            refine k _ (.tup ((List.replicate at_.toNat [dRight]).flatten ++ [d] ++ (List.replicate (2 - at_).toNat [dRight]).flatten)) _ _ _ (by walk_at "rep") ⟨_, rfl, shapes_app (shapes_app (shapes_rep ⟨_, _, rfl⟩) (shapes1 (hB.1 d hd))) (shapes_rep ⟨_, _, rfl⟩)⟩ ?_ (by walk_at "sqt") (by walk_at "pot") (by walk_at "ex")
            rw [row_mid (by omega) (by omega), hpr d hd]
            refine decide_eq_decide.mpr ?_
            rw [V.int.injEq]
end
-- @SP _law_pot (spPot K)
-- @SP _law_draw spDraw
-- @SP _law_any spAny
-- @SP _law_thing (spOdd K)
-- @SP _law_bent (spBent K 4)
-- @SP _law_edge (spRowDue K)
-- @SP is_row (spJ isRow K)
/-! ### the law -/
def spLaw (K : PySem.W.Frag) : Sp := fun vs H Q _ => ∃ (a : Addr) (ns : List Int), (vs = [.ref a] ∧ SqL K H a (ns.map V.int) ∧ ns.length ≤ 63) ∧ ∀ H', Q (.bl true) H'
theorem shB5 : ∀ b1 b2 b3 b4 b5 : Bool, (PyData.list ([b1, b2, b3, b4, b5].map PyData.bool)).shown.length ≤ sizeLine := by
  have h : ∀ b1 b2 b3 b4 b5 : Bool, (PyData.list ([b1, b2, b3, b4, b5].map PyData.bool)).shown.length ≤ 100 := by decide +kernel
  exact fun a b c d e => Nat.le_trans (h a b c d e) (by decide)
theorem dpB5 {K : PySem.W.Frag} {H : Hp} {a : Addr} {b1 b2 b3 b4 b5 : Bool} (h : H a = some (.lst [.bl b1, .bl b2, .bl b3, .bl b4, .bl b5])) : Dp K H (.ref a) (.list ([b1, b2, b3, b4, b5].map PyData.bool)) := dpBls (SqL.of h)
theorem Ex.sqL0 {K : PySem.W.Frag} {H H' : Hp} {a : Addr} {xs : List V} (e : Ex [] H H') (h : SqL K H a xs) : SqL K H' a xs := by
  rcases h with (h | ⟨o, h⟩) | h
  · exact .inl (.inl (e.get0 h))
  · exact .inl (.inr ⟨o, e.frz h⟩)
  · exact .inr h
mutual
theorem Ex.dp {K : PySem.W.Frag} {H H' : Hp} (e : Ex [] H H') : ∀ {v : V} {d : PyData}, Dp K H v d → Dp K H' v d
  | _, _, .non => .non
  | _, _, .bl b => .bl b
  | _, _, .int i => .int i
  | _, _, .str x => .str x
  | _, _, .lst h hl => .lst (e.sqL0 h) (e.dpAll hl)
  | _, _, .tup h hl => .tup (e.sqT h) (e.dpAll hl)
theorem Ex.dpAll {K : PySem.W.Frag} {H H' : Hp} (e : Ex [] H H') : ∀ {vs : List V} {l : List PyData}, DpAll K H vs l → DpAll K H' vs l
  | _, _, .nil => .nil
  | _, _, .cons h hl => .cons (e.dp h) (e.dpAll hl)
end
def tolds1 : Dt → List Bool
  | .tup [.tup a, b] => [isAsk (.tup a), isAnswer b, isNode (.tup (a.drop 1))]
  | _ => []
def toldD (l : List Dt) : PyData := .list ((l.take 3).map fun d => .list ((tolds1 d).map PyData.bool))
theorem cutV_to3 (xs : List V) : cutV xs none (some 3) = xs.take 3 := cutV_to xs 3
theorem cutV_from1 (xs : List V) : cutV xs (some 1) none = xs.drop 1 := cutV_from xs 1
theorem dp_rows {K : PySem.W.Frag} {H : Hp} : ∀ {ys : List V} {ds : List Dt}, ys.length = ds.length → (∀ (j : Nat) (y : V) (d : Dt), ys[j]? = some y → ds[j]? = some d → ∃ q, y = V.ref q ∧ H q = some (.lst ((tolds1 d).map V.bl))) → DpAll K H ys (ds.map fun d => .list ((tolds1 d).map PyData.bool))
  | [], [], _, _ => .nil
  | y :: ys, d :: ds, hl, h => by
    obtain ⟨q, rfl, hq⟩ := h 0 y d (by simp) (by simp)
    exact .cons (dpBls (SqL.of hq)) (dp_rows (by simpa using hl) fun j y d e1 e2 => h (j + 1) y d (by simpa using e1) (by simpa using e2))
theorem bls_lay : ∀ bs : List Bool, PyData.canLayAll0 (bs.map PyData.bool) = true ∧ PyData.depthAll (bs.map PyData.bool) ≤ 1
  | [] => by simp [PyData.canLayAll0, PyData.depthAll]
  | b :: bs => by
    have h := bls_lay bs
    simp only [List.map_cons, PyData.canLayAll0, PyData.depthAll, PyData.canLay0, PyData.depth, h.1]
    exact ⟨rfl, by omega⟩
theorem rows_lay : ∀ ds : List Dt, PyData.canLayAll0 (ds.map fun d => PyData.list ((tolds1 d).map PyData.bool)) = true ∧ PyData.depthAll (ds.map fun d => PyData.list ((tolds1 d).map PyData.bool)) ≤ 2
  | [] => by simp [PyData.canLayAll0, PyData.depthAll]
  | d :: ds => by
    have h := rows_lay ds
    have h2 := bls_lay (tolds1 d)
    simp only [List.map_cons, PyData.canLayAll0, PyData.depthAll, PyData.canLay0, PyData.depth, h.1, h2.1]
    exact ⟨rfl, by omega⟩
theorem sh_rows (ds : List Dt) : SeqAt.shaped (.list (ds.map fun d => .list ((tolds1 d).map PyData.bool))) = true := by
  have h := rows_lay ds
  simp only [SeqAt.shaped, PyData.canLay0, PyData.depth, h.1, Bool.true_and]
  exact decide_eq_true (by omega)
structure TIv (D : Addr) (l : List Dt) (H1 : Hp) (i : Nat) (H : Hp) : Prop where
  ex : Ex [] H1 H
  l : ∃ acc : List V, H D = some (.lst acc) ∧ acc.length = i ∧ ∀ (j : Nat) (y : V) (d : Dt), acc[j]? = some y → l[j]? = some d → ∃ q, y = V.ref q ∧ q ≠ D ∧ H q = some (.lst ((tolds1 d).map V.bl))
theorem tolds {K : PySem.W.Frag} {a0 a1 a2 a3 a4 a5 a7 a8 : Option V} {x : V} {H : Hp} {Q : VK} {E0 : XK} {l : List Dt} (rx : Rep K H x (.tup l)) (hsh : ∀ d ∈ l, PairShape d)
    (k : ∀ D H', Ex [] H H' → Dp K H' (.ref D) (toldD l) → Q (.ref D) H') :
    tLc (iTup K (tSl (rSlG K) (tVar 6) tNoPart (tPart (tC (V.int 3))))) (gTup K 2 (gCons (gName 7) (gCons (gName 8) gNil))) tYes
      (tLstA (tCons (tCl (spJ isAsk K) E0 (tCons (tVar 7) tNil)) (tCons (tCl (spJ isAnswer K) E0 (tCons (tVar 8) tNil)) (tCons (tCl (spJ isNode K) E0 (tCons (tSl (rSlG K) (tVar 7) (tPart (tC (V.int 1))) tNoPart) tNil)) tNil))))
      [7, 8] [a0, a1, a2, a3, a4, a5, some x, a7, a8] H Q := by
  cases rx with
  | tup hs hl =>
    rename_i a xs
    walk_at "rd"
    rw [cutV_to3]
    intro t H1 ht e1
    have hl1 : RepL K H1 (xs.take 3) (l.take 3) := e1.repL (hl.take 3)
    have hsh1 : ∀ d ∈ l.take 3, PairShape d := fun d hd => hsh d (List.mem_of_mem_take hd)
    have hz : (l.take 3).length ≤ 3 := by rw [List.length_take]; omega
    refine ⟨_, rfl, ⟨_, ht⟩, fun D hD => ?_⟩
    unfold toldD at k
    generalize xs.take 3 = ys at *
    generalize l.take 3 = m at *
    refine lc_it (walk_tup (xs := ys)) (TIv D m H1) ⟨Ex.new hD, [], upd_same, rfl, fun j y d e => by simp at e⟩ (fun i H h p => p.ex.sqT ht) ?_ ?_
    · rintro i y H2 H3 hi ⟨e2, acc, h1, h2, h3⟩ ⟨rfl, hy⟩
      obtain ⟨d, hd, r⟩ := hl1.get hy
      obtain ⟨ad, b, rfl⟩ := hsh1 d (List.mem_of_getElem? hd)
      have r2 := e2.rep r
      cases r2 with
      | tup hs2 hl2 =>
        cases hl2 with
        | cons ra hl3 =>
          cases hl3 with
          | cons rb hl4 =>
            cases hl4
            rename_i ay va vb
            have ra' := ra
            cases ra' with
            | tup hs3 hl5 =>
              rename_i aa xsa
              walk_at "rd"
              intro H4 e4
              walk_at "rd"
              intro H5 e5
              walk_at "rd"
              rw [cutV_from1]
              intro t2 H6 ht2 e6
              have hl6 : RepL K H6 (xsa.drop 1) (ad.drop 1) := e6.repL (e5.repL (e4.repL (hl5.drop 1)))
              walk_at "rd"
              intro H7 e7
              walk_at "rd"
              intro q H8 hq hq8 e8
              have hx : Ex [] H3 H8 := by walk_at "ex"
              have nqD : q ≠ D := fun z => by
                subst z
                have h9 : H7 q = some (.lst acc) := e7.get0 (e6.get0 (e5.get0 (e4.get0 h1)))
                rw [hq] at h9
                cases h9
              have h10 : H8 D = some (.lst acc) := hx.get0 h1
              refine ⟨acc, h10, by show acc.length < 16777216; rw [h2]; have := hl1.length; omega, ⟨(e2.trans hx).put_new hD, acc ++ [.ref q], upd_same, by simp [h2], fun j y d hj hd' => ?_⟩⟩
              by_cases hlt : j < acc.length
              · rw [List.getElem?_append_left hlt] at hj
                obtain ⟨q0, h11, h12, h13⟩ := h3 j y d hj hd'
                exact ⟨q0, h11, h12, by rw [upd_ne h12]; exact hx.get0 h13⟩
              · rw [List.getElem?_append_right (by omega)] at hj
                have hj0 : j - acc.length = 0 := by
                  have := (List.getElem?_eq_some_iff.mp hj).1
                  simp at this
                  omega
                rw [hj0] at hj
                simp at hj
                obtain rfl : j = i := by omega
                rw [hd] at hd'
                cases hd'
                exact ⟨q, hj.symm, nqD, by rw [upd_ne nqD]; exact hq8⟩
    · rintro H2 ⟨e2, acc, h1, h2, h3⟩
      refine k D H2 (e1.trans e2) (.lst (SqL.of h1) (dp_rows (by rw [h2, hl1.length]) fun j y d e5 e6 => ?_))
      obtain ⟨q, h4, _, h5⟩ := h3 j y d e5 e6
      exact ⟨q, h4, h5⟩
section
variable {P : Program} {w : World} {K : PySem.W.Frag} {mg : Str → Option Value} {base : Heap}
theorem ok_law {f : Addr} {fd : FuncData} (F : Fun K "law" "law" s_law f fd) (T : Txt K mg) (C_is_ask : Cl P w K mg base 5 "is_ask" (spJ isAsk K)) (C_is_answer : Cl P w K mg base 4 "is_answer" (spJ isAnswer K)) (C_is_node : Cl P w K mg base 5 "is_node" (spJ isNode K)) (C_is_step : Cl P w K mg base 6 "is_step" (spJ isStep K)) (C_is_row : Cl P w K mg base 7 "is_row" (spJ isRow K)) (C_law_pot : Cl P w K mg base 1 "_law_pot" (spPot K)) (C_law_draw : Cl P w K mg base 1 "_law_draw" spDraw) (C_law_is_node : Cl P w K mg base 4 "_law_is_node" (spJ isNode K)) (C_law_is_ask : Cl P w K mg base 4 "_law_is_ask" (spJ isAsk K)) (C_law_is_answer : Cl P w K mg base 3 "_law_is_answer" (spJ isAnswer K)) (C_law_is_step : Cl P w K mg base 5 "_law_is_step" (spJ isStep K)) (C_law_is_row : Cl P w K mg base 6 "_law_is_row" (spJ isRow K)) (C_law_bent : Cl P w K mg base 8 "_law_bent" (spBent K 4)) (C_law_thing : Cl P w K mg base 7 "_law_thing" (spOdd K)) (C_law_edge : Cl P w K mg base 3 "_law_edge" (spRowDue K)) (bd : ∀ (s : Shared) (u : Value), BindsTo s fd ⟨[u], []⟩ [("script", u)]) : RunG P w K mg base f (spLaw K) := by
  refine claim_run (k := 20) F sc_law ⟨rfl, by decide, by decide⟩ bd fun cdv s H v Q E hr h => ?_
  obtain ⟨a, ns, ⟨hv, ha, hn⟩, k⟩ := h
  obtain rfl : v = .ref a := by simpa using hv
  refine ⟨_, (pss_cons (ps_set (i := 1) sc_law.nd rfl (Or.inl rfl) (pe_cl C_law_pot hr (by decide) (by rfl) (pa_cons (pv 0) pa_nil))) (pss_cons (ps_for PassesOwn.never rfl (pi_range1 (by rfl) T.b_range (pa_cons pe_int pa_nil)) (pg_name (i := 2) sc_law.nd rfl (Or.inl rfl)) (pss_cons (ps_set (i := 3) sc_law.nd rfl (Or.inl rfl) (pe_cl C_law_thing hr (by decide) (by rfl) (pa_cons (pv 1) pa_nil))) (pss_cons (ps_if (pt_cmpR op_eq (pe_cl C_law_draw hr (by decide) (by rfl) (pa_cons (pv 1) (pa_cons pe_int pa_nil))) pe_int (nomark _)) (pss_one (ps_set (i := 3) sc_law.nd rfl (Or.inl rfl) (pe_cl C_law_bent hr (by decide) (by rfl) (pa_cons (pv 1) (pa_cons (pv 3) (pa_cons pe_int pa_nil)))))) pss_nil) (pss_cons (ps_set (i := 4) sc_law.nd rfl (Or.inl rfl) (peLst (pa_cons (pe_cl C_is_ask hr (by decide) (by rfl) (pa_cons (pv 3) pa_nil)) (pa_cons (pe_cl C_is_answer hr (by decide) (by rfl) (pa_cons (pv 3) pa_nil)) (pa_cons (pe_cl C_is_node hr (by decide) (by rfl) (pa_cons (pv 3) pa_nil)) (pa_cons (pe_cl C_is_step hr (by decide) (by rfl) (pa_cons (pv 3) pa_nil)) (pa_cons (pe_cl C_is_row hr (by decide) (by rfl) (pa_cons (pv 3) pa_nil)) pa_nil))))))) (pss_cons (ps_set (i := 5) sc_law.nd rfl (Or.inl rfl) (peLst (pa_cons (pe_cl C_law_is_ask hr (by decide) (by rfl) (pa_cons (pv 3) pa_nil)) (pa_cons (pe_cl C_law_is_answer hr (by decide) (by rfl) (pa_cons (pv 3) pa_nil)) (pa_cons (pe_cl C_law_is_node hr (by decide) (by rfl) (pa_cons (pv 3) pa_nil)) (pa_cons (pe_cl C_law_is_step hr (by decide) (by rfl) (pa_cons (pv 3) pa_nil)) (pa_cons (pe_cl C_law_is_row hr (by decide) (by rfl) (pa_cons (pv 3) pa_nil)) pa_nil))))))) (pss_one (ps_if (pt_cmpR op_ne (pe_callB (cRepr (K := K) rfl rfl hr.units) (by rfl) T.b_repr bt_repr (pa_cons (pv 4) pa_nil)) (pe_callB (cRepr (K := K) rfl rfl hr.units) (by rfl) T.b_repr bt_repr (pa_cons (pv 5) pa_nil)) (nomark _)) (pss_one (ps_ret pe_bl)) pss_nil))))))) (pss_cons (ps_for PassesOwn.never rfl (pi_range1 (by rfl) T.b_range (pa_cons pe_int pa_nil)) (pg_name (i := 2) sc_law.nd rfl (Or.inl rfl)) (pss_cons (ps_asg (pe_cl C_law_edge hr (by decide) (by rfl) (pa_cons (pv 1) pa_nil)) (pg_tup (by rfl) (pgs_cons (pg_name (i := 6) sc_law.nd rfl (Or.inl rfl)) (pgs_cons (pg_name (i := 5) sc_law.nd rfl (Or.inl rfl)) pgs_nil)))) (pss_cons (ps_if (PW.pt (pw_or (pt_cmpR op_ne (pe_callB (cRepr (K := K) rfl rfl hr.units) (by rfl) T.b_repr bt_repr (pa_cons (pe_cl C_is_row hr (by decide) (by rfl) (pa_cons (pv 6) pa_nil)) pa_nil)) (pe_callB (cRepr (K := K) rfl rfl hr.units) (by rfl) T.b_repr bt_repr (pa_cons (pv 5) pa_nil)) (nomark _)) (pw_or1 (pt_cmpR op_ne (pe_cl C_law_is_row hr (by decide) (by rfl) (pa_cons (pv 6) pa_nil)) (pv 5) (nomark _))))) (pss_one (ps_ret pe_bl)) pss_nil) (pss_cons (ps_setLc (i := 4) (own := [("ask", 7), ("answer", 8)]) (g := gTup K 2 (gCons (gName 7) (gCons (gName 8) gNil))) (tt := tYes) rfl sc_law.nd rfl rfl (sw_true rfl rfl rfl (by decide +kernel)) (pi_tup (pe_slice (slG (K := K) rfl) (pv 6) po_none (po_some pe_int))) (blkOk_by (N := n_law) (sc := defScope s_law) (by decide +kernel)) (fun _ _ _ _ _ => (pg_tup (by rfl) (pgs_cons (pg_name (i := 7) sc_law.nd rfl (Or.inl rfl)) (pgs_cons (pg_name (i := 8) sc_law.nd rfl (Or.inl rfl)) pgs_nil)))) (fun _ _ _ _ _ => pts_nil) (fun _ _ _ _ _ => (peLst (pa_cons (pe_cl C_is_ask hr (by decide) (by rfl) (pa_cons (pv 7) pa_nil)) (pa_cons (pe_cl C_is_answer hr (by decide) (by rfl) (pa_cons (pv 8) pa_nil)) (pa_cons (pe_cl C_is_node hr (by decide) (by rfl) (pa_cons (pe_slice (slG (K := K) rfl) (pv 7) (po_some pe_int) po_none) pa_nil)) pa_nil)))))) (pss_one (ps_if (pt_cmpR (oNeP (K := K) rfl hr.units) (pv 4) (pe_lc (own := [("ask", 7), ("answer", 8)]) (g := gTup K 2 (gCons (gName 7) (gCons (gName 8) gNil))) (tt := tYes) rfl sc_law.nd (pi_tup (pe_slice (slG (K := K) rfl) (pv 6) po_none (po_some pe_int))) (blkOk_by (N := n_law) (sc := defScope s_law) (by decide +kernel)) (fun _ _ _ _ _ => (pg_tup (by rfl) (pgs_cons (pg_name (i := 7) sc_law.nd rfl (Or.inl rfl)) (pgs_cons (pg_name (i := 8) sc_law.nd rfl (Or.inl rfl)) pgs_nil)))) (fun _ _ _ _ _ => pts_nil) (fun _ _ _ _ _ => (peLst (pa_cons (pe_cl C_law_is_ask hr (by decide) (by rfl) (pa_cons (pv 7) pa_nil)) (pa_cons (pe_cl C_law_is_answer hr (by decide) (by rfl) (pa_cons (pv 8) pa_nil)) (pa_cons (pe_cl C_law_is_node hr (by decide) (by rfl) (pa_cons (pe_slice (slG (K := K) rfl) (pv 7) (po_some pe_int) po_none) pa_nil)) pa_nil)))))) (nomark _)) (pss_one (ps_ret pe_bl)) pss_nil)))))) (pss_one (ps_ret (pe_cmpR op_isBl (pe_cl C_is_row hr (by decide) (by rfl) (pa_cons (peTup pa_nil) pa_nil)) pe_bl (nomark _))))))), ?_⟩
  walk_at "nm"
  walk_at "rd"
  intro p c H1 hp e1
  walk_at "rd"
  refine for_it (walk_range (lo := 0) (n := Int.toNat 12)) (fun i σ H' => ∃ o2 o3 o4 o5, σ = [some (.ref a), some (.ref p), o2, o3, o4, o5, none, none, none] ∧ PotAt H' p c)
    ⟨none, none, none, none, rfl, hp⟩ (fun _ _ _ _ _ => trivial) ?_ ?_
  · clear hp e1 H1
    rintro i y σ H6 H6' hi ⟨o2, o3, o4, o5, rfl, hp⟩ ⟨rfl, rfl⟩
    walk_at "rd"
    intro x d H2 w2 hx hp2 e2
    walk_at "rd"
    intro r H3 r0 r1 hp3 e3
    walk_at "rd"
    refine @ite2 _ _ _ _ (fun c1 => ?_) (fun c1 => ?_)
    · walk_at "rd"
      intro x' d' H4 hx' hp4 e4
      walk_at "rdi"
      rename_i q1 B1 n1 h1 e1' C1 f1 C2 f2 C3 f3 C4 f4 C5 f5 q2 B2 n2 h2 e2'
      have g1 : B2 q1 = some (.lst [.bl (isAsk d'), .bl (isAnswer d'), .bl (isNode d'), .bl (isStep d'), .bl (isRow d')]) := by walk_at "hp"
      have d1 := dpB5 (K := K) g1
      have d2 := dpB5 (K := K) h2
      have zz := shB5 (isAsk d') (isAnswer d') (isNode d') (isStep d') (isRow d')
      walk_at "rd"
      refine @ite2 _ _ _ _ (fun c2 => ?_) (fun c2 => ?_)
      · exact absurd c2 (by simp)
      · exact ⟨_, _, _, _, rfl, by walk_at "pot"⟩
    · walk_at "rdi"
      rename_i q1 B1 n1 h1 e1' C1 f1 C2 f2 C3 f3 C4 f4 C5 f5 q2 B2 n2 h2 e2'
      have g1 : B2 q1 = some (.lst [.bl (isAsk d), .bl (isAnswer d), .bl (isNode d), .bl (isStep d), .bl (isRow d)]) := by walk_at "hp"
      have d1 := dpB5 (K := K) g1
      have d2 := dpB5 (K := K) h2
      have zz := shB5 (isAsk d) (isAnswer d) (isNode d) (isStep d) (isRow d)
      walk_at "rd"
      refine @ite2 _ _ _ _ (fun c2 => ?_) (fun c2 => ?_)
      · exact absurd c2 (by simp)
      · exact ⟨_, _, _, _, rfl, by walk_at "pot"⟩
  · rintro σ H6 ⟨o2, o3, o4, o5, rfl, hp⟩
    walk_at "rd"
    refine for_it (walk_range (lo := 0) (n := Int.toNat 6)) (fun i σ H' => ∃ o2 o4 o5 o6, σ = [some (.ref a), some (.ref p), o2, o3, o4, o5, o6, none, none] ∧ PotAt H' p c)
      ⟨o2, o4, o5, none, rfl, hp⟩ (fun _ _ _ _ _ => trivial) ?_ ?_
    · clear hp e1
      rintro i y σ H6 H6' hi ⟨o2, o4, o5, o6, rfl, hp⟩ ⟨rfl, rfl⟩
      walk_at "rd"
      intro x d b t H2 rx sx hb st hp2 e2
      subst hb
      obtain ⟨l, rfl, hsh⟩ := sx
      walk_at "rd"
      intro H3 e3
      walk_at "rd"
      refine @ite2 _ _ _ _ (fun c1 => absurd c1 (by simp)) (fun _ => ?_)
      walk_at "rd"
      intro H4 e4
      have rx' : Rep K H4 x (.tup l) := by walk_at "rep"
      walk_at "rd"
      refine @ite2 _ _ _ _ (fun c1 => absurd c1 (by simp)) (fun _ => ?_)
      dsimp only [tNext, tSeq, tAsg, List.map_cons, List.map_nil]
      refine tolds rx' hsh fun D H5 e5 d1 => ?_
      have rx2 : Rep K H5 x (.tup l) := by walk_at "rep"
      refine ⟨_, rfl, ?_⟩
      refine tolds rx2 hsh fun D2 H7 e7 d2 => ?_
      have d3 : Dp K H7 (.ref D) (toldD l) := Ex.dp e7 d1
      have sh : SeqAt.shaped (toldD l) = true := sh_rows _
      walk_at "rd"
      refine @ite2 _ _ _ _ (fun c2 => ?_) (fun c2 => ?_)
      · rw [SeqAt.eqv_refl _ (SeqAt.canLay_of_shaped sh)] at c2
        exact absurd c2 (by simp)
      · exact ⟨_, _, _, _, rfl, by walk_at "pot"⟩
    · rintro σ H6 ⟨o2, o4, o5, o6, rfl, hp⟩
      walk_at "rdi"
      show Q (.bl (decide (isRow (.tup []) = true))) _
      have e : decide (isRow (.tup []) = true) = true := by decide +kernel
      rw [e]
      exact k _
end
theorem all_mk {l : PySem.W.OpenLaw} {w : World} {K : PySem.W.Frag} {h : Heap} {mg : Str → Option Value} {fa : Addr} (X : K.In h) (G : h.Ns mainGlobals mg) (hfa : mg "law" = some (.ref fa))
    {od0 an0 od1 an1 od2 an2 od3 an3 od4 an4 od5 an5 od6 an6 od7 an7 od8 an8 od9 an9 od10 an10 od11 an11 od12 an12 od13 an13 od14 an14 od15 an15 od16 an16 od17 an17 od18 an18 od19 an19 od20 an20 od21 an21 od22 an22 od23 an23 od24 an24 od25 an25 od26 an26 od27 an27 od28 an28 od29 an29 od30 an30 od31 an31 od32 an32 od33 an33 od34 an34 od35 an35 od36 an36 od37 an37 od38 an38 od39 an39 : Option Addr}
    {sl0 sl1 sl2 sl3 sl4 sl5 sl6 sl7 sl8 sl9 sl10 sl11 sl12 sl13 sl14 sl15 sl16 sl17 sl18 sl19 sl20 sl21 sl22 sl23 sl24 sl25 sl26 sl27 sl28 sl29 sl30 sl31 sl32 sl33 sl34 sl35 sl36 sl37 sl38 sl39 : Array (Option Value)}
    {oc0 kV0 dc0 pm0 cd0 ct0 oc1 kV1 dc1 pm1 cd1 ct1 oc2 kV2 dc2 pm2 cd2 ct2 oc3 kV3 dc3 pm3 cd3 ct3 oc4 kV4 dc4 pm4 cd4 ct4 oc5 kV5 dc5 pm5 cd5 ct5 oc6 kV6 dc6 pm6 cd6 ct6 oc7 kV7 dc7 pm7 cd7 ct7 oc8 kV8 dc8 pm8 cd8 ct8 oc9 kV9 dc9 pm9 cd9 ct9 oc10 kV10 dc10 pm10 cd10 ct10 oc11 kV11 dc11 pm11 cd11 ct11 oc12 kV12 dc12 pm12 cd12 ct12 oc13 kV13 dc13 pm13 cd13 ct13 oc14 kV14 dc14 pm14 cd14 ct14 oc15 kV15 dc15 pm15 cd15 ct15 oc16 kV16 dc16 pm16 cd16 ct16 oc17 kV17 dc17 pm17 cd17 ct17 oc18 kV18 dc18 pm18 cd18 ct18 oc19 kV19 dc19 pm19 cd19 ct19 oc20 kV20 dc20 pm20 cd20 ct20 oc21 kV21 dc21 pm21 cd21 ct21 oc22 kV22 dc22 pm22 cd22 ct22 oc23 kV23 dc23 pm23 cd23 ct23 oc24 kV24 dc24 pm24 cd24 ct24 oc25 kV25 dc25 pm25 cd25 ct25 oc26 kV26 dc26 pm26 cd26 ct26 oc27 kV27 dc27 pm27 cd27 ct27 oc28 kV28 dc28 pm28 cd28 ct28 oc29 kV29 dc29 pm29 cd29 ct29 oc30 kV30 dc30 pm30 cd30 ct30 oc31 kV31 dc31 pm31 cd31 ct31 oc32 kV32 dc32 pm32 cd32 ct32 oc33 kV33 dc33 pm33 cd33 ct33 oc34 kV34 dc34 pm34 cd34 ct34 oc35 kV35 dc35 pm35 cd35 ct35 oc36 kV36 dc36 pm36 cd36 ct36 oc37 kV37 dc37 pm37 cd37 ct37 oc38 kV38 dc38 pm38 cd38 ct38 oc39 kV39 dc39 pm39 cd39 ct39 : Value}
    {f0 f1 f2 f3 f4 f5 f6 f7 f8 f9 f10 f11 f12 f13 f14 f15 f16 f17 f18 f19 f20 f21 f22 f23 f24 f25 f26 f27 f28 f29 f30 f31 f32 f33 f34 f35 f36 f37 f38 f39 : Addr}
    {tk_MOST tk_MOST_ARGS tk_MOST_ASKS tk_MOST_DEEP tk_MOST_ITEMS tk_MOST_SIGNS tk_MOST_WORTHS : Tok}
    (a0 : PySem.W.nsIn K mainGlobals "is_integer" = some (some (.ref f0)))
    (l0 : K.lookup f0 = some ⟨oc0, od0, .func (PySem.W.fnOf "is_integer" "is_integer" (defArgs s_is_integer) (defBody s_is_integer) (defScope s_is_integer) .none kV0 dc0 pm0 an0 cd0 ct0), sl0⟩)
    (c0 : PySem.W.codeIn K cd0 "is_integer" = true) (k0 : PySem.W.keepIn K (.ref f0) = true)
    (a1 : PySem.W.nsIn K mainGlobals "is_tuple_of" = some (some (.ref f1)))
    (l1 : K.lookup f1 = some ⟨oc1, od1, .func (PySem.W.fnOf "is_tuple_of" "is_tuple_of" (defArgs s_is_tuple_of) (defBody s_is_tuple_of) (defScope s_is_tuple_of) .none kV1 dc1 pm1 an1 cd1 ct1), sl1⟩)
    (c1 : PySem.W.codeIn K cd1 "is_tuple_of" = true) (k1 : PySem.W.keepIn K (.ref f1) = true)
    (a2 : PySem.W.nsIn K mainGlobals "is_name" = some (some (.ref f2)))
    (l2 : K.lookup f2 = some ⟨oc2, od2, .func (PySem.W.fnOf "is_name" "is_name" (defArgs s_is_name) (defBody s_is_name) (defScope s_is_name) .none kV2 dc2 pm2 an2 cd2 ct2), sl2⟩)
    (c2 : PySem.W.codeIn K cd2 "is_name" = true) (k2 : PySem.W.keepIn K (.ref f2) = true)
    (a3 : PySem.W.nsIn K mainGlobals "is_plain_worth" = some (some (.ref f3)))
    (l3 : K.lookup f3 = some ⟨oc3, od3, .func (PySem.W.fnOf "is_plain_worth" "is_plain_worth" (defArgs s_is_plain_worth) (defBody s_is_plain_worth) (defScope s_is_plain_worth) .none kV3 dc3 pm3 an3 cd3 ct3), sl3⟩)
    (c3 : PySem.W.codeIn K cd3 "is_plain_worth" = true) (k3 : PySem.W.keepIn K (.ref f3) = true)
    (a4 : PySem.W.nsIn K mainGlobals "is_worth" = some (some (.ref f4)))
    (l4 : K.lookup f4 = some ⟨oc4, od4, .func (PySem.W.fnOf "is_worth" "is_worth" (defArgs s_is_worth) (defBody s_is_worth) (defScope s_is_worth) .none kV4 dc4 pm4 an4 cd4 ct4), sl4⟩)
    (c4 : PySem.W.codeIn K cd4 "is_worth" = true) (k4 : PySem.W.keepIn K (.ref f4) = true)
    (a5 : PySem.W.nsIn K mainGlobals "are_args" = some (some (.ref f5)))
    (l5 : K.lookup f5 = some ⟨oc5, od5, .func (PySem.W.fnOf "are_args" "are_args" (defArgs s_are_args) (defBody s_are_args) (defScope s_are_args) .none kV5 dc5 pm5 an5 cd5 ct5), sl5⟩)
    (c5 : PySem.W.codeIn K cd5 "are_args" = true) (k5 : PySem.W.keepIn K (.ref f5) = true)
    (a6 : PySem.W.nsIn K mainGlobals "is_ask" = some (some (.ref f6)))
    (l6 : K.lookup f6 = some ⟨oc6, od6, .func (PySem.W.fnOf "is_ask" "is_ask" (defArgs s_is_ask) (defBody s_is_ask) (defScope s_is_ask) .none kV6 dc6 pm6 an6 cd6 ct6), sl6⟩)
    (c6 : PySem.W.codeIn K cd6 "is_ask" = true) (k6 : PySem.W.keepIn K (.ref f6) = true)
    (a7 : PySem.W.nsIn K mainGlobals "is_answer" = some (some (.ref f7)))
    (l7 : K.lookup f7 = some ⟨oc7, od7, .func (PySem.W.fnOf "is_answer" "is_answer" (defArgs s_is_answer) (defBody s_is_answer) (defScope s_is_answer) .none kV7 dc7 pm7 an7 cd7 ct7), sl7⟩)
    (c7 : PySem.W.codeIn K cd7 "is_answer" = true) (k7 : PySem.W.keepIn K (.ref f7) = true)
    (a8 : PySem.W.nsIn K mainGlobals "is_node" = some (some (.ref f8)))
    (l8 : K.lookup f8 = some ⟨oc8, od8, .func (PySem.W.fnOf "is_node" "is_node" (defArgs s_is_node) (defBody s_is_node) (defScope s_is_node) .none kV8 dc8 pm8 an8 cd8 ct8), sl8⟩)
    (c8 : PySem.W.codeIn K cd8 "is_node" = true) (k8 : PySem.W.keepIn K (.ref f8) = true)
    (a9 : PySem.W.nsIn K mainGlobals "is_step" = some (some (.ref f9)))
    (l9 : K.lookup f9 = some ⟨oc9, od9, .func (PySem.W.fnOf "is_step" "is_step" (defArgs s_is_step) (defBody s_is_step) (defScope s_is_step) .none kV9 dc9 pm9 an9 cd9 ct9), sl9⟩)
    (c9 : PySem.W.codeIn K cd9 "is_step" = true) (k9 : PySem.W.keepIn K (.ref f9) = true)
    (a10 : PySem.W.nsIn K mainGlobals "fits" = some (some (.ref f10)))
    (l10 : K.lookup f10 = some ⟨oc10, od10, .func (PySem.W.fnOf "fits" "fits" (defArgs s_fits) (defBody s_fits) (defScope s_fits) .none kV10 dc10 pm10 an10 cd10 ct10), sl10⟩)
    (c10 : PySem.W.codeIn K cd10 "fits" = true) (k10 : PySem.W.keepIn K (.ref f10) = true)
    (a11 : PySem.W.nsIn K mainGlobals "is_pair" = some (some (.ref f11)))
    (l11 : K.lookup f11 = some ⟨oc11, od11, .func (PySem.W.fnOf "is_pair" "is_pair" (defArgs s_is_pair) (defBody s_is_pair) (defScope s_is_pair) .none kV11 dc11 pm11 an11 cd11 ct11), sl11⟩)
    (c11 : PySem.W.codeIn K cd11 "is_pair" = true) (k11 : PySem.W.keepIn K (.ref f11) = true)
    (a12 : PySem.W.nsIn K mainGlobals "is_row" = some (some (.ref f12)))
    (l12 : K.lookup f12 = some ⟨oc12, od12, .func (PySem.W.fnOf "is_row" "is_row" (defArgs s_is_row) (defBody s_is_row) (defScope s_is_row) .none kV12 dc12 pm12 an12 cd12 ct12), sl12⟩)
    (c12 : PySem.W.codeIn K cd12 "is_row" = true) (k12 : PySem.W.keepIn K (.ref f12) = true)
    (a13 : PySem.W.nsIn K mainGlobals "_law_pot" = some (some (.ref f13)))
    (l13 : K.lookup f13 = some ⟨oc13, od13, .func (PySem.W.fnOf "_law_pot" "_law_pot" (defArgs s_law_pot) (defBody s_law_pot) (defScope s_law_pot) .none kV13 dc13 pm13 an13 cd13 ct13), sl13⟩)
    (c13 : PySem.W.codeIn K cd13 "_law_pot" = true) (k13 : PySem.W.keepIn K (.ref f13) = true)
    (a14 : PySem.W.nsIn K mainGlobals "_law_draw" = some (some (.ref f14)))
    (l14 : K.lookup f14 = some ⟨oc14, od14, .func (PySem.W.fnOf "_law_draw" "_law_draw" (defArgs s_law_draw) (defBody s_law_draw) (defScope s_law_draw) .none kV14 dc14 pm14 an14 cd14 ct14), sl14⟩)
    (c14 : PySem.W.codeIn K cd14 "_law_draw" = true) (k14 : PySem.W.keepIn K (.ref f14) = true)
    (a15 : PySem.W.nsIn K mainGlobals "_law_any" = some (some (.ref f15)))
    (l15 : K.lookup f15 = some ⟨oc15, od15, .func (PySem.W.fnOf "_law_any" "_law_any" (defArgs s_law_any) (defBody s_law_any) (defScope s_law_any) .none kV15 dc15 pm15 an15 cd15 ct15), sl15⟩)
    (c15 : PySem.W.codeIn K cd15 "_law_any" = true) (k15 : PySem.W.keepIn K (.ref f15) = true)
    (a16 : PySem.W.nsIn K mainGlobals "_law_worth" = some (some (.ref f16)))
    (l16 : K.lookup f16 = some ⟨oc16, od16, .func (PySem.W.fnOf "_law_worth" "_law_worth" (defArgs s_law_worth) (defBody s_law_worth) (defScope s_law_worth) .none kV16 dc16 pm16 an16 cd16 ct16), sl16⟩)
    (c16 : PySem.W.codeIn K cd16 "_law_worth" = true) (k16 : PySem.W.keepIn K (.ref f16) = true)
    (a17 : PySem.W.nsIn K mainGlobals "_law_deep_worth" = some (some (.ref f17)))
    (l17 : K.lookup f17 = some ⟨oc17, od17, .func (PySem.W.fnOf "_law_deep_worth" "_law_deep_worth" (defArgs s_law_deep_worth) (defBody s_law_deep_worth) (defScope s_law_deep_worth) .none kV17 dc17 pm17 an17 cd17 ct17), sl17⟩)
    (c17 : PySem.W.codeIn K cd17 "_law_deep_worth" = true) (k17 : PySem.W.keepIn K (.ref f17) = true)
    (a18 : PySem.W.nsIn K mainGlobals "_law_is_int" = some (some (.ref f18)))
    (l18 : K.lookup f18 = some ⟨oc18, od18, .func (PySem.W.fnOf "_law_is_int" "_law_is_int" (defArgs s_law_is_int) (defBody s_law_is_int) (defScope s_law_is_int) .none kV18 dc18 pm18 an18 cd18 ct18), sl18⟩)
    (c18 : PySem.W.codeIn K cd18 "_law_is_int" = true) (k18 : PySem.W.keepIn K (.ref f18) = true)
    (a19 : PySem.W.nsIn K mainGlobals "_law_is_worth" = some (some (.ref f19)))
    (l19 : K.lookup f19 = some ⟨oc19, od19, .func (PySem.W.fnOf "_law_is_worth" "_law_is_worth" (defArgs s_law_is_worth) (defBody s_law_is_worth) (defScope s_law_is_worth) .none kV19 dc19 pm19 an19 cd19 ct19), sl19⟩)
    (c19 : PySem.W.codeIn K cd19 "_law_is_worth" = true) (k19 : PySem.W.keepIn K (.ref f19) = true)
    (a20 : PySem.W.nsIn K mainGlobals "_law_odd" = some (some (.ref f20)))
    (l20 : K.lookup f20 = some ⟨oc20, od20, .func (PySem.W.fnOf "_law_odd" "_law_odd" (defArgs s_law_odd) (defBody s_law_odd) (defScope s_law_odd) .none kV20 dc20 pm20 an20 cd20 ct20), sl20⟩)
    (c20 : PySem.W.codeIn K cd20 "_law_odd" = true) (k20 : PySem.W.keepIn K (.ref f20) = true)
    (a21 : PySem.W.nsIn K mainGlobals "_law_is_name" = some (some (.ref f21)))
    (l21 : K.lookup f21 = some ⟨oc21, od21, .func (PySem.W.fnOf "_law_is_name" "_law_is_name" (defArgs s_law_is_name) (defBody s_law_is_name) (defScope s_law_is_name) .none kV21 dc21 pm21 an21 cd21 ct21), sl21⟩)
    (c21 : PySem.W.codeIn K cd21 "_law_is_name" = true) (k21 : PySem.W.keepIn K (.ref f21) = true)
    (a22 : PySem.W.nsIn K mainGlobals "_law_are_args" = some (some (.ref f22)))
    (l22 : K.lookup f22 = some ⟨oc22, od22, .func (PySem.W.fnOf "_law_are_args" "_law_are_args" (defArgs s_law_are_args) (defBody s_law_are_args) (defScope s_law_are_args) .none kV22 dc22 pm22 an22 cd22 ct22), sl22⟩)
    (c22 : PySem.W.codeIn K cd22 "_law_are_args" = true) (k22 : PySem.W.keepIn K (.ref f22) = true)
    (a23 : PySem.W.nsIn K mainGlobals "_law_is_node" = some (some (.ref f23)))
    (l23 : K.lookup f23 = some ⟨oc23, od23, .func (PySem.W.fnOf "_law_is_node" "_law_is_node" (defArgs s_law_is_node) (defBody s_law_is_node) (defScope s_law_is_node) .none kV23 dc23 pm23 an23 cd23 ct23), sl23⟩)
    (c23 : PySem.W.codeIn K cd23 "_law_is_node" = true) (k23 : PySem.W.keepIn K (.ref f23) = true)
    (a24 : PySem.W.nsIn K mainGlobals "_law_is_word" = some (some (.ref f24)))
    (l24 : K.lookup f24 = some ⟨oc24, od24, .func (PySem.W.fnOf "_law_is_word" "_law_is_word" (defArgs s_law_is_word) (defBody s_law_is_word) (defScope s_law_is_word) .none kV24 dc24 pm24 an24 cd24 ct24), sl24⟩)
    (c24 : PySem.W.codeIn K cd24 "_law_is_word" = true) (k24 : PySem.W.keepIn K (.ref f24) = true)
    (a25 : PySem.W.nsIn K mainGlobals "_law_is_ask" = some (some (.ref f25)))
    (l25 : K.lookup f25 = some ⟨oc25, od25, .func (PySem.W.fnOf "_law_is_ask" "_law_is_ask" (defArgs s_law_is_ask) (defBody s_law_is_ask) (defScope s_law_is_ask) .none kV25 dc25 pm25 an25 cd25 ct25), sl25⟩)
    (c25 : PySem.W.codeIn K cd25 "_law_is_ask" = true) (k25 : PySem.W.keepIn K (.ref f25) = true)
    (a26 : PySem.W.nsIn K mainGlobals "_law_is_answer" = some (some (.ref f26)))
    (l26 : K.lookup f26 = some ⟨oc26, od26, .func (PySem.W.fnOf "_law_is_answer" "_law_is_answer" (defArgs s_law_is_answer) (defBody s_law_is_answer) (defScope s_law_is_answer) .none kV26 dc26 pm26 an26 cd26 ct26), sl26⟩)
    (c26 : PySem.W.codeIn K cd26 "_law_is_answer" = true) (k26 : PySem.W.keepIn K (.ref f26) = true)
    (a27 : PySem.W.nsIn K mainGlobals "_law_is_step" = some (some (.ref f27)))
    (l27 : K.lookup f27 = some ⟨oc27, od27, .func (PySem.W.fnOf "_law_is_step" "_law_is_step" (defArgs s_law_is_step) (defBody s_law_is_step) (defScope s_law_is_step) .none kV27 dc27 pm27 an27 cd27 ct27), sl27⟩)
    (c27 : PySem.W.codeIn K cd27 "_law_is_step" = true) (k27 : PySem.W.keepIn K (.ref f27) = true)
    (a28 : PySem.W.nsIn K mainGlobals "_law_is_pair" = some (some (.ref f28)))
    (l28 : K.lookup f28 = some ⟨oc28, od28, .func (PySem.W.fnOf "_law_is_pair" "_law_is_pair" (defArgs s_law_is_pair) (defBody s_law_is_pair) (defScope s_law_is_pair) .none kV28 dc28 pm28 an28 cd28 ct28), sl28⟩)
    (c28 : PySem.W.codeIn K cd28 "_law_is_pair" = true) (k28 : PySem.W.keepIn K (.ref f28) = true)
    (a29 : PySem.W.nsIn K mainGlobals "_law_is_row" = some (some (.ref f29)))
    (l29 : K.lookup f29 = some ⟨oc29, od29, .func (PySem.W.fnOf "_law_is_row" "_law_is_row" (defArgs s_law_is_row) (defBody s_law_is_row) (defScope s_law_is_row) .none kV29 dc29 pm29 an29 cd29 ct29), sl29⟩)
    (c29 : PySem.W.codeIn K cd29 "_law_is_row" = true) (k29 : PySem.W.keepIn K (.ref f29) = true)
    (a30 : PySem.W.nsIn K mainGlobals "_law_bent" = some (some (.ref f30)))
    (l30 : K.lookup f30 = some ⟨oc30, od30, .func (PySem.W.fnOf "_law_bent" "_law_bent" (defArgs s_law_bent) (defBody s_law_bent) (defScope s_law_bent) .none kV30 dc30 pm30 an30 cd30 ct30), sl30⟩)
    (c30 : PySem.W.codeIn K cd30 "_law_bent" = true) (k30 : PySem.W.keepIn K (.ref f30) = true)
    (a31 : PySem.W.nsIn K mainGlobals "_law_name" = some (some (.ref f31)))
    (l31 : K.lookup f31 = some ⟨oc31, od31, .func (PySem.W.fnOf "_law_name" "_law_name" (defArgs s_law_name) (defBody s_law_name) (defScope s_law_name) .none kV31 dc31 pm31 an31 cd31 ct31), sl31⟩)
    (c31 : PySem.W.codeIn K cd31 "_law_name" = true) (k31 : PySem.W.keepIn K (.ref f31) = true)
    (a32 : PySem.W.nsIn K mainGlobals "_law_args" = some (some (.ref f32)))
    (l32 : K.lookup f32 = some ⟨oc32, od32, .func (PySem.W.fnOf "_law_args" "_law_args" (defArgs s_law_args) (defBody s_law_args) (defScope s_law_args) .none kV32 dc32 pm32 an32 cd32 ct32), sl32⟩)
    (c32 : PySem.W.codeIn K cd32 "_law_args" = true) (k32 : PySem.W.keepIn K (.ref f32) = true)
    (a33 : PySem.W.nsIn K mainGlobals "_law_any_ask" = some (some (.ref f33)))
    (l33 : K.lookup f33 = some ⟨oc33, od33, .func (PySem.W.fnOf "_law_any_ask" "_law_any_ask" (defArgs s_law_any_ask) (defBody s_law_any_ask) (defScope s_law_any_ask) .none kV33 dc33 pm33 an33 cd33 ct33), sl33⟩)
    (c33 : PySem.W.codeIn K cd33 "_law_any_ask" = true) (k33 : PySem.W.keepIn K (.ref f33) = true)
    (a34 : PySem.W.nsIn K mainGlobals "_law_any_answer" = some (some (.ref f34)))
    (l34 : K.lookup f34 = some ⟨oc34, od34, .func (PySem.W.fnOf "_law_any_answer" "_law_any_answer" (defArgs s_law_any_answer) (defBody s_law_any_answer) (defScope s_law_any_answer) .none kV34 dc34 pm34 an34 cd34 ct34), sl34⟩)
    (c34 : PySem.W.codeIn K cd34 "_law_any_answer" = true) (k34 : PySem.W.keepIn K (.ref f34) = true)
    (a35 : PySem.W.nsIn K mainGlobals "_law_any_row" = some (some (.ref f35)))
    (l35 : K.lookup f35 = some ⟨oc35, od35, .func (PySem.W.fnOf "_law_any_row" "_law_any_row" (defArgs s_law_any_row) (defBody s_law_any_row) (defScope s_law_any_row) .none kV35 dc35 pm35 an35 cd35 ct35), sl35⟩)
    (c35 : PySem.W.codeIn K cd35 "_law_any_row" = true) (k35 : PySem.W.keepIn K (.ref f35) = true)
    (a36 : PySem.W.nsIn K mainGlobals "_law_thing" = some (some (.ref f36)))
    (l36 : K.lookup f36 = some ⟨oc36, od36, .func (PySem.W.fnOf "_law_thing" "_law_thing" (defArgs s_law_thing) (defBody s_law_thing) (defScope s_law_thing) .none kV36 dc36 pm36 an36 cd36 ct36), sl36⟩)
    (c36 : PySem.W.codeIn K cd36 "_law_thing" = true) (k36 : PySem.W.keepIn K (.ref f36) = true)
    (a37 : PySem.W.nsIn K mainGlobals "_law_in_tuples" = some (some (.ref f37)))
    (l37 : K.lookup f37 = some ⟨oc37, od37, .func (PySem.W.fnOf "_law_in_tuples" "_law_in_tuples" (defArgs s_law_in_tuples) (defBody s_law_in_tuples) (defScope s_law_in_tuples) .none kV37 dc37 pm37 an37 cd37 ct37), sl37⟩)
    (c37 : PySem.W.codeIn K cd37 "_law_in_tuples" = true) (k37 : PySem.W.keepIn K (.ref f37) = true)
    (a38 : PySem.W.nsIn K mainGlobals "_law_edge" = some (some (.ref f38)))
    (l38 : K.lookup f38 = some ⟨oc38, od38, .func (PySem.W.fnOf "_law_edge" "_law_edge" (defArgs s_law_edge) (defBody s_law_edge) (defScope s_law_edge) .none kV38 dc38 pm38 an38 cd38 ct38), sl38⟩)
    (c38 : PySem.W.codeIn K cd38 "_law_edge" = true) (k38 : PySem.W.keepIn K (.ref f38) = true)
    (a39 : PySem.W.nsIn K mainGlobals "law" = some (some (.ref f39)))
    (l39 : K.lookup f39 = some ⟨oc39, od39, .func (PySem.W.fnOf "law" "law" (defArgs s_law) (defBody s_law) (defScope s_law) .none kV39 dc39 pm39 an39 cd39 ct39), sl39⟩)
    (c39 : PySem.W.codeIn K cd39 "law" = true) (k39 : PySem.W.keepIn K (.ref f39) = true)
    (zb_abs : PySem.W.nsIn K mainGlobals "abs" = some none)
    (zb_all : PySem.W.nsIn K mainGlobals "all" = some none)
    (zb_bool : PySem.W.nsIn K mainGlobals "bool" = some none)
    (zb_dict : PySem.W.nsIn K mainGlobals "dict" = some none)
    (zb_int : PySem.W.nsIn K mainGlobals "int" = some none)
    (zb_isinstance : PySem.W.nsIn K mainGlobals "isinstance" = some none)
    (zb_len : PySem.W.nsIn K mainGlobals "len" = some none)
    (zb_list : PySem.W.nsIn K mainGlobals "list" = some none)
    (zb_range : PySem.W.nsIn K mainGlobals "range" = some none)
    (zb_repr : PySem.W.nsIn K mainGlobals "repr" = some none)
    (zb_str : PySem.W.nsIn K mainGlobals "str" = some none)
    (zb_tuple : PySem.W.nsIn K mainGlobals "tuple" = some none)
    (zc_MOST : PySem.W.nsIn K mainGlobals "MOST" = some (some (.int 1000000000000000000000000000000 tk_MOST)))
    (zc_MOST_ARGS : PySem.W.nsIn K mainGlobals "MOST_ARGS" = some (some (.int 6 tk_MOST_ARGS)))
    (zc_MOST_ASKS : PySem.W.nsIn K mainGlobals "MOST_ASKS" = some (some (.int 300 tk_MOST_ASKS)))
    (zc_MOST_DEEP : PySem.W.nsIn K mainGlobals "MOST_DEEP" = some (some (.int 8 tk_MOST_DEEP)))
    (zc_MOST_ITEMS : PySem.W.nsIn K mainGlobals "MOST_ITEMS" = some (some (.int 50 tk_MOST_ITEMS)))
    (zc_MOST_SIGNS : PySem.W.nsIn K mainGlobals "MOST_SIGNS" = some (some (.int 40 tk_MOST_SIGNS)))
    (zc_MOST_WORTHS : PySem.W.nsIn K mainGlobals "MOST_WORTHS" = some (some (.int 200 tk_MOST_WORTHS)))
    : ∀ base : Heap, K.In base → base.Ns mainGlobals mg → RunG l.prog w K mg base fa (spLaw K) := by
  have e := hfa.symm.trans (PySem.W.mg_of X G a39)
  cases e
  have T : Txt K mg := ⟨PySem.W.mg_none_of X G zb_abs, PySem.W.mg_none_of X G zb_all, PySem.W.mg_none_of X G zb_bool, PySem.W.mg_none_of X G zb_dict, PySem.W.mg_none_of X G zb_int, PySem.W.mg_none_of X G zb_isinstance, PySem.W.mg_none_of X G zb_len, PySem.W.mg_none_of X G zb_list, PySem.W.mg_none_of X G zb_range, PySem.W.mg_none_of X G zb_repr, PySem.W.mg_none_of X G zb_str, PySem.W.mg_none_of X G zb_tuple, ⟨_, PySem.W.mg_of X G zc_MOST, _, rfl⟩, ⟨_, PySem.W.mg_of X G zc_MOST_ARGS, _, rfl⟩, ⟨_, PySem.W.mg_of X G zc_MOST_ASKS, _, rfl⟩, ⟨_, PySem.W.mg_of X G zc_MOST_DEEP, _, rfl⟩, ⟨_, PySem.W.mg_of X G zc_MOST_ITEMS, _, rfl⟩, ⟨_, PySem.W.mg_of X G zc_MOST_SIGNS, _, rfl⟩, ⟨_, PySem.W.mg_of X G zc_MOST_WORTHS, _, rfl⟩⟩
  intro base _ _
  have F0 := fun_mk (st := s_is_integer) l0 c0 k0
  have b0 := F0.binds (ps := ["thing"]) fun _ _ _ _ _ _ us hl => match us, hl with | [_], _ => rfl
  have C_is_integer : Cl l.prog w K mg base 1 "is_integer" _ := ⟨_, _, _, ok_is_integer F0 T, PySem.W.mg_of X G a0, k0, b0⟩
  have F1 := fun_mk (st := s_is_tuple_of) l1 c1 k1
  have b1 := F1.binds (ps := ["thing", "size"]) fun _ _ _ _ _ _ us hl => match us, hl with | [_, _], _ => rfl
  have C_is_tuple_of : Cl l.prog w K mg base 1 "is_tuple_of" _ := ⟨_, _, _, ok_is_tuple_of F1 T, PySem.W.mg_of X G a1, k1, b1⟩
  have F2 := fun_mk (st := s_is_name) l2 c2 k2
  have b2 := F2.binds (ps := ["thing"]) fun _ _ _ _ _ _ us hl => match us, hl with | [_], _ => rfl
  have C_is_name : Cl l.prog w K mg base 1 "is_name" _ := ⟨_, _, _, ok_is_name F2 T, PySem.W.mg_of X G a2, k2, b2⟩
  have F3 := fun_mk (st := s_is_plain_worth) l3 c3 k3
  have b3 := F3.binds (ps := ["thing"]) fun _ _ _ _ _ _ us hl => match us, hl with | [_], _ => rfl
  have C_is_plain_worth : Cl l.prog w K mg base 2 "is_plain_worth" _ := ⟨_, _, _, ok_is_plain_worth F3 T C_is_integer, PySem.W.mg_of X G a3, k3, b3⟩
  have F4 := fun_mk (st := s_is_worth) l4 c4 k4
  have b4 := F4.binds (ps := ["thing"]) fun _ _ _ _ _ _ us hl => match us, hl with | [_], _ => rfl
  have C_is_worth : Cl l.prog w K mg base 3 "is_worth" _ := ⟨_, _, _, ok_is_worth F4 T C_is_plain_worth, PySem.W.mg_of X G a4, k4, b4⟩
  have F5 := fun_mk (st := s_are_args) l5 c5 k5
  have b5 := F5.binds (ps := ["thing"]) fun _ _ _ _ _ _ us hl => match us, hl with | [_], _ => rfl
  have C_are_args : Cl l.prog w K mg base 4 "are_args" _ := ⟨_, _, _, ok_are_args F5 T C_is_worth, PySem.W.mg_of X G a5, k5, b5⟩
  have F6 := fun_mk (st := s_is_ask) l6 c6 k6
  have b6 := F6.binds (ps := ["thing"]) fun _ _ _ _ _ _ us hl => match us, hl with | [_], _ => rfl
  have C_is_ask : Cl l.prog w K mg base 5 "is_ask" _ := ⟨_, _, _, ok_is_ask F6 T C_is_tuple_of C_is_name C_is_worth C_are_args, PySem.W.mg_of X G a6, k6, b6⟩
  have F7 := fun_mk (st := s_is_answer) l7 c7 k7
  have b7 := F7.binds (ps := ["thing"]) fun _ _ _ _ _ _ us hl => match us, hl with | [_], _ => rfl
  have C_is_answer : Cl l.prog w K mg base 4 "is_answer" _ := ⟨_, _, _, ok_is_answer F7 T C_is_tuple_of C_is_name C_is_worth, PySem.W.mg_of X G a7, k7, b7⟩
  have F8 := fun_mk (st := s_is_node) l8 c8 k8
  have b8 := F8.binds (ps := ["thing"]) fun _ _ _ _ _ _ us hl => match us, hl with | [_], _ => rfl
  have C_is_node : Cl l.prog w K mg base 5 "is_node" _ := ⟨_, _, _, ok_is_node F8 T C_is_tuple_of C_is_name C_are_args, PySem.W.mg_of X G a8, k8, b8⟩
  have F9 := fun_mk (st := s_is_step) l9 c9 k9
  have b9 := F9.binds (ps := ["thing"]) fun _ _ _ _ _ _ us hl => match us, hl with | [_], _ => rfl
  have C_is_step : Cl l.prog w K mg base 6 "is_step" _ := ⟨_, _, _, ok_is_step F9 T C_is_tuple_of C_is_ask C_is_answer, PySem.W.mg_of X G a9, k9, b9⟩
  have F10 := fun_mk (st := s_fits) l10 c10 k10
  have b10 := F10.binds (ps := ["ask", "answer"]) fun _ _ _ _ _ _ us hl => match us, hl with | [_, _], _ => rfl
  have C_fits : Cl l.prog w K mg base 1 "fits" _ := ⟨_, _, _, ok_fits F10 T, PySem.W.mg_of X G a10, k10, b10⟩
  have F11 := fun_mk (st := s_is_pair) l11 c11 k11
  have b11 := F11.binds (ps := ["thing"]) fun _ _ _ _ _ _ us hl => match us, hl with | [_], _ => rfl
  have C_is_pair : Cl l.prog w K mg base 6 "is_pair" _ := ⟨_, _, _, ok_is_pair F11 T C_is_tuple_of C_is_ask C_is_answer C_fits, PySem.W.mg_of X G a11, k11, b11⟩
  have F12 := fun_mk (st := s_is_row) l12 c12 k12
  have b12 := F12.binds (ps := ["thing"]) fun _ _ _ _ _ _ us hl => match us, hl with | [_], _ => rfl
  have C_is_row : Cl l.prog w K mg base 7 "is_row" _ := ⟨_, _, _, ok_is_row F12 T C_is_pair, PySem.W.mg_of X G a12, k12, b12⟩
  have F13 := fun_mk (st := s_law_pot) l13 c13 k13
  have b13 := F13.binds (ps := ["script"]) fun _ _ _ _ _ _ us hl => match us, hl with | [_], _ => rfl
  have C_law_pot : Cl l.prog w K mg base 1 "_law_pot" _ := ⟨_, _, _, ok_law_pot F13 T, PySem.W.mg_of X G a13, k13, b13⟩
  have F14 := fun_mk (st := s_law_draw) l14 c14 k14
  have b14 := F14.binds (ps := ["pot", "many"]) fun _ _ _ _ _ _ us hl => match us, hl with | [_, _], _ => rfl
  have C_law_draw : Cl l.prog w K mg base 1 "_law_draw" _ := ⟨_, _, _, ok_law_draw F14 T, PySem.W.mg_of X G a14, k14, b14⟩
  have F15 := fun_mk (st := s_law_any) l15 c15 k15
  have b15 := F15.binds (ps := ["pot", "things"]) fun _ _ _ _ _ _ us hl => match us, hl with | [_, _], _ => rfl
  have C_law_any : Cl l.prog w K mg base 2 "_law_any" _ := ⟨_, _, _, ok_law_any F15 T C_law_draw, PySem.W.mg_of X G a15, k15, b15⟩
  have F16 := fun_mk (st := s_law_worth) l16 c16 k16
  have b16 := F16.binds (ps := ["pot"]) fun _ _ _ _ _ _ us hl => match us, hl with | [_], _ => rfl
  have C_law_worth : Cl l.prog w K mg base 3 "_law_worth" _ := ⟨_, _, _, ok_law_worth F16 T C_law_any, PySem.W.mg_of X G a16, k16, b16⟩
  have F17 := fun_mk (st := s_law_deep_worth) l17 c17 k17
  have b17 := F17.binds (ps := ["pot", "deep"]) fun _ _ _ _ _ _ us hl => match us, hl with | [_, _], _ => rfl
  have C_law_deep_worth : Cl l.prog w K mg base 4 "_law_deep_worth" _ := ⟨_, _, _, ok_law_deep_worth F17 T C_law_draw C_law_worth, PySem.W.mg_of X G a17, k17, b17⟩
  have F18 := fun_mk (st := s_law_is_int) l18 c18 k18
  have b18 := F18.binds (ps := ["thing"]) fun _ _ _ _ _ _ us hl => match us, hl with | [_], _ => rfl
  have C_law_is_int : Cl l.prog w K mg base 1 "_law_is_int" _ := ⟨_, _, _, ok_law_is_int F18 T, PySem.W.mg_of X G a18, k18, b18⟩
  have F19 := fun_mk (st := s_law_is_worth) l19 c19 k19
  have b19 := F19.binds (ps := ["thing"]) fun _ _ _ _ _ _ us hl => match us, hl with | [_], _ => rfl
  have C_law_is_worth : Cl l.prog w K mg base 2 "_law_is_worth" _ := ⟨_, _, _, ok_law_is_worth F19 T C_law_is_int, PySem.W.mg_of X G a19, k19, b19⟩
  have F20 := fun_mk (st := s_law_odd) l20 c20 k20
  have b20 := F20.binds (ps := ["pot"]) fun _ _ _ _ _ _ us hl => match us, hl with | [_], _ => rfl
  have C_law_odd : Cl l.prog w K mg base 3 "_law_odd" _ := ⟨_, _, _, ok_law_odd F20 T C_law_draw C_law_any, PySem.W.mg_of X G a20, k20, b20⟩
  have F21 := fun_mk (st := s_law_is_name) l21 c21 k21
  have b21 := F21.binds (ps := ["thing"]) fun _ _ _ _ _ _ us hl => match us, hl with | [_], _ => rfl
  have C_law_is_name : Cl l.prog w K mg base 1 "_law_is_name" _ := ⟨_, _, _, ok_law_is_name F21 T, PySem.W.mg_of X G a21, k21, b21⟩
  have F22 := fun_mk (st := s_law_are_args) l22 c22 k22
  have b22 := F22.binds (ps := ["thing"]) fun _ _ _ _ _ _ us hl => match us, hl with | [_], _ => rfl
  have C_law_are_args : Cl l.prog w K mg base 3 "_law_are_args" _ := ⟨_, _, _, ok_law_are_args F22 T C_law_is_worth, PySem.W.mg_of X G a22, k22, b22⟩
  have F23 := fun_mk (st := s_law_is_node) l23 c23 k23
  have b23 := F23.binds (ps := ["thing"]) fun _ _ _ _ _ _ us hl => match us, hl with | [_], _ => rfl
  have C_law_is_node : Cl l.prog w K mg base 4 "_law_is_node" _ := ⟨_, _, _, ok_law_is_node F23 T C_law_is_name C_law_are_args, PySem.W.mg_of X G a23, k23, b23⟩
  have F24 := fun_mk (st := s_law_is_word) l24 c24 k24
  have b24 := F24.binds (ps := ["thing", "size", "word"]) fun _ _ _ _ _ _ us hl => match us, hl with | [_, _, _], _ => rfl
  have C_law_is_word : Cl l.prog w K mg base 1 "_law_is_word" _ := ⟨_, _, _, ok_law_is_word F24 T, PySem.W.mg_of X G a24, k24, b24⟩
  have F25 := fun_mk (st := s_law_is_ask) l25 c25 k25
  have b25 := F25.binds (ps := ["thing"]) fun _ _ _ _ _ _ us hl => match us, hl with | [_], _ => rfl
  have C_law_is_ask : Cl l.prog w K mg base 4 "_law_is_ask" _ := ⟨_, _, _, ok_law_is_ask F25 T C_law_is_worth C_law_is_name C_law_are_args C_law_is_word, PySem.W.mg_of X G a25, k25, b25⟩
  have F26 := fun_mk (st := s_law_is_answer) l26 c26 k26
  have b26 := F26.binds (ps := ["thing"]) fun _ _ _ _ _ _ us hl => match us, hl with | [_], _ => rfl
  have C_law_is_answer : Cl l.prog w K mg base 3 "_law_is_answer" _ := ⟨_, _, _, ok_law_is_answer F26 T C_law_is_worth C_law_is_name C_law_is_word, PySem.W.mg_of X G a26, k26, b26⟩
  have F27 := fun_mk (st := s_law_is_step) l27 c27 k27
  have b27 := F27.binds (ps := ["thing"]) fun _ _ _ _ _ _ us hl => match us, hl with | [_], _ => rfl
  have C_law_is_step : Cl l.prog w K mg base 5 "_law_is_step" _ := ⟨_, _, _, ok_law_is_step F27 T C_law_is_word C_law_is_ask C_law_is_answer, PySem.W.mg_of X G a27, k27, b27⟩
  have F28 := fun_mk (st := s_law_is_pair) l28 c28 k28
  have b28 := F28.binds (ps := ["thing"]) fun _ _ _ _ _ _ us hl => match us, hl with | [_], _ => rfl
  have C_law_is_pair : Cl l.prog w K mg base 5 "_law_is_pair" _ := ⟨_, _, _, ok_law_is_pair F28 T C_law_is_ask C_law_is_answer, PySem.W.mg_of X G a28, k28, b28⟩
  have F29 := fun_mk (st := s_law_is_row) l29 c29 k29
  have b29 := F29.binds (ps := ["thing"]) fun _ _ _ _ _ _ us hl => match us, hl with | [_], _ => rfl
  have C_law_is_row : Cl l.prog w K mg base 6 "_law_is_row" _ := ⟨_, _, _, ok_law_is_row F29 T C_law_is_pair, PySem.W.mg_of X G a29, k29, b29⟩
  have F30 := fun_mk (st := s_law_bent) l30 c30 k30
  have b30 := F30.binds (ps := ["pot", "thing", "deep"]) fun _ _ _ _ _ _ us hl => match us, hl with | [_, _, _], _ => rfl
  have C_law_bent : Cl l.prog w K mg base 8 "_law_bent" _ := ⟨_, _, _, rec_ok (ok_law_bent F30 T C_law_draw C_law_any C_law_worth C_law_odd) (PySem.W.mg_of X G a30) k30 b30 4, PySem.W.mg_of X G a30, k30, b30⟩
  have F31 := fun_mk (st := s_law_name) l31 c31 k31
  have b31 := F31.binds (ps := ["pot"]) fun _ _ _ _ _ _ us hl => match us, hl with | [_], _ => rfl
  have C_law_name : Cl l.prog w K mg base 3 "_law_name" _ := ⟨_, _, _, ok_law_name F31 T C_law_any, PySem.W.mg_of X G a31, k31, b31⟩
  have F32 := fun_mk (st := s_law_args) l32 c32 k32
  have b32 := F32.binds (ps := ["pot"]) fun _ _ _ _ _ _ us hl => match us, hl with | [_], _ => rfl
  have C_law_args : Cl l.prog w K mg base 4 "_law_args" _ := ⟨_, _, _, ok_law_args F32 T C_law_any C_law_worth, PySem.W.mg_of X G a32, k32, b32⟩
  have F33 := fun_mk (st := s_law_any_ask) l33 c33 k33
  have b33 := F33.binds (ps := ["pot"]) fun _ _ _ _ _ _ us hl => match us, hl with | [_], _ => rfl
  have C_law_any_ask : Cl l.prog w K mg base 5 "_law_any_ask" _ := ⟨_, _, _, ok_law_any_ask F33 T C_law_draw C_law_any C_law_deep_worth C_law_name C_law_args, PySem.W.mg_of X G a33, k33, b33⟩
  have F34 := fun_mk (st := s_law_any_answer) l34 c34 k34
  have b34 := F34.binds (ps := ["pot"]) fun _ _ _ _ _ _ us hl => match us, hl with | [_], _ => rfl
  have C_law_any_answer : Cl l.prog w K mg base 5 "_law_any_answer" _ := ⟨_, _, _, ok_law_any_answer F34 T C_law_draw C_law_any C_law_deep_worth C_law_name, PySem.W.mg_of X G a34, k34, b34⟩
  have F35 := fun_mk (st := s_law_any_row) l35 c35 k35
  have b35 := F35.binds (ps := ["pot"]) fun _ _ _ _ _ _ us hl => match us, hl with | [_], _ => rfl
  have C_law_any_row : Cl l.prog w K mg base 6 "_law_any_row" _ := ⟨_, _, _, ok_law_any_row F35 T C_law_draw C_law_any C_law_any_ask C_law_any_answer, PySem.W.mg_of X G a35, k35, b35⟩
  have F36 := fun_mk (st := s_law_thing) l36 c36 k36
  have b36 := F36.binds (ps := ["pot"]) fun _ _ _ _ _ _ us hl => match us, hl with | [_], _ => rfl
  have C_law_thing : Cl l.prog w K mg base 7 "_law_thing" _ := ⟨_, _, _, ok_law_thing F36 T C_law_draw C_law_any C_law_odd C_law_name C_law_args C_law_any_ask C_law_any_answer C_law_any_row, PySem.W.mg_of X G a36, k36, b36⟩
  have F37 := fun_mk (st := s_law_in_tuples) l37 c37 k37
  have b37 := F37.binds (ps := ["worth", "many"]) fun _ _ _ _ _ _ us hl => match us, hl with | [_, _], _ => rfl
  have C_law_in_tuples : Cl l.prog w K mg base 1 "_law_in_tuples" _ := ⟨_, _, _, ok_law_in_tuples F37 T, PySem.W.mg_of X G a37, k37, b37⟩
  have F38 := fun_mk (st := s_law_edge) l38 c38 k38
  have b38 := F38.binds (ps := ["pot"]) fun _ _ _ _ _ _ us hl => match us, hl with | [_], _ => rfl
  have C_law_edge : Cl l.prog w K mg base 3 "_law_edge" _ := ⟨_, _, _, ok_law_edge F38 T C_law_draw C_law_any C_law_in_tuples, PySem.W.mg_of X G a38, k38, b38⟩
  exact ok_law (fun_mk (st := s_law) l39 c39 k39) T C_is_ask C_is_answer C_is_node C_is_step C_is_row C_law_pot C_law_draw C_law_is_node C_law_is_ask C_law_is_answer C_law_is_step C_law_is_row C_law_bent C_law_thing C_law_edge (fun s v => .of_eq rfl)
theorem walk {l : PySem.W.OpenLaw} {q : Program} {loose : List Str} {XP : (Str → Option Value) → Heap → Prop} {YP : World → Heap → Prop} {d : DefRec} {K : Params → PySem.W.Frag} (hn : l.most = some 63) (hdf : d.params.defaults = [])
    (hY : ∀ (w : World) (h : Heap), YP w h → (K w.params).In h)
    (F : ∀ (w : World) (mg : Str → Option Value) (fa : Addr) (h : Heap), (K w.params).In h → h.Ns mainGlobals mg → mg d.name = some (.ref fa) →
      ∀ base : Heap, (K w.params).In base → base.Ns mainGlobals mg → RunG l.prog w (K w.params) mg base fa (spLaw (K w.params))) :
    PySem.W.WalkO q loose XP YP l.row.toRowW d [] (fun f vs => PySem.call f vs) :=
  walk_claim (n := 63) (sp := fun w => spLaw (K w.params)) hn (by decide) hdf hY F (fun _ _ a ns hl hS => ⟨a, ns, ⟨rfl, hS, hl⟩, fun _ => rfl⟩)
end G
open PySem PySem.W PyProof.Rows in
set_option maxRecDepth 100000 in
set_option maxHeartbeats 0 in
theorem PySem.Challenge.cw_keptviews_k17_asks_answers_nodes_steps_r_holds : PySem.Challenge.rw_keptviews_k17_asks_answers_nodes_steps_r.Holds := by
  w_on; o_law; k_head; (case hw => w_witness2)
  k_fill
  refine G.walk (l := PySem.Challenge.rw_keptviews_k17_asks_answers_nodes_steps_r) rfl rfl (fun w h Y => PySem.W.kIn_of Y) ?F
  case F =>
    intro w mg fa h KX GG hmg
    refine' G.all_mk KX GG hmg ?a0 ?l0 ?c0 ?k0 ?a1 ?l1 ?c1 ?k1 ?a2 ?l2 ?c2 ?k2 ?a3 ?l3 ?c3 ?k3 ?a4 ?l4 ?c4 ?k4 ?a5 ?l5 ?c5 ?k5 ?a6 ?l6 ?c6 ?k6 ?a7 ?l7 ?c7 ?k7 ?a8 ?l8 ?c8 ?k8 ?a9 ?l9 ?c9 ?k9 ?a10 ?l10 ?c10 ?k10 ?a11 ?l11 ?c11 ?k11 ?a12 ?l12 ?c12 ?k12 ?a13 ?l13 ?c13 ?k13 ?a14 ?l14 ?c14 ?k14 ?a15 ?l15 ?c15 ?k15 ?a16 ?l16 ?c16 ?k16 ?a17 ?l17 ?c17 ?k17 ?a18 ?l18 ?c18 ?k18 ?a19 ?l19 ?c19 ?k19 ?a20 ?l20 ?c20 ?k20 ?a21 ?l21 ?c21 ?k21 ?a22 ?l22 ?c22 ?k22 ?a23 ?l23 ?c23 ?k23 ?a24 ?l24 ?c24 ?k24 ?a25 ?l25 ?c25 ?k25 ?a26 ?l26 ?c26 ?k26 ?a27 ?l27 ?c27 ?k27 ?a28 ?l28 ?c28 ?k28 ?a29 ?l29 ?c29 ?k29 ?a30 ?l30 ?c30 ?k30 ?a31 ?l31 ?c31 ?k31 ?a32 ?l32 ?c32 ?k32 ?a33 ?l33 ?c33 ?k33 ?a34 ?l34 ?c34 ?k34 ?a35 ?l35 ?c35 ?k35 ?a36 ?l36 ?c36 ?k36 ?a37 ?l37 ?c37 ?k37 ?a38 ?l38 ?c38 ?k38 ?a39 ?l39 ?c39 ?k39 ?zb_abs ?zb_all ?zb_bool ?zb_dict ?zb_int ?zb_isinstance ?zb_len ?zb_list ?zb_range ?zb_repr ?zb_str ?zb_tuple ?zc_MOST ?zc_MOST_ARGS ?zc_MOST_ASKS ?zc_MOST_DEEP ?zc_MOST_ITEMS ?zc_MOST_SIGNS ?zc_MOST_WORTHS
    (case a0 => k_is)
    (case l0 => k_is)
    (case c0 => k_is)
    (case k0 => k_is)
    (case a1 => k_is)
    (case l1 => k_is)
    (case c1 => k_is)
    (case k1 => k_is)
    (case a2 => k_is)
    (case l2 => k_is)
    (case c2 => k_is)
    (case k2 => k_is)
    (case a3 => k_is)
    (case l3 => k_is)
    (case c3 => k_is)
    (case k3 => k_is)
    (case a4 => k_is)
    (case l4 => k_is)
    (case c4 => k_is)
    (case k4 => k_is)
    (case a5 => k_is)
    (case l5 => k_is)
    (case c5 => k_is)
    (case k5 => k_is)
    (case a6 => k_is)
    (case l6 => k_is)
    (case c6 => k_is)
    (case k6 => k_is)
    (case a7 => k_is)
    (case l7 => k_is)
    (case c7 => k_is)
    (case k7 => k_is)
    (case a8 => k_is)
    (case l8 => k_is)
    (case c8 => k_is)
    (case k8 => k_is)
    (case a9 => k_is)
    (case l9 => k_is)
    (case c9 => k_is)
    (case k9 => k_is)
    (case a10 => k_is)
    (case l10 => k_is)
    (case c10 => k_is)
    (case k10 => k_is)
    (case a11 => k_is)
    (case l11 => k_is)
    (case c11 => k_is)
    (case k11 => k_is)
    (case a12 => k_is)
    (case l12 => k_is)
    (case c12 => k_is)
    (case k12 => k_is)
    (case a13 => k_is)
    (case l13 => k_is)
    (case c13 => k_is)
    (case k13 => k_is)
    (case a14 => k_is)
    (case l14 => k_is)
    (case c14 => k_is)
    (case k14 => k_is)
    (case a15 => k_is)
    (case l15 => k_is)
    (case c15 => k_is)
    (case k15 => k_is)
    (case a16 => k_is)
    (case l16 => k_is)
    (case c16 => k_is)
    (case k16 => k_is)
    (case a17 => k_is)
    (case l17 => k_is)
    (case c17 => k_is)
    (case k17 => k_is)
    (case a18 => k_is)
    (case l18 => k_is)
    (case c18 => k_is)
    (case k18 => k_is)
    (case a19 => k_is)
    (case l19 => k_is)
    (case c19 => k_is)
    (case k19 => k_is)
    (case a20 => k_is)
    (case l20 => k_is)
    (case c20 => k_is)
    (case k20 => k_is)
    (case a21 => k_is)
    (case l21 => k_is)
    (case c21 => k_is)
    (case k21 => k_is)
    (case a22 => k_is)
    (case l22 => k_is)
    (case c22 => k_is)
    (case k22 => k_is)
    (case a23 => k_is)
    (case l23 => k_is)
    (case c23 => k_is)
    (case k23 => k_is)
    (case a24 => k_is)
    (case l24 => k_is)
    (case c24 => k_is)
    (case k24 => k_is)
    (case a25 => k_is)
    (case l25 => k_is)
    (case c25 => k_is)
    (case k25 => k_is)
    (case a26 => k_is)
    (case l26 => k_is)
    (case c26 => k_is)
    (case k26 => k_is)
    (case a27 => k_is)
    (case l27 => k_is)
    (case c27 => k_is)
    (case k27 => k_is)
    (case a28 => k_is)
    (case l28 => k_is)
    (case c28 => k_is)
    (case k28 => k_is)
    (case a29 => k_is)
    (case l29 => k_is)
    (case c29 => k_is)
    (case k29 => k_is)
    (case a30 => k_is)
    (case l30 => k_is)
    (case c30 => k_is)
    (case k30 => k_is)
    (case a31 => k_is)
    (case l31 => k_is)
    (case c31 => k_is)
    (case k31 => k_is)
    (case a32 => k_is)
    (case l32 => k_is)
    (case c32 => k_is)
    (case k32 => k_is)
    (case a33 => k_is)
    (case l33 => k_is)
    (case c33 => k_is)
    (case k33 => k_is)
    (case a34 => k_is)
    (case l34 => k_is)
    (case c34 => k_is)
    (case k34 => k_is)
    (case a35 => k_is)
    (case l35 => k_is)
    (case c35 => k_is)
    (case k35 => k_is)
    (case a36 => k_is)
    (case l36 => k_is)
    (case c36 => k_is)
    (case k36 => k_is)
    (case a37 => k_is)
    (case l37 => k_is)
    (case c37 => k_is)
    (case k37 => k_is)
    (case a38 => k_is)
    (case l38 => k_is)
    (case c38 => k_is)
    (case k38 => k_is)
    (case a39 => k_is)
    (case l39 => k_is)
    (case c39 => k_is)
    (case k39 => k_is)
    (case zb_abs => k_is)
    (case zb_all => k_is)
    (case zb_bool => k_is)
    (case zb_dict => k_is)
    (case zb_int => k_is)
    (case zb_isinstance => k_is)
    (case zb_len => k_is)
    (case zb_list => k_is)
    (case zb_range => k_is)
    (case zb_repr => k_is)
    (case zb_str => k_is)
    (case zb_tuple => k_is)
    (case zc_MOST => k_is)
    (case zc_MOST_ARGS => k_is)
    (case zc_MOST_ASKS => k_is)
    (case zc_MOST_DEEP => k_is)
    (case zc_MOST_ITEMS => k_is)
    (case zc_MOST_SIGNS => k_is)
    (case zc_MOST_WORTHS => k_is)
