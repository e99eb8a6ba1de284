import PyProof.Rows.All
import Wide.All
import OpenK.AllK
import Wide.FinOn
import HandS.ForMost
import HandS.IsInst
import HandS.TupAny
import HandS.TupMul
import HandS.Wide
import HandS.Style
import HandS.Flow
import HandS.Codes
import HandS.Walk
import PyProof.ReprRoads
import HandS.Lambda
import HandS.EndTab
import HandS.TryMany
import HandS.ExcOwn
import HandS.WordsExc
import HandS.Steps
import HandS.Small
import KE.DataCmp
import HandS.ExcIs
import HandS.Zip
import PySem.Challenge.RW_keptviews_k13_worths_in_order
set_option Elab.async false
set_option maxRecDepth 100000
set_option maxHeartbeats 4000000
namespace G
open PySem L2

/-! ### heaps that go on -/
/-- what of an object stays when it changes: its kind -/
def norm : HO → HO
  | .lst _ => .lst []
  | .dK _ => .dK []
  | .dT _ => .dT []
  | .set _ _ => .set (fun _ => false) 0
  | .ins C d _ => .ins C d []
  | .tbl _ => .tbl #[]
  | a => a
def Kin (a b : HO) : Prop := norm a = norm b
theorem Kin.refl (a : HO) : Kin a a := rfl
theorem Kin.trans {a b c : HO} (h : Kin a b) (k : Kin b c) : Kin a c := Eq.trans h k
/-- a is none of these -/
def Nin (a : Addr) : List Addr → Prop
  | [] => True
  | m :: r => a ≠ m ∧ Nin a r
theorem nin_of {a : Addr} : ∀ {M : List Addr}, a ∉ M → Nin a M
  | [], _ => True.intro
  | m :: r, h => ⟨fun e => h (by rw [e]; exact List.mem_cons_self), nin_of fun e => h (List.mem_cons_of_mem _ e)⟩
theorem nin_mem {a : Addr} : ∀ {M : List Addr}, Nin a M → a ∉ M
  | [], _ => by simp
  | m :: r, h => fun e => (List.mem_cons.mp e).elim h.1 (nin_mem h.2)
/-- all stays but what the objects at M hold -/
def Ex (M : List Addr) (H H' : Hp) : Prop := ∀ a o, H a = some o → (Nin a M → H' a = some o) ∧ ∃ o', H' a = some o' ∧ Kin o o'
theorem Ex.refl (M : List Addr) (H : Hp) : Ex M H H := fun _ o h => ⟨fun _ => h, o, h, Kin.refl o⟩
theorem Ex.get {M : List Addr} {H H' : Hp} {a : Addr} {o : HO} (e : Ex M H H') (h : H a = some o) (n : Nin a M) : H' a = some o := (e a o h).1 n
theorem Ex.get0 {H H' : Hp} {a : Addr} {o : HO} (e : Ex [] H H') (h : H a = some o) : H' a = some o := (e a o h).1 True.intro
theorem Ex.tup {M : List Addr} {H H' : Hp} {a : Addr} {xs : List V} (e : Ex M H H') (h : H a = some (.tup xs)) : H' a = some (.tup xs) := by
  obtain ⟨o', h1, k⟩ := (e a _ h).2
  cases o' <;> simp_all [Kin, norm]
theorem Ex.frz {M : List Addr} {H H' : Hp} {a : Addr} {o : Obj} {u : HO} (e : Ex M H H') (h : H a = some (.frz o u)) : H' a = some (.frz o u) := by
  obtain ⟨o', h1, k⟩ := (e a _ h).2
  cases o' <;> simp_all [Kin, norm]
theorem Ex.trans {M : List Addr} {H H1 H2 : Hp} (a : Ex M H H1) (b : Ex M H1 H2) : Ex M H H2 := fun c o h => by
  obtain ⟨h1, o1, h2, k1⟩ := a c o h
  obtain ⟨_, o2, h4, k2⟩ := b c o1 h2
  exact ⟨fun n => (b c o (h1 n)).1 n, o2, h4, k1.trans k2⟩
theorem Ex.mono {M N : List Addr} {H H' : Hp} (a : Ex M H H') (h : ∀ x ∈ M, x ∈ N) : Ex N H H' := fun c o e =>
  ⟨fun n => (a c o e).1 (nin_of fun m => nin_mem n (h c m)), (a c o e).2⟩
theorem Ex.of0 {M : List Addr} {H H' : Hp} (a : Ex [] H H') : Ex M H H' := a.mono (fun _ h => nomatch h)
theorem Ex.new {M : List Addr} {H : Hp} {p : Addr} {o : HO} (h : H p = none) : Ex M H (upd H p o) := fun a u e =>
  have q : upd H p o a = some u := by rw [upd_ne (ne_of_none e h)]; exact e
  ⟨fun _ => q, u, q, Kin.refl u⟩
theorem Ex.put {M : List Addr} {H : Hp} {p : Addr} {o o' : HO} (h : H p = some o) (k : Kin o o') (m : p ∈ M) : Ex M H (upd H p o') := fun a u e => by
  by_cases z : a = p
  · subst z
    rw [h] at e
    cases e
    exact ⟨fun n => absurd m (nin_mem n), o', upd_same, k⟩
  · exact ⟨fun _ => by rw [upd_ne z]; exact e, u, by rw [upd_ne z]; exact e, Kin.refl u⟩
/-- an object that was not there ahead may change -/
theorem Ex.put_new {M : List Addr} {H H' : Hp} {p : Addr} {o' : HO} (e : Ex M H H') (h : H p = none) : Ex M H (upd H' p o') := fun a u q => by
  have z : a ≠ p := ne_of_none q h
  obtain ⟨h1, o1, h2, k⟩ := e a u q
  exact ⟨fun n => by rw [upd_ne z]; exact h1 n, o1, by rw [upd_ne z]; exact h2, k⟩
/-- what is new behind is new ahead -/
theorem Ex.none {M : List Addr} {H H' : Hp} {p : Addr} (e : Ex M H H') (h : H' p = none) : H p = none := by
  cases q : H p with
  | none => rfl
  | some o =>
    obtain ⟨_, o', h1, _⟩ := e p o q
    rw [h] at h1
    cases h1
theorem upd_none {H : Hp} {p q : Addr} {o : HO} (h : upd H q o p = none) : p ≠ q ∧ H p = none := by
  by_cases z : p = q
  · subst z; rw [upd_same] at h; cases h
  · exact ⟨z, by rw [upd_ne z] at h; exact h⟩
theorem upd_new {H : Hp} {p a : Addr} {o u : HO} (h : H p = none) (e : H a = some u) : upd H p o a = some u := by rw [upd_ne (ne_of_none e h)]; exact e
theorem upd_oth {H : Hp} {p a : Addr} {o : HO} {u : Option HO} (h : a ≠ p) (e : H a = u) : upd H p o a = u := by rw [upd_ne h]; exact e
theorem upd_oth2 {H : Hp} {p a : Addr} {o u : HO} (e : H a = some u) (h : a ≠ p) : upd H p o a = some u := by rw [upd_ne h]; exact e
theorem ne_new {H : Hp} {p a : Addr} {u : HO} (h : H p = none) (e : H a = some u) : a ≠ p := ne_of_none e h
theorem rd_rd {M : List Addr} {H H' : Hp} {a : Addr} {xs : List V} (e : Ex M H H') (h : Rd H a (.tup xs)) : Rd H' a (.tup xs) := by
  rcases h with h | ⟨o, h⟩
  · exact .inl (e.tup h)
  · exact .inr ⟨o, e.frz h⟩
theorem Ex.sqT {K : PySem.W.Frag} {M : List Addr} {H H' : Hp} {a : Addr} {xs : List V} (e : Ex M H H') (h : SqT K H a xs) : SqT K H' a xs := by
  rcases h with h | h
  · exact .inl (rd_rd e h)
  · exact .inr h

/-! ### data -/
inductive Dt where
  | non | bl (b : Bool) | int (i : Int) | str (s : Str) | tup (l : List Dt) | oth
/-- a list or a dict -/
def Oth (H : Hp) (a : Addr) : Prop := (∃ xs, H a = some (.lst xs)) ∨ ∃ kvs, H a = some (.dK kvs)
mutual
inductive Rep (K : PySem.W.Frag) (H : Hp) : V → Dt → Prop
  | non : Rep K H .non .non
  | bl (b : Bool) : Rep K H (.bl b) (.bl b)
  | int (i : Int) : Rep K H (.int i) (.int i)
  | str (x : Str) (h : x.length ≤ 1000000) : Rep K H (.str x) (.str x)
  | tup {a : Addr} {xs : List V} {l : List Dt} : SqT K H a xs → RepL K H xs l → Rep K H (.ref a) (.tup l)
  | oth {a : Addr} : Oth H a → Rep K H (.ref a) .oth
inductive RepL (K : PySem.W.Frag) (H : Hp) : List V → List Dt → Prop
  | nil : RepL K H [] []
  | cons {v : V} {d : Dt} {vs : List V} {l : List Dt} : Rep K H v d → RepL K H vs l → RepL K H (v :: vs) (d :: l)
end
theorem Ex.oth {M : List Addr} {H H' : Hp} {a : Addr} (e : Ex M H H') (h : Oth H a) : Oth H' a := by
  rcases h with ⟨xs, h⟩ | ⟨kvs, h⟩
  · obtain ⟨_, o', h1, k⟩ := e a _ h
    cases o' <;> first | exact .inl ⟨_, h1⟩ | exact absurd k (by simp [Kin, norm])
  · obtain ⟨_, o', h1, k⟩ := e a _ h
    cases o' <;> first | exact .inr ⟨_, h1⟩ | exact absurd k (by simp [Kin, norm])
mutual
theorem Ex.rep {K : PySem.W.Frag} {M : List Addr} {H H' : Hp} (e : Ex M H H') : ∀ {v : V} {d : Dt}, Rep K H v d → Rep K H' v d
  | _, _, .non => .non
  | _, _, .bl b => .bl b
  | _, _, .int i => .int i
  | _, _, .str x h => .str x h
  | _, _, .tup h hl => .tup (e.sqT h) (e.repL hl)
  | _, _, .oth h => .oth (e.oth h)
theorem Ex.repL {K : PySem.W.Frag} {M : List Addr} {H H' : Hp} (e : Ex M H H') : ∀ {vs : List V} {l : List Dt}, RepL K H vs l → RepL K H' vs l
  | _, _, .nil => .nil
  | _, _, .cons h hl => .cons (e.rep h) (e.repL hl)
end
theorem RepL.length {K : PySem.W.Frag} {H : Hp} : ∀ {vs : List V} {l : List Dt}, RepL K H vs l → vs.length = l.length
  | _, _, .nil => rfl
  | _, _, .cons _ t => by rw [List.length_cons, List.length_cons, t.length]
theorem RepL.get {K : PySem.W.Frag} {H : Hp} : ∀ {vs : List V} {l : List Dt} {i : Nat} {v : V}, RepL K H vs l → vs[i]? = some v → ∃ d, l[i]? = some d ∧ Rep K H v d
  | _, _, _, _, .nil, e => by simp at e
  | _, _, 0, _, .cons (d := d) h _, e => by simp at e; subst e; exact ⟨d, by simp, h⟩
  | _, _, i + 1, _, .cons _ t, e => by
    obtain ⟨d, h1, h2⟩ := t.get (i := i) (by simpa using e)
    exact ⟨d, by simpa using h1, h2⟩
theorem RepL.snoc {K : PySem.W.Frag} {H : Hp} {d : Dt} : ∀ {l : List Dt} {vs : List V}, RepL K H vs (l ++ [d]) → ∃ ws y, vs = ws ++ [y] ∧ RepL K H ws l ∧ Rep K H y d
  | [], _, .cons h .nil => ⟨[], _, rfl, .nil, h⟩
  | _ :: l, _, .cons h t => by
    obtain ⟨ws, y, e, a, b⟩ := RepL.snoc t
    exact ⟨_ :: ws, y, by rw [e]; rfl, .cons h a, b⟩
theorem RepL.mem {K : PySem.W.Frag} {H : Hp} {x : V} : ∀ {l : List Dt} {vs : List V}, RepL K H vs l → x ∈ vs → ∃ d, d ∈ l ∧ Rep K H x d
  | _, _, .cons (d := d) h t, e => by
    rcases List.mem_cons.mp e with e | e
    · subst e; exact ⟨d, List.mem_cons_self, h⟩
    · obtain ⟨d', h1, h2⟩ := RepL.mem t e
      exact ⟨d', List.mem_cons_of_mem _ h1, h2⟩
theorem RepL.memOf {K : PySem.W.Frag} {H : Hp} {x : V} {vs : List V} {l : List Dt} (hx : x ∈ vs) (h : RepL K H vs l) : ∃ d, d ∈ l ∧ Rep K H x d := h.mem hx
theorem RepL.append {K : PySem.W.Frag} {H : Hp} : ∀ {vs ws : List V} {l m : List Dt}, RepL K H vs l → RepL K H ws m → RepL K H (vs ++ ws) (l ++ m)
  | _, _, _, _, .nil, h => h
  | _, _, _, _, .cons a t, h => .cons a (t.append h)
end G
namespace G
open PySem L2
section
variable {K : PySem.W.Frag} {H : Hp} {p : Addr} {o o' : HO}
theorem SqT.of {a : Addr} {xs : List V} (h : H a = some (.tup xs)) : SqT K H a xs := .inl (.inl h)
theorem Rep.oth_l {a : Addr} {xs : List V} (h : H a = some (.lst xs)) : Rep K H (.ref a) .oth := .oth (.inl ⟨xs, h⟩)
theorem Rep.oth_d {a : Addr} {kvs : List (Key × V)} (h : H a = some (.dK kvs)) : Rep K H (.ref a) .oth := .oth (.inr ⟨kvs, h⟩)
theorem sqt_new {a : Addr} {xs : List V} (h : H p = none) (r : SqT K H a xs) : SqT K (upd H p o) a xs := (Ex.new (M := []) h).sqT r
theorem sqt_put {a : Addr} {xs : List V} (h : H p = some o) (k : norm o = norm o') (r : SqT K H a xs) : SqT K (upd H p o') a xs := (Ex.put (M := [p]) h k List.mem_cons_self).sqT r
theorem rep_new {v : V} {d : Dt} (h : H p = none) (r : Rep K H v d) : Rep K (upd H p o) v d := (Ex.new (M := []) h).rep r
theorem rep_put {v : V} {d : Dt} (h : H p = some o) (k : norm o = norm o') (r : Rep K H v d) : Rep K (upd H p o') v d := (Ex.put (M := [p]) h k List.mem_cons_self).rep r
theorem repl_new {v : List V} {d : List Dt} (h : H p = none) (r : RepL K H v d) : RepL K (upd H p o) v d := (Ex.new (M := []) h).repL r
theorem repl_put {v : List V} {d : List Dt} (h : H p = some o) (k : norm o = norm o') (r : RepL K H v d) : RepL K (upd H p o') v d := (Ex.put (M := [p]) h k List.mem_cons_self).repL r
end
/-- what is new behind is new ahead -/
def Dom (H H' : Hp) : Prop := ∀ p, H' p = none → H p = none
theorem Dom.refl (H : Hp) : Dom H H := fun _ h => h
theorem Dom.step {M : List Addr} {H H1 H2 : Hp} (e : Ex M H1 H2) (d : Dom H H1) : Dom H H2 := fun p h => d p (e.none h)
theorem Dom.none {H H' : Hp} {p : Addr} (h : H' p = none) (d : Dom H H') : H p = none := d p h
theorem side0 {M : List Addr} {H : Hp} : ∀ x ∈ ([] : List Addr), x ∈ M ∨ H x = none := fun _ h => nomatch h
theorem side1 {M : List Addr} {H : Hp} {q : Addr} (h : q ∈ M ∨ H q = none) : ∀ x ∈ [q], x ∈ M ∨ H x = none := fun x e => by
  rw [List.mem_singleton] at e
  subst e
  exact h
theorem Ex.step {M N : List Addr} {H H1 H2 : Hp} (b : Ex N H1 H2) (s : ∀ x ∈ N, x ∈ M ∨ H x = Option.none) (a : Ex M H H1) : Ex M H H2 := fun c o h => by
  obtain ⟨h1, o1, h2, k1⟩ := a c o h
  obtain ⟨h3, o2, h4, k2⟩ := b c o1 h2
  refine ⟨fun n => (b c o (h1 n)).1 (nin_of fun m => ?_), o2, h4, k1.trans k2⟩
  rcases s c m with z | z
  · exact nin_mem n z
  · rw [h] at z
    cases z
theorem Ex.stepNew {M : List Addr} {H H1 : Hp} {p : Addr} {o : HO} (h : H1 p = Option.none) (a : Ex M H H1) : Ex M H (upd H1 p o) := a.trans (Ex.new h)
end G

namespace G
open PySem L2

/-! ### weaker readings -/
section
variable {X : Cx}
theorem opImp {f : Value → Value → Sem Value} {r r' : R2} (h : OpR X f r) (i : ∀ x y H Q, r' x y H Q → r x y H Q) : OpR X f r' := fun pins s σ H x y v u Q I rx ry q => h pins s σ H x y v u Q I rx ry (i _ _ _ _ q)
theorem opOr {f : Value → Value → Sem Value} {r1 r2 : R2} {r' : R2} (h1 : OpR X f r1) (h2 : OpR X f r2) (i : ∀ x y H Q, r' x y H Q → r1 x y H Q ∨ r2 x y H Q) : OpR X f r' := fun pins s σ H x y v u Q I rx ry q =>
  (i _ _ _ _ q).elim (h1 pins s σ H x y v u Q I rx ry) (h2 pins s σ H x y v u Q I rx ry)
theorem callImp {f : Value} {r r' : List V → Hp → VK → Prop} (h : CallR X f r) (i : ∀ xs H Q, r' xs H Q → r xs H Q) : CallR X f r' := fun pins s σ H xs us Q I rv q => h pins s σ H xs us Q I rv (i _ _ _ q)
theorem peImp {e : Expr} {t t' : TE} (h : PE X e t) (i : ∀ σ H Q, t' σ H Q → t σ H Q) : PE X e t' := ⟨fun pins s σ H Q I q => h.run pins s σ H Q I (i _ _ _ q)⟩
end

/-! ### defs by their names -/
structure Cl (P : Program) (w : World) (K : PySem.W.Frag) (mg : Str → Option Value) (base : Heap) (k : Nat) (x : Str) (sp : Sp) : Prop where
  ex : ∃ (f : Addr) (fd : FuncData) (ps : List Str), FnOk P w K mg base CX0 k f fd ps sp ∧ mg x = some (.ref f) ∧ PySem.W.keepIn K (.ref f) = true ∧ Binds K fd ps []
def tCl (sp : Sp) (E : XK) (t : TA) : TE := fun σ H Q => t σ H fun vs H1 => sp vs H1 Q E
section
variable {X : Cx}
theorem pe_cl {k j : Nat} {x : Str} {sp : Sp} {p pos : Pos} {e : Expr} {es : List Expr} {t : TA} (c : Cl X.prog X.w X.K X.mg X.base k x sp) (hr : Room j X.A) (hk : k ≤ j) (hg : Gl X x) (ha : PA X (e :: es) t)
    (hdb : (x == ("__debug__" : Str)) = false := by decide) (he : starEach (e :: es) X.env = (false, eval e X.env) :: starEach es X.env := by rfl) (hpl : (backTo pos (starEach es X.env)).any (·.1) = false := by rfl) :
    PE X (.Call (.Name x p) (e :: es) [] pos) (tCl sp E0 t) := by
  obtain ⟨f, fd, ps, F, m, kp, b⟩ := c.ex
  refine peImp (pe_call F (hr.mono hk) hg m kp b .nil pass0 ha hdb he hpl) fun σ H Q q => ?_
  show t σ H fun vs H1 => sp (vs ++ []) H1 Q E0
  simp only [List.append_nil]
  exact q
theorem pe_cl0 {k j : Nat} {x : Str} {sp : Sp} {p pos : Pos} (c : Cl X.prog X.w X.K X.mg X.base k x sp) (hr : Room j X.A) (hk : k ≤ j) (hg : Gl X x) (hdb : (x == ("__debug__" : Str)) = false := by decide) :
    PE X (.Call (.Name x p) [] [] pos) (tCl sp E0 tNil) := by
  obtain ⟨f, fd, ps, F, m, kp, b⟩ := c.ex
  exact pe_call0 F (hr.mono hk) hg m kp b .nil pass0 hdb
end

/-! ### the classes of data -/
def isTy : String → Dt → Option Bool
  | "int", .int _ => some true
  | "int", .bl _ => some true
  | "int", _ => some false
  | "bool", .bl _ => some true
  | "bool", _ => some false
  | "str", .str _ => some true
  | "str", _ => some false
  | "tuple", .tup _ => some true
  | "tuple", _ => some false
  | _, _ => none
theorem SqT.ty {K : PySem.W.Frag} {H : Hp} {a : Addr} {xs : List V} (h : SqT K H a xs) : TyX K H (.ref a) (.type "tuple") := by
  rcases h with (h | ⟨o, h⟩) | ⟨o, its, n, h, c, _⟩
  · exact .base (.tup h)
  · exact .fTuple h
  · exact .kTuple h c
def rIs (K : PySem.W.Frag) : List V → Hp → VK → Prop := fun xs H Q => ∃ (x : V) (T : String) (d : Dt) (b : Bool), (xs = [x, .ty T] ∧ Rep K H x d ∧ isTy T d = some b) ∧ Q (.bl b) H
theorem isTy_kit {K : PySem.W.Frag} {H : Hp} {x : V} {d : Dt} {T : String} {b : Bool} (r : Rep K H x d) (h : isTy T d = some b) : ∃ t, TyX K H x t ∧ PySem.W.kitOne K t (.type T) = some b := by
  have cs : T = "int" ∨ T = "bool" ∨ T = "str" ∨ T = "tuple" := by
    unfold isTy at h
    split at h <;> simp_all
  rcases cs with rfl | rfl | rfl | rfl <;> cases r <;> simp [isTy] at h <;> subst h
  all_goals first
    | exact ⟨_, .base .non, kit_ty (by decide +kernel)⟩
    | exact ⟨_, .base (.bl _), kit_ty (by decide +kernel)⟩
    | exact ⟨_, .base (.int _), kit_ty (by decide +kernel)⟩
    | exact ⟨_, .base (.str _), kit_ty (by decide +kernel)⟩
    | (rename_i hs _; exact ⟨_, SqT.ty hs, kit_ty (by decide +kernel)⟩)
    | (rename_i hs; rcases hs with ⟨_, hs⟩ | ⟨_, hs⟩
       · exact ⟨_, .base (.lst hs), kit_ty (by decide +kernel)⟩
       · exact ⟨_, .base (.dK hs), kit_ty (by decide +kernel)⟩)
theorem call_Is {X : Cx} : CallR X (.builtin "isinstance") (rIs X.K) := callImp call_isi fun xs H Q ⟨x, T, d, b, ⟨e, r, h⟩, q⟩ => by
  obtain ⟨t, ty, k⟩ := isTy_kit r h
  exact ⟨x, .ty T, t, .type T, b, e, .ty T, ty, k, q⟩

/-! ### lengths -/
inductive LenX (K : PySem.W.Frag) (H : Hp) : V → Nat → Prop
  | str (z : Str) (h : z.length ≤ sizeLine) : LenX K H (.str z) z.length
  | lst {p : Addr} {xs : List V} (h : SqL K H p xs) : LenX K H (.ref p) xs.length
  | tup {p : Addr} {xs : List V} (h : SqT K H p xs) : LenX K H (.ref p) xs.length
def rLn (K : PySem.W.Frag) : List V → Hp → VK → Prop := fun xs H Q => ∃ x n, (xs = [x] ∧ LenX K H x n) ∧ Q (.int n) H
theorem call_Len {X : Cx} : CallR X (.builtin "len") (rLn X.K) := callImp call_len fun xs H Q ⟨x, n, ⟨e, l⟩, q⟩ => ⟨x, n, e, by
  cases l with
  | str z h => exact ⟨h, rfl⟩
  | lst h => exact .inl ⟨_, h, rfl⟩
  | tup h => exact .inr ⟨_, h, rfl⟩, q⟩

/-! ### operators of several kinds -/
def rAddG (K : PySem.W.Frag) : R2 := fun x y H Q =>
  (∃ i j, (x = .int i ∧ y = .int j) ∧ Q (.int (i + j)) H) ∨ (∃ i j, (x = .str i ∧ y = .str j ∧ i.length + j.length ≤ sizeLine) ∧ Q (.str (i ++ j)) H) ∨
  (∃ l b xs zs, (x = .ref l ∧ y = .ref b ∧ H l = some (.lst xs) ∧ H b = some (.lst zs) ∧ xs.length + zs.length ≤ sizeLine) ∧ ∀ p H', H p = none → H' p = some (.lst (xs ++ zs)) → Ex [] H H' → Q (.ref p) H') ∨
  (∃ l b xs zs, (x = .ref l ∧ y = .ref b ∧ SqT K H l xs ∧ SqT K H b zs ∧ xs.length + zs.length ≤ sizeLine) ∧ ∀ p H', SqT K H' p (xs ++ zs) → Ex [] H H' → Q (.ref p) H')
theorem SqT.of_new {K : PySem.W.Frag} {H : Hp} {a : Addr} {xs : List V} : SqT K (upd H a (.tup xs)) a xs := .inl (.inl upd_same)
theorem op_AddG {X : Cx} : OpR X (binaryOp .Add) (rAddG X.K) := fun pins s σ H x y v u Q I rx ry q => by
  rcases q with ⟨i, j, ⟨rfl, rfl⟩, q⟩ | ⟨i, j, ⟨rfl, rfl, hl⟩, q⟩ | ⟨l, b, xs, zs, ⟨rfl, rfl, h1, h2, hl⟩, q⟩ | ⟨l, b, xs, zs, ⟨rfl, rfl, h1, h2, hl⟩, q⟩
  · exact op_add pins s σ H _ _ v u Q I rx ry ⟨i, j, rfl, rfl, q⟩
  · exact op_add_str pins s σ H _ _ v u Q I rx ry ⟨i, j, rfl, rfl, hl, q⟩
  · exact op_cat pins s σ H _ _ v u Q I rx ry ⟨l, b, xs, zs, rfl, rfl, h1, h2, hl, fun p hp => q p _ hp upd_same (Ex.new hp)⟩
  · refine op_catA pins s σ H _ _ v u Q I rx ry ⟨l, b, xs, zs, rfl, rfl, h1, h2, hl, fun e => ?_, fun _ e => ?_, fun _ _ p hp => ?_⟩
    · exact q b H (by rw [e]; exact h2) (Ex.refl _ _)
    · exact q l H (by rw [e, List.append_nil]; exact h1) (Ex.refl _ _)
    · exact q p _ SqT.of_new (Ex.new hp)
def rEqS (a b : V) (k : Bool) : Prop := scal a b = true ∧ k = decide (a = b)
/-- an item by its place -/
def rIxG (K : PySem.W.Frag) : R2 := fun x y H Q =>
  (∃ p xs i v, (x = .ref p ∧ y = .int i ∧ SqL K H p xs ∧ atI xs i = some v) ∧ Q v H) ∨ (∃ p xs i v, (x = .ref p ∧ y = .int i ∧ SqT K H p xs ∧ atI xs i = some v) ∧ Q v H) ∨
  (∃ z i c, (x = .str z ∧ y = .int i ∧ z.length ≤ sizeLine ∧ atI z.cps.toList i = some c) ∧ Q (.str ⟨#[c]⟩) H)
theorem ix_G {X : Cx} : IxR X (rIxG X.K) := fun value slice pins s σ H x y v u Q I rx ry q hs => by
  rcases q with ⟨p, xs, i, z, ⟨a, b, c, d⟩, q⟩ | ⟨p, xs, i, z, ⟨a, b, c, d⟩, q⟩ | ⟨z, i, c, ⟨a, b, e, d⟩, q⟩
  · exact ix_list value slice pins s σ H x y v u Q I rx ry ⟨p, xs, i, z, a, b, c, d, q⟩ hs
  · exact ix_tup value slice pins s σ H x y v u Q I rx ry ⟨p, xs, i, z, a, b, c, d, q⟩ hs
  · exact ix_str value slice pins s σ H x y v u Q I rx ry ⟨z, i, c, a, b, e, d, q⟩ hs

/-! ### loops -/
theorem while_w {c : TT} {tb : TS} {D : Ends} {σ : St} {H : Hp} (W : Nat → St → Hp → Prop) (m₀ : Nat) (h0 : W m₀ σ H)
    (hs : ∀ m σ H, W m σ H → c σ H fun b H1 => if b = true then ∃ N : St → Hp → Prop, (∀ σ' H', N σ' H' → ∃ m', m' < m ∧ W m' σ' H') ∧ tb { D with nx := N, ct := N, bk := D.nx } σ H1 else D.nx σ H1) : tWhile c tb D σ H := ⟨W, ⟨m₀, h0⟩, hs⟩
/-- what holds while a list is made of others -/
structure LcP (D : Addr) (M : List Addr) (P : Hp → Prop) (R : Nat → V → Hp → Prop) (H1 : Hp) (i : Nat) (H : Hp) : Prop where
  ex : Ex M H1 H
  p : P H
  l : ∃ acc, H D = some (.lst acc) ∧ acc.length = i ∧ ∀ j y, acc[j]? = some y → R j y H
theorem LcP.start {D : Addr} {M : List Addr} {P : Hp → Prop} {R : Nat → V → Hp → Prop} {H1 : Hp} (hD : H1 D = none) (p : P H1) (pl : ∀ H o, P H → P (upd H D o)) : LcP D M P R H1 0 (upd H1 D (.lst [])) :=
  ⟨Ex.new hD, pl _ _ p, [], upd_same, rfl, fun j y e => by simp at e⟩
/-- R does not hang on what changes -/
def Stab (R : Nat → V → Hp → Prop) : Prop := ∀ i y M H H', Ex M H H' → R i y H → R i y H'
theorem LcP.step {D : Addr} {M : List Addr} {P : Hp → Prop} {R : Nat → V → Hp → Prop} {H1 H H4 : Hp} {i n : Nat} {y : V} (h : LcP D M P R H1 i H) (hD : H1 D = none) (st : Stab R) (pl : ∀ H o, P H → P (upd H D o))
    (e : Ex M H H4) (nD : Nin D M) (p : P H4) (r : R i y H4) (hi : i < n) (hn : n ≤ 1000000) : ∃ acc, H4 D = some (.lst acc) ∧ acc.length < sizeLine ∧ LcP D M P R H1 (i + 1) (upd H4 D (.lst (acc ++ [y]))) := by
  obtain ⟨e0, _, acc, h1, h2, h3⟩ := h
  have h4 : H4 D = some (.lst acc) := e.get h1 nD
  have e5 : Ex [D] H4 (upd H4 D (.lst (acc ++ [y]))) := Ex.put h4 rfl (by simp)
  have hz : (1000000 : Nat) < sizeLine := by decide
  refine ⟨acc, h4, by omega, (e0.trans e).put_new hD, pl _ _ p, acc ++ [y], upd_same, by simp [h2], fun j z hj => ?_⟩
  by_cases hlt : j < acc.length
  · rw [List.getElem?_append_left hlt] at hj
    exact st _ _ _ _ _ e5 (st _ _ _ _ _ e (h3 j z hj))
  · rw [List.getElem?_append_right (by omega)] at hj
    have hj0 : j - acc.length = 0 := by
      have := (List.getElem?_eq_some_iff.mp hj).1
      simp at this
      omega
    rw [hj0] at hj
    simp at hj
    subst hj
    have : j = i := by omega
    subst this
    exact st _ _ _ _ _ e5 r
end G

namespace G
open PySem PySem.Spec PyProof.Rows L2
theorem flat_len {α : Type} (its : List α) (m : Nat) : (List.replicate m its).flatten.length = m * its.length := PyProof.Rows.lm_len_rep_flat _ _
/-- t * 1, () * k: the very tuple -/
theorem tmul_same (l : Addr) (items : Array Value) (n : Nat) (dd : Option Addr) (sl : Array (Option Value)) (x : Int) (u : Tok)
    (c0 : (decide (x < -(2 ^ 63)) || decide (x ≥ 2 ^ 63)) = false) (c1 : (items.isEmpty || x == 1) = true) :
    Meets (Builtin.«tuple.__mul__» ⟨[.ref l, .int x u], []⟩)
      (fun _ R s => s.heap.get? l = some { cls := .type "tuple", dict := dd, data := .seq items n, slots := sl } ∧ R (.ok (.ret (Value.ref l))) s) :=
  .of_wp fun prog w A R s h => by
    obtain ⟨hp, g, d, tk, os⟩ := s
    obtain ⟨hl, h⟩ := h
    have f1 := AutoSeq1.idx_int
    wp_walk using wpAny_loadPart' hl
    repeat (first
      | (refine wpAny_ite_false (decide_eq_false (by rw [c0]; exact Bool.false_ne_true)) ?_; wp_walk using wpAny_loadPart' hl)
      | (refine wpAny_ite_true (decide_eq_true c1) ?_; wp_walk using wpAny_loadPart' hl))
    exact ⟨_, rfl, h⟩
/-- t * k, k ≤ 0: an empty one -/
theorem tmul_none (l : Addr) (items : Array Value) (n : Nat) (dd : Option Addr) (sl : Array (Option Value)) (x : Int) (u : Tok)
    (c0 : (decide (x < -(2 ^ 63)) || decide (x ≥ 2 ^ 63)) = false) (c1 : (items.isEmpty || x == 1) = false) (c2 : (decide (x ≤ 0) || items.isEmpty) = true) :
    Meets (Builtin.«tuple.__mul__» ⟨[.ref l, .int x u], []⟩)
      (fun _ R s => s.heap.get? l = some { cls := .type "tuple", dict := dd, data := .seq items n, slots := sl } ∧
        R (.ok (.ret (Value.ref s.heap.objs.size))) { s with heap := s.heap.push { cls := Value.type "tuple", data := Data.seq #[] } }) :=
  .of_wp fun prog w A R s h => by
    obtain ⟨hp, g, d, tk, os⟩ := s
    obtain ⟨hl, h⟩ := h
    have f1 := AutoSeq1.idx_int
    wp_walk using wpAny_loadPart' hl
    repeat (first
      | (refine wpAny_ite_false (decide_eq_false (by rw [c0]; exact Bool.false_ne_true)) ?_; wp_walk using wpAny_loadPart' hl)
      | (refine wpAny_ite_false (decide_eq_false (by rw [c1]; exact Bool.false_ne_true)) ?_; wp_walk using wpAny_loadPart' hl)
      | (refine wpAny_ite_true (decide_eq_true c2) ?_; wp_walk using wpAny_loadPart' hl))
    exact ⟨_, rfl, h⟩
def repS (z : Str) (k : Int) : Str := ⟨((List.replicate k.toNat z.cps.toList).flatten).toArray⟩
def rMulG (K : PySem.W.Frag) : R2 := fun x y H Q =>
  (∃ i j, (x = .int i ∧ y = .int j ∧ CMul i j) ∧ Q (.int (i * j)) H) ∨
  (∃ z k, (x = .str z ∧ y = .int k ∧ 0 ≤ k ∧ k ≤ 1000000 ∧ z.length * k.toNat ≤ 1000000) ∧ Q (.str (repS z k)) H) ∨
  (∃ l k xs, (x = .ref l ∧ y = .int k ∧ H l = some (.lst xs) ∧ 0 ≤ k ∧ k ≤ 1000000 ∧ xs.length * k.toNat ≤ 1000000) ∧ ∀ p H', H p = none → H' p = some (.lst (List.replicate k.toNat xs).flatten) → Ex [] H H' → Q (.ref p) H') ∨
  (∃ l k xs, (x = .ref l ∧ y = .int k ∧ SqT K H l xs ∧ 0 ≤ k ∧ k ≤ 1000000 ∧ xs.length * k.toNat ≤ 1000000) ∧ ∀ p H', SqT K H' p (List.replicate k.toNat xs).flatten → Ex [] H H' → Q (.ref p) H')
theorem flat_nil {α : Type} : ∀ n : Nat, (List.replicate n ([] : List α)).flatten = []
  | 0 => rfl
  | n + 1 => by rw [List.replicate_succ, List.flatten_cons, flat_nil n]; rfl
theorem vals_rep {xs : List V} {us : List Value} (r : Vals xs us) : ∀ n : Nat, Vals (List.replicate n xs).flatten (List.replicate n us).flatten
  | 0 => .nil
  | n + 1 => by
    rw [List.replicate_succ, List.flatten_cons, List.replicate_succ, List.flatten_cons]
    exact r.append (vals_rep r n)
theorem op_mulT {X : Cx} {pins : List (Addr × Obj)} {s : Shared} {σ : L2.St} {H : Hp} {l : Addr} {k : Int} {xs : List V} {v u : Value} {Q : VK} (I : L2.Inv X pins σ H s) (rx : RelV (.ref l) v) (ry : RelV (.int k) u)
    (hT : SqT X.K H l xs) (h0 : 0 ≤ k) (h1 : k ≤ 1000000) (hz : xs.length * k.toNat ≤ 1000000) (q : ∀ p H', SqT X.K H' p (List.replicate k.toNat xs).flatten → Ex [] H H' → Q (.ref p) H') :
    wpAny (model X.prog X.w) X.A (binaryOp .Mult v u) (EP X pins σ Q) X.xe s := by
  cases rx
  obtain ⟨t, rfl⟩ := ry
  obtain ⟨its, r, ⟨⟨cls, dd, data, sl⟩, ho, hc, n, hd⟩, hs⟩ := I.tuple hT
  simp only at hc hd
  subst hc hd
  have hle : its.length = xs.length := r.length.symm
  have c0 : (decide (k < -(2 ^ 63)) || decide (k ≥ 2 ^ 63)) = false := by
    rw [decide_eq_false (by omega), decide_eq_false (by omega)]
    rfl
  have run : ∀ (R : Value → Shared → Prop), (∀ (P : Prop), wpAny (model X.prog X.w) X.A (call (.builtin "tuple.__mul__") [.ref l, .int k t]) R X.xe s → P → P) → wpAny (model X.prog X.w) X.A (call (.builtin "tuple.__mul__") [.ref l, .int k t]) R X.xe s →
      wpAny (model X.prog X.w) X.A (binaryOp .Mult (.ref l) (.int k t)) R X.xe s := fun R _ h =>
    wpAny_binaryOp_repeat_ref (T := "tuple") (U := "int") (by decide) ⟨_, ho, rfl⟩ (fun s' => typeIs_int s' k t) noFill_tuple_mul F.fills_int_mul F.slot_int_rmul repeat_tuple F.slot_int_index.lookup
      (call_meets F.slot_int_rmul (typeIs_int s k t) F.entry_int_rmul (F.args_int_rmul_2 _ _) (int_rmul_tuple k t l its.toArray n dd sl) ⟨ho, rfl, ⟨_, ho, rfl⟩, h⟩)
  refine run _ (fun _ _ p => p) ?_
  cases c1 : (its.toArray.isEmpty || k == 1) with
  | true =>
    refine call_meets F.slot_tuple_mul ⟨_, ho, rfl⟩ F.entry_tuple_mul (F.args_tuple_mul_2 _ _) (tmul_same l its.toArray n dd sl k t c0 c1) ⟨ho, ?_⟩
    have e : (List.replicate k.toNat xs).flatten = xs := by
      rcases Bool.or_eq_true _ _ |>.mp c1 with z | z
      · have : its = [] := by simpa using z
        subst this
        have : xs = [] := List.eq_nil_of_length_eq_zero hle.symm
        subst this
        exact flat_nil _
      · have : k = 1 := by simpa using z
        subst this
        simp
    exact ⟨.ref l, H, I.tok _, rfl, q l H (by rw [e]; exact hT) (Ex.refl _ _)⟩
  | false =>
    have c1' := c1
    rw [Bool.or_eq_false_iff] at c1
    obtain ⟨hi, hk1⟩ := c1
    cases c2 : (decide (k ≤ 0) || its.toArray.isEmpty) with
    | true =>
      refine call_meets F.slot_tuple_mul ⟨_, ho, rfl⟩ F.entry_tuple_mul (F.args_tuple_mul_2 _ _) (tmul_none l its.toArray n dd sl k t c0 c1' c2) ⟨ho, ?_⟩
      have hk0 : k = 0 := by
        rw [hi, Bool.or_false] at c2
        have := of_decide_eq_true c2
        omega
      subst hk0
      refine ⟨.ref s.heap.objs.size, _, I.laid (t' := s.toks) (o := .tup []) (fun b ob z => Heap.get?_push_of_some _ z) (Nat.le_refl _) ?_, rfl, q _ _ (by simpa using SqT.of_new) (Ex.new (I.hok.fresh (Nat.le_refl _)))⟩
      exact ⟨Nat.zero_le _, [], .nil, IsTup.new _ _⟩
    | false =>
      have hpos : ¬ k ≤ 0 := by
        intro z
        rw [decide_eq_true z] at c2
        cases c2
      have hm : ((its.toArray.size : Nat) : Int) * k ≤ 1000000 := by
        have e1 : k = ((k.toNat : Nat) : Int) := by omega
        have a1 : ((xs.length * k.toNat : Nat) : Int) ≤ 1000000 := by omega
        rw [List.size_toArray, hle, e1]
        rw [Int.natCast_mul] at a1
        exact a1
      have c4 : Builtin.Tuple.tupleTooMany (((its.toArray.size : Nat) : Int) * k) = false := by
        unfold Builtin.Tuple.tupleTooMany
        rw [sizeLine_eq]
        exact decide_eq_false (by omega)
      have flen : (List.replicate k.toNat its).flatten.length ≤ sizeLine := by
        rw [flat_len, hle, sizeLine_eq, Nat.mul_comm]
        omega
      refine call_meets F.slot_tuple_mul ⟨_, ho, rfl⟩ F.entry_tuple_mul (F.args_tuple_mul_2 _ _) (tuple_mulW l its.toArray n dd sl k t c0 c1' c2 (by omega) c4 (by rw [size_rep, List.size_toArray]; exact flen)) ⟨ho, ?_⟩
      rw [size_rep]
      have ok : xs.length * k.toNat ≤ sizeLine := by rw [sizeLine_eq]; omega
      refine ⟨.ref s.heap.objs.size, _, I.laid (t' := s.toks) (o := .tup (List.replicate k.toNat xs).flatten) (fun b ob z => Heap.get?_push_of_some _ z) (Nat.le_refl _) ?_, rfl, q _ _ SqT.of_new (Ex.new (I.hok.fresh (Nat.le_refl _)))⟩
      exact ⟨by rw [flat_len, Nat.mul_comm]; exact ok, _, vals_rep r _, IsTup.new _ _⟩
theorem fold_app {α : Type} : ∀ (l : List (List α)) (acc : Array α), ((l.map List.toArray).foldl (· ++ ·) acc) = acc ++ l.flatten.toArray
  | [], acc => by simp
  | x :: r, acc => by
    rw [List.map_cons, List.foldl_cons, fold_app r]
    simp
theorem op_mulS {X : Cx} {pins : List (Addr × Obj)} {s : Shared} {σ : L2.St} {H : Hp} {k : Int} {z : Str} {v u : Value} {Q : VK} (I : L2.Inv X pins σ H s) (rx : RelV (.str z) v) (ry : RelV (.int k) u)
    (h0 : 0 ≤ k) (h1 : k ≤ 1000000) (hz : z.length * k.toNat ≤ 1000000) (q : Q (.str (repS z k)) H) :
    wpAny (model X.prog X.w) X.A (binaryOp .Mult v u) (EP X pins σ Q) X.xe s := by
  obtain ⟨t, rfl⟩ := rx
  obtain ⟨t', rfl⟩ := ry
  have c0 : (decide (k < -(2 ^ 63)) || decide (k ≥ 2 ^ 63)) = false := by
    rw [decide_eq_false (by omega), decide_eq_false (by omega)]
    rfl
  have hzl : z.length = z.cps.size := rfl
  refine P.mul_str c0 (fun a b => ?_) (fun a b => ?_) ?_
  · intro c
    have a2 : (z.length : Int) ≤ 1000000 := by
      have : z.length * 1 ≤ z.length * k.toNat := Nat.mul_le_mul_left _ (by omega)
      omega
    have a3 : (1000000 : Int) ≤ (2 ^ 63 - 1) / k := (Int.le_ediv_iff_mul_le (by omega)).mpr (by omega)
    omega
  · unfold PySem.Builtin.Str.tooLong
    rw [sizeLine_eq]
    exact decide_eq_false (by omega)
  · by_cases hk : k < 1
    · rw [if_pos hk]
      have : k = 0 := by omega
      subst this
      refine ⟨by decide, .str Str.empty, H, I.tok _, ⟨_, rfl⟩, ?_⟩
      exact q
    · rw [if_neg hk]
      by_cases c : (k == 1 || z.length == 0) = true
      · rw [if_pos c]
        have e : repS z k = z := by
          rcases Bool.or_eq_true _ _ |>.mp c with y | y
          · have : k = 1 := by simpa using y
            subst this
            simp [repS]
          · have y' : z.cps.size = 0 := by simpa [hzl] using y
            have : z.cps = #[] := Array.eq_empty_of_size_eq_zero y'
            obtain ⟨a⟩ := z
            simp at this
            subst this
            simp [repS]
        refine ⟨.str z, H, I.tok _, ⟨_, rfl⟩, ?_⟩
        rw [e] at q
        exact q
      · rw [if_neg c]
        have e : (⟨(List.replicate k.toNat z.cps).foldl (· ++ ·) #[]⟩ : Str) = repS z k := by
          unfold repS
          congr 1
          have := fold_app (List.replicate k.toNat z.cps.toList) (#[] : Array Nat)
          simpa using this
        rw [e]
        refine ⟨?_, .str (repS z k), H, I.tok _, ⟨_, rfl⟩, q⟩
        show (repS z k).cps.size ≤ sizeLine
        rw [sizeLine_eq]
        simp only [repS, List.size_toArray, flat_len, Array.length_toList]
        rw [Nat.mul_comm, ← hzl]
        omega
theorem op_MulG {X : Cx} : OpR X (binaryOp .Mult) (rMulG X.K) := fun pins s σ H x y v u Q I rx ry q => by
  rcases q with ⟨i, j, ⟨rfl, rfl, c⟩, q⟩ | ⟨z, k, ⟨rfl, rfl, h0, h1, hz⟩, q⟩ | ⟨l, k, xs, ⟨rfl, rfl, hl, h0, h1, hz⟩, q⟩ | ⟨l, k, xs, ⟨rfl, rfl, hT, h0, h1, hz⟩, q⟩
  · exact op_mul pins s σ H _ _ v u Q I rx ry ⟨i, j, rfl, rfl, c, q⟩
  · exact op_mulS I rx ry h0 h1 hz q
  · exact op_rep pins s σ H _ _ v u Q I rx ry ⟨l, k, xs, rfl, rfl, hl, by omega, by omega, by rw [sizeLine_eq]; omega, fun p hp => q p _ hp upd_same (Ex.new hp)⟩
  · exact op_mulT I rx ry hT h0 h1 hz q
end G

namespace G
open PySem L2
section
variable {CX : CXT} {P : Program} {w : World} {K : PySem.W.Frag} {mg : Str → Option Value} {base : Heap} {N : List Str} {qual : Str} {scope : Scope} {f : Addr} {cd : Value} {A : Around} {outer : List Env} {s : Shared} {H : Hp} {E : XK}
theorem cx_K : (cxOf CX P w K mg base N qual scope f cd A outer s H E).K = K := rfl
theorem cx_nK : (cxOf CX P w K mg base N qual scope f cd A outer s H E).nox.K = K := rfl
end
theorem cmul_r {i j : Int} (h1 : -(2 ^ 64) < j) (h2 : j < 2 ^ 64) : CMul i j := .inr ⟨h1, h2⟩
theorem cmul_l {i j : Int} (h1 : -(2 ^ 64) < i) (h2 : i < 2 ^ 64) : CMul i j := .inl ⟨h1, h2⟩
theorem cdivw {i j : Int} (h1 : 0 < j) (h2 : j < 2 ^ 64) : CDivW i j := wide_div (b := 64) h1 (by omega) (by decide) (by decide)
theorem tyL {K : PySem.W.Frag} {H : Hp} {p : Addr} {xs : List V} (h : SqL K H p xs) : tyV K "list" (.ref p) H := Or.inl ⟨rfl, xs, h⟩
theorem pop_last (ws : List V) (y : V) : (ws ++ [y])[(ws ++ [y]).length - 1]? = some y := by simp
/-! ### lists of data that a comprehension makes -/
def RepAt (K : PySem.W.Frag) (ds : List Dt) (i : Nat) (y : V) (H : Hp) : Prop := ∃ d, ds[i]? = some d ∧ Rep K H y d
theorem RepAt.stab {K : PySem.W.Frag} {ds : List Dt} : Stab (RepAt K ds) := fun _ _ _ _ _ e ⟨d, h, r⟩ => ⟨d, h, e.rep r⟩
theorem repL_of {K : PySem.W.Frag} {H : Hp} : ∀ {ys : List V} {ds : List Dt}, ys.length = ds.length → (∀ j y, ys[j]? = some y → RepAt K ds j y H) → RepL K H ys ds
  | [], [], _, _ => .nil
  | y :: ys, d :: ds, hl, h => by
    obtain ⟨d', e, r⟩ := h 0 y (by simp)
    have e' : d = d' := by simpa using e
    subst e'
    refine .cons r (repL_of (by simpa using hl) fun j z hz => ?_)
    obtain ⟨d2, e2, r2⟩ := h (j + 1) z (by simpa using hz)
    exact ⟨d2, by simpa using e2, r2⟩
theorem LcP.done {K : PySem.W.Frag} {D : Addr} {M : List Addr} {P : Hp → Prop} {ds : List Dt} {H1 H : Hp} {n : Nat} (h : LcP D M P (RepAt K ds) H1 n H) (hn : ds.length = n) : ∃ ys, H D = some (.lst ys) ∧ RepL K H ys ds := by
  obtain ⟨_, _, acc, h1, h2, h3⟩ := h
  exact ⟨acc, h1, repL_of (by omega) h3⟩
theorem RepL.bls {K : PySem.W.Frag} {H : Hp} : ∀ {ys : List V} {bs : List Bool}, RepL K H ys (bs.map Dt.bl) → ys = bs.map V.bl
  | _, [], h => by cases h; rfl
  | _, b :: bs, h => by
    rw [List.map_cons] at h
    cases h with
    | cons a t =>
      cases a
      rw [t.bls, List.map_cons]
theorem RepL.ints {K : PySem.W.Frag} {H : Hp} : ∀ {ys : List V} {bs : List Int}, RepL K H ys (bs.map Dt.int) → ys = bs.map V.int
  | _, [], h => by cases h; rfl
  | _, b :: bs, h => by
    rw [List.map_cons] at h
    cases h with
    | cons a t =>
      cases a
      rw [t.ints, List.map_cons]
theorem RepL.strs {K : PySem.W.Frag} {H : Hp} : ∀ {ys : List V} {bs : List Str}, RepL K H ys (bs.map Dt.str) → ys = bs.map V.str
  | _, [], h => by cases h; rfl
  | _, b :: bs, h => by
    rw [List.map_cons] at h
    cases h with
    | cons a t =>
      cases a
      rw [t.strs, List.map_cons]
theorem SqL.bls {K : PySem.W.Frag} {H : Hp} {D : Addr} {ys : List V} {bs : List Bool} (h : H D = some (.lst ys)) (r : RepL K H ys (bs.map Dt.bl)) : SqL K H D (bs.map V.bl) := by
  rw [← r.bls]
  exact SqL.of h
theorem true_loc : ∀ (D : Addr) (H : Hp) (o : HO), (fun _ : Hp => True) H → (fun _ : Hp => True) (upd H D o) := fun _ _ _ h => h

/-! ### signs -/
def signOk (c : Nat) : Bool := decide (32 ≤ c) && decide (c ≤ 126)
theorem lt1 (a b : Nat) : decide (([a] : List Nat) < [b]) = decide (a < b) := by
  by_cases h : a < b
  · rw [decide_eq_true h, decide_eq_true]
    exact List.Lex.rel h
  · rw [decide_eq_false h, decide_eq_false]
    intro z
    cases z with
    | rel z => exact h z
    | cons z => cases z
theorem le1 (a b : Nat) : (!decide (([a] : List Nat) < [b])) = decide (b ≤ a) := by
  rw [lt1]
  by_cases h : a < b
  · rw [decide_eq_true h, decide_eq_false (by omega)]
    rfl
  · rw [decide_eq_false h, decide_eq_true (by omega)]
    rfl
theorem wipe_set1 (σ : L2.St) (j : Nat) (x : Option V) : wipe (σ.set j x) [j] = wipe σ [j] := by
  show (σ.set j x).set j none = σ.set j none
  rw [List.set_set]
theorem wipe_set1' (σ : L2.St) (j : Nat) (x : Option V) : wipe ((wipe σ [j]).set j x) [j] = wipe σ [j] := by
  show ((σ.set j none).set j x).set j none = σ.set j none
  rw [List.set_set, List.set_set]
theorem get_set1 (σ : L2.St) {j : Nat} (x : Option V) (h : j < σ.length) : ((wipe σ [j]).set j x)[j]? = some x := by
  show ((σ.set j none).set j x)[j]? = some x
  rw [List.getElem?_set_self (by rw [List.length_set]; exact h)]
/-! ### slices -/
def rSlG (K : PySem.W.Frag) : V → Option Int → Option Int → Hp → VK → Prop := fun x lo hi H Q =>
  (∃ z, (x = .str z ∧ z.length ≤ sizeLine) ∧ Q (.str (cutS z lo hi)) H) ∨
  (∃ a xs, (x = .ref a ∧ SqL K H a xs) ∧ ∀ p H', H p = none → H' p = some (.lst (cutV xs lo hi)) → Ex [] H H' → Q (.ref p) H') ∨
  (∃ a xs, (x = .ref a ∧ SqT K H a xs) ∧ ∀ p H', SqT K H' p (cutV xs lo hi) → Ex [] H H' → Q (.ref p) H')
theorem cutV_whole {xs : List V} {lo hi : Option Int} (h : HT.sIx xs.length 0 lo = 0 ∧ HT.sIx xs.length xs.length hi = xs.length) : cutV xs lo hi = xs := by
  unfold cutV
  rw [h.1, h.2]
  simp
theorem sl_G {X : Cx} : SlR X (rSlG X.K) := fun pins s σ H x v vl vu lo hi sl Q I rx hs pl pu q => by
  rcases q with ⟨z, ⟨rfl, hz⟩, q⟩ | ⟨a, xs, ⟨rfl, hx⟩, q⟩ | ⟨a, xs, ⟨rfl, hx⟩, q⟩
  · exact sl_str pins s σ H _ v vl vu lo hi sl Q I rx hs pl pu ⟨z, rfl, hz, q⟩
  · exact sl_list pins s σ H _ v vl vu lo hi sl Q I rx hs pl pu ⟨a, xs, rfl, hx, fun p hp => q p _ hp upd_same (Ex.new hp)⟩
  · refine sl_tupA pins s σ H _ v vl vu lo hi sl Q I rx hs pl pu ⟨a, xs, rfl, hx, fun e => ?_, fun _ p hp => ?_⟩
    · exact q a H (by rw [cutV_whole e]; exact hx) (Ex.refl _ _)
    · exact q p _ SqT.of_new (Ex.new hp)
/-! ### the same with the written part named -/
section
variable {X : Cx} {K : PySem.W.Frag}
theorem oAdd (h : X.K = K) : OpR X (binaryOp .Add) (rAddG K) := by subst h; exact op_AddG
theorem oMul (h : X.K = K) : OpR X (binaryOp .Mult) (rMulG K) := by subst h; exact op_MulG
theorem ixG (h : X.K = K) : IxR X (rIxG K) := by subst h; exact ix_G
theorem slG (h : X.K = K) : SlR X (rSlG K) := by subst h; exact sl_G
theorem cIs (h : X.K = K) : CallR X (.builtin "isinstance") (rIs K) := by subst h; exact call_Is
theorem cLen (h : X.K = K) : CallR X (.builtin "len") (rLn K) := by subst h; exact call_Len
theorem cAll (h : X.K = K) (hc : X.calm = true) : CallR X (.builtin "all") (rAll K) := by subst h; exact cr_all hc
theorem cAny (h : X.K = K) (hc : X.calm = true) : CallR X (.builtin "any") (rAny K) := by subst h; exact cr_any hc
end
end G

/-! ### rules in one form: facts, then what follows, over any heap that goes on -/
namespace G
open PySem PySem.Spec PyProof.Rows L2
section
variable {X : Cx} {K : PySem.W.Frag}
def tTupA (t : TA) : TE := fun σ H Q => t σ H fun xs H1 => xs.length ≤ sizeLine ∧ ∀ p H2, H1 p = none → H2 p = some (.tup xs) → Ex [] H1 H2 → Q (.ref p) H2
def tLstA (t : TA) : TE := fun σ H Q => t σ H fun xs H1 => xs.length ≤ sizeLine ∧ ∀ p H2, H1 p = none → H2 p = some (.lst xs) → Ex [] H1 H2 → Q (.ref p) H2
theorem peTup {es : List Expr} {t : TA} {pos : Pos} {x1} (h : PA X es t) : PE X (.Tuple es x1 pos) (tTupA t) := by
  constructor
  intro pins s σ H Q I hq
  apply wpAny_Tuple_spliced
  refine thn (h.run pos pins s σ H _ I hq) ?_
  rintro us s1 ⟨xs, H1, I1, r, z, q⟩
  have new := I1.hok.fresh (Nat.le_refl s1.heap.objs.size)
  refine ⟨r.length ▸ z, .ref s1.heap.objs.size, _, I1.laid (t' := s1.toks) (o := .tup xs) (fun _ _ e => Heap.get?_push_of_some _ e) (Nat.le_refl _) ?_, rfl, q _ _ new upd_same (Ex.new new)⟩
  exact ⟨z, us, r, IsTup.new _ _⟩
theorem peLst {es : List Expr} {t : TA} {pos : Pos} (h : PA X es t) : PE X (.List es pos) (tLstA t) := by
  constructor
  intro pins s σ H Q I hq
  apply wpAny_List_spliced
  refine thn (h.run pos pins s σ H _ I hq) ?_
  rintro us s1 ⟨xs, H1, I1, r, z, q⟩
  have new := I1.hok.fresh (Nat.le_refl s1.heap.objs.size)
  refine ⟨r.length ▸ z, .ref s1.heap.objs.size, _, I1.laid (t' := s1.toks) (o := .lst xs) (fun _ _ e => Heap.get?_push_of_some _ e) (Nat.le_refl _) ?_, rfl, q _ _ new upd_same (Ex.new new)⟩
  exact ⟨z, us, 0, r, Heap.get?_push_size _ rfl⟩
def rSub : R2 := fun x y H Q => ∃ i j, (x = .int i ∧ y = .int j) ∧ Q (.int (i - j)) H
theorem oSub : OpR X (binaryOp .Sub) rSub := opImp op_sub fun _ _ _ _ ⟨i, j, ⟨a, b⟩, q⟩ => ⟨i, j, a, b, q⟩
def rMod : R2 := fun x y H Q => ∃ i j, (x = .int i ∧ y = .int j ∧ 0 < j) ∧ Q (.int (i % j)) H
theorem oMod : OpR X (binaryOp .Mod) rMod := opImp op_mod fun _ _ _ _ ⟨i, j, ⟨a, b, c⟩, q⟩ => ⟨i, j, a, b, c, q⟩
def rFdv : R2 := fun x y H Q => ∃ i j, (x = .int i ∧ y = .int j ∧ CDivW i j) ∧ Q (.int (i / j)) H
theorem oFdv : OpR X (binaryOp .FloorDiv) rFdv := opImp op_fdivW fun _ _ _ _ ⟨i, j, ⟨a, b, c⟩, q⟩ => ⟨i, j, a, b, c, q⟩
def rPow : R2 := fun x y H Q => ∃ i j, (x = .int i ∧ y = .int j ∧ CPow i j) ∧ Q (.int (i ^ j.toNat)) H
theorem oPow : OpR X (binaryOp .Pow) rPow := opImp op_pow fun _ _ _ _ ⟨i, j, ⟨a, b, c⟩, q⟩ => ⟨i, j, a, b, c, q⟩
def rNeg : V → Hp → VK → Prop := fun x H Q => ∃ i, x = .int i ∧ Q (.int (-i)) H
theorem oNeg : UnR X (unaryOp .USub) rNeg := fun pins s σ H x v Q I rx ⟨i, a, q⟩ => un_neg pins s σ H x v Q I rx ⟨i, a, q⟩
/-- two ints, two texts compared -/
def rLt : R2 := fun x y H Q => (∃ i j, (x = .int i ∧ y = .int j) ∧ Q (.bl (decide (i < j))) H) ∨ ∃ i j, (x = .str i ∧ y = .str j) ∧ Q (.bl (decide (i.cps.toList < j.cps.toList))) H
def rLe : R2 := fun x y H Q => (∃ i j, (x = .int i ∧ y = .int j) ∧ Q (.bl (decide (i ≤ j))) H) ∨ ∃ i j, (x = .str i ∧ y = .str j) ∧ Q (.bl (!decide (j.cps.toList < i.cps.toList))) H
def rGt : R2 := fun x y H Q => (∃ i j, (x = .int i ∧ y = .int j) ∧ Q (.bl (decide (j < i))) H) ∨ ∃ i j, (x = .str i ∧ y = .str j) ∧ Q (.bl (decide (j.cps.toList < i.cps.toList))) H
def rGe : R2 := fun x y H Q => (∃ i j, (x = .int i ∧ y = .int j) ∧ Q (.bl (decide (j ≤ i))) H) ∨ ∃ i j, (x = .str i ∧ y = .str j) ∧ Q (.bl (!decide (i.cps.toList < j.cps.toList))) H
theorem oLt : OpR X (compareOp .Lt) rLt := fun pins s σ H x y v u Q I rx ry q => by
  rcases q with ⟨i, j, ⟨rfl, rfl⟩, q⟩ | ⟨i, j, ⟨rfl, rfl⟩, q⟩
  · exact op_lt pins s σ H _ _ v u Q I rx ry ⟨i, j, rfl, rfl, q⟩
  · exact op_lt_str pins s σ H _ _ v u Q I rx ry ⟨i, j, rfl, rfl, q⟩
theorem oLe : OpR X (compareOp .LtE) rLe := fun pins s σ H x y v u Q I rx ry q => by
  rcases q with ⟨i, j, ⟨rfl, rfl⟩, q⟩ | ⟨i, j, ⟨rfl, rfl⟩, q⟩
  · exact op_le pins s σ H _ _ v u Q I rx ry ⟨i, j, rfl, rfl, q⟩
  · exact op_le_str pins s σ H _ _ v u Q I rx ry ⟨i, j, rfl, rfl, q⟩
theorem oGt : OpR X (compareOp .Gt) rGt := fun pins s σ H x y v u Q I rx ry q => by
  rcases q with ⟨i, j, ⟨rfl, rfl⟩, q⟩ | ⟨i, j, ⟨rfl, rfl⟩, q⟩
  · exact op_gt pins s σ H _ _ v u Q I rx ry ⟨i, j, rfl, rfl, q⟩
  · exact op_gt_str pins s σ H _ _ v u Q I rx ry ⟨i, j, rfl, rfl, q⟩
theorem oGe : OpR X (compareOp .GtE) rGe := fun pins s σ H x y v u Q I rx ry q => by
  rcases q with ⟨i, j, ⟨rfl, rfl⟩, q⟩ | ⟨i, j, ⟨rfl, rfl⟩, q⟩
  · exact op_ge pins s σ H _ _ v u Q I rx ry ⟨i, j, rfl, rfl, q⟩
  · exact op_ge_str pins s σ H _ _ v u Q I rx ry ⟨i, j, rfl, rfl, q⟩
/-- changes of lists -/
def rAppA : V → List V → Hp → VK → Prop := fun x vs H Q => ∃ l xs y, (x = .ref l ∧ vs = [y] ∧ H l = some (.lst xs) ∧ xs.length < sizeLine) ∧ ∀ H', H' l = some (.lst (xs ++ [y])) → Ex [l] H H' → Q .non H'
theorem mAppend : MtR X "list.append" rAppA := fun pins s σ H x vs v us Q I rx rv ⟨l, xs, y, ⟨a, b, c, d⟩, q⟩ => mt_append pins s σ H x vs v us Q I rx rv ⟨l, xs, y, a, b, c, d, q _ upd_same (Ex.put c rfl (by simp))⟩
def rExtA : V → List V → Hp → VK → Prop := fun x vs H Q => ∃ l b xs zs, (x = .ref l ∧ vs = [.ref b] ∧ H l = some (.lst xs) ∧ H b = some (.lst zs) ∧ xs.length + zs.length ≤ sizeLine) ∧ ∀ H', H' l = some (.lst (xs ++ zs)) → Ex [l] H H' → Q .non H'
theorem mExtend : MtR X "list.extend" rExtA := fun pins s σ H x vs v us Q I rx rv ⟨l, b, xs, zs, ⟨a, b', c, d, e⟩, q⟩ => mt_extend pins s σ H x vs v us Q I rx rv ⟨l, b, xs, zs, a, b', c, d, e, q _ upd_same (Ex.put c rfl (by simp))⟩
def rPopA : V → List V → Hp → VK → Prop := fun x vs H Q => ∃ l ws y, (x = .ref l ∧ vs = [] ∧ H l = some (.lst (ws ++ [y]))) ∧ ∀ H', H' l = some (.lst ws) → Ex [l] H H' → Q y H'
theorem mPop : MtR X "list.pop" rPopA := fun pins s σ H x vs v us Q I rx rv ⟨l, ws, y, ⟨a, b, c⟩, q⟩ => mt_pop pins s σ H x vs v us Q I rx rv ⟨l, ws ++ [y], y, a, b, c, by simp, q _ (by rw [upd_same, List.dropLast_concat]) (Ex.put c rfl (by simp))⟩
def rSetA : TSet := fun o i v H Q => ∃ p xs k j, (o = .ref p ∧ i = .int k ∧ H p = some (.lst xs) ∧ ixN xs.length k = some j) ∧ ∀ H', H' p = some (.lst (xs.set j v)) → Ex [p] H H' → Q H'
theorem setL : PSet X rSetA := fun pins s σ H o i v ov iv u Q I ro ri rv ⟨p, xs, k, j, ⟨a, b, c, d⟩, q⟩ => set_list pins s σ H o i v ov iv u Q I ro ri rv ⟨p, xs, k, j, a, b, c, d, q _ upd_same (Ex.put c rfl (by simp))⟩
def rAugAdd : TIp := fun x y H Q => ∃ i j, (x = .int i ∧ y = .int j) ∧ Q (.int (i + j)) H
def rAugSub : TIp := fun x y H Q => ∃ i j, (x = .int i ∧ y = .int j) ∧ Q (.int (i - j)) H
theorem pAdd : PIp X .Add rAugAdd := fun pins s σ H x y v u Q I rx ry ⟨i, j, ⟨a, b⟩, q⟩ => ip_add pins s σ H x y v u Q I rx ry ⟨i, j, a, b, q⟩
theorem pSub : PIp X .Sub rAugSub := fun pins s σ H x y v u Q I rx ry ⟨i, j, ⟨a, b⟩, q⟩ => ip_sub pins s σ H x y v u Q I rx ry ⟨i, j, a, b, q⟩
def rAbs : List V → Hp → VK → Prop := fun xs H Q => ∃ i, xs = [.int i] ∧ Q (.int (if i < 0 then -i else i)) H
theorem cAbs : CallR X (.builtin "abs") rAbs := call_abs
end
/-- all([lo <= sign <= hi for sign in z]) -/
theorem all_signs {K : PySem.W.Frag} {σ : L2.St} {H : Hp} {Q : VK} {i j : Nat} {z lo hi : Str} {a b : Nat} (hi' : σ[i]? = some (some (.str z))) (hj : j < σ.length) (hlo : lo.cps.toList = [a]) (hhi : hi.cps.toList = [b]) (hz : z.length ≤ 1000000)
    (k : ∀ H', Ex [] H H' → Q (.bl (z.cps.toList.all fun c => decide (a ≤ c) && decide (c ≤ b))) H') :
    tCB (rAll K) (tCons (tLc (iStr (tVar i)) (gName j) tYes (tChain rLe rLe (tC (.str lo)) (tVar j) (tC (.str hi))) [j]) tNil) σ H Q := by
  refine ⟨_, hi', z, rfl, fun D hD => ?_⟩
  refine lc_it walk_str (LcP D [] (fun _ => True) (RepAt K ((z.cps.toList.map fun c => decide (a ≤ c) && decide (c ≤ b)).map Dt.bl)) H) (LcP.start hD trivial (true_loc D)) (fun _ _ _ _ => trivial) ?_ ?_
  · rintro n x H1 H2 hn p ⟨rfl, c, hc, rfl⟩
    have fin : ∀ v, v = (decide (a ≤ c) && decide (c ≤ b)) → ∃ acc, H2 D = some (.lst acc) ∧ acc.length < sizeLine ∧ LcP D [] (fun _ => True) (RepAt K ((z.cps.toList.map fun c => decide (a ≤ c) && decide (c ≤ b)).map Dt.bl)) H (n + 1) (upd H2 D (.lst (acc ++ [V.bl v]))) := fun v hv =>
      p.step hD RepAt.stab (true_loc D) (Ex.refl _ _) trivial trivial ⟨.bl v, by rw [List.getElem?_map, List.getElem?_map, Array.getElem?_toList, hc, hv]; rfl, .bl v⟩ hn (by
        have e : z.length = z.cps.size := rfl
        omega)
    refine ⟨wipe_set1' _ _ _, ?_⟩
    show tChain rLe rLe (tC (.str lo)) (tVar j) (tC (.str hi)) _ _ _
    refine ⟨_, get_set1 _ _ hj, .inr ⟨lo, ⟨#[c]⟩, ⟨rfl, rfl⟩, _, rfl, ?_⟩⟩
    have e1 : (!decide ((⟨#[c]⟩ : Str).cps.toList < lo.cps.toList)) = decide (a ≤ c) := by
      rw [hlo, show (⟨#[c]⟩ : Str).cps.toList = [c] from rfl, le1]
    rw [e1]
    refine ite2 (fun h => ?_) (fun h => ?_)
    · refine .inr ⟨⟨#[c]⟩, hi, ⟨rfl, rfl⟩, fin _ ?_⟩
      rw [h, Bool.true_and, hhi, show (⟨#[c]⟩ : Str).cps.toList = [c] from rfl, le1]
    · refine fin _ ?_
      rw [Bool.eq_false_iff.mpr h, Bool.false_and]
  · intro H1 p
    obtain ⟨ys, h1, h2⟩ := p.done (by rw [List.length_map, List.length_map, Array.length_toList])
    refine ⟨D, _, rfl, SqL.bls h1 h2, ?_⟩
    rw [List.all_map]
    exact k _ p.ex
/-! ### tuple(..), list(..) -/
def rTupOf (K : PySem.W.Frag) : List V → Hp → VK → Prop := fun xs H Q => (∃ p ys, (xs = [.ref p] ∧ SqL K H p ys) ∧ ∀ l H', H l = none → H' l = some (.tup ys) → Ex [] H H' → Q (.ref l) H') ∨ ∃ p ys, (xs = [.ref p] ∧ SqT K H p ys) ∧ Q (.ref p) H
theorem cTuple {X : Cx} {K : PySem.W.Frag} (h : X.K = K) : CallR X (.type "tuple") (rTupOf K) := by
  subst h
  refine callImp call_tuple_of fun xs H Q q => ?_
  rcases q with ⟨p, ys, ⟨a, b⟩, q⟩ | ⟨p, ys, ⟨a, b⟩, q⟩
  · exact ⟨p, ys, a, .inl ⟨b, fun l hl => q l _ hl upd_same (Ex.new hl)⟩⟩
  · exact ⟨p, ys, a, .inr ⟨b, q⟩⟩
def rLstOf (K : PySem.W.Frag) : List V → Hp → VK → Prop := fun xs H Q => (∃ p ys, (xs = [.ref p] ∧ SqL K H p ys) ∧ ∀ l H', H l = none → H' l = some (.lst ys) → Ex [] H H' → Q (.ref l) H') ∨ ∃ p ys, (xs = [.ref p] ∧ SqT K H p ys) ∧ ∀ l H', H l = none → H' l = some (.lst ys) → Ex [] H H' → Q (.ref l) H'
theorem cList {X : Cx} {K : PySem.W.Frag} (h : X.K = K) : CallR X (.type "list") (rLstOf K) := by
  subst h
  refine callImp call_list_of fun xs H Q q => ?_
  rcases q with ⟨p, ys, ⟨a, b⟩, q⟩ | ⟨p, ys, ⟨a, b⟩, q⟩
  · exact ⟨p, ys, a, .inl b, fun l hl => q l _ hl upd_same (Ex.new hl)⟩
  · exact ⟨p, ys, a, .inr b, fun l hl => q l _ hl upd_same (Ex.new hl)⟩
theorem cutV_to (xs : List V) (n : Nat) : cutV xs none (some (n : Int)) = xs.take n := by
  unfold cutV
  rw [HT.sIx_none, HT.sIx_nat, List.drop_zero, Nat.sub_zero]
  by_cases h : n ≤ xs.length
  · rw [Nat.min_eq_left h]
  · rw [Nat.min_eq_right (by omega), List.take_length, List.take_of_length_le (by omega)]
theorem cutV_from (xs : List V) (n : Nat) : cutV xs (some (n : Int)) none = xs.drop n := by
  unfold cutV
  rw [HT.sIx_none, HT.sIx_nat]
  by_cases h : n ≤ xs.length
  · rw [Nat.min_eq_left h, List.take_of_length_le (by rw [List.length_drop]; omega)]
  · rw [Nat.min_eq_right (by omega), List.drop_of_length_le (by omega), List.drop_of_length_le (by omega)]
    simp
theorem RepL.take {K : PySem.W.Frag} {H : Hp} : ∀ {vs : List V} {l : List Dt} (n : Nat), RepL K H vs l → RepL K H (vs.take n) (l.take n)
  | _, _, 0, _ => by rw [List.take_zero, List.take_zero]; exact .nil
  | _, _, n + 1, .nil => .nil
  | _, _, n + 1, .cons h t => .cons h (RepL.take n t)
theorem RepL.drop {K : PySem.W.Frag} {H : Hp} : ∀ {vs : List V} {l : List Dt} (n : Nat), RepL K H vs l → RepL K H (vs.drop n) (l.drop n)
  | _, _, 0, h => h
  | _, _, n + 1, .nil => .nil
  | _, _, n + 1, .cons _ t => RepL.drop n t
theorem repS_len (z : Str) (k : Int) : (repS z k).length = z.length * k.toNat := by
  show (repS z k).cps.size = z.cps.size * k.toNat
  simp only [repS, List.size_toArray, flat_len, Array.length_toList]
  rw [Nat.mul_comm]
theorem RepL.rep {K : PySem.W.Frag} {H : Hp} {vs : List V} {l : List Dt} (h : RepL K H vs l) : ∀ n : Nat, RepL K H (List.replicate n vs).flatten (List.replicate n l).flatten
  | 0 => .nil
  | n + 1 => by
    rw [List.replicate_succ, List.flatten_cons, List.replicate_succ, List.flatten_cons]
    exact h.append (RepL.rep h n)
def rDictOf (K : PySem.W.Frag) : List V → Hp → VK → Prop := fun xs H Q => ∃ (a : Addr) (ps : List Addr) (kvs : List (Key × V)), (xs = [.ref a] ∧ SqL K H a (ps.map V.ref) ∧ Paired (fun p kv => SqT K H p [kV kv.1, kv.2]) ps kvs) ∧
  ∀ p H', H p = none → H' p = some (.dK (mergeK [] kvs)) → Ex [] H H' → Q (.ref p) H'
theorem cDict {X : Cx} {K : PySem.W.Frag} (h : X.K = K) (hc : X.calm = true) : CallR X (.type "dict") (rDictOf K) := by
  subst h
  exact callImp (call_dictP hc) fun xs H Q ⟨a, ps, kvs, ⟨h1, h2, h3⟩, q⟩ => ⟨a, ps, kvs, h1, h2, h3, fun p hp => q p _ hp upd_same (Ex.new hp)⟩
/-- a list of pairs (an int, a thing), as dict(..) takes it -/
theorem pairs_of {K : PySem.W.Frag} {H : Hp} : ∀ {ys : List V} {ds : List Dt}, RepL K H ys ds → (∀ d ∈ ds, ∃ (i : Int) (e : Dt), d = .tup [.int i, e]) → ∃ (ps : List Addr) (kvs : List (Key × V)), ys = ps.map V.ref ∧ Paired (fun p kv => SqT K H p [kV kv.1, kv.2]) ps kvs
  | _, _, .nil, _ => ⟨[], [], rfl, .nil⟩
  | _, _, .cons (v := v) h t, hd => by
    obtain ⟨ps, kvs, e, q⟩ := pairs_of t fun d m => hd d (List.mem_cons_of_mem _ m)
    obtain ⟨i, e1, rfl⟩ := hd _ List.mem_cons_self
    cases h with
    | tup hs hl =>
      rename_i a xs
      cases hl with
      | cons h1 t1 =>
        cases t1 with
        | cons h2 t2 =>
          cases t2
          cases h1
          rename_i v2
          exact ⟨a :: ps, (Sum.inl i, v2) :: kvs, by rw [e]; rfl, .cons hs q⟩
theorem Ex.stepPut {M : List Addr} {H H1 : Hp} {p : Addr} {o o' : HO} (h : H1 p = some o) (k : norm o = norm o') (s : p ∈ M ∨ H p = Option.none) (a : Ex M H H1) : Ex M H (upd H1 p o') :=
  Ex.step (Ex.put (M := [p]) h k List.mem_cons_self) (side1 s) a
theorem Dom.upd {H H1 : Hp} {p : Addr} {o : HO} (a : Dom H H1) : Dom H (upd H1 p o) := fun _ h => a _ (upd_none h).2
theorem kvs_nil : ([] : List (V × V)) = List.map (fun kv => (kV kv.1, kv.2)) ([] : List (Key × V)) := rfl
theorem kvs_ci {i : Int} {v : V} {ps : List (V × V)} {kvs : List (Key × V)} (h : ps = List.map (fun kv => (kV kv.1, kv.2)) kvs) : (V.int i, v) :: ps = List.map (fun kv => (kV kv.1, kv.2)) ((Sum.inl i, v) :: kvs) := by rw [h]; rfl
theorem kvs_cs {z : Str} {v : V} {ps : List (V × V)} {kvs : List (Key × V)} (h : ps = List.map (fun kv => (kV kv.1, kv.2)) kvs) : (V.str z, v) :: ps = List.map (fun kv => (kV kv.1, kv.2)) ((Sum.inr z, v) :: kvs) := by rw [h]; rfl
section
variable {X : Cx}
def tDNewA : TE := fun _ H Q => ∀ p H', H p = none → H' p = some (.dK []) → Ex [] H H' → Q (.ref p) H'
theorem peDict0 {pos : Pos} : PE X (.Dict [] [] pos) tDNewA := peImp pe_dnewK fun _ _ _ q => fun p hp => q p _ hp upd_same (Ex.new hp)
end
theorem strapp_len (x y : Str) : (x ++ y).length = x.length + y.length := by
  show (x.cps ++ y.cps).size = _
  rw [Array.size_append]
  rfl
end G
namespace G
open PySem PySem.Spec PyProof.Rows L2
/-! ### repr, where nothing is being shown already -/
def rRepr (K : PySem.W.Frag) : List V → Hp → VK → Prop := fun xs H Q => (∃ b, (xs = [.bl b]) ∧ Q (.str (if b then "True" else "False")) H) ∨
  ∃ a d, (xs = [.ref a] ∧ Dp K H (.ref a) d ∧ d.showable = true ∧ d.hasDict = false ∧ d.depth ≤ 32 ∧ d.shown.length ≤ sizeLine) ∧ Q (.str d.shown) H
theorem cRepr {X : Cx} {K : PySem.W.Frag} (h : X.K = K) (hg : X.A.guards = some []) (hu : X.A.units + 64 < cLine) : CallR X (.builtin "repr") (rRepr K) := by
  subst h
  intro pins s σ H xs us Q I r h
  rcases h with ⟨b, rfl, q⟩ | ⟨a, d, ⟨rfl, hd, hs, hn, hdp, hz⟩, q⟩
  · obtain ⟨u, rfl, rfl⟩ := vals1 r
    exact PySem.P.repr_of_bool ⟨.str _, H, I.tok _, ⟨_, rfl⟩, q⟩
  · obtain ⟨u, rfl, rv⟩ := vals1 r
    obtain ⟨as, rd⟩ := Dp.reads I d _ _ hd rv
    obtain rfl : u = .ref a := rv
    exact repr_of_reads' rd hs (PyData.noDict_hsm hn) hg (by omega) (fun _ _ e => e) (fun h' u tk hk => ⟨.str _, H, I.kept hk, ⟨_, rfl⟩, q⟩) hz
/-! ### == and != of nested lists and tuples -/
def rEqP (K : PySem.W.Frag) : R2 := fun x y H Q => ∃ d e, (Dp K H x d ∧ Dp K H y e ∧ SeqAt.shaped d = true ∧ SeqAt.shaped e = true) ∧ Q (.bl (PyData.eqv d e)) H
def rNeP (K : PySem.W.Frag) : R2 := fun x y H Q => ∃ d e, (Dp K H x d ∧ Dp K H y e ∧ SeqAt.shaped d = true ∧ SeqAt.shaped e = true) ∧ Q (.bl (!PyData.eqv d e)) H
theorem oEqP {X : Cx} {K : PySem.W.Frag} (h : X.K = K) (hu : X.A.units + 64 < cLine) : OpR X (compareOp .Eq) (rEqP K) := by
  subst h
  exact opImp (op_eqD hu) fun x y H Q ⟨d, e, ⟨a, b, c, z⟩, q⟩ => ⟨d, e, a, b, c, z, q⟩
theorem oNeP {X : Cx} {K : PySem.W.Frag} (h : X.K = K) (hu : X.A.units + 64 < cLine) : OpR X (compareOp .NotEq) (rNeP K) := by
  subst h
  exact opImp (op_neD hu) fun x y H Q ⟨d, e, ⟨a, b, c, z⟩, q⟩ => ⟨d, e, a, b, c, z, q⟩
theorem dpBlsAll {K : PySem.W.Frag} {H : Hp} : ∀ bs : List Bool, DpAll K H (bs.map V.bl) (bs.map PyData.bool)
  | [] => .nil
  | b :: bs => .cons (.bl b) (dpBlsAll bs)
theorem dpBls {K : PySem.W.Frag} {H : Hp} {a : Addr} {bs : List Bool} (h : SqL K H a (bs.map V.bl)) : Dp K H (.ref a) (.list (bs.map PyData.bool)) := .lst h (dpBlsAll bs)
end G
namespace G
open PySem PySem.Spec PyProof.Rows L2
/-! ### defs that may raise -/
structure ClX (P : Program) (w : World) (K : PySem.W.Frag) (mg : Str → Option Value) (base : Heap) (k : Nat) (x : Str) (sp : Sp) : Prop where
  ex : ∃ (f : Addr) (fd : FuncData) (ps : List Str), FnOk P w K mg base (L2.CX P w) k f fd ps sp ∧ mg x = some (.ref f) ∧ PySem.W.keepIn K (.ref f) = true ∧ Binds K fd ps []
/-- a method of the class at C -/
structure Mt (P : Program) (w : World) (K : PySem.W.Frag) (mg : Str → Option Value) (base : Heap) (CX : CXT) (k : Nat) (C : Addr) (m : Str) (sp : Sp) : Prop where
  ex : ∃ (f : Addr) (fd : FuncData) (ps : List Str), Meth K C m f ∧ FnOk P w K mg base CX k f fd ps sp ∧ Binds K fd ps []
/-- the making of an instance of C -/
structure Mkr (P : Program) (w : World) (K : PySem.W.Frag) (mg : Str → Option Value) (base : Heap) (CX : CXT) (k : Nat) (x : Str) (C : Addr) (sp : Sp) : Prop where
  ex : ∃ (f : Addr) (fd : FuncData) (ps : List Str), Mk K C f ∧ FnOk P w K mg base CX k f fd ps sp ∧ Binds K fd ps [] ∧ mg x = some (.ref C)
def tClW (sp : Sp) (W : WX) (t : TA) : TE := fun σ H Q => t σ H fun vs H1 => sp vs H1 Q fun cls d H' => W cls d σ H'
def tMtW (C : Addr) (m : Str) (sp : Sp) (W : WX) (ta : TE) (t : TA) : TE := fun σ H Q => ta σ H fun x H1 => ∃ a dx fs, (x = .ref a ∧ H1 a = some (.ins C dx fs) ∧ fs.lookup m = none) ∧ t σ H1 fun vs H2 => sp (x :: vs) H2 Q fun cls d H' => W cls d σ H'
def tMt (C : Addr) (m : Str) (sp : Sp) (ta : TE) (t : TA) : TE := fun σ H Q => ta σ H fun x H1 => ∃ a dx fs, (x = .ref a ∧ H1 a = some (.ins C dx fs) ∧ fs.lookup m = none) ∧ t σ H1 fun vs H2 => sp (x :: vs) H2 Q E0
def tMkr (C : Addr) (sp : Sp) (t : TA) : TE := fun σ H Q => t σ H fun vs H1 => ∀ x dx H2, H1 x = none → H2 x = some (.ins C dx []) → Ex [] H1 H2 → sp (.ref x :: vs) H2 (fun v H3 => v = .non ∧ Q (.ref x) H3) E0
theorem Ex.made {H : Hp} {x dx C : Addr} (nx : H x = Option.none) (nd : H dx = Option.none) : Ex [] H (upd (upd H dx (.own x)) x (.ins C dx [])) := by
  have e1 : Ex [] H (upd H dx (.own x)) := Ex.new nd
  exact e1.put_new nx
section
variable {X : Cx} {k j : Nat} {x m : Str} {sp : Sp} {C : Addr} {p pos apos : Pos} {e o : Expr} {es : List Expr} {t : TA} {ta : TE} {W : WX}
theorem pe_clX (c : ClX X.prog X.w X.K X.mg X.base k x sp) (tk : Takes X W) (hr : Room j X.A) (hk : k ≤ j) (hg : Gl X x) (ha : PA X (e :: es) t)
    (hdb : (x == ("__debug__" : Str)) = false := by decide) (he : starEach (e :: es) X.env = (false, eval e X.env) :: starEach es X.env := by rfl) (hpl : (backTo pos (starEach es X.env)).any (·.1) = false := by rfl) :
    PE X (.Call (.Name x p) (e :: es) [] pos) (tClW sp W t) := by
  obtain ⟨f, fd, ps, F, m, kp, b⟩ := c.ex
  exact pe_callS F (hr.mono hk) hg m kp b (fun σ => passAt tk σ) ha hdb he hpl
theorem pe_clX0 (c : ClX X.prog X.w X.K X.mg X.base k x sp) (tk : Takes X W) (hr : Room j X.A) (hk : k ≤ j) (hg : Gl X x) (hdb : (x == ("__debug__" : Str)) = false := by decide) :
    PE X (.Call (.Name x p) [] [] pos) (tClW sp W tNil) := by
  obtain ⟨f, fd, ps, F, m, kp, b⟩ := c.ex
  refine ⟨fun pins s σ H Q I h => ?_⟩
  refine wpAny_Call_Name_kw (ld_glob I hg m ?_ hdb)
  exact PySem.W.callWith_K0 I.kIn kp (run_fnS (us := []) (vs := []) F (hr.mono hk) b (passAt tk σ) I .nil h)
theorem pe_mtX {pl : Sem Bool} (c : Mt X.prog X.w X.K X.mg X.base (L2.CX X.prog X.w) k C m sp) (cl : Cls X.K C) (tk : Takes X W) (he : PE X o ta) (hr : Room j X.A) (hk : k ≤ j) (ha : PA X (e :: es) t)
    (hst : starEach (e :: es) X.env = (false, eval e X.env) :: starEach es X.env := by rfl) (hpl : (backTo pos (starEach es X.env)).any (·.1) = false := by rfl)
    (ht : eval (.Call (.Attribute o m apos) (e :: es) [] pos) X.env = (do
      let ov ← eval o X.env
      standAt apos.atName
      let (f, first) ← holding [ov] (getMethod ov m pl)
      callWith pos f first (backTo pos (starEach (e :: es) X.env)) (backToKw pos (keywordEach [] X.env))) := by rfl) :
    PE X (.Call (.Attribute o m apos) (e :: es) [] pos) (tMtW C m sp W ta t) := by
  obtain ⟨f, fd, ps, hm, F, b⟩ := c.ex
  refine ⟨fun pins s σ H Q I h => ?_⟩
  refine PySem.W.methodCall_KW (pl := pl) (thn (he.run pins s σ H _ I h) fun u s1 ⟨x, H1, I1, rx, a, dx, fs, ⟨ex, ea, l⟩, q⟩ => ?_) ht
  subst ex
  obtain rfl : u = Value.ref a := rx
  refine getmeth_ok I1 ea cl hm l ?_
  refine PySem.W.callWith_K (first := [.ref a]) (h₀ := X.base) I.ok.mod.kin hm.kp (thn (ha.run pos pins s1 σ H1 _ I1 q) fun us s2 ⟨vs, H2, I2, r, q2⟩ => ⟨I2.kIn, ?_⟩) hst hpl
  exact run_fnS (us := .ref a :: us) (vs := .ref a :: vs) F (hr.mono hk) b (passAt tk σ) I2 (.cons rfl r) q2
theorem pe_mtX0 {pl : Sem Bool} (c : Mt X.prog X.w X.K X.mg X.base (L2.CX X.prog X.w) k C m sp) (cl : Cls X.K C) (tk : Takes X W) (he : PE X o ta) (hr : Room j X.A) (hk : k ≤ j)
    (ht : eval (.Call (.Attribute o m apos) [] [] pos) X.env = (do
      let ov ← eval o X.env
      standAt apos.atName
      let (f, first) ← holding [ov] (getMethod ov m pl)
      callWith pos f first (backTo pos (starEach [] X.env)) (backToKw pos (keywordEach [] X.env))) := by rfl) :
    PE X (.Call (.Attribute o m apos) [] [] pos) (tMtW C m sp W ta tNil) := by
  obtain ⟨f, fd, ps, hm, F, b⟩ := c.ex
  refine ⟨fun pins s σ H Q I h => ?_⟩
  refine PySem.W.methodCall_KW (pl := pl) (thn (he.run pins s σ H _ I h) fun u s1 ⟨x, H1, I1, rx, a, dx, fs, ⟨ex, ea, l⟩, q⟩ => ?_) ht
  subst ex
  obtain rfl : u = Value.ref a := rx
  refine getmeth_ok I1 ea cl hm l ?_
  exact PySem.W.callWith_K0 (first := [.ref a]) I1.kIn hm.kp (run_fnS (us := [.ref a]) (vs := [.ref a]) F (hr.mono hk) b (passAt tk σ) I1 (.cons rfl .nil) q)
theorem pe_mt {pl : Sem Bool} (c : Mt X.prog X.w X.K X.mg X.base CX0 k C m sp) (cl : Cls X.K C) (he : PE X o ta) (hr : Room j X.A) (hk : k ≤ j) (ha : PA X (e :: es) t)
    (hst : starEach (e :: es) X.env = (false, eval e X.env) :: starEach es X.env := by rfl) (hpl : (backTo pos (starEach es X.env)).any (·.1) = false := by rfl)
    (ht : eval (.Call (.Attribute o m apos) (e :: es) [] pos) X.env = (do
      let ov ← eval o X.env
      standAt apos.atName
      let (f, first) ← holding [ov] (getMethod ov m pl)
      callWith pos f first (backTo pos (starEach (e :: es) X.env)) (backToKw pos (keywordEach [] X.env))) := by rfl) :
    PE X (.Call (.Attribute o m apos) (e :: es) [] pos) (tMt C m sp ta t) := by
  obtain ⟨f, fd, ps, hm, F, b⟩ := c.ex
  refine peImp (pe_meth he cl hm F (hr.mono hk) b .nil pass0 ha hst hpl ht) fun σ H Q q => ?_
  show ta σ H _
  have : (fun x H1 => ∃ a dx fs, (x = V.ref a ∧ H1 a = some (HO.ins C dx fs) ∧ fs.lookup m = none) ∧ t σ H1 fun vs H2 => sp (x :: vs) H2 Q E0) = fun x H1 => ∃ a dx fs, x = V.ref a ∧ H1 a = some (HO.ins C dx fs) ∧ fs.lookup m = none ∧ t σ H1 fun vs H2 => sp (x :: (vs ++ [])) H2 Q E0 := by
    funext x H1
    simp only [List.append_nil, and_assoc]
  rw [← this]
  exact q
theorem pe_mt0 {pl : Sem Bool} (c : Mt X.prog X.w X.K X.mg X.base CX0 k C m sp) (cl : Cls X.K C) (he : PE X o ta) (hr : Room j X.A) (hk : k ≤ j)
    (ht : eval (.Call (.Attribute o m apos) [] [] pos) X.env = (do
      let ov ← eval o X.env
      standAt apos.atName
      let (f, first) ← holding [ov] (getMethod ov m pl)
      callWith pos f first (backTo pos (starEach [] X.env)) (backToKw pos (keywordEach [] X.env))) := by rfl) :
    PE X (.Call (.Attribute o m apos) [] [] pos) (tMt C m sp ta tNil) := by
  obtain ⟨f, fd, ps, hm, F, b⟩ := c.ex
  refine peImp (pe_meth0 he cl hm F (hr.mono hk) b .nil pass0 ht) fun σ H Q q => ?_
  show ta σ H _
  have : (fun x H1 => ∃ a dx fs, (x = V.ref a ∧ H1 a = some (HO.ins C dx fs) ∧ fs.lookup m = none) ∧ tNil σ H1 fun vs H2 => sp (x :: vs) H2 Q E0) = fun x H1 => ∃ a dx fs, x = V.ref a ∧ H1 a = some (HO.ins C dx fs) ∧ fs.lookup m = none ∧ tNil σ H1 fun vs H2 => sp (x :: (vs ++ [])) H2 Q E0 := by
    funext x H1
    simp only [List.append_nil, and_assoc]
  rw [← this]
  exact q
theorem pe_mkr (c : Mkr X.prog X.w X.K X.mg X.base CX0 k x C sp) (hr : Room j X.A) (hk : k + 1 ≤ j) (hg : Gl X x) (ha : PA X (e :: es) t)
    (hdb : (x == ("__debug__" : Str)) = false := by decide) (he : starEach (e :: es) X.env = (false, eval e X.env) :: starEach es X.env := by rfl) (hpl : (backTo pos (starEach es X.env)).any (·.1) = false := by rfl) :
    PE X (.Call (.Name x p) (e :: es) [] pos) (tMkr C sp t) := by
  obtain ⟨f, fd, ps, M, F, b, gC⟩ := c.ex
  refine ⟨fun pins s σ H Q I h => ?_⟩
  refine wpAny_Call_Name_kw (ld_glob I hg gC ?_ hdb)
  refine PySem.W.callWith_K (h₀ := X.base) I.ok.mod.kin M.kp (thn (ha.run pos pins s σ H _ I h) fun us s1 ⟨vs, H1, I1, r, q⟩ => ⟨I1.kIn, ?_⟩) he hpl
  exact run_make (dvs := []) M F (hr.mono hk) b .nil pass0 I1 r fun x dx nx nd _ => by rw [List.append_nil]; exact q x dx _ nx upd_same (Ex.made nx nd)
theorem pe_mkr0 (c : Mkr X.prog X.w X.K X.mg X.base CX0 k x C sp) (hr : Room j X.A) (hk : k + 1 ≤ j) (hg : Gl X x) (hdb : (x == ("__debug__" : Str)) = false := by decide) :
    PE X (.Call (.Name x p) [] [] pos) (tMkr C sp tNil) := by
  obtain ⟨f, fd, ps, M, F, b, gC⟩ := c.ex
  refine peImp (pe_make0 M F (hr.mono hk) hg gC b .nil pass0 hdb) fun σ H Q q => ?_
  show ∀ x dx, H x = none → H dx = none → dx ≠ x → sp (.ref x :: ([] ++ [])) _ _ E0
  intro x dx nx nd _
  exact q x dx _ nx upd_same (Ex.made nx nd)
end
/-! ### fields -/
theorem lk_hd {f : Str} {v : V} {r : List (Str × V)} : List.lookup f ((f, v) :: r) = some v := by simp
theorem lk_tl {f g : Str} {u : V} {v : Option V} {r : List (Str × V)} (n : (f == g) = false) (h : List.lookup f r = v) : List.lookup f ((g, u) :: r) = v := by rw [List.lookup_cons, n]; exact h
theorem lk_nil {f : Str} : List.lookup f ([] : List (Str × V)) = none := rfl
theorem pf_nil {f : Str} {v : V} : putF f v [] = [(f, v)] := rfl
theorem pf_hd {f : Str} {v u : V} {r : List (Str × V)} : putF f v ((f, u) :: r) = (f, v) :: r := by simp [putF]
theorem pf_tl {f g : Str} {v u : V} {r q : List (Str × V)} (n : (g == f) = false) (h : putF f v r = q) : putF f v ((g, u) :: r) = (g, u) :: q := by
  have n' : g ≠ f := fun z => by rw [z] at n; simp at n
  rw [putF, if_neg n', h]
def tFldA (C : Addr) (ta : TE) (f : Str) : TE := fun σ H Q => ta σ H fun x H1 => ∃ a dx fs v, (x = .ref a ∧ H1 a = some (.ins C dx fs) ∧ fs.lookup f = some v) ∧ Q v H1
def sFldA (C : Addr) (ta tv : TE) (f : Str) : TS := fun D σ H => tv σ H fun y H1 => ta σ H1 fun x H2 => ∃ a dx fs fs', (x = .ref a ∧ H2 a = some (.ins C dx fs) ∧ putF f y fs = fs' ∧ fs.length ≤ 900) ∧
  ∀ H3, H3 a = some (.ins C dx fs') → Ex [a] H2 H3 → D.nx σ H3
def sFldAugA (C : Addr) (ta tv : TE) (rd : V → V → Hp → VK → Prop) (f : Str) : TS := fun D σ H => ta σ H fun x H1 => ∃ a dx fs v, (x = .ref a ∧ H1 a = some (.ins C dx fs) ∧ fs.lookup f = some v) ∧
  tv σ H1 fun y H2 => rd v y H2 fun z H3 => ∃ dx' fs' fs'', (H3 a = some (.ins C dx' fs') ∧ putF f z fs' = fs'' ∧ fs'.length ≤ 900) ∧ ∀ H4, H4 a = some (.ins C dx' fs'') → Ex [a] H3 H4 → D.nx σ H4
section
variable {X : Cx} {o e value : Expr} {f : Str} {pos pos' tpos : Pos} {ta tv : TE} {C : Addr}
theorem Ex.ins {H : Hp} {a C dx : Addr} {fs fs' : List (Str × V)} (h : H a = some (.ins C dx fs)) : Ex [a] H (upd H a (.ins C dx fs')) := Ex.put h rfl (by simp)
theorem pe_fldA (c : Cls X.K C) (n : NoAttr X.K C f) (he : PE X e ta) (hb : attributeBase e f X.env (eval e X.env) = eval e X.env) : PE X (.Attribute e f pos) (tFldA C ta f) := by
  refine ⟨fun pins s σ H Q I h => ?_⟩
  refine attr_of hb (thn (he.run pins s σ H _ I h) fun u s1 ⟨x, H1, I1, rx, a, dx, fs, v, ⟨ex, ea, l⟩, q⟩ => ?_)
  subst ex
  obtain rfl : u = Value.ref a := rx
  exact getattr_ok I1 ea c n l fun u' s2 I2 ru => ⟨v, H1, I2, ru, q⟩
theorem ps_fldA (c : Cls X.K C) (n : NoAttr X.K C f) (ha : PE X o ta) (hv : PE X value tv) (hs : swapsWith value (some (.Attribute o f pos')) pos.line X.env = pure false) : PS X (.Assign [.Attribute o f pos'] value pos) (sFldA C ta tv f) := by
  refine ⟨fun pins s σ H D I h => ?_⟩
  refine plainObj_wpAny_Assign_Attribute (thn (hv.run pins s σ H _ I h) fun u s1 ⟨y, H1, I1, ry, q⟩ => thn (ha.run pins s1 σ H1 _ I1 q) fun ov s2 ⟨x, H2, I2, rx, a, dx, fs, fs', ⟨ex, ea, ef, l⟩, q2⟩ => ?_) hs
  subst ex ef
  obtain rfl : ov = Value.ref a := rx
  exact setattr_ok I2 ea c n (by omega) ry fun s3 I3 => ⟨σ, _, I3, q2 _ upd_same (Ex.ins ea)⟩
theorem ps_fldaugA {op : Operator} {rd : V → V → Hp → VK → Prop} (c : Cls X.K C) (n : NoAttr X.K C f) (ha : PE X o ta) (hv : PE X value tv) (hop : InOp X op rd) : PS X (.AugAssign (.Attribute o f tpos) op value pos) (sFldAugA C ta tv rd f) := by
  refine ⟨fun pins s σ H D I h => ?_⟩
  refine wpAny_AugAssign_AttributeAny (thn (ha.run pins s σ H _ I h) fun ov s1 ⟨x, H1, I1, rx, a, dx, fs, v, ⟨ex, ea, l⟩, q⟩ => ?_)
  subst ex
  obtain rfl : ov = Value.ref a := rx
  refine getattr_ok I1 ea c n l fun u s2 I2 ru => thn (hv.run pins s2 σ H1 _ I2 q) fun w3 s3 ⟨y, H2, I3, ry, q3⟩ => thn (hop pins s3 σ H2 v y u w3 _ I3 ru ry q3) fun w4 s4 ⟨z, H3, I4, rz, dx', fs', fs'', ⟨ea', ef, l'⟩, q4⟩ => ?_
  subst ef
  exact setattr_ok I4 ea' c n (by omega) rz fun s5 I5 => ⟨σ, _, I5, q4 _ upd_same (Ex.ins ea')⟩
def iAdd : V → V → Hp → VK → Prop := fun x y H Q => (∃ i j, (x = .int i ∧ y = .int j) ∧ Q (.int (i + j)) H) ∨ ∃ i j, (x = .str i ∧ y = .str j ∧ i.length + j.length ≤ sizeLine) ∧ Q (.str (i ++ j)) H
theorem inAdd : InOp X .Add iAdd := fun pins s σ H x y u v Q I rx ry q => by
  rcases q with ⟨i, j, ⟨rfl, rfl⟩, q⟩ | ⟨i, j, ⟨rfl, rfl, hl⟩, q⟩
  · exact in_add pins s σ H _ _ u v Q I rx ry ⟨i, j, rfl, rfl, q⟩
  · exact in_addS pins s σ H _ _ u v Q I rx ry ⟨i, j, rfl, rfl, hl, q⟩
def iSub : V → V → Hp → VK → Prop := fun x y H Q => ∃ i j, (x = .int i ∧ y = .int j) ∧ Q (.int (i - j)) H
theorem inSub : InOp X .Sub iSub := fun pins s σ H x y u v Q I rx ry ⟨i, j, ⟨a, b⟩, q⟩ => in_sub pins s σ H x y u v Q I rx ry ⟨i, j, a, b, q⟩
end
/-! ### xs[i] op= e -/
def rGetL (K : PySem.W.Frag) : V → V → Hp → VK → Prop := fun x y H Q => ∃ p xs i v, (x = .ref p ∧ y = .int i ∧ SqL K H p xs ∧ 0 ≤ i ∧ atI xs i = some v) ∧ Q v H
theorem getL {X : Cx} {K : PySem.W.Frag} (h : X.K = K) : PGet X (rGetL K) := by
  subst h
  intro pins s σ H x y v u Q I rx ry h
  obtain ⟨p, xs, i, z, ⟨rfl, rfl, hq, h0, he⟩, q⟩ := h
  cases rx
  obtain ⟨t, rfl⟩ := ry
  obtain ⟨its, r, pl, hz⟩ := I.list hq
  obtain ⟨j, h1, h2, h3, h4, h5⟩ := atI_get he
  obtain ⟨w, ew, rw'⟩ := r.get h2
  have hl := r.length
  have hn := line63
  have fin : EP X pins σ Q w s := ⟨z, H, I, rw', q⟩
  have hj : i.toNat = j := by
    rw [seqIndex_of h0 h5] at h1
    exact Option.some.inj h1
  exact wpAny_getItem_list pl.isList h0 (by omega) (by rw [hj]; simpa using ew) fin
/-! ### exceptions of one's own -/
def excBm : List Value := [.type "ValueError", .type "Exception", .type "BaseException", .type "object"]
structure ExcF (K : PySem.W.Frag) (mg : Str → Option Value) (x : Str) (C : Addr) : Prop where
  g : mg x = some (.ref C)
  q : PySem.W.excIn K C excBm "ValueError.__new__" = true
  k : PySem.W.keepIn K (.ref C) = true
  b : PySem.W.subIn K (.ref C) (.type "BaseException") = some true
  t : PySem.W.typeIn K (.ref C) = some (.type "type")
theorem ExcF.names {X : Cx} {x : Str} {C : Addr} (F : ExcF X.K X.mg x C) (hg : Gl X x) (hdb : (x == ("__debug__" : Str)) = false := by decide) : Names X x (.ref C) := ⟨hg, hdb, .inl F.g⟩
/-- X() -/
theorem pmk0 {X : Cx} {x : Str} {C : Addr} {p pos : Pos} (E : ExcF X.K X.mg x C) (hg : Gl X x) (hdb : (x == ("__debug__" : Str)) = false := by decide) : PMk X (.Call (.Name x p) [] [] pos) (fun _ H Q => Q (.ref C) none H) := by
  intro pins s σ H Q I h
  refine wpAny_Call_Name_kw (ld_glob I hg E.g ?_ hdb)
  refine PySem.W.callWith_K0 I.kIn E.k ?_
  show wpAny _ _ (call (.ref C) []) _ _ _
  obtain ⟨bm, N, nm, qn, bs, hdct, sn, sub, ab, col, dd, k0, k1, k2, k3, k5, mN, hC, hN, hni, T⟩ := exc_obj I.kIn E.q
  refine wpAny_call_exc_subT PySem.F.excBase_ValueError T hC hN hni (fun h' e hm => ?_) (Nat.zero_le _)
  exact mk_of I hm (raises_own E.b E.t) h (I.hok.gone hm.new)
end G
namespace G
open PySem PySem.Spec PyProof.Rows L2
/-! ### the law's def, called by the claim alone: nothing is being shown there -/
/-- the def runs as promised where the claim calls it -/
def RunG (P : Program) (w : World) (K : PySem.W.Frag) (mg : Str → Option Value) (base : Heap) (fa : Addr) (sp : Sp) : Prop :=
  ∀ (s : Shared) (H : Hp) (u : Value) (v : V) (Q : VK) (E : XK), Env0 P w K mg base callerA [] s H → RelV v u → sp [v] H Q E →
    codeAny (model P w) callerA (.call (.ref fa) ⟨[u], []⟩) (CR CX0 [] P w H s Q E) s
section
variable {P : Program} {w : World} {K : PySem.W.Frag} {mg mb : Str → Option Value} {fa a : Addr} {sp : Sp} {t : Shared} {vs : List Value} {ns : List Int}
/-- the script, and nothing else, is followed; and that only where it is no part of the module -/
noncomputable def scriptHp (K : PySem.W.Frag) (a : Addr) (vs : List Value) (ns : List Int) : Hp := fun b =>
  open Classical in if b = a ∧ K.lookup a = none then some (.frz { cls := .type "list", data := .seq vs.toArray } (.lst (ns.map V.int))) else none
theorem scriptHp_of (b : Addr) : scriptHp K a vs ns b = none ∨ (b = a ∧ K.lookup a = none ∧ scriptHp K a vs ns b = some (.frz { cls := .type "list", data := .seq vs.toArray } (.lst (ns.map V.int)))) := by
  unfold scriptHp
  by_cases h : b = a ∧ K.lookup a = none
  · exact .inr ⟨h.1, h.2, if_pos h⟩
  · exact .inl (if_neg h)
theorem script_run (KX : K.In t.heap) (gn : t.heap.Ns mainGlobals mg) (gb : t.heap.Ns builtinsNs mb) (bb : ∀ x : Str, x ≠ "__name__" → mb x = bootBuiltins x) (nl : t.heap.NoLimit) (ge : t.gens = #[])
    (la : t.heap.get? a = some { cls := .type "list", data := .seq vs.toArray }) (iv : IntsAre vs ns) (sz : ns.length ≤ sizeLine)
    (F : ∀ base : Heap, K.In base → base.Ns mainGlobals mg → RunG P w K mg base fa sp)
    (hsp : ∀ H : Hp, SqL K H a (ns.map V.int) → sp [.ref a] H (fun v _ => v = .bl true) fun _ _ _ => False) :
    codeAny (model P w) callerA (.call (.ref fa) ⟨[.ref a], []⟩) (fun r t' => r = .ok (.ret (.bool true)) ∧ OldK t.heap t'.heap ∧ t'.os = t.os ∧ AllBare t'.gens) t := by
  have rv := vals_ints iv
  have ln := iv.length
  generalize hH : scriptHp K a vs ns = H
  have cs : ∀ b, H b = none ∨ (b = a ∧ K.lookup a = none ∧ H b = some (.frz { cls := .type "list", data := .seq vs.toArray } (.lst (ns.map V.int)))) := fun b => by
    rw [← hH]
    exact scriptHp_of b
  have hq : SqL K H a (ns.map V.int) := by
    cases hk : K.lookup a with
    | none =>
      refine .inl (.inr ⟨{ cls := .type "list", data := .seq vs.toArray }, ?_⟩)
      rw [← hH]
      exact if_pos ⟨rfl, hk⟩
    | some o =>
      have e := (KX a o hk).symm.trans la
      cases e
      exact .inr ⟨_, vs.toArray, _, hk, rfl, rfl, rfl, by rw [List.size_toArray, ln]; exact sz, by simpa using rv⟩
  have ok : HOk P w H t.heap := fun b o e => by
    rcases cs b with z | ⟨rfl, _, z⟩
    · rw [z] at e
      cases e
    · rw [z] at e
      cases e
      exact ⟨la, by rw [List.length_map]; exact sz, vs, _, rv, la⟩
  have keep : ∀ {b : Addr} {o : Obj}, t.heap.get? b = some o → (∀ xs n, o.data ≠ .seq xs n) → (hidT t.heap H).get? b = some o := fun {b o} e nd => by
    refine hidT_get e ?_
    rcases cs b with z | ⟨rfl, _, _⟩
    · exact z
    · rw [la] at e
      cases e
      exact absurd rfl (nd _ _)
  have ns' : ∀ {b : Addr} {m : Str → Option Value}, t.heap.Ns b m → (hidT t.heap H).Ns b m := fun {b m} ⟨o, es, ep, e, d, r⟩ =>
    ⟨o, es, ep, keep e (fun xs n z => by rw [d] at z; cases z), d, r⟩
  have KB : K.In (hidT t.heap H) := fun b o e => hidT_get (KX b o e) (by
    rcases cs b with z | ⟨rfl, z, _⟩
    · exact z
    · rw [z] at e
      cases e)
  have hM : Mod K mg (hidT t.heap H) := ⟨KB, ns' gn, ⟨mb, ns' gb, bb⟩, let ⟨mc, h1, h2⟩ := nl; ⟨mc, ns' h1, h2⟩⟩
  have e0 : Env0 P w K mg (hidT t.heap H) callerA [] t H :=
    { frames := rfl, mod := hM, bs := fun b o e => of_hidT e, bsz := Nat.le_of_eq (hidT_size _ _), funs := trivial, frf := fun b hb => absurd (show b ∈ ([] : List Addr) from hb) (by simp), hok := ok, bare := .of_eq ge }
  refine codeAny_mono (F _ KB (ns' gn) t H (.ref a) (.ref a) _ _ e0 rfl (hsp H hq)) fun r t' h => ?_
  cases r with
  | error e => exact False.elim h
  | ok fl =>
    cases fl with
    | ret u =>
      obtain ⟨v, H', os, bare, un, ok', r', q⟩ := h
      obtain rfl : v = .bl true := q
      obtain rfl : u = Value.bool true := r'
      refine ⟨rfl, OldK.of_keep fun b o e => ?_, os, bare⟩
      rcases cs b with z | ⟨rfl, _, z⟩
      · exact un.keep b o e z (by intro hb; exact absurd (show b ∈ ([] : List Addr) from hb) (by simp)) (by simp)
      · have z2 := un.frzs b _ _ z
        obtain ⟨e1, _⟩ := ok b _ z
        obtain ⟨e2, _⟩ := ok' b _ z2
        rw [e] at e1
        cases e1
        exact e2
    | next => exact False.elim h
    | brk => exact False.elim h
    | cont => exact False.elim h
/-- the law's def by its body, where the claim calls it -/
theorem claim_run {base : Heap} {x qual an : Str} {st : Stmt} {f : Addr} {fd : FuncData} {N : List Str} {k : Nat} (F : Fun K x qual st f fd) (S : FnScope N [an] (defScope st)) (hr : Room (k + 1) callerA)
    (bd : ∀ (s : Shared) (u : Value), BindsTo s fd ⟨[u], []⟩ [(an, u)])
    (body : ∀ (cdv : Value) (s : Shared) (H : Hp) (v : V) (Q : VK) (E : XK), Room k (callerA.deeper (envOfC qual (defScope st) s.heap.objs.size f cdv)) → sp [v] H Q E →
      ∃ r, PSs (cxOf CX0 P w K mg base N qual (defScope st) f cdv callerA [] s H E).nox (defBody st) r ∧ r { nx := fun _ H' => Q .non H', rt := Q } (start N [v]) H) :
    RunG P w K mg base f sp := by
  intro s H u v Q E e0 rv h
  obtain ⟨oc, od, kV, doc, pm, an, cdv, ct, osl, rfl, lk, hcd⟩ := F.ex
  have old : ∀ b o, base.get? b = some o → s.heap.get? b = some o := fun b o e => (e0.bs b o e).1
  have KX : K.In s.heap := e0.mod.kin.keeps old
  have nl : s.heap.NoLimit := e0.mod.nolimit.keeps old
  refine codeAny_call_function hr.depth (KX _ _ lk) rfl S.co S.gen rfl (PySem.W.codeRec_of KX hcd) (bd s u _ _ _ _ ?_)
  refine wpAny_newFunctionEnv_cells S.kind (fun y hy => ?_) fun env he s1 e => ?_
  · rcases List.mem_singleton.mp hy with rfl
    rcases S.par _ List.mem_cons_self with q | q
    · exact .inl q
    · exact .inr ⟨q, PySem.W.cellsFrom_some _ _ _ (.inl q)⟩
  · subst he
    refine ⟨nl.keeps e.toInCall.keep, codeAny_func ?_⟩
    obtain ⟨r, hp, hq⟩ := body cdv s H v Q E (hr.deeper _) h
    have I : Inv (cxOf CX0 P w K mg base N qual (defScope st) f cdv callerA [] s H E) [] (start N [v]) H s1 := inv_start S hr.hd e0 rfl (.cons rv .nil) e
    refine wpAny_mono (hp.nox.run [] s1 (start N [v]) H _ I hq) (fun fl s' o => ?_) fun _ _ o => o
    cases fl with
    | ret z =>
      obtain ⟨y, _, H', J, ry, qy⟩ := o
      exact ⟨y, H', J.os, J.bare, J.base, J.hok, ry, qy⟩
    | next =>
      obtain ⟨_, H', J, qy⟩ := o
      exact ⟨V.non, H', J.os, J.bare, J.base, J.hok, rfl, qy⟩
    | brk =>
      obtain ⟨_, _, _, qy⟩ := o
      exact False.elim qy
    | cont =>
      obtain ⟨_, _, _, qy⟩ := o
      exact False.elim qy
end
/-- the goal that k_head leaves, from the law's promise where the claim calls it -/
theorem walk_claim {l : PySem.W.OpenLaw} {n : Nat} {q : Program} {loose : List Str} {XP : (Str → Option Value) → Heap → Prop} {YP : World → Heap → Prop} {d : DefRec} {K : Params → PySem.W.Frag} {sp : World → Sp}
    (hn : l.most = some n) (big : n ≤ sizeLine) (hdf : d.params.defaults = []) (hY : ∀ (w : World) (h : Heap), YP w h → (K w.params).In h)
    (F : ∀ (w : World) (mg : Str → Option Value) (fa : Addr) (h : Heap), (K w.params).In h → h.Ns mainGlobals mg → mg d.name = some (.ref fa) →
      ∀ base : Heap, (K w.params).In base → base.Ns mainGlobals mg → RunG l.prog w (K w.params) mg base fa (sp w))
    (hsp : ∀ (w : World) (H : Hp) (a : Addr) (ns : List Int), ns.length ≤ n → SqL (K w.params) H a (ns.map V.int) → sp w [.ref a] H (fun v _ => v = .bl true) fun _ _ _ => False) :
    PySem.W.WalkO q loose XP YP l.row.toRowW d [] (fun f vs => PySem.call f vs) := by
  refine Att.attach_call hn hdf fun w _ s₁ mg mb fa _ _ _ _ a vs ns G Y _ _ _ hm ha hi hl hg => ?_
  have KX := hY w _ Y
  exact script_run KX G.T.g G.T.b G.T.builtins G.T.nolimit hg ha hi (Nat.le_trans hl big) (F w mg fa _ KX G.T.g hm) fun H hS => hsp w H a ns hl hS
end G
namespace G
open PySem PySem.Spec PyProof.Rows L2
/-! ### < of data that are alike -/
def rLtP (K : PySem.W.Frag) : R2 := fun x y H Q => ∃ d e, (Dp K H x d ∧ Dp K H y e ∧ PySem.W.alike d e = true ∧ d ≠ .none ∧ d.depth ≤ 64) ∧ Q (.bl (PySem.W.dataLt d e)) H
theorem oLtP {X : Cx} {K : PySem.W.Frag} (h : X.K = K) (hu : X.A.units + 64 < cLine) : OpR X (compareOp .Lt) (rLtP K) := by
  subst h
  intro pins s σ H x y v u Q I rx ry ⟨d, e, ⟨hd, he, ha, hn, hz⟩, q⟩
  obtain ⟨as, r1⟩ := Dp.reads I d x v hd rx
  obtain ⟨bs, r2⟩ := Dp.reads I e y u he ry
  exact PySem.W.lt_data r1 r2 ha hn (by omega) ⟨.bl _, H, I, rfl, q⟩
/-! ### how often a flag stands in a tuple of flags -/
def isB (b : Bool) : Value → Bool
  | .bool c => c == b
  | _ => false
theorem bools_of {its : List Value} : ∀ {bs : List Bool}, Vals (bs.map V.bl) its → its = bs.map Value.bool := by
  intro bs r
  induction bs generalizing its with
  | nil => cases r; rfl
  | cons b bs ih =>
    cases r with
    | cons h t =>
      cases h
      rw [ih t]
      rfl
def rCntB (K : PySem.W.Frag) : V → List V → Hp → VK → Prop := fun x vs H Q => ∃ (a : Addr) (bs : List Bool) (b : Bool), (x = .ref a ∧ vs = [.bl b] ∧ SqT K H a (bs.map V.bl)) ∧ Q (.int (bs.count b : Nat)) H
theorem mCntB {X : Cx} {K : PySem.W.Frag} (h : X.K = K) : MtR X "tuple.count" (rCntB K) := by
  subst h
  intro pins s σ H x xs v us Q I rx rxs ⟨a, bs, b, ⟨e1, e2, hs⟩, q⟩
  subst e1 e2
  cases rx
  obtain ⟨u, rfl, ru⟩ := rxs.one
  cases ru
  obtain ⟨its, rv, ⟨⟨cls, dd, data, sl⟩, ho, hc, n, hd⟩, hlen⟩ := I.tuple hs
  simp only at hc hd
  subst hc hd
  have hi := bools_of rv
  subst hi
  refine call_meets PySem.F.slot_tuple_count ⟨_, ho, rfl⟩ PySem.F.entry_tuple_count (PySem.F.args_tuple_count_2 _ _)
    (SeqAt.tuple_countAt a (bs.map Value.bool).toArray n dd sl (.bool b) (isB b)) ⟨ho, fun y hy => ?_, ?_⟩
  · simp only [List.mem_toArray, List.mem_map] at hy
    obtain ⟨c, _, rfl⟩ := hy
    exact SeqAt.EqAt.bool_bool c b
  have ec : (bs.map Value.bool).toArray.toList.countP (isB b) = bs.count b := by
    show (bs.map Value.bool).countP (isB b) = _
    rw [List.countP_map]
    rfl
  refine ⟨.int (bs.count b : Nat), H, I.tok _, ⟨s.toks, ?_⟩, q⟩
  show Value.int ((((bs.map Value.bool).toArray.toList.countP (isB b) : Nat)) : Int) s.toks = Value.int ((bs.count b : Nat) : Int) s.toks
  rw [ec]
/-! ### zip of tuples, turn by turn -/
theorem walk_zipT {K : PySem.W.Frag} {a b : Addr} {xs ys : List V} {n : Nat} (hn : n = min xs.length ys.length) : Walk (RZ.ItzT K a b) n (fun H => SqT K H a xs ∧ SqT K H b ys) (YPair (fun i => xs[i]?) (fun i => ys[i]?)) := by
  subst hn
  refine ⟨fun i H hi q => ?_, fun H q => ?_, fun i H x H' hi q y => ?_⟩
  · have h1 : i < xs.length := Nat.lt_of_lt_of_le hi (Nat.min_le_left _ _)
    have h2 : i < ys.length := Nat.lt_of_lt_of_le hi (Nat.min_le_right _ _)
    exact ⟨xs, ys, xs[i], ys[i], q.1, q.2, by simp [h1], by simp [h2]⟩
  · refine ⟨xs, ys, q.1, q.2, ?_⟩
    rcases Nat.le_total xs.length ys.length with h | h
    · exact .inl (by omega)
    · exact .inr (by omega)
  · obtain ⟨T, x, y, h1, h2, h3, h4, h5⟩ := y
    exact ⟨T, x, y, h1, h2, h3, h4 xs q.1, h5 ys q.2⟩
/-! ### isinstance of the error that a suite holds -/
def rIsX (K : PySem.W.Frag) (a : Addr) (cls : Value) (d : Option Addr) : List V → Hp → VK → Prop := fun xs H Q => ∃ (D C : Addr) (b : Bool), (xs = [.ref a, .ref C] ∧ cls = .ref D ∧ d = none ∧ ExcC K D ∧ PySem.W.kitOne K (.ref D) (.ref C) = some b) ∧ Q (.bl b) H
theorem cIsX {X : Cx} {K : PySem.W.Frag} {a : Addr} {oe : Obj} {cls : Value} {d : Option Addr} {pn : List (Addr × Obj)} (h : X.K = K) (hz : Zc cls d oe) (hf : ∃ vs, oe.data = .fields vs) : CallR (X.suite a ((a, oe) :: pn)) (.builtin "isinstance") (rIsX K a cls d) := by
  subst h
  intro pins s σ H xs us Q I r h
  obtain ⟨D, C, b, ⟨rfl, rfl, rfl, ec, ek⟩, q⟩ := h
  exact call_isE ec hz hf pins s σ H _ us Q I r ⟨.ref C, .ref C, b, rfl, fun u hu => hu, ek, q⟩
theorem kit_of_exm {K : PySem.W.Frag} {t c : Value} {b : Bool} (h : PySem.W.exmOne K t c = some b) (hb : b = true) : PySem.W.kitOne K t c = some true := by
  unfold PySem.W.exmOne at h
  unfold PySem.W.kitOne
  split
  · rfl
  · split at h
    · rw [h, hb]
    · cases h
end G
namespace G
open PySem PySem.Spec PyProof.Rows L2
/-! ### a new tuple of flags, and the methods of such a one -/
section
variable {X : Cx}
def tTupB (t : TA) : TE := fun σ H Q => t σ H fun xs H1 => ∃ bs : List Bool, (xs = bs.map V.bl ∧ xs.length ≤ sizeLine) ∧
  ∀ p H2, H1 p = none → H2 p = some (.frz { cls := .type "tuple", data := .seq (bs.map Value.bool).toArray } (.tup xs)) → Ex [] H1 H2 → Q (.ref p) H2
theorem peTupB {es : List Expr} {t : TA} {pos : Pos} {x1} (h : PA X es t) : PE X (.Tuple es x1 pos) (tTupB t) := by
  constructor
  intro pins s σ H Q I hq
  apply wpAny_Tuple_spliced
  refine thn (h.run pos pins s σ H _ I hq) ?_
  rintro us s1 ⟨xs, H1, I1, r, bs, ⟨hb, z⟩, q⟩
  subst hb
  have hi := bools_of r
  subst hi
  have new := I1.hok.fresh (Nat.le_refl s1.heap.objs.size)
  refine ⟨r.length ▸ z, .ref s1.heap.objs.size, _, I1.laid (t' := s1.toks) (o := .frz { cls := .type "tuple", data := .seq (bs.map Value.bool).toArray } (.tup (bs.map V.bl))) (fun _ _ e => Heap.get?_push_of_some _ e) (Nat.le_refl _) ?_, rfl, q _ _ new upd_same (Ex.new new)⟩
  exact ⟨Heap.get?_push_size _ rfl, z, _, r, IsTup.new _ _⟩
def tTM (r : V → List V → Hp → VK → Prop) (to : TE) (t : TA) : TE := fun σ H Q => to σ H fun x H1 => ∃ a o ys, (x = .ref a ∧ H1 a = some (.frz o (.tup ys)) ∧ o.dict = none) ∧ t σ H1 fun xs H2 => r x xs H2 Q
variable {o e : Expr} {es : List Expr} {to : TE} {t : TA} {name : Str} {apos cpos : Pos} {id : String} {r : V → List V → Hp → VK → Prop}
theorem pe_tm (slot : Slot "tuple" name id) (hty : typeOf (.builtin id) = pure (.type "method_descriptor")) (hm : MtR X id r) (ho : PE X o to) (ha : PA X (e :: es) t)
    (hbase : attributeBase o name X.env (eval o X.env) = eval o X.env := by rfl)
    (hfew : ((backTo cpos (starEach (e :: es) X.env)).all (fun x => !x.1) && (backToKw cpos (keywordEach [] X.env)).all (fun x => x.1.isSome)
      && decide ((e :: es).length + ([] : List Keyword).length + (if ([] : List Keyword).isEmpty then 0 else 1) < 30)) = true := by rfl)
    (hline : (apos.endLine == cpos.line) = true := by rfl) (hs : starEach (e :: es) X.env = (false, eval e X.env) :: starEach es X.env := by rfl) (hplain : (backTo cpos (starEach es X.env)).any (·.1) = false := by rfl) :
    PE X (.Call (.Attribute o name apos) (e :: es) [] cpos) (tTM r to t) := by
  refine ⟨fun pins s σ H Q I h => ?_⟩
  refine wpAny_Call_method_late hbase hfew hline rfl (thn (ho.run pins s σ H _ I h) fun v s1 ⟨x, H1, I1, r1, a, ob, ys, ⟨ex, ea, ed⟩, q1⟩ => ?_)
  subst ex
  obtain rfl : v = .ref a := r1
  obtain ⟨e1, _, its, rv, o', e2, hc, n, hd⟩ := I1.hok a _ ea
  rw [e1] at e2
  cases e2
  refine ⟨"tuple", id, PySem.F.plainAttrs_tuple, slot, hty, ⟨_, e1, hc⟩, fun b eb => ?_, ?_⟩
  · cases eb
    exact ⟨_, e1, ed⟩
  have hA := ha.run cpos pins s1 σ H1 _ I1 q1
  rw [hs] at hA ⊢
  refine Calls.callWith_builtin (by show (false || (backTo cpos (starEach es X.env)).any (·.1)) = false; rw [hplain] <;> rfl) (Calls.evalArgs_plain ?_)
  exact thn hA fun us s2 ⟨vs, H2, I2, r2, q2⟩ => hm pins s2 σ H2 (.ref a) vs (.ref a) us Q I2 (show RelV (.ref a) (.ref a) from rfl) r2 q2
end
end G
namespace G
open PySem L2
def top (i : Nat) : Stmt := PySem.Challenge.pw_keptviews_k13_worths_in_order.main.body.getD i (.Pass ⟨0, 0, 0, 0⟩)
abbrev s_is_integer : Stmt := top 4
abbrev n_is_integer : List Str := ["thing"]
theorem sc_is_integer : FnScope n_is_integer ["thing"] (defScope s_is_integer) := ⟨rfl, rfl, rfl, by decide +kernel, rfl, by decide +kernel, by decide +kernel⟩
abbrev s_is_plain_worth : Stmt := top 11
abbrev n_is_plain_worth : List Str := ["thing", "sign"]
theorem sc_is_plain_worth : FnScope n_is_plain_worth ["thing"] (defScope s_is_plain_worth) := ⟨rfl, rfl, rfl, by decide +kernel, rfl, by decide +kernel, by decide +kernel⟩
abbrev s_is_worth : Stmt := top 12
abbrev n_is_worth : List Str := ["thing", "row", "many", "one", "deep", "item"]
theorem sc_is_worth : FnScope n_is_worth ["thing"] (defScope s_is_worth) := ⟨rfl, rfl, rfl, by decide +kernel, rfl, by decide +kernel, by decide +kernel⟩
abbrev s_kind_of : Stmt := top 13
abbrev n_kind_of : List Str := ["worth"]
theorem sc_kind_of : FnScope n_kind_of ["worth"] (defScope s_kind_of) := ⟨rfl, rfl, rfl, by decide +kernel, rfl, by decide +kernel, by decide +kernel⟩
abbrev s_order_key : Stmt := top 14
abbrev n_order_key : List Str := ["worth", "kind", "item"]
theorem sc_order_key : FnScope n_order_key ["worth"] (defScope s_order_key) := ⟨rfl, rfl, rfl, by decide +kernel, rfl, by decide +kernel, by decide +kernel⟩
abbrev s_check_worth : Stmt := top 15
abbrev n_check_worth : List Str := ["thing"]
theorem sc_check_worth : FnScope n_check_worth ["thing"] (defScope s_check_worth) := ⟨rfl, rfl, rfl, by decide +kernel, rfl, by decide +kernel, by decide +kernel⟩
abbrev s_before : Stmt := top 16
abbrev n_before : List Str := ["one", "other"]
theorem sc_before : FnScope n_before ["one", "other"] (defScope s_before) := ⟨rfl, rfl, rfl, by decide +kernel, rfl, by decide +kernel, by decide +kernel⟩
abbrev s_law_pot : Stmt := top 18
abbrev n_law_pot : List Str := ["script", "cells", "cell"]
theorem sc_law_pot : FnScope n_law_pot ["script"] (defScope s_law_pot) := ⟨rfl, rfl, rfl, by decide +kernel, rfl, by decide +kernel, by decide +kernel⟩
abbrev s_law_draw : Stmt := top 19
abbrev n_law_draw : List Str := ["pot", "many", "cell", "digit", "number"]
theorem sc_law_draw : FnScope n_law_draw ["pot", "many"] (defScope s_law_draw) := ⟨rfl, rfl, rfl, by decide +kernel, rfl, by decide +kernel, by decide +kernel⟩
abbrev s_law_any : Stmt := top 20
abbrev n_law_any : List Str := ["pot", "things"]
theorem sc_law_any : FnScope n_law_any ["pot", "things"] (defScope s_law_any) := ⟨rfl, rfl, rfl, by decide +kernel, rfl, by decide +kernel, by decide +kernel⟩
abbrev s_law_worth : Stmt := top 21
abbrev n_law_worth : List Str := ["pot", "some"]
theorem sc_law_worth : FnScope n_law_worth ["pot"] (defScope s_law_worth) := ⟨rfl, rfl, rfl, by decide +kernel, rfl, by decide +kernel, by decide +kernel⟩
abbrev s_law_deep_worth : Stmt := top 22
abbrev n_law_deep_worth : List Str := ["pot", "deep", "found", "turn", "more", "at", "anew"]
theorem sc_law_deep_worth : FnScope n_law_deep_worth ["pot", "deep"] (defScope s_law_deep_worth) := ⟨rfl, rfl, rfl, by decide +kernel, rfl, by decide +kernel, by decide +kernel⟩
abbrev s_law_is_int : Stmt := top 23
abbrev n_law_is_int : List Str := ["thing"]
theorem sc_law_is_int : FnScope n_law_is_int ["thing"] (defScope s_law_is_int) := ⟨rfl, rfl, rfl, by decide +kernel, rfl, by decide +kernel, by decide +kernel⟩
abbrev s_law_is_worth : Stmt := top 24
abbrev n_law_is_worth : List Str := ["thing", "waiting", "many", "one", "deep", "item", "sign"]
theorem sc_law_is_worth : FnScope n_law_is_worth ["thing"] (defScope s_law_is_worth) := ⟨rfl, rfl, rfl, by decide +kernel, rfl, by decide +kernel, by decide +kernel⟩
abbrev s_law_kind : Stmt := top 25
abbrev n_law_kind : List Str := ["worth"]
theorem sc_law_kind : FnScope n_law_kind ["worth"] (defScope s_law_kind) := ⟨rfl, rfl, rfl, by decide +kernel, rfl, by decide +kernel, by decide +kernel⟩
abbrev s_law_is_less : Stmt := top 26
abbrev n_law_is_less : List Str := ["one", "other", "kinds", "here", "there"]
theorem sc_law_is_less : FnScope n_law_is_less ["one", "other"] (defScope s_law_is_less) := ⟨rfl, rfl, rfl, by decide +kernel, rfl, by decide +kernel, by decide +kernel⟩
abbrev s_law_odd : Stmt := top 27
abbrev n_law_odd : List Str := ["pot", "deep", "turn", "odd", "wide", "key"]
theorem sc_law_odd : FnScope n_law_odd ["pot"] (defScope s_law_odd) := ⟨rfl, rfl, rfl, by decide +kernel, rfl, by decide +kernel, by decide +kernel⟩
abbrev s_law_near : Stmt := top 28
abbrev n_law_near : List Str := ["pot", "worth", "way", "at", "more"]
theorem sc_law_near : FnScope n_law_near ["pot", "worth"] (defScope s_law_near) := ⟨rfl, rfl, rfl, by decide +kernel, rfl, by decide +kernel, by decide +kernel⟩
abbrev s_law_is_refused : Stmt := top 29
abbrev n_law_is_refused : List Str := ["one", "other", "e"]
theorem sc_law_is_refused : FnScope n_law_is_refused ["one", "other"] (defScope s_law_is_refused) := ⟨rfl, rfl, rfl, by decide +kernel, rfl, by decide +kernel, by decide +kernel⟩
abbrev s_law_in_order : Stmt := top 30
abbrev n_law_in_order : List Str := ["worths", "found", "worth", "at", "one"]
theorem sc_law_in_order : FnScope n_law_in_order ["worths"] (defScope s_law_in_order) := ⟨rfl, rfl, rfl, by decide +kernel, rfl, by decide +kernel, by decide +kernel⟩
abbrev s_law : Stmt := top 31
abbrev n_law : List Str := ["script", "pot", "turn", "worths", "worth", "one", "other", "told", "row", "at", "odd", "later"]
theorem sc_law : FnScope n_law ["script"] (defScope s_law) := ⟨rfl, rfl, rfl, by decide +kernel, rfl, by decide +kernel, by decide +kernel⟩
/-- where the classes stand -/
structure Ad where
  NoWorth : Addr
  TraceError : Addr
/-- what the top has left -/
structure Txt (K : PySem.W.Frag) (mg : Str → Option Value) (A : Ad) : Prop where
  e_NoWorth : ExcF K mg "NoWorth" A.NoWorth
  e_TraceError : ExcF K mg "TraceError" A.TraceError
  q_NoWorth : ExcC K A.NoWorth
  x_NoWorth_NoWorth : PySem.W.exmOne K (.ref A.NoWorth) (.ref A.NoWorth) = some true
  x_NoWorth_TraceError : PySem.W.exmOne K (.ref A.NoWorth) (.ref A.TraceError) = some true
  x_TraceError_NoWorth : PySem.W.exmOne K (.ref A.TraceError) (.ref A.NoWorth) = some false
  x_TraceError_TraceError : PySem.W.exmOne K (.ref A.TraceError) (.ref A.TraceError) = some true
  b_abs : mg "abs" = none
  b_all : mg "all" = none
  b_any : mg "any" = none
  b_bool : mg "bool" = none
  b_dict : mg "dict" = none
  b_int : mg "int" = none
  b_isinstance : mg "isinstance" = none
  b_len : mg "len" = none
  b_range : mg "range" = none
  b_repr : mg "repr" = none
  b_str : mg "str" = none
  b_tuple : mg "tuple" = none
  b_zip : mg "zip" = none
  c_MOST : ∃ u, mg "MOST" = some u ∧ RelV (.int 1000000000000000000000000000000) u
  c_MOST_DEEP : ∃ u, mg "MOST_DEEP" = some u ∧ RelV (.int 8) u
  c_MOST_ITEMS : ∃ u, mg "MOST_ITEMS" = some u ∧ RelV (.int 50) u
  c_MOST_SIGNS : ∃ u, mg "MOST_SIGNS" = some u ∧ RelV (.int 40) u
  c_MOST_WORTHS : ∃ u, mg "MOST_WORTHS" = some u ∧ RelV (.int 200) u
theorem bt_isinstance : bootBuiltins "isinstance" = some (.builtin "isinstance") := by decide +kernel
theorem bt_int : bootBuiltins "int" = some (.type "int") := by decide +kernel
theorem bt_bool : bootBuiltins "bool" = some (.type "bool") := by decide +kernel
theorem bt_str : bootBuiltins "str" = some (.type "str") := by decide +kernel
theorem bt_tuple : bootBuiltins "tuple" = some (.type "tuple") := by decide +kernel
theorem bt_len : bootBuiltins "len" = some (.builtin "len") := by decide +kernel
theorem bt_all : bootBuiltins "all" = some (.builtin "all") := by decide +kernel
theorem bt_any : bootBuiltins "any" = some (.builtin "any") := by decide +kernel
theorem bt_abs : bootBuiltins "abs" = some (.builtin "abs") := by decide +kernel
theorem bt_repr : bootBuiltins "repr" = some (.builtin "repr") := by decide +kernel
/-! ### the order of worths -/
def knd : Dt → Nat
  | .non => 0
  | .int _ => 1
  | .bl _ => 1
  | .str _ => 2
  | _ => 3
mutual
def eqD : Dt → Dt → Bool
  | .non, .non => true
  | .int i, .int j => decide (i = j)
  | .str s, .str t => decide (s.cps.toList = t.cps.toList)
  | .tup l, .tup m => eqL l m
  | _, _ => false
def eqL : List Dt → List Dt → Bool
  | [], [] => true
  | x :: l, y :: m => eqD x y && eqL l m
  | _, _ => false
end
mutual
def ltD : Dt → Dt → Bool
  | .int i, .int j => decide (i < j)
  | .str s, .str t => decide (s.cps.toList < t.cps.toList)
  | .tup l, .tup m => ltL l m
  | d, e => decide (knd d < knd e)
def ltL : List Dt → List Dt → Bool
  | [], m => !m.isEmpty
  | _ :: _, [] => false
  | x :: l, y :: m => if eqD x y = true then ltL l m else ltD x y
end
mutual
/-- of integers, texts, None, tuples alone -/
def pur : Dt → Bool
  | .non => true
  | .int _ => true
  | .str _ => true
  | .tup l => purs l
  | _ => false
def purs : List Dt → Bool
  | [] => true
  | d :: l => pur d && purs l
end
mutual
theorem eqD_iff : ∀ (d e : Dt), pur d = true → pur e = true → (eqD d e = true ↔ d = e)
  | .non, e, _, h => by cases e <;> simp [eqD]
  | .int i, e, _, h => by cases e <;> simp [eqD]
  | .str s, e, _, h => by
    cases e <;> simp [eqD]
    rename_i t
    constructor
    · intro h; exact PySem.W.str_of_cps (by simpa using h)
    · rintro rfl; rfl
  | .tup l, e, hd, he => by
    cases e with
    | tup m =>
      rw [eqD]
      rw [pur] at hd he
      rw [eqL_iff l m hd he]
      simp
    | _ => simp [eqD]
  | .bl _, _, h, _ => by simp [pur] at h
  | .oth, _, h, _ => by simp [pur] at h
theorem eqL_iff : ∀ (l m : List Dt), purs l = true → purs m = true → (eqL l m = true ↔ l = m)
  | [], m, _, _ => by cases m <;> simp [eqL]
  | x :: l, [], _, _ => by simp [eqL]
  | x :: l, y :: m, h, h' => by
    rw [purs, Bool.and_eq_true] at h h'
    rw [eqL, Bool.and_eq_true, eqD_iff x y h.1 h'.1, eqL_iff l m h.2 h'.2]
    simp
end
theorem natl_irr (l : List Nat) : ¬ l < l := List.lt_irrefl l
theorem natl_tri (l m : List Nat) : l < m ∨ l = m ∨ m < l := by
  rcases Decidable.em (l < m) with h | h
  · exact .inl h
  · rcases Decidable.em (m < l) with h' | h'
    · exact .inr (.inr h')
    · exact .inr (.inl (List.le_antisymm (List.not_lt.mp h') (List.not_lt.mp h)))
mutual
/-- just one of the three -/
theorem tri : ∀ (d e : Dt), pur d = true → pur e = true → (if ltD d e = true then 1 else 0) + (if ltD e d = true then 1 else 0) + (if eqD d e = true then 1 else 0) = (1 : Nat)
  | .non, e, _, _ => by cases e <;> simp [ltD, eqD, knd]
  | .int i, e, _, h => by
    cases e with
    | int j =>
      simp only [ltD, eqD, decide_eq_true_eq]
      rcases Int.lt_trichotomy i j with q | q | q
      · simp [q, show ¬ j < i by omega, show ¬ i = j by omega]
      · subst q; simp
      · simp [q, show ¬ i < j by omega, show ¬ i = j by omega]
    | bl b => simp [pur] at h
    | oth => simp [pur] at h
    | _ => simp [ltD, eqD, knd]
  | .str s, e, _, h => by
    cases e with
    | str t =>
      simp only [ltD, eqD, decide_eq_true_eq]
      rcases natl_tri s.cps.toList t.cps.toList with q | q | q
      · have h1 : ¬ t.cps.toList < s.cps.toList := List.lt_asymm q
        have h2 : ¬ s.cps.toList = t.cps.toList := fun z => natl_irr _ (z ▸ q)
        rw [if_pos q, if_neg h1, if_neg h2]
      · rw [q]
        rw [if_neg (natl_irr _), if_pos rfl]
      · have h1 : ¬ s.cps.toList < t.cps.toList := List.lt_asymm q
        have h2 : ¬ s.cps.toList = t.cps.toList := fun z => natl_irr _ (z ▸ q)
        rw [if_neg h1, if_pos q, if_neg h2]
    | bl b => simp [pur] at h
    | oth => simp [pur] at h
    | _ => simp [ltD, eqD, knd]
  | .tup l, e, hd, he => by
    cases e with
    | tup m =>
      rw [pur] at hd he
      rw [ltD, ltD, eqD]
      exact triL l m hd he
    | bl b => simp [pur] at he
    | oth => simp [pur] at he
    | _ => simp [ltD, eqD, knd]
  | .bl _, _, h, _ => by simp [pur] at h
  | .oth, _, h, _ => by simp [pur] at h
theorem triL : ∀ (l m : List Dt), purs l = true → purs m = true → (if ltL l m = true then 1 else 0) + (if ltL m l = true then 1 else 0) + (if eqL l m = true then 1 else 0) = (1 : Nat)
  | [], m, _, _ => by cases m <;> simp [ltL, eqL]
  | x :: l, [], _, _ => by simp [ltL, eqL]
  | x :: l, y :: m, h, h' => by
    rw [purs, Bool.and_eq_true] at h h'
    have t1 := tri x y h.1 h'.1
    have t2 := triL l m h.2 h'.2
    have c : eqD y x = eqD x y := by
      rw [Bool.eq_iff_iff, eqD_iff x y h.1 h'.1, eqD_iff y x h'.1 h.1]
      exact eq_comm
    rw [ltL, ltL, eqL, c]
    cases e : eqD x y with
    | true => simpa using t2
    | false => rw [e] at t1; simpa using t1
end
mutual
theorem lt_trans' : ∀ (a b c : Dt), pur a = true → pur b = true → pur c = true → ltD a b = true → ltD b c = true → ltD a c = true
  | .tup l, .tup m, .tup n, ha, hb, hc, h1, h2 => by
    rw [pur] at ha hb hc
    rw [ltD] at h1 h2 ⊢
    exact ltL_trans l m n ha hb hc h1 h2
  | .non, b, c, _, hb, hc, h1, h2 => by cases b <;> cases c <;> simp_all [ltD, knd, pur]
  | .int i, b, c, _, hb, hc, h1, h2 => by cases b <;> cases c <;> simp_all [ltD, knd, pur]; omega
  | .str s, b, c, _, hb, hc, h1, h2 => by
    cases b with
    | str t =>
      cases c with
      | str u =>
        rw [ltD, decide_eq_true_eq] at h1 h2 ⊢
        exact List.lt_trans h1 h2
      | _ => simp_all [ltD, knd, pur]
    | _ => cases c <;> simp_all [ltD, knd, pur]
  | .tup l, b, c, _, hb, hc, h1, h2 => by
    cases b with
    | tup m =>
      cases c with
      | tup n => simp_all [ltD, knd, pur]; exact ltL_trans l m n (by assumption) hb hc h1 h2
      | _ => simp_all [ltD, knd, pur]
    | _ => cases c <;> simp_all [ltD, knd, pur]
  | .bl _, _, _, h, _, _, _, _ => by simp [pur] at h
  | .oth, _, _, h, _, _, _, _ => by simp [pur] at h
theorem ltL_trans : ∀ (a b c : List Dt), purs a = true → purs b = true → purs c = true → ltL a b = true → ltL b c = true → ltL a c = true
  | [], b, c, _, _, _, h1, h2 => by
    cases b with
    | nil => simp [ltL] at h1
    | cons y m =>
      cases c with
      | nil => simp [ltL] at h2
      | cons z n => simp [ltL]
  | x :: l, [], c, _, _, _, h1, _ => by simp [ltL] at h1
  | x :: l, y :: m, [], _, _, _, _, h2 => by simp [ltL] at h2
  | x :: l, y :: m, z :: n, ha, hb, hc, h1, h2 => by
    rw [purs, Bool.and_eq_true] at ha hb hc
    rw [ltL] at h1 h2 ⊢
    by_cases e1 : eqD x y = true
    · rw [if_pos e1] at h1
      have q1 := (eqD_iff x y ha.1 hb.1).mp e1
      subst q1
      by_cases e2 : eqD x z = true
      · rw [if_pos e2] at h2 ⊢
        exact ltL_trans l m n ha.2 hb.2 hc.2 h1 h2
      · rw [if_neg e2] at h2 ⊢
        exact h2
    · rw [if_neg e1] at h1
      by_cases e2 : eqD y z = true
      · have q2 := (eqD_iff y z hb.1 hc.1).mp e2
        subst q2
        rw [if_neg e1]
        exact h1
      · rw [if_neg e2] at h2
        have h3 := lt_trans' x y z ha.1 hb.1 hc.1 h1 h2
        have t := tri x z ha.1 hc.1
        rw [if_pos h3] at t
        have e3 : ¬ eqD x z = true := fun q => by rw [if_pos q] at t; omega
        rw [if_neg e3]
        exact h3
end
theorem lt_as {d e : Dt} (hd : pur d = true) (he : pur e = true) (h : ltD d e = true) : ltD e d = false := by
  have t := tri d e hd he
  rw [if_pos h] at t
  cases q : ltD e d with
  | false => rfl
  | true => rw [q] at t; simp at t; split at t <;> omega
/-- not behind one that is ahead: ahead too -/
theorem le_lt {a b c : Dt} (ha : pur a = true) (hb : pur b = true) (hc : pur c = true) (h : ltD b a = false) (h' : ltD b c = true) : ltD a c = true := by
  have t := tri a b ha hb
  rw [h] at t
  cases q : ltD a b with
  | true => exact lt_trans' a b c ha hb hc q h'
  | false =>
    rw [q] at t
    have e : eqD a b = true := by
      cases r : eqD a b with
      | true => rfl
      | false => rw [r] at t; simp at t
    rw [(eqD_iff a b ha hb).mp e]
    exact h'
theorem pur_mem {d : Dt} : ∀ {l : List Dt}, purs l = true → d ∈ l → pur d = true
  | x :: l, h, hd => by
    rw [purs, Bool.and_eq_true] at h
    rcases List.mem_cons.mp hd with e | e
    · rw [e]; exact h.1
    · exact pur_mem h.2 e
/-- in order -/
def Srt (l : List Dt) : Prop := l.Pairwise fun a b => ltD b a = false
/-- how many are ahead of e: just the first ones -/
theorem srt_put {e : Dt} (he : pur e = true) : ∀ {l : List Dt}, (∀ d ∈ l, pur d = true) → Srt l → (∀ d ∈ l.take (l.countP fun d => ltD d e), ltD d e = true) ∧ (∀ d ∈ l.drop (l.countP fun d => ltD d e), ltD d e = false)
  | [], _, _ => ⟨(fun _ h => nomatch h), fun _ h => nomatch h⟩
  | x :: l, hp, hs => by
    obtain ⟨h1, h2⟩ := List.pairwise_cons.mp hs
    obtain ⟨i1, i2⟩ := srt_put he (fun d hd => hp d (List.mem_cons_of_mem _ hd)) h2
    rw [List.countP_cons]
    cases c : ltD x e with
    | true =>
      rw [if_pos rfl, List.take_succ_cons, List.drop_succ_cons]
      refine ⟨fun d hd => ?_, i2⟩
      rcases List.mem_cons.mp hd with q | q
      · rw [q]; exact c
      · exact i1 d q
    | false =>
      have no : ∀ d ∈ l, ltD d e = false := fun d hd => by
        cases q : ltD d e with
        | false => rfl
        | true => rw [← c]; exact (le_lt (hp x List.mem_cons_self) (hp d (List.mem_cons_of_mem _ hd)) he (h1 d hd) q).symm
      have z : l.countP (fun d => ltD d e) = 0 := List.countP_eq_zero.mpr fun d hd => by rw [no d hd]; exact Bool.false_ne_true
      rw [z]
      refine ⟨(fun d hd => nomatch hd), fun d hd => ?_⟩
      rcases List.mem_cons.mp hd with q | q
      · rw [q]; exact c
      · exact no d q
theorem srt_ins {e : Dt} {l : List Dt} (he : pur e = true) (hp : ∀ d ∈ l, pur d = true) (hs : Srt l) : Srt (l.take (l.countP fun d => ltD d e) ++ [e] ++ l.drop (l.countP fun d => ltD d e)) := by
  obtain ⟨h1, h2⟩ := srt_put he hp hs
  generalize l.countP (fun d => ltD d e) = n at *
  have hs' : Srt (l.take n ++ l.drop n) := by rw [List.take_append_drop]; exact hs
  obtain ⟨a1, a2, a3⟩ := List.pairwise_append.mp hs'
  refine List.pairwise_append.mpr ⟨List.pairwise_append.mpr ⟨a1, List.pairwise_singleton _ _, fun x hx y hy => ?_⟩, a2, fun x hx y hy => ?_⟩
  · rw [List.mem_singleton.mp hy]
    exact lt_as (hp x (List.mem_of_mem_take hx)) he (h1 x hx)
  · rcases List.mem_append.mp hx with q | q
    · exact a3 x q y hy
    · rw [List.mem_singleton.mp q]
      exact h2 y hy
local macro_rules | `(tactic| walk_at "ne") => `(tactic| first
  | assumption
  | (apply Ne.symm; assumption)
  | (with_reducible apply ne_new; (focus with_reducible assumption); walk_at "hp")
  | (apply Ne.symm; with_reducible apply ne_new; (focus with_reducible assumption); walk_at "hp")
  | walk_at "ne2")
local macro_rules | `(tactic| walk_at "nin") => `(tactic| with_unfolding_all first | exact True.intro | (apply And.intro; (focus walk_at "ne"); walk_at "nin"))
local macro_rules | `(tactic| walk_at "hp") => `(tactic| with_reducible first
  | assumption
  | exact upd_same
  | (apply Ex.get; (focus with_reducible assumption); (focus walk_at "hp"); walk_at "nin")
  | (apply upd_oth2; (focus walk_at "hp"); walk_at "ne"))
local macro_rules | `(tactic| walk_at "sqt") => `(tactic| with_reducible first
  | assumption
  | (apply SqT.of; assumption)
  | (apply Ex.sqT; (focus with_reducible assumption); walk_at "sqt")
  | exact SqT.of_new
  | (apply sqt_new; (focus with_reducible assumption); walk_at "sqt")
  | (apply sqt_put; (focus walk_at "hp"); (focus with_unfolding_all exact rfl); walk_at "sqt"))
local macro_rules | `(tactic| walk_at "sql") => `(tactic| with_reducible first
  | assumption
  | (apply SqL.of; walk_at "hp"))
local macro_rules | `(tactic| walk_at "rep") => `(tactic| with_reducible first
  | assumption
  | exact Rep.non
  | exact Rep.bl _
  | exact Rep.int _
  | (apply Rep.str; walk_at "sz")
  | (apply Rep.tup; (focus walk_at "sqt"); walk_at "repl")
  | (apply Ex.rep; (focus with_reducible assumption); walk_at "rep")
  | (apply rep_new; (focus with_reducible assumption); walk_at "rep")
  | (apply rep_put; (focus walk_at "hp"); (focus with_unfolding_all exact rfl); walk_at "rep")
  | (apply Rep.oth_l; walk_at "hp")
  | (apply Rep.oth_d; walk_at "hp"))
local macro_rules | `(tactic| walk_at "repl") => `(tactic| with_reducible first
  | assumption
  | exact RepL.nil
  | (apply RepL.cons; (focus walk_at "rep"); walk_at "repl")
  | (apply RepL.rep; walk_at "repl")
  | (apply RepL.append; (focus walk_at "repl"); walk_at "repl")
  | (apply Ex.repL; (focus with_reducible assumption); walk_at "repl")
  | (apply repl_new; (focus with_reducible assumption); walk_at "repl")
  | (apply repl_put; (focus walk_at "hp"); (focus with_unfolding_all exact rfl); walk_at "repl"))
/-- what is new is new ahead -/
local macro_rules | `(tactic| walk_at "dom") => `(tactic| with_reducible first
  | exact Dom.refl _
  | (apply Dom.step; (focus with_reducible assumption); walk_at "dom")
  | (apply Dom.upd; walk_at "dom"))
local macro_rules | `(tactic| walk_at "nn") => `(tactic| with_reducible first
  | assumption
  | (apply Dom.none; (focus with_reducible assumption); walk_at "dom"))
local macro_rules | `(tactic| walk_at "side") => `(tactic| first
  | exact side0
  | (apply side1; first | (apply Or.inl; simp; done) | (apply Or.inr; walk_at "nn")))
/-- one heap behind another -/
local macro_rules | `(tactic| walk_at "ex") => `(tactic| first
  | (with_reducible exact Ex.refl _ _)
  | assumption
  | (with_reducible apply Ex.step; (focus with_reducible assumption); (focus walk_at "side"); walk_at "ex")
  | (with_reducible apply Ex.stepNew; (focus with_reducible assumption); walk_at "ex")
  | (with_reducible apply Ex.stepPut; (focus walk_at "hp"); (focus with_unfolding_all exact rfl); (focus first | (apply Or.inl; simp; done) | (apply Or.inr; walk_at "nn")); walk_at "ex"))
local macro_rules | `(tactic| walk_at "lenx") => `(tactic| first
  | (apply LenX.lst; walk_at "sql")
  | (apply LenX.tup; walk_at "sqt")
  | (apply LenX.str; walk_at "sz"))
local macro_rules | `(tactic| walk_at "sz") => `(tactic| first
  | exact Nat.le_of_ble_eq_true rfl
  | assumption
  | omega
  | (show _ ≤ 16777216; omega)
  | (show _ < 16777216; omega)
  | (show _ ≤ 16777216; simp only [List.length_append, List.length_cons, List.length_nil, List.length_map, flat_len, repS_len, strapp_len]; omega)
  | (show _ ≤ 16777216; decide)
  | (simp only [repS_len, strapp_len]; first | exact Nat.le_of_ble_eq_true rfl | omega | (simp (config := { decide := true }) only []; omega)))
local macro_rules | `(tactic| walk_at "kvs") => `(tactic| with_reducible first
  | exact kvs_nil
  | (apply kvs_ci; walk_at "kvs")
  | (apply kvs_cs; walk_at "kvs"))
/-- one of the facts that a reading asks -/
local macro_rules | `(tactic| walk_at "fact") => `(tactic| first
  | rfl
  | with_reducible assumption
  | walk_at "hp"
  | walk_at "sqt"
  | walk_at "sql"
  | walk_at "rep"
  | walk_at "repl"
  | walk_at "lenx"
  | walk_at "kvs"
  | (apply tyL; walk_at "sql")
  | (apply Exists.intro; walk_at "sqt")
  | (apply Exists.intro; walk_at "sql")
  | (apply cmul_r; (focus decide); decide)
  | (apply cmul_l; (focus omega); omega)
  | (apply cdivw; (focus first | decide | omega); first | decide | omega)
  | decide
  | omega
  | (show (0 : Int) < _; omega)
  | walk_at "sz"
  | walk_at "fact2")
local macro_rules | `(tactic| walk_at "facts") => `(tactic| first
  | (apply And.intro; (focus walk_at "fact"); walk_at "facts")
  | walk_at "fact")
local macro_rules | `(tactic| walk_at "exs") => `(tactic| repeat (apply Exists.intro))
/-- one part of a reading -/
local macro_rules | `(tactic| walk_at "rd1") => `(tactic| first
  | (apply Exists.intro; walk_at "exs"; (apply And.intro; focus walk_at "facts"))
  | (apply And.intro; focus walk_at "facts")
  | (apply Or.inl; walk_at "exs"; (apply And.intro; focus walk_at "facts"))
  | (apply Or.inr; walk_at "rd1"))
local macro_rules | `(tactic| walk_at "rd") => `(tactic| repeat (walk_at "rd1"))
local macro_rules | `(tactic| walk_at "rdi") => `(tactic| repeat (first | walk_at "rd1" | intro _))
/-- the written part by its name -/
local macro_rules | `(tactic| walk_at "nm") => `(tactic| try dsimp only [cx_nK, cx_K, List.map_cons, List.map_nil])
/-! ### what the worths' judges say -/
def isInt : Dt → Bool
  | .int _ => true
  | _ => false
def spIsInt (K : PySem.W.Frag) : Sp := fun vs H Q _ => ∃ v d, (vs = [v] ∧ Rep K H v d) ∧ Q (.bl (isInt d)) H
-- @SP is_integer (spIsInt K)
-- @SP is_plain_worth (spPlain K)
def plainW : Dt → Bool
  | .non => true
  | .int i => decide (-(10 ^ 30) ≤ i) && decide (i ≤ 10 ^ 30)
  | .str s => decide (s.length ≤ 40) && s.cps.toList.all signOk
  | _ => false
def spPlain (K : PySem.W.Frag) : Sp := fun vs H Q _ => ∃ v d, (vs = [v] ∧ Rep K H v d) ∧ ∀ H', Ex [] H H' → Q (.bl (plainW d)) H'
section
variable {P : Program} {w : World} {K : PySem.W.Frag} {mg : Str → Option Value} {base : Heap}
theorem ok_is_integer {f : Addr} {fd : FuncData} (F : Fun K "is_integer" "is_integer" s_is_integer f fd) (T : Txt K mg A)  : FnOk P w K mg base CX0 1 f fd ["thing"] (spIsInt K) := by
  refine F.ok sc_is_integer (fun vs H Q E h => ?_) (fun cdv A outer s H vs Q E hr h => ?_)
  · obtain ⟨v, d, ⟨rfl, _⟩, _⟩ := h
    rfl
  · obtain ⟨v, d, ⟨rfl, r⟩, k⟩ := h
    refine ⟨_, (pss_one (ps_ret (pe_and (pe_callB (cIs (K := K) rfl) (by rfl) T.b_isinstance bt_isinstance (pa_cons (pv 0) (pa_cons (pe_bltn (v := .ty "int") (by rfl) T.b_int bt_int rfl) pa_nil))) (pe_one (pe_not (pe_callB (cIs (K := K) rfl) (by rfl) T.b_isinstance bt_isinstance (pa_cons (pv 0) (pa_cons (pe_bltn (v := .ty "bool") (by rfl) T.b_bool bt_bool rfl) pa_nil)))))))), ?_⟩
    walk_at "nm"
    have r0 := r
    cases r <;> walk_at "rd"
    all_goals exact k
theorem ok_is_plain_worth {f : Addr} {fd : FuncData} (F : Fun K "is_plain_worth" "is_plain_worth" s_is_plain_worth f fd) (T : Txt K mg A) (C_is_integer : Cl P w K mg base 1 "is_integer" (spIsInt K)) : FnOk P w K mg base CX0 2 f fd ["thing"] (spPlain K) := by
  refine F.ok sc_is_plain_worth (fun vs H Q E h => ?_) (fun cdv A outer s H vs Q E hr h => ?_)
  · obtain ⟨v, d, ⟨rfl, _⟩, _⟩ := h
    rfl
  · obtain ⟨v, d, ⟨rfl, r⟩, k⟩ := h
    refine ⟨_, (pss_cons (ps_if (pt_cmpR op_isN (pv 0) pe_non (nomark _)) (pss_one (ps_ret pe_bl)) pss_nil) (pss_cons (ps_if (pt_val (pe_cl C_is_integer hr (by decide) (by rfl) (pa_cons (pv 0) pa_nil))) (pss_one (ps_ret (pe_chain oLe oLe (pe_un oNeg (C8.pe_gc (by rfl) T.c_MOST)) (pv 0) (C8.pe_gc (by rfl) T.c_MOST)))) pss_nil) (pss_one (ps_ret (pe_and (pe_callB (cIs (K := K) rfl) (by rfl) T.b_isinstance bt_isinstance (pa_cons (pv 0) (pa_cons (pe_bltn (v := .ty "str") (by rfl) T.b_str bt_str rfl) pa_nil))) (pe_and (pe_cmpR oLe (pe_callB (cLen (K := K) rfl) (by rfl) T.b_len bt_len (pa_cons (pv 0) pa_nil)) (C8.pe_gc (by rfl) T.c_MOST_SIGNS) (nomark _)) (pe_one (pe_callB (cAll (K := K) rfl rfl) (by rfl) T.b_all bt_all (pa_cons (pe_lc (own := [("sign", 1)]) (g := gName 1) (tt := tYes) rfl sc_is_plain_worth.nd (pi_str (pv 0)) (blkOk_by (N := n_is_plain_worth) (sc := defScope s_is_plain_worth) (by decide +kernel)) (fun _ _ _ _ _ => (pg_name (i := 1) sc_is_plain_worth.nd rfl (Or.inl rfl))) (fun _ _ _ _ _ => pts_nil) (fun _ _ _ _ _ => (pe_chain oLe oLe pe_str (pv 1) pe_str))) pa_nil))))))))), ?_⟩
    walk_at "nm"
    have r0 := r
    cases r with
    | non => walk_at "rd"; exact k _ (Ex.refl _ _)
    | bl b => walk_at "rd"; exact k _ (Ex.refl _ _)
    | tup h1 h2 => walk_at "rd"; exact k _ (Ex.refl _ _)
    | oth h1 => walk_at "rd"; exact k _ (Ex.refl _ _)
    | int i =>
      walk_at "rd"
      refine ite2 (fun h1 => ?_) (fun h1 => ?_)
      · walk_at "rd"
        have e : plainW (.int i) = decide (i ≤ 10 ^ 30) := by
          simp only [plainW]
          rw [show decide (-(10 ^ 30 : Int) ≤ i) = true from h1, Bool.true_and]
        rw [e] at k
        exact k _ (Ex.refl _ _)
      · have e : plainW (.int i) = false := by
          simp only [plainW]
          rw [show decide (-(10 ^ 30 : Int) ≤ i) = false from Bool.eq_false_iff.mpr h1, Bool.false_and]
        rw [e] at k
        exact k _ (Ex.refl _ _)
    | str z hz =>
      walk_at "rd"
      refine ite2 (fun h1 => ?_) (fun h1 => ?_)
      · have h2 : z.length ≤ 40 := by
          have := of_decide_eq_true h1
          omega
        refine all_signs (z := z) (a := 32) (b := 126) rfl (by show 1 < 2; decide) (by decide +kernel) (by decide +kernel) (by omega) fun H' e => ?_
        have e2 : plainW (.str z) = z.cps.toList.all fun c => decide (32 ≤ c) && decide (c ≤ 126) := by
          show (decide (z.length ≤ 40) && _) = _
          rw [decide_eq_true h2, Bool.true_and]
          rfl
        rw [e2] at k
        exact k _ e
      · have e2 : plainW (.str z) = false := by
          have h2 : ¬ z.length ≤ 40 := fun q => h1 (decide_eq_true (by omega))
          show (decide (z.length ≤ 40) && _) = _
          rw [decide_eq_false h2, Bool.false_and]
        rw [e2] at k
        exact k _ (Ex.refl _ _)
end

-- @SP is_integer (spIsInt K)
-- @SP is_plain_worth (spPlain K)
-- @SP is_worth (spWorth K)
def wl : Nat → List (Dt × Int) → Bool
  | _, [] => true
  | 0, _ :: _ => false
  | f + 1, (d, k) :: s => if 8 < k then false else match d with
    | .tup l => if 50 < l.length then false else wl f ((l.map fun x => (x, k + 1)).reverse ++ s)
    | d => if plainW d then wl f s else false
def isWorth (d : Dt) : Bool := wl 200 [(d, 1)]
def enc (p : Dt × Int) : Dt := .tup [p.1, .int p.2]
def spWorth (K : PySem.W.Frag) : Sp := fun vs H Q _ => ∃ v d, (vs = [v] ∧ Rep K H v d) ∧ ∀ H', Ex [] H H' → Q (.bl (isWorth d)) H'
theorem rep_tup2 {K : PySem.W.Frag} {H : Hp} {y : V} {d : Dt} {k : Int} (r : Rep K H y (enc (d, k))) : ∃ a x, y = .ref a ∧ SqT K H a [x, .int k] ∧ Rep K H x d := by
  cases r with
  | tup h hl =>
    cases hl with
    | cons h1 t =>
      cases t with
      | cons h2 t =>
        cases t
        cases h2
        exact ⟨_, _, rfl, h, h1⟩
theorem wl_tup {m : Nat} {l : List Dt} {k : Int} {s : List (Dt × Int)} (h : ¬ 8 < k) : wl (m + 1) ((.tup l, k) :: s) = if 50 < l.length then false else wl m ((l.map fun x => (x, k + 1)).reverse ++ s) := by
  rw [wl, if_neg h]
theorem wl_flat {m : Nat} {d : Dt} {k : Int} {s : List (Dt × Int)} (h : ¬ 8 < k) (hd : ∀ l, d ≠ .tup l) : wl (m + 1) ((d, k) :: s) = if plainW d then wl m s else false := by
  cases d with
  | tup l => exact absurd rfl (hd l)
  | _ =>
    rw [wl, if_neg h]
    exact fun l q => hd l q
/-- what holds at the loop of a judge: v is asked, it is d; the stack lies at ro -/
def wInv (K : PySem.W.Frag) (v : V) (d : Dt) (ro : Addr) (H0 : Hp) (n : Nat) (m : Nat) (σ : L2.St) (H' : Hp) : Prop :=
  ∃ (st : List (Dt × Int)) (many : Int) (vs : List V) (tl : List (Option V)), σ = some v :: some (.ref ro) :: some (.int many) :: tl ∧ tl.length = n ∧ Ex [] H0 H' ∧ H' ro = some (.lst vs) ∧
    RepL K H' vs (st.map enc).reverse ∧ 0 ≤ many ∧ many ≤ 200 ∧ m = (200 - many).toNat ∧ wl m st = isWorth d ∧ (st.length : Int) ≤ 1 + 50 * many
theorem wInv.start {K : PySem.W.Frag} {v : V} {d : Dt} {q ro : Addr} {H Ha Hb : Hp} (r : Rep K H v d) (h1 : Ha q = some (.tup [v, .int 1])) (e1 : Ex [] H Ha) (h2 : Hb ro = some (.lst [.ref q])) (e2 : Ex [] Ha Hb) {tl : List (Option V)} :
    wInv K v d ro H tl.length 200 (some v :: some (.ref ro) :: some (.int 0) :: tl) Hb := by
  refine ⟨[(d, 1)], 0, [.ref q], tl, rfl, rfl, by walk_at "ex", h2, ?_, by decide, by decide, rfl, rfl, by simp⟩
  have rp : Rep K Ha (.ref q) (enc (d, 1)) := by
    unfold enc
    walk_at "rep"
  exact .cons (e2.rep rp) .nil
theorem wInv.step {K : PySem.W.Frag} {v : V} {d : Dt} {ro : Addr} {H H3 : Hp} {m1 : Nat} {many : Int} {tl : List (Option V)} {ds : List V} {st : List (Dt × Int)} (e : Ex [] H H3) (hl : H3 ro = some (.lst ds)) (hr : RepL K H3 ds (st.map enc).reverse)
    (h0 : 0 ≤ many) (h1 : ¬ 200 < many + 1) (hm : m1 + 1 = (200 - many).toNat) (hw : wl m1 st = isWorth d) (hz : (st.length : Int) ≤ 50 * many + 50) :
    ∃ m', m' < m1 + 1 ∧ wInv K v d ro H tl.length m' (some v :: some (.ref ro) :: some (.int (many + 1)) :: tl) H3 :=
  ⟨m1, by omega, st, many + 1, ds, tl, rfl, rfl, e, hl, hr, by omega, by omega, by omega, hw, by omega⟩
section
variable {P : Program} {w : World} {K : PySem.W.Frag} {mg : Str → Option Value} {base : Heap}
theorem ok_is_worth {f : Addr} {fd : FuncData} (F : Fun K "is_worth" "is_worth" s_is_worth f fd) (T : Txt K mg A) (C_is_plain_worth : Cl P w K mg base 2 "is_plain_worth" (spPlain K)) : FnOk P w K mg base CX0 3 f fd ["thing"] (spWorth K) := by
  refine F.ok sc_is_worth (fun vs H Q E h => ?_) (fun cdv A outer s H vs Q E hr h => ?_)
  · obtain ⟨v, d, ⟨rfl, _⟩, _⟩ := h
    rfl
  · obtain ⟨v, d, ⟨rfl, r⟩, k⟩ := h
    refine ⟨_, (pss_cons (ps_par (i := 1) (j := 2) rfl sc_is_worth.nd rfl rfl (by decide) rfl rfl (pa_cons (peLst (pa_cons (peTup (pa_cons (pv 0) (pa_cons pe_int pa_nil))) pa_nil)) (pa_cons pe_int pa_nil)) (by rfl)) (pss_cons (ps_while PassesOwn.never (pt_cmpR oGt (pe_callB (cLen (K := K) rfl) (by rfl) T.b_len bt_len (pa_cons (pv 1) pa_nil)) pe_int (nomark _)) (pss_cons (ps_asg (pe_bm0 PySem.F.plainAttrs_list PySem.F.slot_list_pop PySem.F.type_list_pop mPop (pv 1)) (pg_tup (by rfl) (pgs_cons (pg_name (i := 3) sc_is_worth.nd rfl (Or.inl rfl)) (pgs_cons (pg_name (i := 4) sc_is_worth.nd rfl (Or.inr rfl)) pgs_nil)))) (pss_cons (ps_aug (i := 2) sc_is_worth.nd rfl (Or.inl rfl) pe_int pAdd) (pss_cons (ps_if (PW.pt (pw_or (pt_cmpR oGt (pv 2) (C8.pe_gc (by rfl) T.c_MOST_WORTHS) (nomark _)) (pw_or1 (pt_cmpR oGt (pv 4) (C8.pe_gc (by rfl) T.c_MOST_DEEP) (nomark _))))) (pss_one (ps_ret pe_bl)) pss_nil) (pss_one (ps_if (pt_val (pe_callB (cIs (K := K) rfl) (by rfl) T.b_isinstance bt_isinstance (pa_cons (pv 3) (pa_cons (pe_bltn (v := .ty "tuple") (by rfl) T.b_tuple bt_tuple rfl) pa_nil)))) (pss_cons (ps_if (pt_cmpR oGt (pe_callB (cLen (K := K) rfl) (by rfl) T.b_len bt_len (pa_cons (pv 3) pa_nil)) (C8.pe_gc (by rfl) T.c_MOST_ITEMS) (nomark _)) (pss_one (ps_ret pe_bl)) pss_nil) (pss_one (ps_expr (pe_bm PySem.F.plainAttrs_list PySem.F.slot_list_extend PySem.F.type_list_extend mExtend (pv 1) (pa_cons (pe_lc (own := [("item", 5)]) (g := gName 5) (tt := tYes) rfl sc_is_worth.nd (pi_tup (pv 3)) (blkOk_by (N := n_is_worth) (sc := defScope s_is_worth) (by decide +kernel)) (fun _ _ _ _ _ => (pg_name (i := 5) sc_is_worth.nd rfl (Or.inl rfl))) (fun _ _ _ _ _ => pts_nil) (fun _ _ _ _ _ => (peTup (pa_cons (pv 5) (pa_cons (pe_op (oAdd (K := K) rfl) (pv 4) pe_int) pa_nil))))) pa_nil))))) (pss_one (ps_if (pt_not (pt_val (pe_cl C_is_plain_worth hr (by decide) (by rfl) (pa_cons (pv 3) pa_nil)))) (pss_one (ps_ret pe_bl)) pss_nil)))))))) (pss_one (ps_ret pe_bl)))), ?_⟩
    walk_at "nm"
    walk_at "rd"
    intro q Ha hq hqa ea
    walk_at "rd"
    intro ro Hb hro hrob eb
    walk_at "rd"
    have hroH : H ro = none := by walk_at "nn"
    have kf : isWorth d = false → ∀ H', Ex [] H H' → Q (.bl false) H' := fun z H' e => by rw [← z]; exact k H' e
    refine while_w (wInv K v d ro H 3) 200 (wInv.start r hqa ea hrob eb (tl := [none, none, none])) ?_
    rintro m σ H1 ⟨st, many, vs, tl, rfl, htl, e1, hl, hs, hm0, hm2, hm, hw, hz⟩
    match tl, htl with
    | [o1, o2, o3], _ =>
    have hlen : vs.length = st.length := by rw [hs.length, List.length_reverse, List.length_map]
    walk_at "rd"
    refine @ite2 _ _ _ _ (fun h1 => ?_) (fun h1 => ?_)
    · refine ⟨_, fun _ _ z => z, ?_⟩
      cases st with
      | nil =>
        rw [hlen] at h1
        simp at h1
      | cons p st =>
        obtain ⟨d1, k1⟩ := p
        rw [List.map_cons, List.reverse_cons] at hs
        obtain ⟨ws, y, rfl, hs1, hy⟩ := hs.snoc
        obtain ⟨a, x, rfl, ha, hx⟩ := rep_tup2 hy
        walk_at "rd"
        intro H2 hl2 e12
        walk_at "rd"
        refine @ite2 _ _ _ _ (fun c1 => ?_) (fun c1 => ?_)
        · refine kf ?_ _ (by walk_at "ex")
          replace c1 : 200 < many + 1 := of_decide_eq_true c1
          have m0 : m = 0 := by omega
          rw [← hw, m0]
          rfl
        · replace c1 : ¬ 200 < many + 1 := fun z => c1 (decide_eq_true z)
          obtain ⟨m1, rfl⟩ : ∃ m1, m = m1 + 1 := ⟨m - 1, by omega⟩
          walk_at "rd"
          refine @ite2 _ _ _ _ (fun c2 => ?_) (fun c2 => ?_)
          · refine kf ?_ _ (by walk_at "ex")
            rw [← hw]
            replace c2 : 8 < k1 := of_decide_eq_true c2
            simp [wl, c2]
          · replace c2 : ¬ 8 < k1 := fun z => c2 (decide_eq_true z)
            have hz' : (st.length : Int) ≤ 50 * many := by
              rw [List.length_cons] at hz
              omega
            have hs2 : RepL K H2 ws (st.map enc).reverse := e12.repL hs1
            have hx2 : Rep K H2 x d1 := e12.rep hx
            have flat : (∀ l, d1 ≠ .tup l) → plainW d1 = true → ∀ H3, Ex [] H2 H3 → ∀ o1 o2 o3, ∃ m', m' < m1 + 1 ∧ wInv K v d ro H 3 m' [some v, some (.ref ro), some (.int (many + 1)), o1, o2, o3] H3 := fun h1 h2 H3 e3 o1 o2 o3 =>
              wInv.step (tl := [o1, o2, o3]) (by walk_at "ex") (e3.get0 hl2) (e3.repL hs2) hm0 c1 hm (by rw [← hw, wl_flat c2 h1, h2]; rfl) (by omega)
            have bad : (∀ l, d1 ≠ .tup l) → ¬ plainW d1 = true → isWorth d = false := fun h1 h2 => by rw [← hw, wl_flat c2 h1, if_neg h2]
            have hx3 := hx2
            cases hx2 with
            | tup h3 h4 =>
              walk_at "rd"
              refine @ite2 _ _ _ _ (fun c3 => ?_) (fun c3 => ?_)
              · refine kf ?_ _ (by walk_at "ex")
                have c4 := h4.length
                replace c3 : 50 < ((_ : Nat) : Int) := of_decide_eq_true c3
                rw [← hw, wl_tup c2, if_pos (by omega)]
              · rename_i a2 xs2 l2
                have c4 := h4.length
                replace c3 : ¬ 50 < ((xs2.length : Nat) : Int) := fun z => c3 (decide_eq_true z)
                walk_at "rd"
                intro D hD
                refine lc_it (walk_tup (xs := xs2)) (LcP D [] (fun _ => True) (RepAt K (l2.map fun x => enc (x, k1 + 1))) H2) (LcP.start hD trivial (true_loc D)) (fun i H h p => p.ex.sqT h3) ?_ ?_
                · rintro i x H3 H4 hi p ⟨rfl, hx4⟩
                  obtain ⟨dx, hdx, rx⟩ := h4.get hx4
                  have rx' := p.ex.rep rx
                  walk_at "rd"
                  intro t H5 ht ht5 e5
                  have rt : Rep K H5 (.ref t) (enc (dx, k1 + 1)) := by
                    unfold enc
                    walk_at "rep"
                  exact p.step hD RepAt.stab (true_loc D) e5 trivial trivial ⟨_, by rw [List.getElem?_map, hdx]; rfl, rt⟩ hi (by omega)
                · intro H3 p
                  obtain ⟨ys, h5, h6⟩ := p.done (by rw [List.length_map, c4])
                  have e3 : Ex [] H2 H3 := p.ex
                  have h7 := h6.length
                  rw [List.length_map] at h7
                  have h8 := hs2.length
                  rw [List.length_reverse, List.length_map] at h8
                  skip
                  walk_at "rd"
                  intro H4 h9 e4
                  refine wInv.step (tl := [some (.ref a2), some (.int k1), o3]) (st := (l2.map fun x => (x, k1 + 1)).reverse ++ st) (by walk_at "ex") h9 ?_ hm0 c1 hm ?_ ?_
                  · rw [List.map_append, List.reverse_append, List.map_reverse, List.reverse_reverse, List.map_map]
                    exact e4.repL ((e3.repL hs2).append h6)
                  · rw [← hw, wl_tup c2, if_neg (by omega)]
                  · rw [List.length_append, List.length_reverse, List.length_map]
                    omega
            | non =>
              walk_at "rd"
              intro H3 e3
              walk_at "rd"
              refine @ite2 _ _ _ _ (fun c3 => ?_) (fun c3 => ?_)
              · exact kf (bad (fun _ z => nomatch z) (by simpa using c3)) _ (by walk_at "ex")
              · exact flat (fun _ z => nomatch z) (by simpa using c3) _ e3 _ _ _
            | bl b =>
              walk_at "rd"
              intro H3 e3
              walk_at "rd"
              refine @ite2 _ _ _ _ (fun c3 => ?_) (fun c3 => ?_)
              · exact kf (bad (fun _ z => nomatch z) (by simpa using c3)) _ (by walk_at "ex")
              · exact flat (fun _ z => nomatch z) (by simpa using c3) _ e3 _ _ _
            | int i =>
              walk_at "rd"
              intro H3 e3
              walk_at "rd"
              refine @ite2 _ _ _ _ (fun c3 => ?_) (fun c3 => ?_)
              · exact kf (bad (fun _ z => nomatch z) (by simpa using c3)) _ (by walk_at "ex")
              · exact flat (fun _ z => nomatch z) (by simpa using c3) _ e3 _ _ _
            | str z hz =>
              walk_at "rd"
              intro H3 e3
              walk_at "rd"
              refine @ite2 _ _ _ _ (fun c3 => ?_) (fun c3 => ?_)
              · exact kf (bad (fun _ z => nomatch z) (by simpa using c3)) _ (by walk_at "ex")
              · exact flat (fun _ z => nomatch z) (by simpa using c3) _ e3 _ _ _
            | oth h =>
              walk_at "rd"
              intro H3 e3
              walk_at "rd"
              refine @ite2 _ _ _ _ (fun c3 => ?_) (fun c3 => ?_)
              · exact kf (bad (fun _ z => nomatch z) (by simpa using c3)) _ (by walk_at "ex")
              · exact flat (fun _ z => nomatch z) (by simpa using c3) _ e3 _ _ _
    · cases st with
      | nil =>
        have hv : isWorth d = true := by
          rw [← hw]
          cases m <;> rfl
        rw [hv] at k
        exact k _ e1
      | cons p st =>
        exact absurd (decide_eq_true (by rw [hlen, List.length_cons]; omega)) h1
end

def prevSp (sp : Nat → Sp) : Nat → Sp
  | 0 => fun _ _ _ _ => False
  | n + 1 => sp n
theorem rec_ok {P : Program} {w : World} {K : PySem.W.Frag} {mg : Str → Option Value} {base : Heap} {f : Addr} {fd : FuncData} {ps : List Str} {x : Str} {M : Nat} {sp : Nat → Sp}
    (step : ∀ n, Cl P w K mg base (n + M) x (prevSp sp n) → FnOk P w K mg base CX0 (n + M + 1) f fd ps (sp n)) (m : mg x = some (.ref f)) (kp : PySem.W.keepIn K (.ref f) = true) (b : Binds K fd ps []) :
    ∀ n, FnOk P w K mg base CX0 (n + M + 1) f fd ps (sp n)
  | 0 => step 0 ⟨f, fd, ps, ⟨fun _ _ _ _ h => h.elim, fun _ _ _ _ _ _ _ _ _ _ _ _ _ h => h.elim⟩, m, kp, b⟩
  | n + 1 => step (n + 1) ⟨f, fd, ps, by
      have h := rec_ok step m kp b n
      rw [show n + 1 + M = n + M + 1 by omega]
      exact h, m, kp, b⟩
/-! ### what stands for a worth where Python orders -/
mutual
def keyD : Dt → Dt
  | .tup l => .tup [.int 3, .int 0, .str "", .tup (keyL l)]
  | .int i => .tup [.int 1, .int i, .str "", .tup []]
  | .str s => .tup [.int 2, .int 0, .str s, .tup []]
  | .non => .tup [.int 0, .int 0, .str "", .tup []]
  | .bl _ => .oth
  | .oth => .oth
def keyL : List Dt → List Dt
  | [] => []
  | d :: l => keyD d :: keyL l
end
theorem keyL_map : ∀ l : List Dt, keyL l = l.map keyD
  | [] => by rw [keyL]; rfl
  | d :: l => by rw [keyL, keyL_map l]; rfl
mutual
def dep : Dt → Nat
  | .tup l => 1 + deps l
  | _ => 1
def deps : List Dt → Nat
  | [] => 0
  | d :: l => max (dep d) (deps l)
end
theorem dep_mem {d : Dt} : ∀ {l : List Dt}, d ∈ l → dep d ≤ deps l
  | x :: l, h => by
    rw [deps]
    rcases List.mem_cons.mp h with e | e
    · rw [e]; omega
    · have := dep_mem e; omega
mutual
/-- of integers, texts, None, and tuples of fifty at most -/
def pw : Dt → Bool
  | .non => true
  | .int i => plainW (.int i)
  | .str s => plainW (.str s)
  | .tup l => decide (l.length ≤ 50) && pws l
  | _ => false
def pws : List Dt → Bool
  | [] => true
  | d :: l => pw d && pws l
end
mutual
theorem pw_pur : ∀ d : Dt, pw d = true → pur d = true
  | .non, _ => by rw [pur]
  | .int _, _ => by rw [pur]
  | .str _, _ => by rw [pur]
  | .tup l, h => by rw [pw, Bool.and_eq_true] at h; rw [pur]; exact pws_purs l h.2
  | .bl _, h => by simp [pw] at h
  | .oth, h => by simp [pw] at h
theorem pws_purs : ∀ l : List Dt, pws l = true → purs l = true
  | [], _ => by rw [purs]
  | d :: l, h => by rw [pws, Bool.and_eq_true] at h; rw [purs, pw_pur d h.1, pws_purs l h.2]; rfl
end
theorem pw_mem {d : Dt} : ∀ {l : List Dt}, pws l = true → d ∈ l → pw d = true
  | x :: l, h, hd => by
    rw [pws, Bool.and_eq_true] at h
    rcases List.mem_cons.mp hd with e | e
    · rw [e]; exact h.1
    · exact pw_mem h.2 e
theorem pw_tup {l : List Dt} (h : pw (.tup l) = true) : l.length ≤ 50 ∧ pws l = true := by
  rw [pw, Bool.and_eq_true] at h
  exact ⟨of_decide_eq_true h.1, h.2⟩
/-- a worth is so -/
theorem wl_pw : ∀ (f : Nat) (st : List (Dt × Int)), wl f st = true → ∀ p ∈ st, p.2 ≤ 8 ∧ pw p.1 = true ∧ (dep p.1 : Int) + p.2 ≤ 9
  | _, [], _, _, h => nomatch h
  | 0, _ :: _, h, _, _ => by rw [wl] at h; cases h
  | f + 1, (d, k) :: s, h, p, hp => by
    by_cases c : 8 < k
    · simp [wl, c] at h
    have leaf : (∀ l, d ≠ .tup l) → p.2 ≤ 8 ∧ pw p.1 = true ∧ (dep p.1 : Int) + p.2 ≤ 9 := fun hn => by
      rw [wl_flat c hn] at h
      cases e : plainW d with
      | false => rw [e] at h; simp at h
      | true =>
        rw [e, if_pos rfl] at h
        rcases List.mem_cons.mp hp with q | q
        · subst q
          refine ⟨by omega, ?_, ?_⟩
          · cases d <;> simp_all [plainW, pw]
          · cases d <;> simp_all [dep] <;> omega
        · exact wl_pw f s h p q
    cases d with
    | tup l =>
      rw [wl_tup c] at h
      split at h
      · cases h
      · rename_i hl
        have ih := wl_pw f _ h
        rcases List.mem_cons.mp hp with q | q
        · subst q
          have each : ∀ x ∈ l, pw x = true ∧ (dep x : Int) + (k + 1) ≤ 9 := fun x hx => by
            have := ih (x, k + 1) (List.mem_append_left _ (List.mem_reverse.mpr (List.mem_map.mpr ⟨x, hx, rfl⟩)))
            exact ⟨this.2.1, this.2.2⟩
          refine ⟨by omega, ?_, ?_⟩
          · rw [pw, Bool.and_eq_true]
            refine ⟨decide_eq_true (by omega), ?_⟩
            clear h ih hp hl leaf
            induction l with
            | nil => rw [pws]
            | cons x l il =>
              rw [pws, (each x List.mem_cons_self).1, il fun y hy => each y (List.mem_cons_of_mem _ hy)]
              rfl
          · show ((dep (.tup l) : Nat) : Int) + k ≤ 9
            have hd : (deps l : Int) + k ≤ 8 := by
              clear h ih hp hl leaf
              induction l with
              | nil => rw [deps]; omega
              | cons x l il =>
                have h1 := (each x List.mem_cons_self).2
                have h2 := il fun y hy => each y (List.mem_cons_of_mem _ hy)
                rw [deps]
                omega
            rw [dep]
            omega
        · exact ih p (List.mem_append_right _ q)
    | _ => exact leaf fun _ z => nomatch z
mutual
def cnt : Dt → Nat
  | .tup l => 1 + cnts l
  | _ => 1
def cnts : List Dt → Nat
  | [] => 0
  | d :: l => cnt d + cnts l
end
def sumc : List (Dt × Int) → Nat
  | [] => 0
  | p :: s => cnt p.1 + sumc s
theorem sumc_app : ∀ (a b : List (Dt × Int)), sumc (a ++ b) = sumc a + sumc b
  | [], b => by simp [sumc]
  | p :: a, b => by rw [List.cons_append, sumc, sumc, sumc_app a b]; omega
theorem sumc_rev : ∀ (l : List Dt) (k : Int), sumc ((l.map fun x => (x, k)).reverse) = cnts l
  | [], _ => rfl
  | d :: l, k => by
    rw [List.map_cons, List.reverse_cons, sumc_app, sumc_rev l k, cnts]
    simp only [sumc]
    omega
theorem cnt_leaf {d : Dt} (h : ∀ l, d ≠ .tup l) : cnt d = 1 := by
  cases d with
  | tup l => exact absurd rfl (h l)
  | _ => rfl
theorem dep_leaf {d : Dt} (h : ∀ l, d ≠ .tup l) : dep d = 1 := by
  cases d with
  | tup l => exact absurd rfl (h l)
  | _ => rfl
theorem pw_leaf {d : Dt} (h : ∀ l, d ≠ .tup l) : pw d = plainW d := by
  cases d with
  | tup l => exact absurd rfl (h l)
  | _ => rfl
theorem wl_cnt : ∀ (f : Nat) (st : List (Dt × Int)), wl f st = true → sumc st ≤ f
  | _, [], _ => by simp [sumc]
  | 0, _ :: _, h => by rw [wl] at h; cases h
  | f + 1, (d, k) :: s, h => by
    by_cases c : 8 < k
    · simp [wl, c] at h
    by_cases ht : ∃ l, d = .tup l
    · obtain ⟨l, rfl⟩ := ht
      rw [wl_tup c] at h
      split at h
      · cases h
      · have := wl_cnt f _ h
        rw [sumc_app, sumc_rev] at this
        rw [sumc, cnt]
        omega
    · have hn : ∀ l, d ≠ .tup l := fun l e => ht ⟨l, e⟩
      rw [wl_flat c hn] at h
      split at h
      · have := wl_cnt f _ h
        rw [sumc, cnt_leaf hn]
        omega
      · cases h
theorem wl_of : ∀ (f : Nat) (st : List (Dt × Int)), (∀ p ∈ st, pw p.1 = true ∧ (dep p.1 : Int) + p.2 ≤ 9) → sumc st ≤ f → wl f st = true
  | _, [], _, _ => by rw [wl]
  | 0, (d, k) :: s, _, h => by
    have h' : cnt d + sumc s ≤ 0 := h
    have : 1 ≤ cnt d := by cases d <;> simp [cnt]
    omega
  | f + 1, (d, k) :: s, ha, h => by
    obtain ⟨h1, h2⟩ := ha (d, k) List.mem_cons_self
    have hs := fun p hp => ha p (List.mem_cons_of_mem _ hp)
    simp only at h1 h2
    have hd1 : 1 ≤ dep d := by cases d <;> simp [dep]
    have c : ¬ 8 < k := by omega
    by_cases ht : ∃ l, d = .tup l
    · obtain ⟨l, rfl⟩ := ht
      obtain ⟨h3, h4⟩ : l.length ≤ 50 ∧ pws l = true := by
        rw [pw, Bool.and_eq_true] at h1
        exact ⟨of_decide_eq_true h1.1, h1.2⟩
      rw [wl_tup c, if_neg (by omega)]
      rw [dep] at h2
      rw [sumc, cnt] at h
      refine wl_of f _ (fun p hp => ?_) (by rw [sumc_app, sumc_rev]; omega)
      rcases List.mem_append.mp hp with q | q
      · obtain ⟨x, hx, rfl⟩ := List.mem_map.mp (List.mem_reverse.mp q)
        have := dep_mem hx
        exact ⟨pw_mem h4 hx, by simp only; omega⟩
      · exact hs p q
    · have hn : ∀ l, d ≠ .tup l := fun l e => ht ⟨l, e⟩
      rw [pw_leaf hn] at h1
      rw [wl_flat c hn, if_pos h1]
      rw [sumc, cnt_leaf hn] at h
      exact wl_of f s hs (by omega)
theorem worth_cnt {d : Dt} (h : isWorth d = true) : cnt d ≤ 200 := by
  have := wl_cnt 200 [(d, 1)] h
  simpa [sumc] using this
theorem worth_of {d : Dt} (h : pw d = true) (h1 : dep d ≤ 8) (h2 : cnt d ≤ 200) : isWorth d = true :=
  wl_of 200 [(d, 1)] (fun p hp => by rw [List.mem_singleton.mp hp]; exact ⟨h, by simp only; omega⟩) (by simpa [sumc] using h2)
theorem worth_pw {d : Dt} (h : isWorth d = true) : pw d = true ∧ dep d ≤ 8 := by
  have := wl_pw 200 [(d, 1)] h (d, 1) List.mem_cons_self
  exact ⟨this.2.1, by have := this.2.2; show dep d ≤ 8; simp only at this; omega⟩
def spKnd (K : PySem.W.Frag) : Sp := fun vs H Q _ => ∃ v d, (vs = [v] ∧ Rep K H v d) ∧ Q (.int (knd d : Nat)) H
def spKey (K : PySem.W.Frag) (n : Nat) : Sp := fun vs H Q _ => ∃ v d, (vs = [v] ∧ Rep K H v d ∧ pw d = true ∧ dep d ≤ n) ∧ ∀ x H', Rep K H' x (keyD d) → Ex [] H H' → Q x H'
-- @SP kind_of (spKnd K)
-- @SP order_key (spKey K 8)
-- @SPR order_key (spKey K)
section
variable {P : Program} {w : World} {K : PySem.W.Frag} {mg : Str → Option Value} {base : Heap} {A : Ad}
theorem ok_kind_of {f : Addr} {fd : FuncData} (F : Fun K "kind_of" "kind_of" s_kind_of f fd) (T : Txt K mg A)  : FnOk P w K mg base CX0 1 f fd ["worth"] (spKnd K) := by
  refine F.ok sc_kind_of (fun vs H Q E h => ?_) (fun cdv Ar outer s H vs Q E hr h => ?_)
  · obtain ⟨v, d, ⟨rfl, _⟩, _⟩ := h
    rfl
  · obtain ⟨v, d, ⟨rfl, r⟩, k⟩ := h
    refine ⟨_, (pss_cons (ps_if (pt_cmpR op_isN (pv 0) pe_non (nomark _)) (pss_one (ps_ret pe_int)) pss_nil) (pss_cons (ps_if (pt_val (pe_callB (cIs (K := K) rfl) (by rfl) T.b_isinstance bt_isinstance (pa_cons (pv 0) (pa_cons (pe_bltn (v := .ty "int") (by rfl) T.b_int bt_int rfl) pa_nil)))) (pss_one (ps_ret pe_int)) pss_nil) (pss_one (ps_ret (pe_ifExp (pt_val (pe_callB (cIs (K := K) rfl) (by rfl) T.b_isinstance bt_isinstance (pa_cons (pv 0) (pa_cons (pe_bltn (v := .ty "str") (by rfl) T.b_str bt_str rfl) pa_nil)))) pe_int pe_int))))), ?_⟩
    walk_at "nm"
    have r0 := r
    cases r <;> walk_at "rd"
    all_goals exact k
theorem ok_order_key {f : Addr} {fd : FuncData} (F : Fun K "order_key" "order_key" s_order_key f fd) (T : Txt K mg A) (C_kind_of : Cl P w K mg base 1 "kind_of" (spKnd K)) (n : Nat) (C_order_key : Cl P w K mg base (n + 1) "order_key" (prevSp (spKey K) n)) : FnOk P w K mg base CX0 (n + 1 + 1) f fd ["worth"] ((spKey K) n) := by
  refine F.ok sc_order_key (fun vs H Q E h => ?_) (fun cdv Ar outer s H vs Q E hr h => ?_)
  · obtain ⟨v, d, ⟨rfl, _⟩, _⟩ := h
    rfl
  · obtain ⟨v, d, ⟨rfl, r, hp, hd⟩, k⟩ := h
    refine ⟨_, (pss_cons (ps_set (i := 1) sc_order_key.nd rfl (Or.inl rfl) (pe_cl C_kind_of hr (by omega) (by rfl) (pa_cons (pv 0) pa_nil))) (pss_cons (ps_if (pt_cmpR op_eq (pv 1) pe_int (nomark _)) (pss_one (ps_ret (peTup (pa_cons (pv 1) (pa_cons pe_int (pa_cons pe_str (pa_cons (pe_callTy (cTuple (K := K) rfl) (by rfl) T.b_tuple bt_tuple (pa_cons (pe_lc (own := [("item", 2)]) (g := gName 2) (tt := tYes) rfl sc_order_key.nd (pi_tup (pv 0)) (blkOk_by (N := n_order_key) (sc := defScope s_order_key) (by decide +kernel)) (fun _ _ _ _ _ => (pg_name (i := 2) sc_order_key.nd rfl (Or.inl rfl))) (fun _ _ _ _ _ => pts_nil) (fun _ _ _ _ _ => (pe_cl C_order_key hr (by omega) (by rfl) (pa_cons (pv 2) pa_nil)))) pa_nil)) pa_nil))))))) pss_nil) (pss_one (ps_ret (peTup (pa_cons (pv 1) (pa_cons (pe_ifExp (pt_cmpR op_eq (pv 1) pe_int (nomark _)) (pv 0) pe_int) (pa_cons (pe_ifExp (pt_cmpR op_eq (pv 1) pe_int (nomark _)) (pv 0) pe_str) (pa_cons (peTup pa_nil) pa_nil))))))))), ?_⟩
    walk_at "nm"
    have r0 := r
    cases r with
    | tup h1 h2 =>
      rename_i a xs l
      obtain ⟨hl, hpl⟩ := pw_tup hp
      have hxl := h2.length
      rw [dep] at hd
      walk_at "rd"
      intro D hD
      refine lc_it (walk_tup (xs := xs)) (LcP D [] (fun _ => True) (RepAt K (l.map keyD)) H) (LcP.start hD trivial (true_loc D)) (fun i H h p => p.ex.sqT h1) ?_ ?_
      · rintro i x H3 H4 hi p ⟨rfl, hx4⟩
        obtain ⟨dx, hdx, rx⟩ := h2.get hx4
        have rx' := p.ex.rep rx
        have hm := List.mem_of_getElem? hdx
        have hd1 := dep_mem hm
        cases n with
        | zero => omega
        | succ n =>
          have hpx := pw_mem hpl hm
          have hdx1 : dep dx ≤ n := by omega
          walk_at "rd"
          intro y H5 ry e5
          exact p.step hD RepAt.stab (true_loc D) e5 trivial trivial ⟨_, by rw [List.getElem?_map, hdx]; rfl, ry⟩ hi (by omega)
      · intro H3 p
        obtain ⟨ys, h5, h6⟩ := p.done (by rw [List.length_map, hxl])
        have e3 : Ex [] H H3 := p.ex
        walk_at "rd"
        intro q H4 nq hq e4
        rw [show ((knd (Dt.tup l) : Nat) : Int) = 3 from rfl]
        walk_at "rd"
        intro q2 H5 nq2 hq2 e5
        refine k _ _ ?_ (by walk_at "ex")
        rw [keyD, keyL_map]
        have h7 := e5.repL (e4.repL h6)
        walk_at "rep"
    | non =>
      walk_at "rd"
      rw [show ((knd (Dt.non) : Nat) : Int) = 0 from rfl]
      walk_at "rdi"
      refine k _ _ ?_ (by walk_at "ex")
      rw [keyD]
      walk_at "rep"
    | int i =>
      walk_at "rd"
      rw [show ((knd (Dt.int i) : Nat) : Int) = 1 from rfl]
      walk_at "rdi"
      refine k _ _ ?_ (by walk_at "ex")
      rw [keyD]
      walk_at "rep"
    | str z hz =>
      walk_at "rd"
      rw [show ((knd (Dt.str z) : Nat) : Int) = 2 from rfl]
      walk_at "rdi"
      refine k _ _ ?_ (by walk_at "ex")
      rw [keyD]
      walk_at "rep"
    | bl b => simp [pw] at hp
    | oth h => simp [pw] at hp
end
/-! ### the keys' order is that of the worths -/
open PySem PyProof.Rows in
mutual
def keyP : Dt → PyData
  | .tup l => .tuple [.int 3, .int 0, .str "", .tuple (keyPs l)]
  | .int i => .tuple [.int 1, .int i, .str "", .tuple []]
  | .str s => .tuple [.int 2, .int 0, .str s, .tuple []]
  | .non => .tuple [.int 0, .int 0, .str "", .tuple []]
  | .bl _ => .tuple []
  | .oth => .tuple []
def keyPs : List Dt → List PyData
  | [] => []
  | d :: l => keyP d :: keyPs l
end
mutual
theorem dp_key {K : PySem.W.Frag} {H : Hp} : ∀ (d : Dt) (x : V), pur d = true → Rep K H x (keyD d) → Dp K H x (keyP d)
  | .non, _, _, r => by
    rw [keyD] at r
    rw [keyP]
    cases r with
    | tup a b =>
      cases b with | cons c b => cases b with | cons c2 b => cases b with | cons c3 b => cases b with | cons c4 b =>
      cases b; cases c; cases c2; cases c3
      cases c4 with
      | tup a4 b4 =>
        cases b4
        exact .tup a (.cons (.int _) (.cons (.int _) (.cons (.str _) (.cons (.tup a4 .nil) .nil))))
  | .int i, _, _, r => by
    rw [keyD] at r
    rw [keyP]
    cases r with
    | tup a b =>
      cases b with | cons c b => cases b with | cons c2 b => cases b with | cons c3 b => cases b with | cons c4 b =>
      cases b; cases c; cases c2; cases c3
      cases c4 with
      | tup a4 b4 =>
        cases b4
        exact .tup a (.cons (.int _) (.cons (.int _) (.cons (.str _) (.cons (.tup a4 .nil) .nil))))
  | .str s, _, _, r => by
    rw [keyD] at r
    rw [keyP]
    cases r with
    | tup a b =>
      cases b with | cons c b => cases b with | cons c2 b => cases b with | cons c3 b => cases b with | cons c4 b =>
      cases b; cases c; cases c2; cases c3
      cases c4 with
      | tup a4 b4 =>
        cases b4
        exact .tup a (.cons (.int _) (.cons (.int _) (.cons (.str _) (.cons (.tup a4 .nil) .nil))))
  | .tup l, _, h, r => by
    rw [keyD] at r
    rw [keyP]
    rw [pur] at h
    cases r with
    | tup a b =>
      cases b with | cons c b => cases b with | cons c2 b => cases b with | cons c3 b => cases b with | cons c4 b =>
      cases b; cases c; cases c2; cases c3
      cases c4 with
      | tup a4 b4 =>
        exact .tup a (.cons (.int _) (.cons (.int _) (.cons (.str _) (.cons (.tup a4 (dps_key l _ h b4)) .nil))))
  | .bl _, _, h, _ => by simp [pur] at h
  | .oth, _, h, _ => by simp [pur] at h
theorem dps_key {K : PySem.W.Frag} {H : Hp} : ∀ (l : List Dt) (xs : List V), purs l = true → RepL K H xs (keyL l) → DpAll K H xs (keyPs l)
  | [], _, _, r => by
    rw [keyL] at r
    cases r
    rw [keyPs]
    exact .nil
  | d :: l, _, h, r => by
    rw [purs, Bool.and_eq_true] at h
    rw [keyL] at r
    rw [keyPs]
    cases r with
    | cons a b => exact .cons (dp_key d _ h.1 a) (dps_key l _ h.2 b)
end
section
open PySem.W PyProof.Rows
theorem lex4 {a b c t a' b' c' t' : PyData} (ha : alike a a' = true) (hb : alike b b' = true) (hc : alike c c' = true) (ht : alike t t' = true) :
    dataLt (.tuple [a, b, c, t]) (.tuple [a', b', c', t']) = if PyData.eqv a a' = true then (if PyData.eqv b b' = true then (if PyData.eqv c c' = true then (if PyData.eqv t t' = true then false else dataLt t t') else dataLt c c') else dataLt b b') else dataLt a a' := by
  rw [dataLt_tuple]
  have step : ∀ {x y : PyData} {xs ys : List PyData}, alike x y = true → lexLt itemOrd (keyToksAll (x :: xs)) (keyToksAll (y :: ys)) = if PyData.eqv x y = true then lexLt itemOrd (keyToksAll xs) (keyToksAll ys) else dataLt x y := fun {x y xs ys} h => by
    by_cases e : PyData.eqv x y = true
    · rw [if_pos e, dataLt_all_yes h e]
    · rw [if_neg e, dataLt_all_no h (Bool.eq_false_iff.mpr e)]
  rw [step ha, step hb, step hc, step ht]
  have z : lexLt itemOrd (keyToksAll []) (keyToksAll []) = false := lex_irrefl _
  rw [z]
theorem lexc {x y : PyData} {xs ys : List PyData} (h : alike x y = true) : dataLt (.tuple (x :: xs)) (.tuple (y :: ys)) = if PyData.eqv x y = true then dataLt (.tuple xs) (.tuple ys) else dataLt x y := by
  rw [dataLt_tuple, dataLt_tuple]
  by_cases e : PyData.eqv x y = true
  · rw [if_pos e, dataLt_all_yes h e]
  · rw [if_neg e, dataLt_all_no h (Bool.eq_false_iff.mpr e)]
mutual
theorem key_alike : ∀ (d e : Dt), pur d = true → pur e = true → alike (keyP d) (keyP e) = true
  | .non, e, _, he => by cases e <;> simp_all [keyP, alike, alikeAll, pur]
  | .int i, e, _, he => by cases e <;> simp_all [keyP, alike, alikeAll, pur]
  | .str s, e, _, he => by cases e <;> simp_all [keyP, alike, alikeAll, pur]
  | .tup l, e, hd, he => by
    cases e with
    | tup m =>
      rw [pur] at hd he
      have := keys_alike l m hd he
      simp [keyP, alike, alikeAll, this]
    | bl b => simp [pur] at he
    | oth => simp [pur] at he
    | _ => simp only [keyP, alike, alikeAll]; cases keyPs l <;> rfl
  | .bl _, _, h, _ => by simp [pur] at h
  | .oth, _, h, _ => by simp [pur] at h
theorem keys_alike : ∀ (l m : List Dt), purs l = true → purs m = true → alikeAll (keyPs l) (keyPs m) = true
  | [], m, _, _ => by rw [keyPs, alikeAll]
  | x :: l, [], _, _ => by rw [keyPs, keyPs, alikeAll]
  | x :: l, y :: m, h, h' => by
    rw [purs, Bool.and_eq_true] at h h'
    rw [keyPs, keyPs, alikeAll, key_alike x y h.1 h'.1, keys_alike l m h.2 h'.2]
    rfl
end
theorem str_beq (s t : Str) : (s == t) = decide (s.cps.toList = t.cps.toList) := by
  rw [Bool.eq_iff_iff, beq_iff_eq, decide_eq_true_eq]
  exact ⟨fun h => by rw [h], fun h => PySem.W.str_of_cps h⟩
theorem eqv4 {a b c t a' b' c' t' : PyData} : PyData.eqv (.tuple [a, b, c, t]) (.tuple [a', b', c', t']) = (PyData.eqv a a' && (PyData.eqv b b' && (PyData.eqv c c' && PyData.eqv t t'))) := by simp [PyData.eqv, PyData.eqvAll]
theorem eqs0 : PyData.eqv (.str "") (.str "") = true := by decide +kernel
theorem eqt0 : PyData.eqv (.tuple []) (.tuple []) = true := by decide +kernel
theorem eqii {i j : Int} : PyData.eqv (.int i) (.int j) = decide (i = j) := by simp [PyData.eqv, Bool.beq_eq_decide_eq]
theorem eqss {i j : Str} : PyData.eqv (.str i) (.str j) = decide (i.cps.toList = j.cps.toList) := by rw [PyData.eqv, str_beq]
mutual
theorem key_eq : ∀ (d e : Dt), pur d = true → pur e = true → PyData.eqv (keyP d) (keyP e) = eqD d e
  | .non, e, _, he => by
    cases e <;> simp only [keyP, eqv4, eqs0, eqt0, eqii, eqss, eqD] <;> first | (simp; done) | (simp [pur] at he; done)
  | .int i, e, _, he => by
    cases e <;> simp only [keyP, eqv4, eqs0, eqt0, eqii, eqss, eqD] <;> first | (simp; done) | (simp [pur] at he; done)
  | .str s, e, _, he => by
    cases e <;> simp only [keyP, eqv4, eqs0, eqt0, eqii, eqss, eqD] <;> first | (simp; done) | (simp [pur] at he; done)
  | .tup l, e, hd, he => by
    cases e with
    | tup m =>
      rw [pur] at hd he
      have h := keys_eq l m hd he
      rw [keyP, keyP, eqv4, eqs0, eqii, eqii, eqD, PyData.eqv, h]
      simp
    | bl b => simp [pur] at he
    | oth => simp [pur] at he
    | _ => simp only [keyP, eqv4, eqs0, eqt0, eqii, eqss, eqD]; simp
  | .bl _, _, h, _ => by simp [pur] at h
  | .oth, _, h, _ => by simp [pur] at h
theorem keys_eq : ∀ (l m : List Dt), purs l = true → purs m = true → PyData.eqvAll (keyPs l) (keyPs m) = eqL l m
  | [], [], _, _ => by rw [keyPs, PyData.eqvAll, eqL]
  | [], y :: m, _, _ => by simp [keyPs, PyData.eqvAll, eqL]
  | x :: l, [], _, _ => by simp [keyPs, PyData.eqvAll, eqL]
  | x :: l, y :: m, h, h' => by
    rw [purs, Bool.and_eq_true] at h h'
    rw [keyPs, keyPs, PyData.eqvAll, eqL, key_eq x y h.1 h'.1, keys_eq l m h.2 h'.2]
end
theorem lt_off {l m : List Dt} (h : purs l = true) (h' : purs m = true) (e : eqL l m = true) : ltL l m = false := by
  have t := triL l m h h'
  rw [if_pos e] at t
  cases q : ltL l m with
  | false => rfl
  | true => rw [q] at t; simp at t; try (split at t <;> omega)
theorem dl_nil : dataLt (.tuple []) (.tuple []) = false := lex_irrefl _
theorem dl_nc (y : PyData) (m : List PyData) : dataLt (.tuple []) (.tuple (y :: m)) = true := by
  rw [dataLt_tuple, keyToksAll, keyToksAll]
  try rfl
theorem dl_cn (y : PyData) (m : List PyData) : dataLt (.tuple (y :: m)) (.tuple []) = false := by
  rw [dataLt_tuple, keyToksAll, keyToksAll]
  try rfl
mutual
theorem key_lt : ∀ (d e : Dt), pur d = true → pur e = true → dataLt (keyP d) (keyP e) = ltD d e
  | .non, e, _, he => by
    cases e <;> first | (simp [pur] at he; done) | skip
    all_goals simp only [keyP]; rw [lex4 rfl rfl rfl rfl]; simp only [eqs0, eqt0, eqii, eqss, dataLt_int, dl_nil, ltD, knd]; try simp
  | .int i, e, _, he => by
    cases e <;> first | (simp [pur] at he; done) | skip
    all_goals simp only [keyP]; rw [lex4 rfl rfl rfl rfl]; simp only [eqs0, eqt0, eqii, eqss, dataLt_int, dl_nil, ltD, knd]; try simp
    all_goals try omega
  | .str s, e, _, he => by
    cases e <;> first | (simp [pur] at he; done) | skip
    all_goals simp only [keyP]; rw [lex4 rfl rfl rfl rfl]; simp only [eqs0, eqt0, eqii, eqss, dataLt_int, dataLt_str, dl_nil, ltD, knd]; try simp
    all_goals (intro h h'; rw [h'] at h; exact natl_irr _ h)
  | .tup l, e, hd, he => by
    cases e with
    | tup m =>
      rw [pur] at hd he
      have h := keys_lt l m hd he
      have h2 := keys_eq l m hd he
      have h3 := keys_alike l m hd he
      rw [keyP, keyP, lex4 rfl rfl rfl (by rw [alike]; exact h3), eqs0, eqii, eqii, ltD, h, PyData.eqv, h2]
      have h4 := lt_off hd he
      cases q : eqL l m with
      | false => simp
      | true => rw [h4 q]; simp
    | bl b => simp [pur] at he
    | oth => simp [pur] at he
    | non => rw [keyP, keyP, lex4 rfl rfl rfl (by rw [alike]; cases keyPs l <;> rfl)]; simp only [eqii, dataLt_int, ltD, knd]; simp
    | int i => rw [keyP, keyP, lex4 rfl rfl rfl (by rw [alike]; cases keyPs l <;> rfl)]; simp only [eqii, dataLt_int, ltD, knd]; simp
    | str i => rw [keyP, keyP, lex4 rfl rfl rfl (by rw [alike]; cases keyPs l <;> rfl)]; simp only [eqii, dataLt_int, ltD, knd]; simp
  | .bl _, _, h, _ => by simp [pur] at h
  | .oth, _, h, _ => by simp [pur] at h
theorem keys_lt : ∀ (l m : List Dt), purs l = true → purs m = true → dataLt (.tuple (keyPs l)) (.tuple (keyPs m)) = ltL l m
  | [], [], _, _ => by rw [keyPs, ltL, dl_nil]; try rfl
  | [], y :: m, _, _ => by rw [keyPs, keyPs, ltL, dl_nc]; try rfl
  | x :: l, [], _, _ => by rw [keyPs, keyPs, ltL, dl_cn]
  | x :: l, y :: m, h, h' => by
    rw [purs, Bool.and_eq_true] at h h'
    rw [keyPs, keyPs, ltL, lexc (key_alike x y h.1 h'.1), key_eq x y h.1 h'.1, keys_lt l m h.2 h'.2, key_lt x y h.1 h'.1]
end
mutual
theorem key_dep : ∀ d : Dt, (keyP d).depth ≤ 2 * dep d
  | .non => by simp [keyP, PyData.depth, PyData.depthAll, dep]
  | .int i => by simp [keyP, PyData.depth, PyData.depthAll, dep]
  | .str s => by simp [keyP, PyData.depth, PyData.depthAll, dep]
  | .tup l => by
    have := keys_dep l
    simp only [keyP, PyData.depth, PyData.depthAll, dep]
    omega
  | .bl _ => by simp [keyP, PyData.depth, PyData.depthAll, dep]
  | .oth => by simp [keyP, PyData.depth, PyData.depthAll, dep]
theorem keys_dep : ∀ l : List Dt, PyData.depthAll (keyPs l) ≤ 2 * deps l
  | [] => by rw [keyPs, PyData.depthAll]; omega
  | d :: l => by
    have h1 := key_dep d
    have h2 := keys_dep l
    rw [keyPs, PyData.depthAll, deps]
    omega
end
theorem key_none (d : Dt) : keyP d ≠ .none := by cases d <;> simp [keyP]
end

def spCheck (K : PySem.W.Frag) (A : Ad) : Sp := fun vs H Q E => ∃ v d, (vs = [v] ∧ Rep K H v d) ∧ if isWorth d = true then ∀ H', Ex [] H H' → Q .non H' else ∀ H', Ex [] H H' → E (.ref A.NoWorth) none H'
def spBefore (K : PySem.W.Frag) (A : Ad) : Sp := fun vs H Q E => ∃ v u d e, (vs = [v, u] ∧ Rep K H v d ∧ Rep K H u e) ∧
  if (isWorth d && isWorth e) = true then ∀ H', Ex [] H H' → Q (.bl (ltD d e)) H' else ∀ H', Ex [] H H' → E (.ref A.NoWorth) none H'
-- @SP is_integer (spIsInt K)
-- @SP is_plain_worth (spPlain K)
-- @SP is_worth (spWorth K)
-- @SP kind_of (spKnd K)
-- @SP order_key (spKey K 8)
-- @SP check_worth (spCheck K A)
-- @SP before (spBefore K A)
section
variable {P : Program} {w : World} {K : PySem.W.Frag} {mg : Str → Option Value} {base : Heap} {A : Ad}
theorem ok_check_worth {f : Addr} {fd : FuncData} (F : Fun K "check_worth" "check_worth" s_check_worth f fd) (T : Txt K mg A) (C_is_worth : Cl P w K mg base 3 "is_worth" (spWorth K)) : FnOk P w K mg base (L2.CX P w) 4 f fd ["thing"] (spCheck K A) := by
  refine F.okX sc_check_worth (fun vs H Q E h => ?_) (fun cdv Ar outer s H vs Q E hr h => ?_)
  · obtain ⟨v, d, ⟨rfl, _⟩, _⟩ := h
    rfl
  · obtain ⟨v, d, ⟨rfl, r⟩, k⟩ := h
    refine ⟨_, (pss_one (ps_if (pt_not (pt_val (pe_cl C_is_worth hr (by decide) (by rfl) (pa_cons (pv 0) pa_nil)))) (pss_one (ps_raise rfl (takes_of rfl rfl rfl rfl) (pmk0 T.e_NoWorth (by rfl)))) pss_nil)), ?_⟩
    walk_at "nm"
    walk_at "rd"
    intro H1 e1
    cases e : isWorth d with
    | false =>
      rw [e, if_neg (by decide)] at k
      walk_at "rd"
      exact k _ e1
    | true =>
      rw [e, if_pos rfl] at k
      walk_at "rd"
      exact k _ e1
theorem ok_before {f : Addr} {fd : FuncData} (F : Fun K "before" "before" s_before f fd) (T : Txt K mg A) (C_order_key : Cl P w K mg base 10 "order_key" (spKey K 8)) (C_check_worth : ClX P w K mg base 4 "check_worth" (spCheck K A)) : FnOk P w K mg base (L2.CX P w) 11 f fd ["one", "other"] (spBefore K A) := by
  refine F.okX sc_before (fun vs H Q E h => ?_) (fun cdv Ar outer s H vs Q E hr h => ?_)
  · obtain ⟨v, u, d, e, ⟨rfl, _⟩, _⟩ := h
    rfl
  · obtain ⟨v, u, d, e, ⟨rfl, r, r2⟩, k⟩ := h
    refine ⟨_, (pss_cons (ps_expr (pe_clX C_check_worth (takes_of rfl rfl rfl rfl) hr (by decide) (by rfl) (pa_cons (pv 0) pa_nil))) (pss_cons (ps_expr (pe_clX C_check_worth (takes_of rfl rfl rfl rfl) hr (by decide) (by rfl) (pa_cons (pv 1) pa_nil))) (pss_one (ps_ret (pe_cmpR (oLtP (K := K) rfl hr.units) (pe_cl C_order_key hr (by decide) (by rfl) (pa_cons (pv 0) pa_nil)) (pe_cl C_order_key hr (by decide) (by rfl) (pa_cons (pv 1) pa_nil)) (nomark _)))))), ?_⟩
    walk_at "nm"
    walk_at "rd"
    cases c1 : isWorth d with
    | false =>
      rw [c1, if_neg (by simp)] at k
      rw [if_neg (by decide)]
      intro H1 e1
      exact k _ e1
    | true =>
      rw [c1, Bool.true_and] at k
      rw [if_pos rfl]
      intro H1 e1
      walk_at "rd"
      cases c2 : isWorth e with
      | false =>
        rw [c2, if_neg (by decide)] at k
        rw [if_neg (by decide)]
        intro H2 e2
        exact k _ (by walk_at "ex")
      | true =>
        rw [c2, if_pos rfl] at k
        rw [if_pos rfl]
        intro H2 e2
        obtain ⟨p1, q1⟩ := worth_pw c1
        obtain ⟨p2, q2⟩ := worth_pw c2
        walk_at "rd"
        intro x H3 rx e3
        walk_at "rd"
        intro y H4 ry e4
        have x4 := e4.rep rx
        refine ⟨_, _, ⟨dp_key d _ (pw_pur d p1) x4, dp_key e _ (pw_pur e p2) ry, key_alike d e (pw_pur d p1) (pw_pur e p2), key_none d, by have := key_dep d; omega⟩, ?_⟩
        rw [key_lt d e (pw_pur d p1) (pw_pur e p2)]
        walk_at "rd"
        exact k _ (by walk_at "ex")
end
/-! ### the text of a thing, by signs -/
def intL (i : Int) : List Nat := if i < 0 then 45 :: TL.numL i.natAbs else TL.numL i.natAbs
def escL (l : List Nat) : List Nat := l.flatMap fun c => if c = 34 ∨ c = 92 then [92, c] else [c]
mutual
def tx : Dt → List Nat
  | .non => [110, 111, 110, 101]
  | .int i => intL i
  | .str s => 34 :: (escL s.cps.toList ++ [34])
  | .tup l => 40 :: (txs l ++ [41])
  | .bl _ => []
  | .oth => []
def txs : List Dt → List Nat
  | [] => []
  | d :: l => tx d ++ txr l
def txr : List Dt → List Nat
  | [] => []
  | d :: l => 32 :: (tx d ++ txr l)
end
def plainT : Dt → Bool
  | .non => true
  | .int i => decide (-(10 ^ 40) < i) && decide (i < 10 ^ 40)
  | .str s => s.cps.toList.all signOk
  | _ => false
mutual
/-- a thing at this depth has a text -/
def okAt : Nat → Dt → Bool
  | k, .tup l => decide (k ≤ 60) && okAll (k + 1) l
  | k, .non => decide (k ≤ 60)
  | k, .int i => decide (k ≤ 60) && plainT (.int i)
  | k, .str s => decide (k ≤ 60) && plainT (.str s)
  | _, .bl _ => false
  | _, .oth => false
def okAll : Nat → List Dt → Bool
  | _, [] => true
  | k, d :: l => okAt k d && okAll k l
end
mutual
/-- how many steps, how many signs -/
def dsz : Dt → Nat
  | .non => 4
  | .int i => (intL i).length
  | .str s => 3 + 2 * s.length
  | .tup l => 3 + dszs l
  | .bl _ => 1
  | .oth => 1
def dszs : List Dt → Nat
  | [] => 0
  | d :: l => 2 + dsz d + dszs l
end
theorem okAll_all (k : Nat) : ∀ l : List Dt, okAll k l = l.all (okAt k)
  | [] => by rw [okAll]; rfl
  | d :: l => by rw [okAll, okAll_all k l]; rfl
theorem okAt_deep {k : Nat} {d : Dt} (h : 60 < k) : okAt k d = false := by
  cases d <;> simp [okAt, Nat.not_le.mpr h]
theorem okAt_plain {k : Nat} {d : Dt} (h : k ≤ 60) (n : ∀ l, d ≠ .tup l) : okAt k d = plainT d := by
  cases d with
  | tup l => exact absurd rfl (n l)
  | _ => simp [okAt, plainT, h]
theorem okAt_tup {k : Nat} {l : List Dt} (h : k ≤ 60) : okAt k (.tup l) = l.all (okAt (k + 1)) := by rw [okAt, decide_eq_true h, Bool.true_and, okAll_all]
theorem intL_ne (i : Int) : intL i ≠ [] := by
  unfold intL
  split
  · exact fun z => nomatch z
  · exact TL.numL_ne _
theorem escL_cons (c : Nat) (l : List Nat) : escL (c :: l) = (if c = 34 ∨ c = 92 then [92, c] else [c]) ++ escL l := rfl
theorem escL_len : ∀ l : List Nat, (escL l).length ≤ 2 * l.length
  | [] => Nat.le_refl _
  | c :: l => by
    rw [escL_cons, List.length_append, List.length_cons]
    have := escL_len l
    split <;> simp <;> omega
mutual
theorem tx_len : ∀ d : Dt, (tx d).length ≤ dsz d
  | .non => Nat.le_refl _
  | .int i => Nat.le_refl _
  | .str s => by
    rw [tx, dsz, List.length_cons, List.length_append, List.length_singleton]
    have h1 := escL_len s.cps.toList
    have h2 : s.cps.toList.length = s.length := Array.length_toList
    omega
  | .tup l => by
    rw [tx, dsz, List.length_cons, List.length_append, List.length_singleton]
    have := txs_len l
    omega
  | .bl _ => Nat.zero_le _
  | .oth => Nat.zero_le _
theorem txs_len : ∀ l : List Dt, (txs l).length ≤ dszs l
  | [] => Nat.le_refl _
  | d :: l => by
    rw [txs, dszs, List.length_append]
    have h1 := tx_len d
    have h2 := txr_len l
    omega
theorem txr_len : ∀ l : List Dt, (txr l).length ≤ dszs l
  | [] => Nat.le_refl _
  | d :: l => by
    rw [txr, dszs, List.length_cons, List.length_append]
    have h1 := tx_len d
    have h2 := txr_len l
    omega
end
/-! ### what waits -/
inductive Pc where
  | t (s : Str) (k : Nat)
  | d (d : Dt) (k : Nat)
def Pc.dt : Pc → Dt
  | .t s k => .tup [.bl true, .str s, .int k]
  | .d x k => .tup [.bl false, x, .int k]
def Pc.ok : Pc → Bool
  | .t _ k => decide (k ≤ 60)
  | .d x k => okAt k x
def Pc.tx : Pc → List Nat
  | .t s _ => s.cps.toList
  | .d x _ => G.tx x
def Pc.sz : Pc → Nat
  | .t _ _ => 1
  | .d x _ => dsz x + 1
/-- a tuple's pieces, the first one first -/
def pcs (k : Nat) : List Dt → List Pc
  | [] => []
  | d :: l => .d d (k + 1) :: pcr k l
where pcr (k : Nat) : List Dt → List Pc
  | [] => []
  | d :: l => .t " " k :: .d d (k + 1) :: pcr k l
def pcAll (k : Nat) (l : List Dt) : List Pc := .t "(" k :: (pcs k l ++ [.t ")" k])
theorem pcr_ok {k : Nat} (h : k ≤ 60) : ∀ l : List Dt, (pcs.pcr k l).all Pc.ok = l.all (okAt (k + 1))
  | [] => rfl
  | d :: l => by
    rw [pcs.pcr, List.all_cons, List.all_cons, List.all_cons, pcr_ok h l]
    simp [Pc.ok, h]
theorem pcs_ok {k : Nat} (h : k ≤ 60) : ∀ l : List Dt, (pcs k l).all Pc.ok = l.all (okAt (k + 1))
  | [] => rfl
  | d :: l => by
    rw [pcs, List.all_cons, List.all_cons, pcr_ok h l]
    rfl
theorem pcAll_ok {k : Nat} (h : k ≤ 60) (l : List Dt) : (pcAll k l).all Pc.ok = okAt k (.tup l) := by
  rw [pcAll, List.all_cons, List.all_append, pcs_ok h, okAt_tup h]
  simp [Pc.ok, h]
theorem pcr_tx (k : Nat) : ∀ l : List Dt, (pcs.pcr k l).flatMap Pc.tx = txr l
  | [] => by rw [txr]; rfl
  | d :: l => by
    rw [pcs.pcr, List.flatMap_cons, List.flatMap_cons, pcr_tx k l, txr]
    rfl
theorem pcs_tx (k : Nat) : ∀ l : List Dt, (pcs k l).flatMap Pc.tx = txs l
  | [] => by rw [txs]; rfl
  | d :: l => by
    rw [pcs, List.flatMap_cons, pcr_tx k l, txs]
    rfl
theorem pcAll_tx (k : Nat) (l : List Dt) : (pcAll k l).flatMap Pc.tx = tx (.tup l) := by
  rw [pcAll, List.flatMap_cons, List.flatMap_append, pcs_tx, tx]
  have h1 : Pc.tx (.t "(" k) = [40] := by show ("(" : Str).cps.toList = _; decide +kernel
  have h2 : [Pc.t ")" k].flatMap Pc.tx = [41] := by show (")" : Str).cps.toList ++ [] = _; decide +kernel
  rw [h1, h2]
  rfl
theorem pcr_sz (k : Nat) : ∀ l : List Dt, ((pcs.pcr k l).map Pc.sz).sum = dszs l
  | [] => by rw [dszs]; rfl
  | d :: l => by
    rw [pcs.pcr, List.map_cons, List.map_cons, List.sum_cons, List.sum_cons, pcr_sz k l, dszs]
    show 1 + (dsz d + 1 + dszs l) = _
    omega
theorem pcs_sz (k : Nat) : ∀ l : List Dt, ((pcs k l).map Pc.sz).sum ≤ dszs l
  | [] => Nat.zero_le _
  | d :: l => by
    rw [pcs, List.map_cons, List.sum_cons, pcr_sz k l, dszs]
    show dsz d + 1 + dszs l ≤ _
    omega
theorem pcAll_sz (k : Nat) (l : List Dt) : ((pcAll k l).map Pc.sz).sum + 1 ≤ dsz (.tup l) + 1 - 0 := by
  rw [pcAll, List.map_cons, List.sum_cons, List.map_append, List.sum_append, dsz]
  have := pcs_sz k l
  show 1 + (_ + (1 + 0)) + 1 ≤ _
  omega
theorem pcs_len (k : Nat) : ∀ l : List Dt, (pcs k l).length ≤ dszs l := fun l => by
  have h : ∀ ps : List Pc, ps.length ≤ (ps.map Pc.sz).sum := fun ps => by
    induction ps with
    | nil => exact Nat.le_refl _
    | cons p ps ih =>
      rw [List.map_cons, List.sum_cons, List.length_cons]
      have : 1 ≤ p.sz := by cases p <;> simp [Pc.sz]
      omega
  exact Nat.le_trans (h _) (pcs_sz k l)
/-! ### the parser, by signs -/
def isDig (c : Nat) : Bool := decide (48 ≤ c) && decide (c ≤ 57)
/-- the signs of an integer, its digits -/
def intPart (l : List Nat) : List Nat × List Nat :=
  match l with
  | 45 :: r => ([45], r.takeWhile isDig)
  | l => ([], l.takeWhile isDig)
def valOf (p : List Nat × List Nat) : Int := if p.1 = [] then (NumText.digitsVal p.2 : Nat) else -((NumText.digitsVal p.2 : Nat) : Int)
def rawInt (l : List Nat) : Option (Dt × Nat) :=
  let p := intPart l
  if 1 ≤ p.2.length ∧ p.2.length ≤ 40 then (if intL (valOf p) = p.1 ++ p.2 then some (.int (valOf p), p.1.length + p.2.length) else none) else none
def rawStr : List Nat → Option (List Nat × Nat)
  | [] => none
  | c :: r => if c = 34 then some ([], 1) else if c = 92 then (match r with
      | [] => none
      | e :: r' => if e = 34 ∨ e = 92 then (rawStr r').map fun x => (e :: x.1, x.2 + 2) else none)
    else if signOk c = true then (rawStr r).map fun x => (c :: x.1, x.2 + 1) else none
def rawPlain (l : List Nat) : Option (Dt × Nat) :=
  if l.take 4 = [110, 111, 110, 101] then some (.non, 4)
  else match l with
    | 34 :: r => (rawStr r).map fun x => (.str ⟨x.1.toArray⟩, x.2 + 1)
    | l => rawInt l
/-- closes what closes here: the top one, those below it, what is left -/
def beh : List Dt → List (List Dt) → List Nat → List Dt × List (List Dt) × List Nat
  | T, S :: rest, 41 :: l => beh (S ++ [.tup T]) rest l
  | T, rest, l => (T, rest, l)
mutual
def loopF : Nat → List Dt → List (List Dt) → List Nat → Option (Dt × List Nat)
  | 0, _, _, _ => none
  | f + 1, T, rest, l => if 60 < rest.length + 1 then none else match l with
    | 40 :: l' => if l'.head? = some 41 then aftF f (beh [] (T :: rest) l') else loopF f [] (T :: rest) l'
    | l => match rawPlain l with
      | none => none
      | some (d, n) => aftF f (beh (T ++ [d]) rest (l.drop n))
def aftF : Nat → List Dt × List (List Dt) × List Nat → Option (Dt × List Nat)
  | _, (T, [], l) => T.head?.map fun d => (d, l)
  | 0, (_, _ :: _, _) => none
  | f + 1, (T, S :: rest, l) => match l with
    | 32 :: l' => loopF f T (S :: rest) l'
    | _ => none
end
theorem beh_close (T S : List Dt) (rest : List (List Dt)) (l : List Nat) : beh T (S :: rest) (41 :: l) = beh (S ++ [.tup T]) rest l := by rw [beh]
theorem beh_stay {T : List Dt} {rest : List (List Dt)} {l : List Nat} (h : rest = [] ∨ l.head? ≠ some 41) : beh T rest l = (T, rest, l) := by
  rw [beh]
  intro S r l' h1 h2
  subst h1 h2
  rcases h with h | h
  · cases h
  · exact h rfl
theorem valOf_int (i : Int) (post : List Nat) (hp : ∀ c, post.head? = some c → isDig c = false) : intPart (intL i ++ post) = (if i < 0 then [45] else [], TL.numL i.natAbs) ∧ valOf (if i < 0 then [45] else [], TL.numL i.natAbs) = i := by
  have tw : ∀ n : Nat, (TL.numL n ++ post).takeWhile isDig = TL.numL n := fun n => by
    have ad : ∀ c ∈ TL.numL n, isDig c = true := fun c hc => by
      have := TL.numL_digits n c hc
      simp [isDig, this.1, this.2]
    rw [List.takeWhile_append_of_pos ad]
    cases post with
    | nil => simp
    | cons c r => rw [List.takeWhile_cons, hp c rfl]; simp
  by_cases h : i < 0
  · rw [if_pos h]
    constructor
    · unfold intL
      rw [if_pos h]
      show (([45] : List Nat), (TL.numL i.natAbs ++ post).takeWhile isDig) = _
      rw [tw]
    · unfold valOf
      rw [if_neg (by simp), TL.numL_val]
      omega
  · rw [if_neg h]
    constructor
    · unfold intL
      rw [if_neg h]
      have hne := TL.numL_ne i.natAbs
      unfold intPart
      split
      · rename_i r e
        cases hn : TL.numL i.natAbs with
        | nil => exact absurd hn hne
        | cons c cs =>
          rw [hn] at e
          have hc := TL.numL_digits i.natAbs c (by rw [hn]; exact List.mem_cons_self)
          simp only [List.cons_append, List.cons.injEq] at e
          have := hc.1
          omega
      · rw [tw]
    · unfold valOf
      rw [if_pos rfl, TL.numL_val]
      omega
theorem rawInt_ok {i : Int} {post : List Nat} (h : plainT (.int i) = true) (hp : ∀ c, post.head? = some c → isDig c = false) : rawInt (intL i ++ post) = some (.int i, (intL i).length) := by
  obtain ⟨e1, e2⟩ := valOf_int i post hp
  have h' : (decide (-(10 ^ 40 : Int) < i) && decide (i < 10 ^ 40)) = true := h
  rw [Bool.and_eq_true] at h'
  have h1 := of_decide_eq_true h'.1
  have h2 := of_decide_eq_true h'.2
  have hl : (TL.numL i.natAbs).length ≤ 40 := TL.numL_len (by decide) (by omega)
  have hl1 : 1 ≤ (TL.numL i.natAbs).length := by
    have := TL.numL_ne i.natAbs
    cases hn : TL.numL i.natAbs with
    | nil => exact absurd hn this
    | cons c cs => simp
  have e3 : intL i = (if i < 0 then [45] else []) ++ TL.numL i.natAbs := by
    unfold intL
    split <;> rfl
  unfold rawInt
  simp only
  rw [e1, e2, if_pos ⟨hl1, hl⟩, if_pos e3, e3, List.length_append]
theorem rawStr_ok (post : List Nat) : ∀ s : List Nat, s.all signOk = true → rawStr (escL s ++ 34 :: post) = some (s, (escL s).length + 1)
  | [], _ => by
    show rawStr (34 :: post) = _
    rw [rawStr.eq_def]
    simp only [if_true]
    rfl
  | c :: s, h => by
    rw [List.all_cons, Bool.and_eq_true] at h
    have ih := rawStr_ok post s h.2
    rw [escL_cons]
    by_cases hc : c = 34 ∨ c = 92
    · rw [if_pos hc]
      show rawStr (92 :: c :: (escL s ++ 34 :: post)) = _
      rw [rawStr.eq_def]
      simp only [show ¬ (92 : Nat) = 34 by decide, if_false, if_true]
      rw [if_pos hc, ih]
      simp
    · rw [if_neg hc]
      show rawStr (c :: (escL s ++ 34 :: post)) = _
      rw [rawStr.eq_def]
      simp only [show ¬ c = 34 from fun z => hc (.inl z), show ¬ c = 92 from fun z => hc (.inr z), if_false]
      rw [if_pos h.1, ih]
      simp
theorem head_tx : ∀ d : Dt, okAt 1 d = true ∨ (∃ k, okAt k d = true) → ∃ c r, tx d = c :: r ∧ c ≠ 41 ∧ c ≠ 32 := by
  intro d h
  have h : ∃ k, okAt k d = true := h.elim (fun z => ⟨1, z⟩) id
  cases d with
  | non => exact ⟨110, _, by rw [tx], by decide, by decide⟩
  | int i =>
    rw [tx]
    unfold intL
    split
    · exact ⟨45, _, rfl, by decide, by decide⟩
    · cases hn : TL.numL i.natAbs with
      | nil => exact absurd hn (TL.numL_ne _)
      | cons c cs =>
        have hc := TL.numL_digits i.natAbs c (by rw [hn]; exact List.mem_cons_self)
        exact ⟨c, cs, rfl, by omega, by omega⟩
  | str s => exact ⟨34, _, by rw [tx], by decide, by decide⟩
  | tup l => exact ⟨40, _, by rw [tx], by decide, by decide⟩
  | bl b => obtain ⟨k, h⟩ := h; rw [okAt] at h; cases h
  | oth => obtain ⟨k, h⟩ := h; rw [okAt] at h; cases h
/-- a plain thing's text is read back -/
theorem rawPlain_ok {d : Dt} {post : List Nat} (h : plainT d = true) (hp : ∀ c, post.head? = some c → isDig c = false) : rawPlain (tx d ++ post) = some (d, (tx d).length) ∧ (tx d ++ post).head? ≠ some 40 := by
  cases d with
  | non =>
    rw [tx]
    exact ⟨rfl, by simp⟩
  | int i =>
    have hne : ∃ c r, intL i = c :: r ∧ (c = 45 ∨ (48 ≤ c ∧ c ≤ 57)) := by
      unfold intL
      split
      · exact ⟨45, _, rfl, .inl rfl⟩
      · cases hn : TL.numL i.natAbs with
        | nil => exact absurd hn (TL.numL_ne _)
        | cons c cs =>
          have hc := TL.numL_digits i.natAbs c (by rw [hn]; exact List.mem_cons_self)
          exact ⟨c, cs, rfl, .inr ⟨hc.1, hc.2⟩⟩
    obtain ⟨c, r, e, hc⟩ := hne
    rw [tx]
    constructor
    · have hr := rawInt_ok h hp
      unfold rawPlain
      rw [if_neg ?_]
      · split
        · rename_i r' e'
          rw [e] at e'
          simp only [List.cons_append, List.cons.injEq] at e'
          omega
        · exact hr
      · rw [e]
        simp only [List.cons_append, List.take_succ_cons, List.cons.injEq]
        intro z
        omega
    · rw [e]
      simp only [List.cons_append, List.head?_cons, ne_eq, Option.some.injEq]
      omega
  | str s =>
    rw [tx]
    have hr := rawStr_ok post s.cps.toList h
    constructor
    · unfold rawPlain
      rw [if_neg (by simp)]
      show (rawStr ((escL s.cps.toList ++ [34]) ++ post)).map _ = _
      rw [List.append_assoc]
      show (rawStr (escL s.cps.toList ++ 34 :: post)).map _ = _
      rw [hr]
      simp
    · simp
  | _ => exact nomatch h
theorem tx_pos {d : Dt} {k : Nat} (h : okAt k d = true) : 1 ≤ (tx d).length := by
  obtain ⟨c, r, e, _⟩ := head_tx d (.inr ⟨k, h⟩)
  rw [e]
  simp
theorem loopF_plain {f : Nat} {T : List Dt} {rest : List (List Dt)} {l : List Nat} {d : Dt} {n : Nat} (h : ¬ 60 < rest.length + 1) (h40 : l.head? ≠ some 40) (hp : rawPlain l = some (d, n)) : loopF (f + 1) T rest l = aftF f (beh (T ++ [d]) rest (l.drop n)) := by
  rw [loopF.eq_def]
  simp only [if_neg h]
  cases l with
  | nil => simp only [hp]
  | cons c r =>
    have hc : c ≠ 40 := fun z => h40 (by rw [z]; rfl)
    split
    · rename_i l' e
      cases e
      exact absurd rfl hc
    · simp only [hp]
theorem loopF_open {f : Nat} {T : List Dt} {rest : List (List Dt)} {l : List Nat} (h : ¬ 60 < rest.length + 1) : loopF (f + 1) T rest (40 :: l) = if l.head? = some 41 then aftF f (beh [] (T :: rest) l) else loopF f [] (T :: rest) l := by
  rw [loopF.eq_def]
  simp only [if_neg h]
theorem aftF_more {f : Nat} {T S : List Dt} {rest : List (List Dt)} {l : List Nat} : aftF (f + 1) (T, S :: rest, 32 :: l) = loopF f T (S :: rest) l := by
  rw [aftF.eq_def]
  rfl
mutual
theorem loop_ok : ∀ (d : Dt) (T : List Dt) (rest : List (List Dt)) (post : List Nat) (f : Nat), okAt (rest.length + 1) d = true → (∀ c, post.head? = some c → isDig c = false) → (tx d).length + post.length < f →
    ∃ f', post.length < f' ∧ loopF f T rest (tx d ++ post) = aftF f' (beh (T ++ [d]) rest post)
  | .tup l, T, rest, post, f, h, hp, hf => by
    rw [okAt, Bool.and_eq_true] at h
    have hd := of_decide_eq_true h.1
    obtain ⟨f, rfl⟩ : ∃ g, f = g + 1 := ⟨f - 1, by omega⟩
    rw [tx] at hf ⊢
    rw [List.length_cons, List.length_append, List.length_singleton] at hf
    show ∃ f', post.length < f' ∧ loopF (f + 1) T rest (40 :: ((txs l ++ [41]) ++ post)) = _
    rw [loopF_open (by omega), List.append_assoc]
    cases l with
    | nil =>
      rw [txs]
      refine ⟨f, by omega, ?_⟩
      show (if (41 :: post).head? = some 41 then aftF f (beh [] (T :: rest) (41 :: post)) else _) = _
      rw [if_pos (show (41 :: post).head? = some 41 from rfl), beh_close]
    | cons x xs =>
      rw [okAll, Bool.and_eq_true] at h
      rw [txs] at hf ⊢
      rw [List.length_append] at hf
      rw [List.append_assoc]
      obtain ⟨c, r, e, hc, _⟩ := head_tx x (.inr ⟨_, h.2.1⟩)
      rw [if_neg (by rw [e]; simp [hc])]
      have hpost : ∀ c, (txr xs ++ ([41] ++ post)).head? = some c → isDig c = false := fun c hc => by
        cases xs with
        | nil =>
          rw [txr] at hc
          simp at hc
          subst hc
          decide
        | cons y ys =>
          rw [txr] at hc
          simp at hc
          subst hc
          decide
      have hlen : (txr xs ++ ([41] ++ post)).length = (txr xs).length + (1 + post.length) := by simp; omega
      obtain ⟨f1, h1, e1⟩ := loop_ok x [] (T :: rest) (txr xs ++ ([41] ++ post)) f h.2.1 hpost (by rw [hlen]; omega)
      rw [hlen] at h1
      obtain ⟨f2, h2, e2⟩ := aft_ok xs [x] T rest post f1 h.2.2 hp (by omega)
      exact ⟨f2, h2, e1.trans e2⟩
  | .non, T, rest, post, f, h, hp, hf => by
    obtain ⟨f, rfl⟩ : ∃ g, f = g + 1 := ⟨f - 1, by omega⟩
    have hk : rest.length + 1 ≤ 60 := Nat.le_of_not_lt fun z => by rw [okAt_deep z] at h; cases h
    rw [okAt_plain (d := .non) hk (fun _ z => nomatch z)] at h
    obtain ⟨h1, h2⟩ := rawPlain_ok h hp
    refine ⟨f, ?_, ?_⟩
    · rw [tx] at hf; simp at hf; omega
    · rw [loopF_plain (by omega) h2 h1, List.drop_left]
  | .int i, T, rest, post, f, h, hp, hf => by
    obtain ⟨f, rfl⟩ : ∃ g, f = g + 1 := ⟨f - 1, by omega⟩
    have hpos := tx_pos h
    have hk : rest.length + 1 ≤ 60 := Nat.le_of_not_lt fun z => by rw [okAt_deep z] at h; cases h
    rw [okAt_plain (d := .int i) hk (fun _ z => nomatch z)] at h
    obtain ⟨h1, h2⟩ := rawPlain_ok h hp
    exact ⟨f, by omega, by rw [loopF_plain (by omega) h2 h1, List.drop_left]⟩
  | .str s, T, rest, post, f, h, hp, hf => by
    obtain ⟨f, rfl⟩ : ∃ g, f = g + 1 := ⟨f - 1, by omega⟩
    have hpos := tx_pos h
    have hk : rest.length + 1 ≤ 60 := Nat.le_of_not_lt fun z => by rw [okAt_deep z] at h; cases h
    rw [okAt_plain (d := .str s) hk (fun _ z => nomatch z)] at h
    obtain ⟨h1, h2⟩ := rawPlain_ok h hp
    exact ⟨f, by omega, by rw [loopF_plain (by omega) h2 h1, List.drop_left]⟩
  | .bl _, _, _, _, _, h, _, _ => by rw [okAt] at h; cases h
  | .oth, _, _, _, _, h, _, _ => by rw [okAt] at h; cases h
theorem aft_ok : ∀ (xs : List Dt) (U S : List Dt) (rest : List (List Dt)) (post : List Nat) (f : Nat), okAll (rest.length + 2) xs = true → (∀ c, post.head? = some c → isDig c = false) → (txr xs).length + 1 + post.length < f →
    ∃ f', post.length < f' ∧ aftF f (beh U (S :: rest) (txr xs ++ ([41] ++ post))) = aftF f' (beh (S ++ [.tup (U ++ xs)]) rest post)
  | [], U, S, rest, post, f, _, _, hf => by
    rw [txr, List.append_nil]
    rw [txr] at hf
    refine ⟨f, by simp at hf; omega, ?_⟩
    show aftF f (beh U (S :: rest) (41 :: post)) = _
    rw [beh_close]
  | x :: xs, U, S, rest, post, f, h, hp, hf => by
    rw [okAll, Bool.and_eq_true] at h
    rw [txr] at hf ⊢
    rw [List.length_cons, List.length_append] at hf
    obtain ⟨f, rfl⟩ : ∃ g, f = g + 1 := ⟨f - 1, by omega⟩
    show ∃ f', post.length < f' ∧ aftF (f + 1) (beh U (S :: rest) (32 :: ((tx x ++ txr xs) ++ ([41] ++ post)))) = _
    rw [beh_stay (.inr (by simp)), aftF_more, List.append_assoc]
    have hpost : ∀ c, (txr xs ++ ([41] ++ post)).head? = some c → isDig c = false := fun c hc => by
      cases xs with
      | nil =>
        rw [txr] at hc
        simp at hc
        subst hc
        decide
      | cons y ys =>
        rw [txr] at hc
        simp at hc
        subst hc
        decide
    have hlen : (txr xs ++ ([41] ++ post)).length = (txr xs).length + (1 + post.length) := by simp; omega
    obtain ⟨f1, h1, e1⟩ := loop_ok x U (S :: rest) (txr xs ++ ([41] ++ post)) f h.1 hpost (by rw [hlen]; omega)
    rw [hlen] at h1
    obtain ⟨f2, h2, e2⟩ := aft_ok xs (U ++ [x]) S rest post f1 h.2 hp (by omega)
    refine ⟨f2, h2, e1.trans (e2.trans ?_)⟩
    rw [List.append_assoc]
    rfl
end
/-- what a text is read as -/
def readF (l : List Nat) : Option (Dt × List Nat) := loopF (l.length + 1) [] [] l
theorem read_tx {d : Dt} (h : okAt 1 d = true) : readF (tx d) = some (d, []) := by
  obtain ⟨f, _, e⟩ := loop_ok d [] [] [] ((tx d).length + 1) h (fun _ z => nomatch z) (by simp)
  rw [List.append_nil] at e
  unfold readF
  rw [e, beh_stay (.inl rfl), aftF.eq_def]
  rfl
/-! ### what repr shows of a thing -/
def repE (q : Nat) (l : List Nat) : List Nat := l.flatMap fun c => if c = q ∨ c = 92 then [92, c] else [c]
def quoteL (l : List Nat) : Nat := if l.contains 39 && !l.contains 34 then 34 else 39
mutual
def shL : Dt → List Nat
  | .non => [78, 111, 110, 101]
  | .int i => intL i
  | .str s => quoteL s.cps.toList :: (repE (quoteL s.cps.toList) s.cps.toList ++ [quoteL s.cps.toList])
  | .tup l => 40 :: (shs l ++ (if l.length = 1 then [44, 41] else [41]))
  | .bl _ => []
  | .oth => []
def shs : List Dt → List Nat
  | [] => []
  | d :: l => shL d ++ shr l
def shr : List Dt → List Nat
  | [] => []
  | d :: l => 44 :: 32 :: (shL d ++ shr l)
end
mutual
def toPy : Dt → PyData
  | .non => .none
  | .int i => .int i
  | .str s => .str s
  | .tup l => .tuple (toPys l)
  | .bl b => .bool b
  | .oth => .none
def toPys : List Dt → List PyData
  | [] => []
  | d :: l => toPy d :: toPys l
end
mutual
/-- built of none, integers, texts, tuples -/
def plainD : Dt → Bool
  | .non => true
  | .int i => plainT (.int i)
  | .str s => plainT (.str s)
  | .tup l => plainDs l
  | .bl _ => false
  | .oth => false
def plainDs : List Dt → Bool
  | [] => true
  | d :: l => plainD d && plainDs l
end
def kindC (c : Nat) : Nat := if c = 78 then 0 else if c = 45 ∨ (48 ≤ c ∧ c ≤ 57) then 1 else if c = 34 ∨ c = 39 then 2 else if c = 40 then 3 else 4
def kindD : Dt → Nat
  | .non => 0
  | .int _ => 1
  | .str _ => 2
  | .tup _ => 3
  | _ => 5
theorem quote_or (l : List Nat) : quoteL l = 34 ∨ quoteL l = 39 := by
  unfold quoteL
  split <;> simp
theorem head_sh : ∀ d : Dt, plainD d = true → ∃ c r, shL d = c :: r ∧ kindC c = kindD d
  | .non, _ => ⟨78, _, by rw [shL], rfl⟩
  | .int i, _ => by
    rw [shL]
    unfold intL
    split
    · exact ⟨45, _, rfl, rfl⟩
    · cases hn : TL.numL i.natAbs with
      | nil => exact absurd hn (TL.numL_ne _)
      | cons c cs =>
        have hc := TL.numL_digits i.natAbs c (by rw [hn]; exact List.mem_cons_self)
        refine ⟨c, cs, rfl, ?_⟩
        unfold kindC
        rw [if_neg (by omega), if_pos (.inr ⟨hc.1, hc.2⟩)]
        rfl
  | .str s, _ => by
    refine ⟨_, _, by rw [shL], ?_⟩
    rcases quote_or s.cps.toList with h | h <;> rw [h] <;> rfl
  | .tup l, _ => ⟨40, _, by rw [shL], rfl⟩
  | .bl b, h => by rw [plainD] at h; cases h
  | .oth, h => by rw [plainD] at h; cases h
def Sep (r : List Nat) : Prop := ∀ c, r.head? = some c → c = 44 ∨ c = 41
theorem Sep.dig {r : List Nat} (h : Sep r) : ∀ c, r.head? = some c → isDig c = false := fun c hc => by
  rcases h c hc with e | e <;> subst e <;> decide
theorem repE_inj (q : Nat) (hq : q ≠ 92) : ∀ (s s' r r' : List Nat), repE q s ++ q :: r = repE q s' ++ q :: r' → s = s' ∧ r = r'
  | [], [], r, r', h => ⟨rfl, by simpa [repE] using h⟩
  | [], c :: s', r, r', h => by
    exfalso
    unfold repE at h
    rw [List.flatMap_cons] at h
    split at h
    · simp at h
      exact hq h.1
    · rename_i hc
      simp at h
      exact hc (.inl h.1.symm)
  | c :: s, [], r, r', h => by
    exfalso
    unfold repE at h
    rw [List.flatMap_cons] at h
    split at h
    · simp at h
      exact hq h.1.symm
    · rename_i hc
      simp at h
      exact hc (.inl h.1)
  | c :: s, c' :: s', r, r', h => by
    have h0 := h
    unfold repE at h
    rw [List.flatMap_cons, List.flatMap_cons] at h
    have fin : ∀ x y : List Nat, c = c' → repE q s ++ q :: r = repE q s' ++ q :: r' → c :: s = c' :: s' ∧ r = r' := fun _ _ e z => by
      obtain ⟨a, b⟩ := repE_inj q hq s s' r r' z
      exact ⟨by rw [e, a], b⟩
    split at h <;> split at h
    · simp only [List.cons_append, List.nil_append, List.cons.injEq, true_and] at h
      exact fin [] [] h.1 h.2
    · rename_i h1 h2
      simp only [List.cons_append, List.nil_append, List.cons.injEq] at h
      exact absurd (.inr h.1.symm) h2
    · rename_i h1 h2
      simp only [List.cons_append, List.nil_append, List.cons.injEq] at h
      exact absurd (.inr h.1) h1
    · simp only [List.cons_append, List.nil_append, List.cons.injEq] at h
      exact fin [] [] h.1 h.2
theorem sep_tail (l : List Dt) (r : List Nat) : Sep (shr l ++ 41 :: r) := fun c hc => by
  cases l with
  | nil =>
    rw [shr] at hc
    simp at hc
    exact .inr hc.symm
  | cons d l =>
    rw [shr] at hc
    simp at hc
    exact .inl hc.symm
mutual
theorem sh_inj : ∀ (d d' : Dt) (r r' : List Nat), plainD d = true → plainD d' = true → Sep r → Sep r' → shL d ++ r = shL d' ++ r' → d = d' ∧ r = r'
  | d, d', r, r', h, h', s, s', e => by
    obtain ⟨c, x, e1, k1⟩ := head_sh d h
    obtain ⟨c', x', e2, k2⟩ := head_sh d' h'
    have hk : kindD d = kindD d' := by
      have e' := e
      rw [e1, e2] at e'
      simp only [List.cons_append, List.cons.injEq] at e'
      rw [← k1, ← k2, e'.1]
    match d, d', hk with
    | .non, .non, _ =>
      rw [shL] at e
      exact ⟨rfl, by simpa using e⟩
    | .int i, .int j, _ =>
      rw [shL, shL] at e
      obtain ⟨a1, a2⟩ := valOf_int i r s.dig
      obtain ⟨b1, b2⟩ := valOf_int j r' s'.dig
      rw [e, b1] at a1
      have : i = j := by rw [← a2, ← b2, a1]
      subst this
      exact ⟨rfl, List.append_cancel_left e⟩
    | .str z, .str z', _ =>
      rw [shL, shL] at e
      simp only [List.cons_append, List.append_assoc, List.nil_append, List.cons.injEq] at e
      obtain ⟨hq, e⟩ := e
      rw [← hq] at e
      have hq92 : quoteL z.cps.toList ≠ 92 := by rcases quote_or z.cps.toList with q | q <;> rw [q] <;> decide
      obtain ⟨a, b⟩ := repE_inj _ hq92 _ _ _ _ e
      refine ⟨?_, b⟩
      obtain ⟨⟨z⟩⟩ := z
      obtain ⟨⟨z'⟩⟩ := z'
      have a' : z = z' := a
      rw [a']
    | .tup l, .tup l', _ =>
      rw [shL, shL] at e
      rw [plainD] at h h'
      simp only [List.cons_append, List.append_assoc, List.cons.injEq, true_and] at e
      match l, l' with
      | [], [] =>
        rw [shs] at e
        exact ⟨rfl, by simpa using e⟩
      | [], y :: l' =>
        exfalso
        rw [plainDs, Bool.and_eq_true] at h'
        obtain ⟨c, x, e1, k1⟩ := head_sh y h'.1
        rw [shs, shs, e1] at e
        simp at e
        rw [← e.1] at k1
        cases y <;> simp [kindC, kindD] at k1
      | y :: l, [] =>
        exfalso
        rw [plainDs, Bool.and_eq_true] at h
        obtain ⟨c, x, e1, k1⟩ := head_sh y h.1
        rw [shs, shs, e1] at e
        simp at e
        rw [e.1] at k1
        cases y <;> simp [kindC, kindD] at k1
      | y :: l, y' :: l' =>
        rw [plainDs, Bool.and_eq_true] at h h'
        rw [shs, shs, List.append_assoc, List.append_assoc] at e
        have sp : ∀ (m : List Dt) (r : List Nat), Sep (shr m ++ ((if (y :: m).length = 1 then [44, 41] else [41]) ++ r)) := fun m r c hc => by
          cases m with
          | nil =>
            rw [shr] at hc
            simp at hc
            exact .inl hc.symm
          | cons a b =>
            rw [shr] at hc
            simp at hc
            exact .inl hc.symm
        obtain ⟨a1, a2⟩ := sh_inj y y' _ _ h.1 h'.1 (sp l r) (sp l' r') e
        subst a1
        match l, l' with
        | [], [] =>
          rw [shr] at a2
          exact ⟨rfl, by simpa using a2⟩
        | [], z :: l' =>
          rw [shr, shr] at a2
          simp at a2
        | z :: l, [] =>
          rw [shr, shr] at a2
          simp at a2
        | z :: l, z' :: l' =>
          rw [if_neg (by simp), if_neg (by simp)] at a2
          obtain ⟨b1, b2⟩ := shr_inj (z :: l) (z' :: l') r r' h.2 h'.2 a2
          exact ⟨by rw [b1], b2⟩
theorem shr_inj : ∀ (l l' : List Dt) (r r' : List Nat), plainDs l = true → plainDs l' = true → shr l ++ ([41] ++ r) = shr l' ++ ([41] ++ r') → l = l' ∧ r = r'
  | [], [], r, r', _, _, e => by
    rw [shr] at e
    exact ⟨rfl, by simpa using e⟩
  | [], _ :: _, r, r', _, _, e => by
    rw [shr, shr] at e
    simp at e
  | _ :: _, [], r, r', _, _, e => by
    rw [shr, shr] at e
    simp at e
  | y :: l, y' :: l', r, r', h, h', e => by
    rw [plainDs, Bool.and_eq_true] at h h'
    rw [shr, shr] at e
    simp only [List.cons_append, List.append_assoc, List.cons.injEq, true_and] at e
    obtain ⟨a1, a2⟩ := sh_inj y y' _ _ h.1 h'.1 (sep_tail l r) (sep_tail l' r') e
    obtain ⟨b1, b2⟩ := shr_inj l l' r r' h.2 h'.2 a2
    exact ⟨by rw [a1, b1], b2⟩
end
theorem shL_inj {d d' : Dt} (h : plainD d = true) (h' : plainD d' = true) (e : shL d = shL d') : d = d' :=
  (sh_inj d d' [] [] h h' (fun _ z => nomatch z) (fun _ z => nomatch z) (by rw [e])).1
section Opt
open PySem PySem.Spec PyProof PyProof.Rows L2
theorem tl_int (i : Int) : (Str.ofString (toString i)).cps.toList = intL i := by
  unfold intL
  by_cases h : i < 0
  · rw [if_pos h, PyProof.Rows.toString_neg h]
    obtain ⟨n, hn⟩ : ∃ n : Nat, 0 - i = (n : Int) := ⟨(0 - i).toNat, by omega⟩
    have e : i.natAbs = n := by omega
    rw [hn, e, ← TL.tl_num n]
    show (Str.ofString ("-" ++ toString (n : Int))).cps.toList = 45 :: (Str.ofString (toString (n : Int))).cps.toList
    rw [Str.ofString_eq_toList, Str.ofString_eq_toList, String.toList_append, List.map_append]
    rfl
  · rw [if_neg h]
    obtain ⟨n, rfl⟩ : ∃ n : Nat, i = (n : Int) := ⟨i.toNat, by omega⟩
    exact TL.tl_num n
theorem lenT (s : Str) : s.length = s.cps.toList.length := (Array.length_toList).symm
/-! ### repr of a good thing -/
theorem okAt_plainD : ∀ (k : Nat) (d : Dt), okAt k d = true → plainD d = true
  | _, .non, _ => by rw [plainD]
  | k, .int i, h => by rw [okAt, Bool.and_eq_true] at h; rw [plainD]; exact h.2
  | k, .str i, h => by rw [okAt, Bool.and_eq_true] at h; rw [plainD]; exact h.2
  | k, .tup l, h => by
    rw [okAt, Bool.and_eq_true] at h
    rw [plainD]
    exact okAlls (k + 1) l h.2
  | _, .bl _, h => by rw [okAt] at h; cases h
  | _, .oth, h => by rw [okAt] at h; cases h
where okAlls : ∀ (k : Nat) (l : List Dt), okAll k l = true → plainDs l = true
  | _, [], _ => by rw [plainDs]
  | k, d :: l, h => by
    rw [okAll, Bool.and_eq_true] at h
    rw [plainDs, okAt_plainD k d h.1, okAlls k l h.2]
    rfl
theorem printable {c : Nat} (h : signOk c = true) : Unicode.isPrintable c = true := by
  have h' : (decide (32 ≤ c) && decide (c ≤ 126)) = true := h
  rw [Bool.and_eq_true] at h'
  exact (by decide +kernel : ∀ c, c < 127 → 32 ≤ c → Unicode.isPrintable c = true) c (by have := of_decide_eq_true h'.2; omega) (of_decide_eq_true h'.1)
theorem repr_char {q c : Nat} (h : signOk c = true) : Builtin.Str.reprChar q c = if c = q ∨ c = 92 then [92, c] else [c] := by
  have h' : (decide (32 ≤ c) && decide (c ≤ 126)) = true := h
  rw [Bool.and_eq_true] at h'
  have h1 := of_decide_eq_true h'.1
  have p := printable h
  unfold Builtin.Str.reprChar
  by_cases c1 : c = q ∨ c = 92
  · rw [if_pos c1]
    rcases c1 with e | e <;> simp [e]
  · rw [if_neg c1]
    have c2 : ¬ c = q := fun z => c1 (.inl z)
    have c3 : ¬ c = 92 := fun z => c1 (.inr z)
    simp [c2, c3, p, show ¬ c = 10 by omega, show ¬ c = 13 by omega, show ¬ c = 9 by omega]
theorem fold_repr (f : Nat → List Nat) : ∀ (l : List Nat) (acc : Array Nat), (l.foldl (fun out c => out ++ (f c).toArray) acc).toList = acc.toList ++ l.flatMap f
  | [], acc => by simp
  | c :: l, acc => by
    rw [List.foldl_cons, fold_repr f l]
    simp
theorem repr_text {s : Str} (h : s.cps.toList.all signOk = true) : (reprText s).cps.toList = shL (.str s) := by
  have hq : reprQuote s = quoteL s.cps.toList := by
    unfold reprQuote quoteL
    simp
  rw [shL]
  unfold reprText
  show (Array.push _ _).toList = _
  rw [Array.toList_push, hq, ← Array.foldl_toList, fold_repr]
  unfold repE
  have e : s.cps.toList.flatMap (Builtin.Str.reprChar (quoteL s.cps.toList)) = s.cps.toList.flatMap (fun c => if c = quoteL s.cps.toList ∨ c = 92 then [92, c] else [c]) := by
    generalize quoteL s.cps.toList = q
    generalize s.cps.toList = l at h
    induction l with
    | nil => rfl
    | cons c l ih =>
      rw [List.all_cons, Bool.and_eq_true] at h
      rw [List.flatMap_cons, List.flatMap_cons, ih h.2, repr_char h.1]
  rw [e]
  simp
theorem join_sh : ∀ l : List Dt, TL.joinL [44, 32] (l.map shL) = shs l
  | [] => by rw [shs]; rfl
  | d :: l => by
    rw [shs]
    induction l generalizing d with
    | nil => rw [shr]; simp [TL.joinL]
    | cons e l ih =>
      rw [List.map_cons, List.map_cons, TL.joinL, shr]
      have := ih e
      rw [List.map_cons] at this
      rw [this]
      rfl
mutual
theorem shown_eq : ∀ d : Dt, plainD d = true → TL.tl (toPy d).shown = shL d
  | .non, _ => by rw [toPy, PyData.shown, shL]; decide +kernel
  | .int i, _ => by rw [toPy, PyData.shown, shL]; exact tl_int i
  | .str s, h => by rw [toPy, PyData.shown]; rw [plainD] at h; exact repr_text h
  | .tup l, h => by
    rw [plainD] at h
    rw [toPy, PyData.shown, shL]
    have hl := shown_eqs l h
    have hlen : (PyData.shownAll (toPys l)).length = l.length := by
      have := congrArg List.length hl
      rw [List.length_map, List.length_map] at this
      exact this
    unfold tupleText
    rw [TL.tl_append, TL.tl_append, TL.tl_join, hl, hlen]
    rw [show TL.tl ("(" : Str) = [40] by decide +kernel, show TL.tl (", " : Str) = [44, 32] by decide +kernel, join_sh]
    by_cases c : l.length = 1
    · rw [if_pos (by simpa using c), if_pos c]
      simp [TL.tl_ofString]
    · rw [if_neg (by simpa using c), if_neg c]
      simp [TL.tl_ofString]
  | .bl b, h => by rw [plainD] at h; cases h
  | .oth, h => by rw [plainD] at h; cases h
theorem shown_eqs : ∀ l : List Dt, plainDs l = true → (PyData.shownAll (toPys l)).map TL.tl = l.map shL
  | [], _ => by rw [toPys, PyData.shownAll]; rfl
  | d :: l, h => by
    rw [plainDs, Bool.and_eq_true] at h
    rw [toPys, PyData.shownAll, List.map_cons, List.map_cons, shown_eq d h.1, shown_eqs l h.2]
end
theorem int_small {i : Int} (h : plainT (.int i) = true) : i.natAbs.log2 < 1920 := by
  have h' : (decide (-(10 ^ 40) < i) && decide (i < 10 ^ 40)) = true := h
  rw [Bool.and_eq_true] at h'
  have h1 := of_decide_eq_true h'.1
  have h2 := of_decide_eq_true h'.2
  have h3 : i.natAbs < 2 ^ 1920 := Nat.lt_of_lt_of_le (show i.natAbs < 10 ^ 40 by omega) (by decide +kernel)
  by_cases z : i.natAbs = 0
  · rw [z]; decide
  · exact (Nat.log2_lt z).mpr h3
mutual
theorem showable_of : ∀ d : Dt, plainD d = true → (toPy d).showable = true ∧ (toPy d).hasDict = false
  | .non, _ => by rw [toPy]; exact ⟨rfl, rfl⟩
  | .int i, h => by rw [plainD] at h; rw [toPy]; exact ⟨by rw [PyData.showable]; exact decide_eq_true (int_small h), rfl⟩
  | .str s, _ => by rw [toPy]; exact ⟨rfl, rfl⟩
  | .tup l, h => by rw [plainD] at h; rw [toPy, PyData.showable, PyData.hasDict]; exact showables_of l h
  | .bl b, h => by rw [plainD] at h; cases h
  | .oth, h => by rw [plainD] at h; cases h
theorem showables_of : ∀ l : List Dt, plainDs l = true → PyData.showableAll (toPys l) = true ∧ PyData.hasDictAll (toPys l) = false
  | [], _ => by rw [toPys]; exact ⟨rfl, rfl⟩
  | d :: l, h => by
    rw [plainDs, Bool.and_eq_true] at h
    obtain ⟨a1, a2⟩ := showable_of d h.1
    obtain ⟨b1, b2⟩ := showables_of l h.2
    rw [toPys, PyData.showableAll, PyData.hasDictAll, a1, a2, b1, b2]
    exact ⟨rfl, rfl⟩
end
mutual
theorem depth_of : ∀ (k : Nat) (d : Dt), okAt k d = true → (toPy d).depth + k ≤ 61
  | k, .non, h => by rw [okAt] at h; have := of_decide_eq_true h; rw [toPy, PyData.depth]; omega
  | k, .int i, h => by rw [okAt, Bool.and_eq_true] at h; have := of_decide_eq_true h.1; rw [toPy, PyData.depth]; omega
  | k, .str s, h => by rw [okAt, Bool.and_eq_true] at h; have := of_decide_eq_true h.1; rw [toPy, PyData.depth]; omega
  | k, .tup l, h => by
    rw [okAt, Bool.and_eq_true] at h
    have := of_decide_eq_true h.1
    have := depths_of (k + 1) l h.2
    rw [toPy, PyData.depth]
    omega
  | _, .bl b, h => by rw [okAt] at h; cases h
  | _, .oth, h => by rw [okAt] at h; cases h
theorem depths_of : ∀ (k : Nat) (l : List Dt), okAll k l = true → PyData.depthAll (toPys l) = 0 ∨ PyData.depthAll (toPys l) + k ≤ 61
  | _, [], _ => by rw [toPys]; exact .inl rfl
  | k, d :: l, h => by
    rw [okAll, Bool.and_eq_true] at h
    have h1 := depth_of k d h.1
    have h2 := depths_of k l h.2
    rw [toPys, PyData.depthAll]
    omega
end
theorem repE_len (q : Nat) : ∀ l : List Nat, (repE q l).length ≤ 2 * l.length
  | [] => Nat.le_refl _
  | c :: l => by
    have := repE_len q l
    show (List.flatMap _ (c :: l)).length ≤ _
    rw [List.flatMap_cons, List.length_append, List.length_cons]
    show _ + (repE q l).length ≤ _
    split <;> simp <;> omega
mutual
theorem sh_len : ∀ d : Dt, (shL d).length ≤ dsz d
  | .non => Nat.le_refl _
  | .int i => Nat.le_refl _
  | .str s => by
    rw [shL, dsz, List.length_cons, List.length_append, List.length_singleton]
    have h1 := repE_len (quoteL s.cps.toList) s.cps.toList
    rw [← lenT] at h1
    omega
  | .tup l => by
    rw [shL, dsz, List.length_cons, List.length_append]
    have := shs_len l
    split <;> simp <;> omega
  | .bl _ => Nat.zero_le _
  | .oth => Nat.zero_le _
theorem shs_len : ∀ l : List Dt, (shs l).length ≤ dszs l
  | [] => Nat.le_refl _
  | d :: l => by
    rw [shs, dszs, List.length_append]
    have h1 := sh_len d
    have h2 := shr_len l
    omega
theorem shr_len : ∀ l : List Dt, (shr l).length ≤ dszs l
  | [] => Nat.le_refl _
  | d :: l => by
    rw [shr, dszs, List.length_cons, List.length_cons, List.length_append]
    have h1 := sh_len d
    have h2 := shr_len l
    omega
end
mutual
theorem dp_of {K : PySem.W.Frag} {H : Hp} : ∀ (d : Dt) (x : V), plainD d = true → Rep K H x d → Dp K H x (toPy d)
  | .non, _, _, r => by cases r; rw [toPy]; exact .non
  | .int i, _, _, r => by cases r; rw [toPy]; exact .int _
  | .str s, _, _, r => by cases r; rw [toPy]; exact .str _
  | .tup l, _, h, r => by
    rw [plainD] at h
    cases r with
    | tup a b =>
      rw [toPy]
      exact .tup a (dps_of l _ h b)
  | .bl b, _, h, _ => by rw [plainD] at h; cases h
  | .oth, _, h, _ => by rw [plainD] at h; cases h
theorem dps_of {K : PySem.W.Frag} {H : Hp} : ∀ (l : List Dt) (xs : List V), plainDs l = true → RepL K H xs l → DpAll K H xs (toPys l)
  | [], _, _, r => by cases r; rw [toPys]; exact .nil
  | d :: l, _, h, r => by
    rw [plainDs, Bool.and_eq_true] at h
    cases r with
    | cons a b =>
      rw [toPys]
      exact .cons (dp_of d _ h.1 a) (dps_of l _ h.2 b)
end
/-- repr of a good thing -/
def rReprP (K : PySem.W.Frag) : List V → Hp → VK → Prop := fun xs H Q => ∃ x d, (xs = [x] ∧ Rep K H x d ∧ okAt 1 d = true ∧ dsz d ≤ 400000) ∧ ∀ z : Str, z.cps.toList = shL d → Q (.str z) H
theorem cReprP {X : Cx} {K : PySem.W.Frag} {k : Nat} (h : X.K = K) (hg : X.A.guards = some []) (hr : Room k X.A) : CallR X (.builtin "repr") (rReprP K) := by
  subst h
  intro pins s σ H xs us Q I r h
  obtain ⟨x, d, ⟨rfl, rx, hok, hz⟩, q⟩ := h
  obtain ⟨u, rfl, rv⟩ := vals1 r
  have hp := okAt_plainD 1 d hok
  have hd := dp_of d x hp rx
  have sh := shown_eq d hp
  have hl := sh_len d
  cases rx with
  | non =>
    obtain rfl : u = Value.none := rv
    exact PySem.P.repr_of_none ⟨.str _, H, I.tok _, ⟨_, rfl⟩, q _ (by rw [← sh, toPy, PyData.shown])⟩
  | int i =>
    obtain ⟨t, rfl⟩ := rv
    rw [plainD] at hp
    exact PySem.P.repr_of_int (int_small hp) ⟨.str _, H, I.tok _, ⟨_, rfl⟩, q _ (by rw [← sh, toPy, PyData.shown])⟩
  | str s hs =>
    obtain ⟨t, rfl⟩ := rv
    have e : (reprText s).cps.toList = shL (.str s) := by rw [← sh, toPy, PyData.shown]
    have hz : (reprText s).length ≤ sizeLine := by rw [lenT, e]; show _ ≤ 16777216; omega
    exact PySem.P.repr_of_str ⟨.str _, H, I.tok _, ⟨_, rfl⟩, q _ e⟩ hz
  | tup h1 h2 =>
    rename_i a xs l
    obtain ⟨as, rd⟩ := Dp.reads I (toPy (.tup l)) _ _ hd rv
    obtain rfl : u = .ref a := rv
    obtain ⟨s1, s2⟩ := showable_of _ hp
    have hdp := depth_of 1 _ hok
    have hu := hr.un
    have hz : (toPy (.tup l)).shown.length ≤ sizeLine := by
      rw [lenT]
      show (TL.tl _).length ≤ 16777216
      rw [sh]
      omega
    exact repr_of_reads' rd s1 (PyData.noDict_hsm s2) hg (by omega) (fun _ _ e => e) (fun h' u tk hk => ⟨.str _, H, I.kept hk, ⟨_, rfl⟩, q _ sh⟩) hz
  | bl b => rw [plainD] at hp; cases hp
  | oth _ => rw [plainD] at hp; cases hp
end Opt
section Opg
open PySem PySem.Spec PyProof PyProof.Rows L2
/-! ### worths, and what is known of their texts -/
theorem plainW_T {d : Dt} (h : plainW d = true) : plainT d = true := by
  cases d with
  | non => rfl
  | int i =>
    have h' : (decide (-(10 ^ 30 : Int) ≤ i) && decide (i ≤ 10 ^ 30)) = true := h
    rw [Bool.and_eq_true] at h'
    have h1 := of_decide_eq_true h'.1
    have h2 := of_decide_eq_true h'.2
    show (decide (-(10 ^ 40 : Int) < i) && decide (i < 10 ^ 40)) = true
    rw [Bool.and_eq_true]
    exact ⟨decide_eq_true (by omega), decide_eq_true (by omega)⟩
  | str s =>
    have h' : (decide (s.length ≤ 40) && s.cps.toList.all signOk) = true := h
    rw [Bool.and_eq_true] at h'
    exact h'.2
  | bl b => cases h
  | tup l => cases h
  | oth => cases h
mutual
theorem pw_plain : ∀ d : Dt, pw d = true → plainD d = true
  | .non, _ => by rw [plainD]
  | .int i, h => by rw [plainD]; rw [pw] at h; exact plainW_T h
  | .str s, h => by rw [plainD]; rw [pw] at h; exact plainW_T h
  | .tup l, h => by rw [pw, Bool.and_eq_true] at h; rw [plainD]; exact pws_plain l h.2
  | .bl _, h => by simp [pw] at h
  | .oth, h => by simp [pw] at h
theorem pws_plain : ∀ l : List Dt, pws l = true → plainDs l = true
  | [], _ => by rw [plainDs]
  | d :: l, h => by rw [pws, Bool.and_eq_true] at h; rw [plainDs, pw_plain d h.1, pws_plain l h.2]; rfl
end
mutual
theorem pw_ok : ∀ (d : Dt) (k : Nat), pw d = true → dep d + k ≤ 61 → okAt k d = true
  | .non, k, _, h => by rw [okAt]; rw [dep_leaf (d := .non) (fun _ z => nomatch z)] at h; exact decide_eq_true (by omega)
  | .int i, k, hp, h => by rw [okAt, Bool.and_eq_true]; rw [dep_leaf (d := .int i) (fun _ z => nomatch z)] at h; rw [pw] at hp; exact ⟨decide_eq_true (by omega), plainW_T hp⟩
  | .str i, k, hp, h => by rw [okAt, Bool.and_eq_true]; rw [dep_leaf (d := .str i) (fun _ z => nomatch z)] at h; rw [pw] at hp; exact ⟨decide_eq_true (by omega), plainW_T hp⟩
  | .tup l, k, hp, h => by
    rw [okAt, Bool.and_eq_true]
    rw [dep] at h
    rw [pw, Bool.and_eq_true] at hp
    exact ⟨decide_eq_true (by omega), pws_ok l (k + 1) hp.2 (by omega)⟩
  | .bl _, _, h, _ => by simp [pw] at h
  | .oth, _, h, _ => by simp [pw] at h
theorem pws_ok : ∀ (l : List Dt) (k : Nat), pws l = true → deps l + k ≤ 61 → okAll k l = true
  | [], k, _, _ => by rw [okAll]
  | d :: l, k, hp, h => by
    rw [pws, Bool.and_eq_true] at hp
    rw [deps] at h
    rw [okAll, pw_ok d k hp.1 (by omega), pws_ok l k hp.2 (by omega)]
    rfl
end
theorem intL_60 {i : Int} (h : plainT (.int i) = true) : (intL i).length ≤ 60 := by
  have h' : (decide (-(10 ^ 40 : Int) < i) && decide (i < 10 ^ 40)) = true := h
  rw [Bool.and_eq_true] at h'
  have h1 := of_decide_eq_true h'.1
  have h2 := of_decide_eq_true h'.2
  have hl : (TL.numL i.natAbs).length ≤ 40 := TL.numL_len (by decide) (by omega)
  unfold intL
  split
  · rw [List.length_cons]; omega
  · omega
mutual
theorem pw_sz : ∀ d : Dt, pw d = true → dsz d + 2 ≤ 100 * cnt d
  | .non, _ => by rw [dsz, cnt_leaf (d := .non) (fun _ z => nomatch z)]; omega
  | .int i, h => by rw [pw] at h; have := intL_60 (plainW_T h); rw [dsz, cnt_leaf (d := .int i) (fun _ z => nomatch z)]; omega
  | .str s, h => by
    rw [pw] at h
    have h' : (decide (s.length ≤ 40) && s.cps.toList.all signOk) = true := h
    rw [Bool.and_eq_true] at h'
    have := of_decide_eq_true h'.1
    rw [dsz, cnt_leaf (d := .str s) (fun _ z => nomatch z)]
    omega
  | .tup l, h => by
    rw [pw, Bool.and_eq_true] at h
    have := pws_sz l h.2
    rw [dsz, cnt]
    omega
  | .bl _, h => by simp [pw] at h
  | .oth, h => by simp [pw] at h
theorem pws_sz : ∀ l : List Dt, pws l = true → dszs l ≤ 100 * cnts l
  | [], _ => by rw [dszs]; omega
  | d :: l, h => by
    rw [pws, Bool.and_eq_true] at h
    have h1 := pw_sz d h.1
    have h2 := pws_sz l h.2
    rw [dszs, cnts]
    omega
end
theorem worth_sz {d : Dt} (h : isWorth d = true) : dsz d ≤ 400000 := by
  have h1 := pw_sz d (worth_pw h).1
  have h2 := worth_cnt h
  omega
theorem worth_ok {d : Dt} (h : isWorth d = true) : okAt 1 d = true := pw_ok d 1 (worth_pw h).1 (by have := (worth_pw h).2; omega)
mutual
theorem py_eq : ∀ (d e : Dt), pur d = true → pur e = true → PyData.eqv (toPy d) (toPy e) = eqD d e
  | .non, e, _, he => by cases e <;> simp_all [toPy, PyData.eqv, eqD, pur]
  | .int i, e, _, he => by cases e <;> simp_all [toPy, PyData.eqv, eqD, pur, Bool.beq_eq_decide_eq]
  | .str s, e, _, he => by
    cases e with
    | str t => rw [toPy, toPy, PyData.eqv, eqD, str_beq]
    | bl b => simp [pur] at he
    | oth => simp [pur] at he
    | _ => simp [toPy, PyData.eqv, eqD]
  | .tup l, e, hd, he => by
    cases e with
    | tup m =>
      rw [pur] at hd he
      rw [toPy, toPy, PyData.eqv, eqD, pys_eq l m hd he]
    | bl b => simp [pur] at he
    | oth => simp [pur] at he
    | _ => simp [toPy, PyData.eqv, eqD]
  | .bl _, _, h, _ => by simp [pur] at h
  | .oth, _, h, _ => by simp [pur] at h
theorem pys_eq : ∀ (l m : List Dt), purs l = true → purs m = true → PyData.eqvAll (toPys l) (toPys m) = eqL l m
  | [], [], _, _ => by rw [toPys, PyData.eqvAll, eqL]
  | [], y :: m, _, _ => by simp [toPys, PyData.eqvAll, eqL]
  | x :: l, [], _, _ => by simp [toPys, PyData.eqvAll, eqL]
  | x :: l, y :: m, h, h' => by
    rw [purs, Bool.and_eq_true] at h h'
    rw [toPys, toPys, PyData.eqvAll, eqL, py_eq x y h.1 h'.1, pys_eq l m h.2 h'.2]
end
theorem sign_ok {s : Str} (h : s.cps.toList.all signOk = true) : PyData.strOk s = true := by
  obtain ⟨⟨l⟩⟩ := s
  have h' : l.all signOk = true := h
  show (l.toArray.all fun c => decide (c < 0x110000)) = true
  rw [List.all_toArray, List.all_eq_true]
  rw [List.all_eq_true] at h'
  intro c hc
  have h2 : (decide (32 ≤ c) && decide (c ≤ 126)) = true := h' c hc
  rw [Bool.and_eq_true] at h2
  have := of_decide_eq_true h2.2
  exact decide_eq_true (by omega)
mutual
theorem py_lay : ∀ d : Dt, plainD d = true → (toPy d).canLay0 = true
  | .non, _ => by rw [toPy, PyData.canLay0]
  | .int _, _ => by rw [toPy, PyData.canLay0]
  | .str s, h => by rw [toPy, PyData.canLay0]; rw [plainD] at h; exact sign_ok h
  | .tup l, h => by rw [toPy, PyData.canLay0]; rw [plainD] at h; exact pys_lay l h
  | .bl _, h => by rw [plainD] at h; cases h
  | .oth, h => by rw [plainD] at h; cases h
theorem pys_lay : ∀ l : List Dt, plainDs l = true → PyData.canLayAll0 (toPys l) = true
  | [], _ => by rw [toPys, PyData.canLayAll0]
  | d :: l, h => by
    rw [plainDs, Bool.and_eq_true] at h
    rw [toPys, PyData.canLayAll0, py_lay d h.1, pys_lay l h.2]
    rfl
end
theorem py_shaped {d : Dt} (h : okAt 1 d = true) : SeqAt.shaped (toPy d) = true := by
  have := depth_of 1 d h
  show ((toPy d).canLay0 && decide ((toPy d).depth ≤ 64)) = true
  rw [py_lay d (okAt_plainD 1 d h), decide_eq_true (by omega)]
  rfl
end Opg

def spLess (K : PySem.W.Frag) (n : Nat) : Sp := fun vs H Q _ => ∃ v u d e, (vs = [v, u] ∧ Rep K H v d ∧ Rep K H u e ∧ pw d = true ∧ pw e = true ∧ dep d ≤ n ∧ dep e ≤ n ∧ n ≤ 20) ∧ ∀ H', Ex [] H H' → Q (.bl (ltD d e)) H'
-- @SP _law_kind (spKnd K)
-- @SP _law_is_less (spLess K 8)
-- @SPR _law_is_less (spLess K)
theorem ltL_pre {l m : List Dt} : ∀ (n : Nat), l.take n = m.take n → n ≤ l.length → n ≤ m.length → purs l = true → ltL l m = ltL (l.drop n) (m.drop n)
  | 0, _, _, _, _ => rfl
  | n + 1, h, h1, h2, hp => by
    cases l with
    | nil => simp at h1
    | cons x l =>
      cases m with
      | nil => simp at h2
      | cons y m =>
        rw [List.take_succ_cons, List.take_succ_cons] at h
        injection h with h3 h4
        subst h3
        rw [purs, Bool.and_eq_true] at hp
        rw [ltL, if_pos ((eqD_iff x x hp.1 hp.1).mpr rfl), List.drop_succ_cons, List.drop_succ_cons]
        exact ltL_pre n h4 (by simpa using h1) (by simpa using h2) hp.2
theorem ltL_end : ∀ {l m : List Dt} {n : Nat}, n = min l.length m.length → ltL (l.drop n) (m.drop n) = decide (l.length < m.length) := by
  intro l m n hn
  rcases Nat.lt_or_ge l.length m.length with c | c
  · have e : n = l.length := by omega
    rw [e, List.drop_length, ltL, decide_eq_true c]
    cases h : m.drop l.length with
    | nil =>
      have := congrArg List.length h
      rw [List.length_drop] at this
      simp at this
      omega
    | cons a b => rfl
  · have e : n = m.length := by omega
    rw [e, List.drop_length, decide_eq_false (by omega)]
    cases l.drop m.length with
    | nil => rw [ltL]; rfl
    | cons a b => rw [ltL]
theorem ltD_knd {d e : Dt} (h : knd d ≠ knd e) : ltD d e = decide (knd d < knd e) := by
  cases d <;> cases e <;> simp_all [ltD, knd]
theorem deps_pos {d : Dt} {l : List Dt} (h : d ∈ l) : 1 ≤ deps l := by
  have h1 := dep_mem h
  have : 1 ≤ dep d := by cases d <;> simp [dep]
  omega
section
variable {P : Program} {w : World} {K : PySem.W.Frag} {mg : Str → Option Value} {base : Heap} {A : Ad}
theorem ok_law_kind {f : Addr} {fd : FuncData} (F : Fun K "_law_kind" "_law_kind" s_law_kind f fd) (T : Txt K mg A)  : FnOk P w K mg base CX0 1 f fd ["worth"] (spKnd K) := by
  refine F.ok sc_law_kind (fun vs H Q E h => ?_) (fun cdv Ar outer s H vs Q E hr h => ?_)
  · obtain ⟨v, d, ⟨rfl, _⟩, _⟩ := h
    rfl
  · obtain ⟨v, d, ⟨rfl, r⟩, k⟩ := h
    refine ⟨_, (pss_cons (ps_if (pt_cmpR op_isN (pv 0) pe_non (nomark _)) (pss_one (ps_ret pe_int)) pss_nil) (pss_one (ps_ret (pe_ifExp (pt_val (pe_callB (cIs (K := K) rfl) (by rfl) T.b_isinstance bt_isinstance (pa_cons (pv 0) (pa_cons (pe_bltn (v := .ty "int") (by rfl) T.b_int bt_int rfl) pa_nil)))) pe_int (pe_ifExp (pt_val (pe_callB (cIs (K := K) rfl) (by rfl) T.b_isinstance bt_isinstance (pa_cons (pv 0) (pa_cons (pe_bltn (v := .ty "str") (by rfl) T.b_str bt_str rfl) pa_nil)))) pe_int pe_int))))), ?_⟩
    walk_at "nm"
    have r0 := r
    cases r <;> walk_at "rd"
    all_goals exact k
theorem ok_law_is_less {f : Addr} {fd : FuncData} (F : Fun K "_law_is_less" "_law_is_less" s_law_is_less f fd) (T : Txt K mg A) (C_law_kind : Cl P w K mg base 1 "_law_kind" (spKnd K)) (n : Nat) (C_law_is_less : Cl P w K mg base (n + 1) "_law_is_less" (prevSp (spLess K) n)) : FnOk P w K mg base CX0 (n + 1 + 1) f fd ["one", "other"] ((spLess K) n) := by
  refine F.ok sc_law_is_less (fun vs H Q E h => ?_) (fun cdv Ar outer s H vs Q E hr h => ?_)
  · obtain ⟨v, u, d, e, ⟨rfl, _⟩, _⟩ := h
    rfl
  · obtain ⟨v, u, d, e, ⟨rfl, r, r', hp, hp', hd, hd', hn20⟩, k⟩ := h
    refine ⟨_, (pss_cons (ps_set (i := 2) sc_law_is_less.nd rfl (Or.inl rfl) (peTup (pa_cons (pe_cl C_law_kind hr (by omega) (by rfl) (pa_cons (pv 0) pa_nil)) (pa_cons (pe_cl C_law_kind hr (by omega) (by rfl) (pa_cons (pv 1) pa_nil)) pa_nil)))) (pss_cons (ps_if (pt_cmpR op_ne (pe_ix (ixG (K := K) rfl) (pv 2) pe_int (fun _ _ => rfl)) (pe_ix (ixG (K := K) rfl) (pv 2) pe_int (fun _ _ => rfl)) (nomark _)) (pss_one (ps_ret (pe_cmpR oLt (pe_ix (ixG (K := K) rfl) (pv 2) pe_int (fun _ _ => rfl)) (pe_ix (ixG (K := K) rfl) (pv 2) pe_int (fun _ _ => rfl)) (nomark _)))) pss_nil) (pss_cons (ps_if (pt_cmpR oLt (pe_ix (ixG (K := K) rfl) (pv 2) pe_int (fun _ _ => rfl)) pe_int (nomark _)) (pss_one (ps_ret (pe_and (pe_cmpR oGt (pe_ix (ixG (K := K) rfl) (pv 2) pe_int (fun _ _ => rfl)) pe_int (nomark _)) (pe_one (pe_cmpR oLt (pv 0) (pv 1) (nomark _)))))) pss_nil) (pss_cons (ps_for PassesOwn.never rfl (RZ.pi_zipA (by rfl) T.b_zip (pa_cons (pv 0) (pa_cons (pv 1) pa_nil))) (pg_tup (by rfl) (pgs_cons (pg_name (i := 3) sc_law_is_less.nd rfl (Or.inl rfl)) (pgs_cons (pg_name (i := 4) sc_law_is_less.nd rfl (Or.inl rfl)) pgs_nil))) (pss_cons (ps_if (pt_val (pe_cl C_law_is_less hr (by omega) (by rfl) (pa_cons (pv 3) (pa_cons (pv 4) pa_nil)))) (pss_one (ps_ret pe_bl)) pss_nil) (pss_one (ps_if (pt_cmpR (oNeP (K := K) rfl hr.units) (pv 3) (pv 4) (nomark _)) (pss_one (ps_ret pe_bl)) pss_nil)))) (pss_one (ps_ret (pe_cmpR oLt (pe_callB (cLen (K := K) rfl) (by rfl) T.b_len bt_len (pa_cons (pv 0) pa_nil)) (pe_callB (cLen (K := K) rfl) (by rfl) T.b_len bt_len (pa_cons (pv 1) pa_nil)) (nomark _)))))))), ?_⟩
    walk_at "nm"
    walk_at "rd"
    intro q H1 nq hq e1
    have r1 := e1.rep r
    have r1' := e1.rep r'
    have q0 : atI [V.int (knd d : Nat), V.int (knd e : Nat)] 0 = some (.int (knd d : Nat)) := rfl
    have q1 : atI [V.int (knd d : Nat), V.int (knd e : Nat)] 1 = some (.int (knd e : Nat)) := rfl
    walk_at "rd"
    refine @ite2 _ _ _ _ (fun c1 => ?_) (fun c1 => ?_)
    · have hk : knd d ≠ knd e := fun z => by rw [z] at c1; simp at c1
      walk_at "rd"
      have e5 : (decide (((knd d : Nat) : Int) < ((knd e : Nat) : Int))) = ltD d e := by
        rw [ltD_knd hk]
        exact decide_eq_decide.mpr (by omega)
      rw [e5]
      exact k _ e1
    · have hk : knd d = knd e := by
        by_cases z : knd d = knd e
        · exact z
        · refine absurd ?_ c1
          simp only [Bool.not_eq_true', decide_eq_false_iff_not]
          intro y
          injection y with y
          omega
      walk_at "rd"
      refine @ite2 _ _ _ _ (fun c2 => ?_) (fun c2 => ?_)
      · replace c2 : ((knd d : Nat) : Int) < 3 := of_decide_eq_true c2
        have pos : ∀ b, decide ((0 : Int) < ((knd b : Nat) : Int)) = decide (0 < knd b) := fun b => decide_eq_decide.mpr (by omega)
        cases r1 with
        | non =>
          cases r1' with
          | non =>
            walk_at "rd"
            have z : ltD .non .non = false := by simp [ltD, knd]
            rw [z] at k
            exact k _ e1
          | oth h => simp [pw] at hp'
          | tup h1 h2 => simp [knd] at hk
          | int i => simp [knd] at hk
          | bl i => simp [knd] at hk
          | str i hi => simp [knd] at hk
        | int i =>
          cases r1' with
          | int j =>
            rw [ltD] at k
            walk_at "rd"
            exact k _ e1
          | non => simp [knd] at hk
          | oth h => simp [pw] at hp'
          | tup h1 h2 => simp [knd] at hk
          | bl i => simp [pw] at hp'
          | str i hi => simp [knd] at hk
        | str z hz =>
          cases r1' with
          | str z' hz' =>
            rw [ltD] at k
            walk_at "rd"
            exact k _ e1
          | non => simp [knd] at hk
          | oth h => simp [pw] at hp'
          | tup h1 h2 => simp [knd] at hk
          | bl i => simp [pw] at hp'
          | int i => simp [knd] at hk
        | tup h1 h2 => exact absurd c2 (by show ¬ ((3 : Nat) : Int) < 3; decide)
        | bl b => simp [pw] at hp
        | oth h => simp [pw] at hp
      · replace c2 : ¬ ((knd d : Nat) : Int) < 3 := fun z => c2 (decide_eq_true z)
        cases r1 with
        | tup h1 h2 =>
          rename_i a xs l
          cases r1' with
          | tup h1' h2' =>
            rename_i a' xs' m
            obtain ⟨hl, hpl⟩ := pw_tup hp
            obtain ⟨hl', hpl'⟩ := pw_tup hp'
            have hxl := h2.length
            have hxl' := h2'.length
            have hu := pws_purs l hpl
            have hu' := pws_purs m hpl'
            have hdl : 1 + deps l ≤ n := hd
            have hdm : 1 + deps m ≤ n := hd'
            rw [ltD] at k
            refine ⟨_, rfl, _, rfl, _, _, _, _, rfl, .inr ⟨h1, h1', ?_⟩⟩
            refine for_it (walk_zipT (xs := xs) (ys := xs') rfl) (fun i σ H' => ∃ o3 o4, σ = [some (.ref a), some (.ref a'), some (.ref q), o3, o4] ∧ Ex [] H1 H' ∧ l.take i = m.take i) ⟨none, none, rfl, Ex.refl _ _, rfl⟩ (fun i σ H' _ ⟨_, _, _, e, _⟩ => ⟨e.sqT h1, e.sqT h1'⟩) ?_ ?_
            · rintro i y σ H3 H3' hi ⟨o3, o4, rfl, e3, ht⟩ ⟨t, x, x', rfl, nt, rfl, hx, hx'⟩
              obtain ⟨dx, hdx, rx⟩ := h2.get hx
              obtain ⟨dy, hdy, ry⟩ := h2'.get hx'
              have e3' : Ex [] H1 (upd H3 t (.tup [x, x'])) := e3.trans (Ex.new nt)
              have rx3 := e3'.rep rx
              have ry3 := e3'.rep ry
              have hs3 : SqT K (upd H3 t (.tup [x, x'])) t [x, x'] := SqT.of_new
              generalize upd H3 t (.tup [x, x']) = H4 at e3' rx3 ry3 hs3
              have mx := List.mem_of_getElem? hdx
              have my := List.mem_of_getElem? hdy
              have px := pw_mem hpl mx
              have py := pw_mem hpl' my
              have ux := pw_pur dx px
              have uy := pw_pur dy py
              have hdx1 := dep_mem mx
              have hdy1 := dep_mem my
              have ok1 : okAt 1 dx = true := pw_ok dx 1 px (by omega)
              have ok2 : okAt 1 dy = true := pw_ok dy 1 py (by omega)
              have hil : i < l.length := (List.getElem?_eq_some_iff.mp hdx).1
              have him : i < m.length := (List.getElem?_eq_some_iff.mp hdy).1
              have gx : l[i] = dx := (List.getElem?_eq_some_iff.mp hdx).2
              have gy : m[i] = dy := (List.getElem?_eq_some_iff.mp hdy).2
              have key : ltL l m = if eqD dx dy = true then ltL (l.drop (i + 1)) (m.drop (i + 1)) else ltD dx dy := by
                rw [ltL_pre i ht (by omega) (by omega) hu, List.drop_eq_getElem_cons hil, List.drop_eq_getElem_cons him, gx, gy, ltL]
              cases n with
              | zero => omega
              | succ n =>
                have z1 : dep dx ≤ n := by omega
                have z2 : dep dy ≤ n := by omega
                have z3 : n ≤ 20 := by omega
                walk_at "rd"
                intro H5 e5
                walk_at "rd"
                refine @ite2 _ _ _ _ (fun c3 => ?_) (fun c3 => ?_)
                · have c4 : eqD dx dy = false := by
                    have tt := tri dx dy ux uy
                    rw [if_pos c3] at tt
                    cases z : eqD dx dy with
                    | false => rfl
                    | true => rw [z] at tt; simp at tt
                  rw [key, c4, if_neg (by decide), c3] at k
                  walk_at "rd"
                  exact k _ (by walk_at "ex")
                · have rx5 := e5.rep rx3
                  have ry5 := e5.rep ry3
                  walk_at "rd"
                  refine ⟨_, _, ⟨dp_of dx _ (okAt_plainD 1 dx ok1) rx5, dp_of dy _ (okAt_plainD 1 dy ok2) ry5, py_shaped ok1, py_shaped ok2⟩, ?_⟩
                  rw [py_eq dx dy ux uy]
                  refine ⟨_, rfl, ?_⟩
                  refine @ite2 _ _ _ _ (fun c4 => ?_) (fun c4 => ?_)
                  · have c5 : eqD dx dy = false := by simpa using c4
                    rw [key, c5, if_neg (by decide), Bool.eq_false_iff.mpr c3] at k
                    walk_at "rd"
                    exact k _ (by walk_at "ex")
                  · have c5 : eqD dx dy = true := by simpa using c4
                    have c6 := (eqD_iff dx dy ux uy).mp c5
                    refine ⟨_, _, rfl, by walk_at "ex", ?_⟩
                    rw [List.take_succ, List.take_succ, ht, hdx, hdy, c6]
            · rintro σ H3 ⟨o3, o4, rfl, e3, ht⟩
              have h13 := e3.sqT h1
              have h13' := e3.sqT h1'
              walk_at "rd"
              have key : ltL l m = decide (l.length < m.length) := by
                rw [ltL_pre _ ht (by omega) (by omega) hu]
                exact ltL_end (by rw [hxl, hxl'])
              rw [key] at k
              have e6 : decide (((xs.length : Nat) : Int) < ((xs'.length : Nat) : Int)) = decide (l.length < m.length) := decide_eq_decide.mpr (by omega)
              rw [e6]
              exact k _ (by walk_at "ex")
          | oth h => simp [pw] at hp'
          | non => simp [knd] at hk
          | int i => simp [knd] at hk
          | bl i => simp [knd] at hk
          | str i hi => simp [knd] at hk
        | non => exact absurd (by decide) c2
        | int i => exact absurd (show ((1 : Nat) : Int) < 3 by decide) c2
        | str z hz => exact absurd (show ((2 : Nat) : Int) < 3 by decide) c2
        | bl b => simp [pw] at hp
        | oth h => simp [pw] at hp
end

-- @SP _law_is_int (spIsInt K)
-- @SP _law_is_worth (spWorth K)
section
variable {P : Program} {w : World} {K : PySem.W.Frag} {mg : Str → Option Value} {base : Heap}
theorem ok_law_is_int {f : Addr} {fd : FuncData} (F : Fun K "_law_is_int" "_law_is_int" s_law_is_int f fd) (T : Txt K mg A)  : FnOk P w K mg base CX0 1 f fd ["thing"] (spIsInt K) := by
  refine F.ok sc_law_is_int (fun vs H Q E h => ?_) (fun cdv A outer s H vs Q E hr h => ?_)
  · obtain ⟨v, d, ⟨rfl, _⟩, _⟩ := h
    rfl
  · obtain ⟨v, d, ⟨rfl, r⟩, k⟩ := h
    refine ⟨_, (pss_one (ps_ret (pe_and (pe_callB (cIs (K := K) rfl) (by rfl) T.b_isinstance bt_isinstance (pa_cons (pv 0) (pa_cons (pe_bltn (v := .ty "int") (by rfl) T.b_int bt_int rfl) pa_nil))) (pe_one (pe_not (pe_callB (cIs (K := K) rfl) (by rfl) T.b_isinstance bt_isinstance (pa_cons (pv 0) (pa_cons (pe_bltn (v := .ty "bool") (by rfl) T.b_bool bt_bool rfl) pa_nil)))))))), ?_⟩
    walk_at "nm"
    have r0 := r
    cases r <;> walk_at "rd"
    all_goals exact k
theorem ok_law_is_worth {f : Addr} {fd : FuncData} (F : Fun K "_law_is_worth" "_law_is_worth" s_law_is_worth f fd) (T : Txt K mg A) (C_law_is_int : Cl P w K mg base 1 "_law_is_int" (spIsInt K)) : FnOk P w K mg base CX0 2 f fd ["thing"] (spWorth K) := by
  refine F.ok sc_law_is_worth (fun vs H Q E h => ?_) (fun cdv A outer s H vs Q E hr h => ?_)
  · obtain ⟨v, d, ⟨rfl, _⟩, _⟩ := h
    rfl
  · obtain ⟨v, d, ⟨rfl, r⟩, k⟩ := h
    refine ⟨_, (pss_cons (ps_par (i := 1) (j := 2) rfl sc_law_is_worth.nd rfl rfl (by decide) rfl rfl (pa_cons (peLst (pa_cons (peTup (pa_cons (pv 0) (pa_cons pe_int pa_nil))) pa_nil)) (pa_cons pe_int pa_nil)) (by rfl)) (pss_cons (ps_while PassesOwn.never (pt_cmpR oGt (pe_callB (cLen (K := K) rfl) (by rfl) T.b_len bt_len (pa_cons (pv 1) pa_nil)) pe_int (nomark _)) (pss_cons (ps_asg (pe_bm0 PySem.F.plainAttrs_list PySem.F.slot_list_pop PySem.F.type_list_pop mPop (pv 1)) (pg_tup (by rfl) (pgs_cons (pg_name (i := 3) sc_law_is_worth.nd rfl (Or.inl rfl)) (pgs_cons (pg_name (i := 4) sc_law_is_worth.nd rfl (Or.inr rfl)) pgs_nil)))) (pss_cons (ps_set (i := 2) sc_law_is_worth.nd rfl (Or.inl rfl) (pe_op (oAdd (K := K) rfl) (pv 2) pe_int)) (pss_cons (ps_if (PW.pt (pw_or (pt_cmpR oGt (pv 2) pe_int (nomark _)) (pw_or1 (pt_cmpR oGt (pv 4) pe_int (nomark _))))) (pss_one (ps_ret pe_bl)) pss_nil) (pss_one (ps_if (pt_val (pe_callB (cIs (K := K) rfl) (by rfl) T.b_isinstance bt_isinstance (pa_cons (pv 3) (pa_cons (pe_bltn (v := .ty "tuple") (by rfl) T.b_tuple bt_tuple rfl) pa_nil)))) (pss_cons (ps_if (pt_cmpR oGt (pe_callB (cLen (K := K) rfl) (by rfl) T.b_len bt_len (pa_cons (pv 3) pa_nil)) pe_int (nomark _)) (pss_one (ps_ret pe_bl)) pss_nil) (pss_one (ps_expr (pe_bm PySem.F.plainAttrs_list PySem.F.slot_list_extend PySem.F.type_list_extend mExtend (pv 1) (pa_cons (pe_lc (own := [("item", 5)]) (g := gName 5) (tt := tYes) rfl sc_law_is_worth.nd (pi_tup (pv 3)) (blkOk_by (N := n_law_is_worth) (sc := defScope s_law_is_worth) (by decide +kernel)) (fun _ _ _ _ _ => (pg_name (i := 5) sc_law_is_worth.nd rfl (Or.inl rfl))) (fun _ _ _ _ _ => pts_nil) (fun _ _ _ _ _ => (peTup (pa_cons (pv 5) (pa_cons (pe_op (oAdd (K := K) rfl) (pv 4) pe_int) pa_nil))))) pa_nil))))) (pss_one (ps_if (pt_val (pe_callB (cIs (K := K) rfl) (by rfl) T.b_isinstance bt_isinstance (pa_cons (pv 3) (pa_cons (pe_bltn (v := .ty "str") (by rfl) T.b_str bt_str rfl) pa_nil)))) (pss_one (ps_if (PW.pt (pw_or (pt_cmpR oGt (pe_callB (cLen (K := K) rfl) (by rfl) T.b_len bt_len (pa_cons (pv 3) pa_nil)) pe_int (nomark _)) (pw_or1 (pt_not (pt_val (pe_callB (cAll (K := K) rfl rfl) (by rfl) T.b_all bt_all (pa_cons (pe_lc (own := [("sign", 6)]) (g := gName 6) (tt := tYes) rfl sc_law_is_worth.nd (pi_str (pv 3)) (blkOk_by (N := n_law_is_worth) (sc := defScope s_law_is_worth) (by decide +kernel)) (fun _ _ _ _ _ => (pg_name (i := 6) sc_law_is_worth.nd rfl (Or.inl rfl))) (fun _ _ _ _ _ => pts_nil) (fun _ _ _ _ _ => (pe_chain oLe oLe pe_str (pv 6) pe_str))) pa_nil))))))) (pss_one (ps_ret pe_bl)) pss_nil)) (pss_one (ps_if (PW.pt (pw_and (pt_cmpR op_notN (pv 3) pe_non (nomark _)) (pw_and1 (pt_not (PW.pt (pw_and (pt_val (pe_cl C_law_is_int hr (by decide) (by rfl) (pa_cons (pv 3) pa_nil))) (pw_and1 (pt_cmpR oLe (pe_callB cAbs (by rfl) T.b_abs bt_abs (pa_cons (pv 3) pa_nil)) (pe_op oPow pe_int pe_int) (nomark _))))))))) (pss_one (ps_ret pe_bl)) pss_nil)))))))))) (pss_one (ps_ret pe_bl)))), ?_⟩
    walk_at "nm"
    walk_at "rd"
    intro q Ha hq hqa ea
    walk_at "rd"
    intro ro Hb hro hrob eb
    walk_at "rd"
    have hroH : H ro = none := by walk_at "nn"
    have kf : isWorth d = false → ∀ H', Ex [] H H' → Q (.bl false) H' := fun z H' e => by rw [← z]; exact k H' e
    refine while_w (wInv K v d ro H 4) 200 (wInv.start r hqa ea hrob eb (tl := [none, none, none, none])) ?_
    rintro m σ H1 ⟨st, many, vs, tl, rfl, htl, e1, hl, hs, hm0, hm2, hm, hw, hz⟩
    match tl, htl with
    | [o1, o2, o3, o4], _ =>
    have hlen : vs.length = st.length := by rw [hs.length, List.length_reverse, List.length_map]
    walk_at "rd"
    refine @ite2 _ _ _ _ (fun h1 => ?_) (fun h1 => ?_)
    · refine ⟨_, fun _ _ z => z, ?_⟩
      cases st with
      | nil =>
        rw [hlen] at h1
        simp at h1
      | cons p st =>
        obtain ⟨d1, k1⟩ := p
        rw [List.map_cons, List.reverse_cons] at hs
        obtain ⟨ws, y, rfl, hs1, hy⟩ := hs.snoc
        obtain ⟨a, x, rfl, ha, hx⟩ := rep_tup2 hy
        walk_at "rd"
        intro H2 hl2 e12
        walk_at "rd"
        refine @ite2 _ _ _ _ (fun c1 => ?_) (fun c1 => ?_)
        · refine kf ?_ _ (by walk_at "ex")
          replace c1 : 200 < many + 1 := of_decide_eq_true c1
          have m0 : m = 0 := by omega
          rw [← hw, m0]
          rfl
        · replace c1 : ¬ 200 < many + 1 := fun z => c1 (decide_eq_true z)
          obtain ⟨m1, rfl⟩ : ∃ m1, m = m1 + 1 := ⟨m - 1, by omega⟩
          walk_at "rd"
          refine @ite2 _ _ _ _ (fun c2 => ?_) (fun c2 => ?_)
          · refine kf ?_ _ (by walk_at "ex")
            rw [← hw]
            replace c2 : 8 < k1 := of_decide_eq_true c2
            simp [wl, c2]
          · replace c2 : ¬ 8 < k1 := fun z => c2 (decide_eq_true z)
            have hz' : (st.length : Int) ≤ 50 * many := by
              rw [List.length_cons] at hz
              omega
            have hs2 : RepL K H2 ws (st.map enc).reverse := e12.repL hs1
            have hx2 : Rep K H2 x d1 := e12.rep hx
            have flat : (∀ l, d1 ≠ .tup l) → plainW d1 = true → ∀ H3, Ex [] H2 H3 → ∀ o1 o2 o3 o4, ∃ m', m' < m1 + 1 ∧ wInv K v d ro H 4 m' [some v, some (.ref ro), some (.int (many + 1)), o1, o2, o3, o4] H3 := fun h1 h2 H3 e3 o1 o2 o3 o4 =>
              wInv.step (tl := [o1, o2, o3, o4]) (by walk_at "ex") (e3.get0 hl2) (e3.repL hs2) hm0 c1 hm (by rw [← hw, wl_flat c2 h1, h2]; rfl) (by omega)
            have bad : (∀ l, d1 ≠ .tup l) → ¬ plainW d1 = true → isWorth d = false := fun h1 h2 => by rw [← hw, wl_flat c2 h1, if_neg h2]
            have hx3 := hx2
            cases hx2 with
            | tup h3 h4 =>
              walk_at "rd"
              refine @ite2 _ _ _ _ (fun c3 => ?_) (fun c3 => ?_)
              · refine kf ?_ _ (by walk_at "ex")
                have c4 := h4.length
                replace c3 : 50 < ((_ : Nat) : Int) := of_decide_eq_true c3
                rw [← hw, wl_tup c2, if_pos (by omega)]
              · rename_i a2 xs2 l2
                have c4 := h4.length
                replace c3 : ¬ 50 < ((xs2.length : Nat) : Int) := fun z => c3 (decide_eq_true z)
                walk_at "rd"
                intro D hD
                refine lc_it (walk_tup (xs := xs2)) (LcP D [] (fun _ => True) (RepAt K (l2.map fun x => enc (x, k1 + 1))) H2) (LcP.start hD trivial (true_loc D)) (fun i H h p => p.ex.sqT h3) ?_ ?_
                · rintro i x H3 H4 hi p ⟨rfl, hx4⟩
                  obtain ⟨dx, hdx, rx⟩ := h4.get hx4
                  have rx' := p.ex.rep rx
                  walk_at "rd"
                  intro t H5 ht ht5 e5
                  have rt : Rep K H5 (.ref t) (enc (dx, k1 + 1)) := by
                    unfold enc
                    walk_at "rep"
                  exact p.step hD RepAt.stab (true_loc D) e5 trivial trivial ⟨_, by rw [List.getElem?_map, hdx]; rfl, rt⟩ hi (by omega)
                · intro H3 p
                  obtain ⟨ys, h5, h6⟩ := p.done (by rw [List.length_map, c4])
                  have e3 : Ex [] H2 H3 := p.ex
                  have h7 := h6.length
                  rw [List.length_map] at h7
                  have h8 := hs2.length
                  rw [List.length_reverse, List.length_map] at h8
                  skip
                  walk_at "rd"
                  intro H4 h9 e4
                  refine wInv.step (tl := [some (.ref a2), some (.int k1), o3, o4]) (st := (l2.map fun x => (x, k1 + 1)).reverse ++ st) (by walk_at "ex") h9 ?_ hm0 c1 hm ?_ ?_
                  · rw [List.map_append, List.reverse_append, List.map_reverse, List.reverse_reverse, List.map_map]
                    exact e4.repL ((e3.repL hs2).append h6)
                  · rw [← hw, wl_tup c2, if_neg (by omega)]
                  · rw [List.length_append, List.length_reverse, List.length_map]
                    omega
            | non =>
              walk_at "rd"
              exact flat (fun _ z => nomatch z) rfl _ (Ex.refl _ _) _ _ _ _
            | bl b =>
              walk_at "rd"
              exact kf (bad (fun _ z => nomatch z) (fun z => nomatch z)) _ (by walk_at "ex")
            | oth h =>
              walk_at "rd"
              exact kf (bad (fun _ z => nomatch z) (fun z => nomatch z)) _ (by walk_at "ex")
            | int i =>
              have hab : (decide ((if i < 0 then -i else i) ≤ 10 ^ Int.toNat 30)) = plainW (.int i) := by
                show _ = (decide (-(10 ^ 30) ≤ i) && decide (i ≤ 10 ^ 30))
                rw [← Bool.decide_and]
                refine decide_eq_decide.mpr ?_
                show (if i < 0 then -i else i) ≤ (10 : Int) ^ 30 ↔ _
                split <;> omega
              walk_at "rd"
              rw [hab]
              refine @ite2 _ _ _ _ (fun c3 => ?_) (fun c3 => ?_)
              · exact kf (bad (fun _ z => nomatch z) (by simpa using c3)) _ (by walk_at "ex")
              · exact flat (fun _ z => nomatch z) (by simpa using c3) _ (Ex.refl _ _) _ _ _ _
            | str z hz =>
              walk_at "rd"
              refine @ite2 _ _ _ _ (fun c3 => ?_) (fun c3 => ?_)
              · replace c3 : (40 : Int) < (z.length : Nat) := of_decide_eq_true c3
                refine kf (bad (fun _ z => nomatch z) fun e => ?_) _ (by walk_at "ex")
                have e2 : decide (z.length ≤ 40) = true := (Bool.and_eq_true _ _ |>.mp e).1
                have := of_decide_eq_true e2
                omega
              · replace c3 : ¬ (40 : Int) < (z.length : Nat) := fun z => c3 (decide_eq_true z)
                refine all_signs (z := z) (a := 32) (b := 126) rfl (by show 6 < 7; decide) (by decide +kernel) (by decide +kernel) (by omega) fun H3 e3 => ?_
                have e2 : plainW (.str z) = z.cps.toList.all fun c => decide (32 ≤ c) && decide (c ≤ 126) := by
                  show (decide (z.length ≤ 40) && _) = _
                  rw [decide_eq_true (show z.length ≤ 40 by omega), Bool.true_and]
                  rfl
                rw [← e2]
                walk_at "rd"
                refine @ite2 _ _ _ _ (fun c3 => ?_) (fun c3 => ?_)
                · exact kf (bad (fun _ z => nomatch z) (by simpa using c3)) _ (by walk_at "ex")
                · exact flat (fun _ z => nomatch z) (by simpa using c3) _ e3 _ _ _ _
    · cases st with
      | nil =>
        have hv : isWorth d = true := by
          rw [← hw]
          cases m <;> rfl
        rw [hv] at k
        exact k _ e1
      | cons p st =>
        exact absurd (decide_eq_true (by rw [hlen, List.length_cons]; omega)) h1
end

/-! ### the pot that is drawn from -/
/-- a pot lies at p: its cells at c -/
def PotAt (H : Hp) (p c : Addr) : Prop := ∃ (cells : List Int) (i r s n : Int), H p = some (.lst [.ref c, .int i, .int r, .int s, .int n]) ∧ H c = some (.lst (cells.map V.int)) ∧ c ≠ p ∧
  0 ≤ i ∧ 0 ≤ r ∧ cells.length ≤ 63
theorem PotAt.new {H : Hp} {p c q : Addr} {o : HO} (h : H q = none) (t : PotAt H p c) : PotAt (upd H q o) p c := by
  obtain ⟨cells, i, r, s, n, h1, h2, h3⟩ := t
  exact ⟨cells, i, r, s, n, upd_new h h1, upd_new h h2, h3⟩
theorem PotAt.oth {H : Hp} {p c q : Addr} {o : HO} (h : q ≠ p) (h' : q ≠ c) (t : PotAt H p c) : PotAt (upd H q o) p c := by
  obtain ⟨cells, i, r, s, n, h1, h2, h3⟩ := t
  exact ⟨cells, i, r, s, n, upd_oth h.symm h1, upd_oth h'.symm h2, h3⟩
theorem PotAt.oth' {H : Hp} {p c q : Addr} {o : HO} (t : PotAt H p c) (h : q ≠ p) (h' : q ≠ c) : PotAt (upd H q o) p c := t.oth h h'
theorem PotAt.ex {M : List Addr} {H H' : Hp} {p c : Addr} (e : Ex M H H') (hp : Nin p M) (hc : Nin c M) (t : PotAt H p c) : PotAt H' p c := by
  obtain ⟨cells, i, r, s, n, h1, h2, h3⟩ := t
  exact ⟨cells, i, r, s, n, e.get h1 hp, e.get h2 hc, h3⟩
theorem PotAt.ex0 {H H' : Hp} {p c : Addr} (e : Ex [] H H') (t : PotAt H p c) : PotAt H' p c := t.ex e trivial trivial
theorem PotAt.ne {H : Hp} {p c q : Addr} (t : PotAt H p c) (h : H q = none) : q ≠ p := by
  obtain ⟨_, _, _, _, _, h1, _⟩ := t
  exact (ne_of_none h1 h).symm
theorem PotAt.nec {H : Hp} {p c q : Addr} (t : PotAt H p c) (h : H q = none) : q ≠ c := by
  obtain ⟨_, _, _, _, _, _, h1, _⟩ := t
  exact (ne_of_none h1 h).symm
theorem PotAt.ne' {H : Hp} {p c q : Addr} (h : H q = none) (t : PotAt H p c) : q ≠ p := t.ne h
theorem PotAt.nec' {H : Hp} {p c q : Addr} (h : H q = none) (t : PotAt H p c) : q ≠ c := t.nec h
local macro_rules | `(tactic| walk_at "pot") => `(tactic| with_reducible first
  | assumption
  | (apply PotAt.new; (focus with_reducible assumption); walk_at "pot")
  | (apply PotAt.ex0; (focus with_reducible assumption); walk_at "pot")
  | (apply PotAt.oth'; (focus walk_at "pot"); (focus walk_at "fact2"); walk_at "fact2"))
local macro_rules | `(tactic| walk_at "ne2") => `(tactic| first
  | (with_reducible apply PotAt.ne'; (focus with_reducible assumption); walk_at "pot")
  | (with_reducible apply PotAt.nec'; (focus with_reducible assumption); walk_at "pot"))
local macro_rules | `(tactic| walk_at "fact2") => `(tactic| first
  | walk_at "pot"
  | (with_reducible apply PotAt.ne'; (focus with_reducible assumption); walk_at "pot")
  | (with_reducible apply PotAt.nec'; (focus with_reducible assumption); walk_at "pot"))
def spDraw : Sp := fun vs H Q _ => ∃ p c many, (vs = [.ref p, .int many] ∧ PotAt H p c ∧ 0 < many ∧ many < 1000000) ∧ ∀ r H', 0 ≤ r → r < many → PotAt H' p c → Ex [p] H H' → Q (.int r) H'
-- @SP _law_draw spDraw
section
variable {P : Program} {w : World} {K : PySem.W.Frag} {mg : Str → Option Value} {base : Heap}
theorem ok_law_draw {f : Addr} {fd : FuncData} (F : Fun K "_law_draw" "_law_draw" s_law_draw f fd) (T : Txt K mg A)  : FnOk P w K mg base CX0 1 f fd ["pot", "many"] spDraw := by
  refine F.ok sc_law_draw (fun vs H Q E h => ?_) (fun cdv A outer s H vs Q E hr h => ?_)
  · obtain ⟨p, c, many, ⟨rfl, _⟩, _⟩ := h
    rfl
  · obtain ⟨p, c, many, ⟨rfl, ⟨cells, i, r, sd, n, hp, hc, ncp, hi0, hr0, hcl⟩, hm0, hm1⟩, k⟩ := h
    refine ⟨_, (C8.pss_cut (ps_if (PW.pt (pw_and (pt_cmpR op_eq (pe_ix (ixG (K := K) rfl) (pv 0) pe_int (fun _ _ => rfl)) pe_int (nomark _)) (pw_and1 (pt_cmpR oLt (pe_ix (ixG (K := K) rfl) (pv 0) pe_int (fun _ _ => rfl)) (pe_callB (cLen (K := K) rfl) (by rfl) T.b_len bt_len (pa_cons (pe_ix (ixG (K := K) rfl) (pv 0) pe_int (fun _ _ => rfl)) pa_nil)) (nomark _))))) (pss_cons (ps_set (i := 2) sc_law_draw.nd rfl (Or.inl rfl) (pe_ix (ixG (K := K) rfl) (pe_ix (ixG (K := K) rfl) (pv 0) pe_int (fun _ _ => rfl)) (pe_ix (ixG (K := K) rfl) (pv 0) pe_int (fun _ _ => rfl)) (fun _ _ => rfl))) (pss_cons (ps_asg (pe_op (oAdd (K := K) rfl) (pe_ix (ixG (K := K) rfl) (pv 0) pe_int (fun _ _ => rfl)) pe_int) (pg_sub (pv 0) pe_int setL)) (pss_cons (ps_asg (pe_op oMod (pe_callTy call_int1 (by rfl) T.b_int bt_int (pa_cons (pe_op (oAdd (K := K) rfl) (pe_op (oAdd (K := K) rfl) (pe_op (oMul (K := K) rfl) (pe_ix (ixG (K := K) rfl) (pv 0) pe_int (fun _ _ => rfl)) pe_int) (pv 2)) pe_int) pa_nil)) pe_int) (pg_sub (pv 0) pe_int setL)) (pss_one (ps_if (pt_cmpR oGe (pv 2) (pe_op oPow pe_int pe_int) (nomark _)) (pss_one (ps_asg (pv 2) (pg_sub (pv 0) pe_int setL))) pss_nil))))) pss_nil) (pss_cons (ps_if (pt_cmpR oGt (pe_ix (ixG (K := K) rfl) (pv 0) pe_int (fun _ _ => rfl)) pe_int (nomark _)) (pss_cons (ps_set (i := 3) sc_law_draw.nd rfl (Or.inl rfl) (pe_op oMod (pe_callTy call_int1 (by rfl) T.b_int bt_int (pa_cons (pe_ix (ixG (K := K) rfl) (pv 0) pe_int (fun _ _ => rfl)) pa_nil)) (pv 1))) (pss_cons (ps_asg (pe_op oFdv (pe_ix (ixG (K := K) rfl) (pv 0) pe_int (fun _ _ => rfl)) (pv 1)) (pg_sub (pv 0) pe_int setL)) (pss_one (ps_ret (pv 3))))) pss_nil) (pss_cons (ps_asg (pe_op (oAdd (K := K) rfl) (pe_ix (ixG (K := K) rfl) (pv 0) pe_int (fun _ _ => rfl)) pe_int) (pg_sub (pv 0) pe_int setL)) (pss_cons (ps_set (i := 4) sc_law_draw.nd rfl (Or.inl rfl) (pe_op oMod (pe_callTy call_int1 (by rfl) T.b_int bt_int (pa_cons (pe_op (oMul (K := K) rfl) (pe_callTy call_int1 (by rfl) T.b_int bt_int (pa_cons (pe_op (oAdd (K := K) rfl) (pe_ix (ixG (K := K) rfl) (pv 0) pe_int (fun _ _ => rfl)) (pe_op (oMul (K := K) rfl) pe_int (pe_ix (ixG (K := K) rfl) (pv 0) pe_int (fun _ _ => rfl)))) pa_nil)) pe_int) pa_nil)) pe_int)) (pss_cons (ps_set (i := 4) sc_law_draw.nd rfl (Or.inl rfl) (pe_op oMod (pe_callTy call_int1 (by rfl) T.b_int bt_int (pa_cons (pe_op (oMul (K := K) rfl) (pv 4) (pe_op (oAdd (K := K) rfl) (pe_op oFdv (pv 4) pe_int) pe_int)) pa_nil)) pe_int)) (pss_cons (ps_set (i := 4) sc_law_draw.nd rfl (Or.inl rfl) (pe_op oMod (pe_callTy call_int1 (by rfl) T.b_int bt_int (pa_cons (pe_op (oMul (K := K) rfl) (pv 4) (pe_op (oAdd (K := K) rfl) (pe_op oFdv (pv 4) pe_int) pe_int)) pa_nil)) pe_int)) (pss_one (ps_ret (pe_op oMod (pe_callTy call_int1 (by rfl) T.b_int bt_int (pa_cons (pe_op oFdv (pv 4) pe_int) pa_nil)) (pv 1)))))))))), ?_⟩
    walk_at "nm"
    refine ⟨fun σ H' => ∃ o1 o2 o3, σ = [some (.ref p), some (.int many), o1, o2, o3] ∧ PotAt H' p c ∧ Ex [p] H H', ?_, ?_⟩
    · have stay : ∀ o1 o2 o3, ∃ p1 p2 p3 : Option V, [some (V.ref p), some (V.int many), o1, o2, o3] = [some (.ref p), some (.int many), p1, p2, p3] ∧ PotAt H p c ∧ Ex [p] H H := fun o1 o2 o3 => ⟨o1, o2, o3, rfl, ⟨cells, i, r, sd, n, hp, hc, ncp, hi0, hr0, hcl⟩, Ex.refl _ _⟩
      walk_at "rd"
      refine @ite2 _ _ _ _ (fun c1 => ?_) (fun c1 => ?_)
      · walk_at "rd"
        refine @ite2 _ _ _ _ (fun c2 => ?_) (fun c2 => ?_)
        · replace c2 : i < ((cells.map V.int).length : Nat) := of_decide_eq_true c2
          rw [List.length_map] at c2
          obtain ⟨j, rfl⟩ : ∃ j : Nat, i = (j : Int) := ⟨i.toNat, by omega⟩
          have hj : j < cells.length := by omega
          have hat : atI (cells.map V.int) (j : Int) = some (.int cells[j]) := atI_nat (by rw [List.getElem?_map, List.getElem?_eq_getElem hj]; rfl)
          generalize cells[j] = cell at hat
          walk_at "rdi"
          refine @ite2 _ _ _ _ (fun c3 => ?_) (fun c3 => ?_)
          · replace c3 : (10 : Int) ^ 18 ≤ cell := of_decide_eq_true c3
            walk_at "rdi"
            exact ⟨⟨cells, _, _, _, _, by assumption, by walk_at "hp", ncp, by omega, by omega, hcl⟩, by walk_at "ex"⟩
          · walk_at "rdi"
            exact ⟨⟨cells, _, _, _, _, by assumption, by walk_at "hp", ncp, by omega, by omega, hcl⟩, by walk_at "ex"⟩
        · exact stay _ _ _
      · exact stay _ _ _
    · rintro σ H1 ⟨o1, o2, o3, rfl, ⟨cells, i, r, sd, n, hp, hc, ncp, hi0, hr0, hcl⟩, e⟩
      walk_at "rdi"
      refine @ite2 _ _ _ _ (fun c1 => ?_) (fun c1 => ?_)
      · walk_at "rdi"
        exact k _ _ (Int.emod_nonneg _ (by omega)) (Int.emod_lt_of_pos _ hm0) ⟨cells, _, _, _, _, by assumption, by walk_at "hp", ncp, by omega, Int.ediv_nonneg hr0 (by omega), hcl⟩ (by walk_at "ex")
      · walk_at "rdi"
        exact k _ _ (Int.emod_nonneg _ (by omega)) (Int.emod_lt_of_pos _ hm0) ⟨cells, _, _, _, _, by assumption, by walk_at "hp", ncp, by omega, by omega, hcl⟩ (by walk_at "ex")
def spPot (K : PySem.W.Frag) : Sp := fun vs H Q _ => ∃ (a : Addr) (ns : List Int), (vs = [.ref a] ∧ SqL K H a (ns.map V.int) ∧ ns.length ≤ 63) ∧ ∀ p c H', PotAt H' p c → Ex [] H H' → Q (.ref p) H'
def spAny : Sp := fun vs H Q _ => ∃ (p c a : Addr) (xs : List V), (vs = [.ref p, .ref a] ∧ PotAt H p c ∧ H a = some (.lst xs) ∧ a ≠ p ∧ 0 < xs.length ∧ xs.length < 1000000) ∧ ∀ x H', x ∈ xs → PotAt H' p c → Ex [p] H H' → Q x H'
-- @SP _law_pot (spPot K)
-- @SP _law_any spAny
theorem ok_law_any {f : Addr} {fd : FuncData} (F : Fun K "_law_any" "_law_any" s_law_any f fd) (T : Txt K mg A) (C_law_draw : Cl P w K mg base 1 "_law_draw" spDraw) : FnOk P w K mg base CX0 2 f fd ["pot", "things"] spAny := by
  refine F.ok sc_law_any (fun vs H Q E h => ?_) (fun cdv A outer s H vs Q E hr h => ?_)
  · obtain ⟨p, c, a, xs, ⟨rfl, _⟩, _⟩ := h
    rfl
  · obtain ⟨p, c, a, xs, ⟨rfl, hp, ha, nap, h0, h1⟩, k⟩ := h
    refine ⟨_, (pss_one (ps_ret (pe_ix (ixG (K := K) rfl) (pv 1) (pe_cl C_law_draw hr (by decide) (by rfl) (pa_cons (pv 0) (pa_cons (pe_callB (cLen (K := K) rfl) (by rfl) T.b_len bt_len (pa_cons (pv 1) pa_nil)) pa_nil))) (fun _ _ => rfl)))), ?_⟩
    walk_at "nm"
    walk_at "rd"
    intro r H1 hr0 hr1 hp1 e1
    obtain ⟨j, rfl⟩ : ∃ j : Nat, r = (j : Int) := ⟨r.toNat, by omega⟩
    have hj : j < xs.length := by omega
    have hat : atI xs (j : Int) = some xs[j] := atI_nat (List.getElem?_eq_getElem hj)
    walk_at "rd"
    exact k _ _ (List.getElem_mem hj) hp1 e1
theorem ok_law_pot {f : Addr} {fd : FuncData} (F : Fun K "_law_pot" "_law_pot" s_law_pot f fd) (T : Txt K mg A)  : FnOk P w K mg base CX0 1 f fd ["script"] (spPot K) := by
  refine F.ok sc_law_pot (fun vs H Q E h => ?_) (fun cdv A outer s H vs Q E hr h => ?_)
  · obtain ⟨a, ns, ⟨rfl, _⟩, _⟩ := h
    rfl
  · obtain ⟨a, ns, ⟨rfl, ha, hn⟩, k⟩ := h
    refine ⟨_, (pss_cons (ps_setLc (i := 1) (own := [("cell", 2)]) (g := gName 2) (tt := tYes) rfl sc_law_pot.nd rfl rfl (sw_true rfl rfl rfl (by decide +kernel)) (pi_list (pe_slice (slG (K := K) rfl) (pv 0) po_none (po_some pe_int))) (blkOk_by (N := n_law_pot) (sc := defScope s_law_pot) (by decide +kernel)) (fun _ _ _ _ _ => (pg_name (i := 2) sc_law_pot.nd rfl (Or.inl rfl))) (fun _ _ _ _ _ => pts_nil) (fun _ _ _ _ _ => (pe_callB cAbs (by rfl) T.b_abs bt_abs (pa_cons (pe_callTy call_int1 (by rfl) T.b_int bt_int (pa_cons (pv 2) pa_nil)) pa_nil)))) (pss_one (ps_ret (peLst (pa_cons (pv 1) (pa_cons pe_int (pa_cons pe_int (pa_cons (pe_op (oAdd (K := K) rfl) pe_int (pe_callB (cLen (K := K) rfl) (by rfl) T.b_len bt_len (pa_cons (pv 1) pa_nil))) (pa_cons pe_int pa_nil))))))))), ?_⟩
    walk_at "nm"
    walk_at "rd"
    intro l H1 hl hL e1
    have hcut : cutV (ns.map V.int) none (some 63) = ns.map V.int := by
      refine cutV_whole ⟨rfl, ?_⟩
      show min (Int.toNat 63) (ns.map V.int).length = (ns.map V.int).length
      rw [List.length_map]
      exact Nat.min_eq_right hn
    rw [hcut] at hL
    walk_at "rd"
    intro D hD
    refine lc_it (walk_list (xs := ns.map V.int)) (LcP D [] (fun _ => True) (RepAt K ((ns.map fun i => if i < 0 then -i else i).map Dt.int)) H1) (LcP.start hD trivial (true_loc D)) (fun i H h p => SqL.of (p.ex.get0 hL)) ?_ ?_
    · rintro i x H3 H4 hi p ⟨rfl, hx⟩
      rw [List.getElem?_map] at hx
      obtain ⟨z, hz, rfl⟩ := Option.map_eq_some_iff.mp hx
      walk_at "rd"
      exact p.step hD RepAt.stab (true_loc D) (Ex.refl _ _) trivial trivial ⟨_, by rw [List.getElem?_map, List.getElem?_map, hz]; rfl, .int _⟩ hi (by rw [List.length_map]; omega)
    · intro H3 p
      obtain ⟨ys, h5, h6⟩ := p.done (by simp)
      have h6 := h6.ints
      subst h6
      have e3 : Ex [] H1 H3 := p.ex
      walk_at "rd"
      intro q H4 hq hQ e4
      refine k q D _ ⟨_, 0, 0, _, 0, hQ, e4.get0 h5, ne_of_none h5 hq, by decide, by decide, by simpa using hn⟩ (by walk_at "ex")
end


-- @SP _law_draw spDraw
-- @SP _law_any spAny
/-! ### worths that are drawn -/
def worthMenu : List Dt := [.int 0, .int 0, .int 1, .int 1, .int 2, .int 3, .int (-1), .int 7, .non, .str "", .str "a", .str "ab", .str "z", .tup [], .tup [.int 1], .tup [.int 1, .int 2], .tup [.int 0, .str "a", .non],
  .tup [.tup [.int 2, .int 1], .str "b"], .tup [.str "f", .tup []]]
def spWorthD (K : PySem.W.Frag) : Sp := fun vs H Q _ => ∃ (p c : Addr), (vs = [.ref p] ∧ PotAt H p c) ∧ ∀ x d H', d ∈ worthMenu → Rep K H' x d → PotAt H' p c → Ex [p] H H' → Q x H'
-- @SP _law_worth (spWorthD K)
section
variable {P : Program} {w : World} {K : PySem.W.Frag} {mg : Str → Option Value} {base : Heap}
theorem ok_law_worth {f : Addr} {fd : FuncData} (F : Fun K "_law_worth" "_law_worth" s_law_worth f fd) (T : Txt K mg A) (C_law_any : Cl P w K mg base 2 "_law_any" spAny) : FnOk P w K mg base CX0 3 f fd ["pot"] (spWorthD K) := by
  refine F.ok sc_law_worth (fun vs H Q E h => ?_) (fun cdv A outer s H vs Q E hr h => ?_)
  · obtain ⟨p, c, ⟨rfl, _⟩, _⟩ := h
    rfl
  · obtain ⟨p, c, ⟨rfl, hp⟩, k⟩ := h
    refine ⟨_, (pss_cons (ps_set (i := 1) sc_law_worth.nd rfl (Or.inl rfl) (peLst (pa_cons pe_int (pa_cons pe_int (pa_cons pe_int (pa_cons pe_int (pa_cons pe_int (pa_cons pe_int (pa_cons (pe_un oNeg pe_int) (pa_cons pe_int (pa_cons pe_non (pa_cons pe_str (pa_cons pe_str (pa_cons pe_str (pa_cons pe_str (pa_cons (peTup pa_nil) (pa_cons (peTup (pa_cons pe_int pa_nil)) (pa_cons (peTup (pa_cons pe_int (pa_cons pe_int pa_nil))) (pa_cons (peTup (pa_cons pe_int (pa_cons pe_str (pa_cons pe_non pa_nil)))) pa_nil))))))))))))))))))) (pss_one (ps_ret (pe_cl C_law_any hr (by decide) (by rfl) (pa_cons (pv 0) (pa_cons (pe_op (oAdd (K := K) rfl) (pv 1) (peLst (pa_cons (peTup (pa_cons (peTup (pa_cons pe_int (pa_cons pe_int pa_nil))) (pa_cons pe_str pa_nil))) (pa_cons (peTup (pa_cons pe_str (pa_cons (peTup pa_nil) pa_nil))) pa_nil)))) pa_nil)))))), ?_⟩
    walk_at "nm"
    walk_at "rdi"
    rename_i x Hn hx hpn en
    simp only [List.cons_append, List.nil_append] at hx
    obtain ⟨d, hd, r⟩ := RepL.memOf (K := K) (H := Hn) (l := worthMenu) hx (by unfold worthMenu; walk_at "repl")
    exact k x d Hn hd r hpn (by walk_at "ex")
inductive DeepW : Nat → Dt → Prop
  | base {d : Dt} : d ∈ worthMenu → DeepW 0 d
  | step {n : Nat} {d : Dt} {l m : List Dt} : DeepW n d → (∀ x ∈ l ++ m, x ∈ worthMenu) → (l ++ m).length ≤ 2 → DeepW (n + 1) (.tup (l ++ [d] ++ m))
def spDeep (K : PySem.W.Frag) : Sp := fun vs H Q _ => ∃ (p c : Addr) (n : Nat), (vs = [.ref p, .int n] ∧ PotAt H p c ∧ n ≤ 1000) ∧ ∀ x d H', DeepW n d → Rep K H' x d → PotAt H' p c → Ex [p] H H' → Q x H'
-- @SP _law_deep_worth (spDeep K)
def MenuAt (K : PySem.W.Frag) (_ : Nat) (y : V) (H : Hp) : Prop := ∃ d, d ∈ worthMenu ∧ Rep K H y d
theorem MenuAt.stab {K : PySem.W.Frag} : Stab (MenuAt K) := fun _ _ _ _ _ e ⟨d, h, r⟩ => ⟨d, h, e.rep r⟩
theorem menu_list {K : PySem.W.Frag} {H : Hp} : ∀ {ys : List V}, (∀ j y, ys[j]? = some y → MenuAt K j y H) → ∃ ds, RepL K H ys ds ∧ ∀ d ∈ ds, d ∈ worthMenu
  | [], _ => ⟨[], .nil, fun _ h => nomatch h⟩
  | y :: ys, h => by
    obtain ⟨d, hd, r⟩ := h 0 y (by simp)
    obtain ⟨ds, rs, hs⟩ := menu_list (ys := ys) fun j z hz => h (j + 1) z (by simpa using hz)
    exact ⟨d :: ds, .cons r rs, fun e he => (List.mem_cons.mp he).elim (fun q => q ▸ hd) (hs e)⟩
theorem ok_law_deep_worth {f : Addr} {fd : FuncData} (F : Fun K "_law_deep_worth" "_law_deep_worth" s_law_deep_worth f fd) (T : Txt K mg A) (C_law_draw : Cl P w K mg base 1 "_law_draw" spDraw) (C_law_worth : Cl P w K mg base 3 "_law_worth" (spWorthD K)) : FnOk P w K mg base CX0 4 f fd ["pot", "deep"] (spDeep K) := by
  refine F.ok sc_law_deep_worth (fun vs H Q E h => ?_) (fun cdv A outer s H vs Q E hr h => ?_)
  · obtain ⟨p, c, n, ⟨rfl, _⟩, _⟩ := h
    rfl
  · obtain ⟨p, c, n, ⟨rfl, hp, hn⟩, k⟩ := h
    refine ⟨_, (pss_cons (ps_set (i := 2) sc_law_deep_worth.nd rfl (Or.inl rfl) (pe_cl C_law_worth hr (by decide) (by rfl) (pa_cons (pv 0) pa_nil))) (pss_cons (ps_for PassesOwn.never rfl (pi_range1 (by rfl) T.b_range (pa_cons (pv 1) pa_nil)) (pg_name (i := 3) sc_law_deep_worth.nd rfl (Or.inl rfl)) (pss_cons (ps_setLc (i := 4) (own := [("anew", 6)]) (g := gName 6) (tt := tYes) rfl sc_law_deep_worth.nd rfl rfl (sw_true rfl rfl rfl (by decide +kernel)) (pi_range1 (by rfl) T.b_range (pa_cons (pe_cl C_law_draw hr (by decide) (by rfl) (pa_cons (pv 0) (pa_cons pe_int pa_nil))) pa_nil)) (blkOk_by (N := n_law_deep_worth) (sc := defScope s_law_deep_worth) (by decide +kernel)) (fun _ _ _ _ _ => (pg_name (i := 6) sc_law_deep_worth.nd rfl (Or.inl rfl))) (fun _ _ _ _ _ => pts_nil) (fun _ _ _ _ _ => (pe_cl C_law_worth hr (by decide) (by rfl) (pa_cons (pv 0) pa_nil)))) (pss_cons (ps_set (i := 5) sc_law_deep_worth.nd rfl (Or.inl rfl) (pe_cl C_law_draw hr (by decide) (by rfl) (pa_cons (pv 0) (pa_cons (pe_op (oAdd (K := K) rfl) (pe_callB (cLen (K := K) rfl) (by rfl) T.b_len bt_len (pa_cons (pv 4) pa_nil)) pe_int) pa_nil)))) (pss_one (ps_set (i := 2) sc_law_deep_worth.nd rfl (Or.inl rfl) (pe_callTy (cTuple (K := K) rfl) (by rfl) T.b_tuple bt_tuple (pa_cons (pe_op (oAdd (K := K) rfl) (pe_op (oAdd (K := K) rfl) (pe_slice (slG (K := K) rfl) (pv 4) po_none (po_some (pv 5))) (peLst (pa_cons (pv 2) pa_nil))) (pe_slice (slG (K := K) rfl) (pv 4) (po_some (pv 5)) po_none)) pa_nil))))))) (pss_one (ps_ret (pv 2))))), ?_⟩
    walk_at "nm"
    walk_at "rd"
    intro x d H1 hd hx hp1 e1
    walk_at "rd"
    refine for_it (walk_range (lo := 0) (n := ((n : Nat) : Int).toNat)) (fun i σ H' => ∃ x d o3 o4 o5, σ = [some (.ref p), some (.int n), some x, o3, o4, o5, none] ∧ DeepW i d ∧ Rep K H' x d ∧ PotAt H' p c ∧ Ex [p] H H')
      ⟨x, d, none, none, none, rfl, .base hd, hx, hp1, e1⟩ (fun _ _ _ _ _ => trivial) ?_ ?_
    · clear hd hx hp1 e1 H1 x d
      rintro i y σ H1 H1' hi ⟨x, d, o3, o4, o5, rfl, hd, hx, hp1, e1⟩ ⟨rfl, rfl⟩
      walk_at "rd"
      intro r H2 hr0 hr1 hp2 e2
      walk_at "rd"
      intro D hD
      refine lc_it (walk_range (lo := 0) (n := r.toNat)) (LcP D [p] (fun H => PotAt H p c) (MenuAt K) H2) (LcP.start hD hp2 fun H o h => h.oth (hp2.ne hD) (hp2.nec hD)) (fun _ _ _ _ => trivial) ?_ ?_
      · rintro j y H3 H3' hj q ⟨rfl, rfl⟩
        have hp3 := q.p
        walk_at "rd"
        intro x1 d1 H4 hd1 hx1 hp4 e4
        exact q.step hD MenuAt.stab (fun H o h => h.oth (hp2.ne hD) (hp2.nec hD)) e4 ⟨hp2.ne hD, trivial⟩ hp4 ⟨d1, hd1, hx1⟩ hj (by omega)
      · intro H3 q
        obtain ⟨e3, hp3, ys, h5, h6, h7⟩ := q
        obtain ⟨ds, h8, h9⟩ := menu_list h7
        have h10 := h8.length
        have hDp := hp2.ne hD
        walk_at "rd"
        intro r2 H4 hr2 hr3 hp4 e4
        obtain ⟨m, rfl⟩ : ∃ m : Nat, r2 = (m : Int) := ⟨r2.toNat, by omega⟩
        have hz : ∀ lo hi, (cutV ys lo hi).length ≤ 1000 := fun lo hi => by
          have := cutV_length ys lo hi
          omega
        have z1 := hz none (some (m : Int))
        have z2 := hz (some (m : Int)) none
        walk_at "rdi"
        refine ⟨DeepW.step (l := ds.take m) (m := ds.drop m) hd ?_ ?_, ?_, by walk_at "pot", by walk_at "ex"⟩
        · rw [List.take_append_drop]
          exact h9
        · rw [List.take_append_drop]
          omega
        · refine .tup (by walk_at "sqt") ?_
          rw [cutV_to, cutV_from]
          have hys : RepL K H4 ys ds := by walk_at "repl"
          have h1 := hys.take m
          have h2 := hys.drop m
          refine RepL.append (RepL.append ?_ (.cons ?_ .nil)) ?_
          · walk_at "repl"
          · walk_at "rep"
          · walk_at "repl"
    · rintro σ H1 ⟨x, d, o3, o4, o5, rfl, hd, hx, hp1, e1⟩
      walk_at "rd"
      exact k x d H1 hd hx hp1 e1
end
/-! ### worths beside others -/
mutual
/-- integers no greater, texts good, tuples short -/
def sm (B : Int) : Dt → Bool
  | .non => true
  | .int i => decide (-B ≤ i) && decide (i ≤ B)
  | .str s => plainW (.str s)
  | .tup l => decide (l.length ≤ 10) && sms B l
  | _ => false
def sms (B : Int) : List Dt → Bool
  | [] => true
  | d :: l => sm B d && sms B l
end
theorem sms_all (B : Int) : ∀ l : List Dt, sms B l = true ↔ ∀ x ∈ l, sm B x = true
  | [] => by simp [sms]
  | d :: l => by rw [sms, Bool.and_eq_true, sms_all B l]; simp
mutual
theorem sm_mono {B C : Int} (h : B ≤ C) : ∀ d : Dt, sm B d = true → sm C d = true
  | .non, _ => by rw [sm]
  | .int i, q => by
    rw [sm, Bool.and_eq_true] at *
    exact ⟨decide_eq_true (by have := of_decide_eq_true q.1; omega), decide_eq_true (by have := of_decide_eq_true q.2; omega)⟩
  | .str s, q => by rw [sm] at *; exact q
  | .tup l, q => by rw [sm, Bool.and_eq_true] at *; exact ⟨q.1, sms_mono h l q.2⟩
  | .bl _, q => by simp [sm] at q
  | .oth, q => by simp [sm] at q
theorem sms_mono {B C : Int} (h : B ≤ C) : ∀ l : List Dt, sms B l = true → sms C l = true
  | [], _ => by rw [sms]
  | d :: l, q => by rw [sms, Bool.and_eq_true] at *; exact ⟨sm_mono h d q.1, sms_mono h l q.2⟩
end
mutual
theorem sm_pw {B : Int} (h : B ≤ 10 ^ 30) : ∀ d : Dt, sm B d = true → pw d = true
  | .non, _ => by rw [pw]
  | .int i, q => by
    rw [sm, Bool.and_eq_true] at q
    rw [pw]
    show (decide (-(10 ^ 30 : Int) ≤ i) && decide (i ≤ 10 ^ 30)) = true
    rw [Bool.and_eq_true]
    exact ⟨decide_eq_true (by have := of_decide_eq_true q.1; omega), decide_eq_true (by have := of_decide_eq_true q.2; omega)⟩
  | .str s, q => by rw [sm] at q; rw [pw]; exact q
  | .tup l, q => by rw [sm, Bool.and_eq_true] at q; rw [pw, Bool.and_eq_true]; exact ⟨decide_eq_true (by have := of_decide_eq_true q.1; omega), sms_pw h l q.2⟩
  | .bl _, q => by simp [sm] at q
  | .oth, q => by simp [sm] at q
theorem sms_pw {B : Int} (h : B ≤ 10 ^ 30) : ∀ l : List Dt, sms B l = true → pws l = true
  | [], _ => by rw [pws]
  | d :: l, q => by rw [sms, Bool.and_eq_true] at q; rw [pws, sm_pw h d q.1, sms_pw h l q.2]; rfl
end
theorem sm_tup {B : Int} {l : List Dt} (h : sm B (.tup l) = true) : l.length ≤ 10 ∧ ∀ x ∈ l, sm B x = true := by
  rw [sm, Bool.and_eq_true] at h
  exact ⟨of_decide_eq_true h.1, (sms_all B l).mp h.2⟩
theorem sm_mk {B : Int} {l : List Dt} (h : l.length ≤ 10) (h' : ∀ x ∈ l, sm B x = true) : sm B (.tup l) = true := by
  rw [sm, Bool.and_eq_true]
  exact ⟨decide_eq_true h, (sms_all B l).mpr h'⟩
theorem deps_le {k : Nat} : ∀ {l : List Dt}, (∀ x ∈ l, dep x ≤ k) → deps l ≤ k
  | [], _ => by rw [deps]; omega
  | d :: l, h => by
    have h1 := h d List.mem_cons_self
    have h2 := deps_le (l := l) fun x hx => h x (List.mem_cons_of_mem _ hx)
    rw [deps]
    omega
theorem cnts_app : ∀ (l m : List Dt), cnts (l ++ m) = cnts l + cnts m
  | [], m => by simp [cnts]
  | d :: l, m => by rw [List.cons_append, cnts, cnts, cnts_app l m]; omega
/-- one place otherwise -/
theorem cnts_put {l : List Dt} {j : Nat} {d : Dt} (h : l[j]? = some d) (m : List Dt) : cnts (l.take j ++ m ++ l.drop (j + 1)) + cnt d = cnts l + cnts m := by
  obtain ⟨hj, e⟩ := List.getElem?_eq_some_iff.mp h
  have e2 : l = l.take j ++ (d :: l.drop (j + 1)) := by
    rw [← e, ← List.drop_eq_getElem_cons hj, List.take_append_drop]
  have e3 : cnts l = cnts (l.take j) + (cnt d + cnts (l.drop (j + 1))) := by
    conv => lhs; rw [e2]
    rw [cnts_app, cnts]
  rw [cnts_app, cnts_app]
  omega
theorem menu_sm : ∀ d ∈ worthMenu, sm 10 d = true ∧ dep d ≤ 3 ∧ cnt d ≤ 5 := by decide +kernel
theorem deep_sm : ∀ {n : Nat} {d : Dt}, DeepW n d → sm 10 d = true ∧ dep d ≤ 3 + n ∧ cnt d ≤ 5 + 11 * n := by
  intro n d h
  induction h with
  | base h => exact menu_sm _ h
  | @step n d l m h hm hl ih =>
    obtain ⟨i1, i2, i3⟩ := ih
    have each : ∀ x ∈ l ++ [d] ++ m, sm 10 x = true ∧ dep x ≤ 3 + n := fun x hx => by
      rcases List.mem_append.mp hx with q | q
      · rcases List.mem_append.mp q with q | q
        · have := menu_sm x (hm x (List.mem_append_left _ q))
          exact ⟨this.1, by omega⟩
        · rw [List.mem_singleton.mp q]
          exact ⟨i1, i2⟩
      · have := menu_sm x (hm x (List.mem_append_right _ q))
        exact ⟨this.1, by omega⟩
    have hc : ∀ k : List Dt, (∀ x ∈ k, x ∈ worthMenu) → cnts k ≤ 5 * k.length := fun k => by
      induction k with
      | nil => intro _; rw [cnts]; omega
      | cons x k ik =>
        intro hk
        have h1 := (menu_sm x (hk x List.mem_cons_self)).2.2
        have h2 := ik fun y hy => hk y (List.mem_cons_of_mem _ hy)
        rw [cnts, List.length_cons]
        omega
    have c1 := hc l fun x hx => hm x (List.mem_append_left _ hx)
    have c2 := hc m fun x hx => hm x (List.mem_append_right _ hx)
    rw [List.length_append] at hl
    refine ⟨sm_mk ?_ fun x hx => (each x hx).1, ?_, ?_⟩
    · rw [List.length_append, List.length_append, List.length_singleton]
      omega
    · have := deps_le fun x hx => (each x hx).2
      rw [dep]
      omega
    · rw [cnt, cnts_app, cnts_app, cnts, cnts]
      omega
theorem sm_worth {d : Dt} (h : sm 11 d = true) (h1 : dep d ≤ 8) (h2 : cnt d ≤ 200) : isWorth d = true := worth_of (sm_pw (by decide) d h) h1 h2
/-- what near draws -/
def NearW (d d' : Dt) : Prop := sm 11 d' = true ∧ dep d' ≤ dep d + 2 ∧ cnt d' ≤ cnt d + 5
theorem dep1 (d : Dt) : 1 ≤ dep d := by cases d <;> simp [dep]
theorem cnt1 (d : Dt) : 1 ≤ cnt d := by cases d <;> simp [cnt]
theorem near_menu {d d' : Dt} (h : d' ∈ worthMenu) : NearW d d' := by
  obtain ⟨h1, h2, h3⟩ := menu_sm d' h
  have := dep1 d
  exact ⟨sm_mono (by decide) d' h1, by omega, by omega⟩
theorem near_in {d : Dt} (h : sm 10 d = true) : NearW d (.tup [d]) := by
  refine ⟨sm_mk (by simp) fun x hx => ?_, ?_, ?_⟩
  · rw [List.mem_singleton.mp hx]; exact sm_mono (by decide) d h
  · rw [dep, deps, deps]; omega
  · rw [cnt, cnts, cnts]; omega
theorem near_self {d : Dt} (h : sm 10 d = true) : NearW d d := ⟨sm_mono (by decide) d h, by omega, by omega⟩
theorem near_last {d dw x : Dt} (h : sm 10 d = true) (hw : dw ∈ worthMenu) (hx : x ∈ [Dt.tup [d], dw, d]) : NearW d x := by
  simp only [List.mem_cons, List.not_mem_nil, or_false] at hx
  rcases hx with rfl | rfl | rfl
  · exact near_in h
  · exact near_menu hw
  · exact near_self h
theorem near_put {l m : List Dt} {j : Nat} {d : Dt} (h : sm 10 (.tup l) = true) (hj : l[j]? = some d) (hm : m.length ≤ 1) (hd : ∀ x ∈ m, NearW d x) : NearW (.tup l) (.tup (l.take j ++ m ++ l.drop (j + 1))) := by
  obtain ⟨hl, ha⟩ := sm_tup h
  have hjl := (List.getElem?_eq_some_iff.mp hj).1
  have md := List.mem_of_getElem? hj
  have dd := dep_mem md
  have each : ∀ x ∈ l.take j ++ m ++ l.drop (j + 1), sm 11 x = true ∧ dep x ≤ deps l + 2 := fun x hx => by
    have old : x ∈ l → sm 11 x = true ∧ dep x ≤ deps l + 2 := fun q => ⟨sm_mono (by decide) x (ha x q), by have := dep_mem q; omega⟩
    rcases List.mem_append.mp hx with q | q
    · rcases List.mem_append.mp q with q | q
      · exact old (List.mem_of_mem_take q)
      · have := hd x q
        exact ⟨this.1, by have := this.2.1; omega⟩
    · exact old (List.mem_of_mem_drop q)
  have hc := cnts_put hj m
  have hcm : cnts m ≤ cnt d + 5 := by
    match m, hm, hd with
    | [], _, _ => rw [cnts]; omega
    | [x], _, hd =>
      have := (hd x List.mem_cons_self).2.2
      rw [cnts, cnts]
      omega
  refine ⟨sm_mk ?_ fun x hx => (each x hx).1, ?_, ?_⟩
  · rw [List.length_append, List.length_append, List.length_take, List.length_drop]
    omega
  · have := deps_le fun x hx => (each x hx).2
    rw [dep, dep]
    omega
  · rw [cnt, cnt]
    omega


theorem cut_all {z : Str} (h : z.cps.toList.all signOk = true) (lo hi : Option Int) : (cutS z lo hi).cps.toList.all signOk = true := by
  rw [List.all_eq_true] at *
  intro c hc
  exact h c (List.mem_of_mem_drop (List.mem_of_mem_take hc))
theorem cut_39 (z : Str) : (cutS z none (some 39)).length ≤ 39 := by
  show (((z.cps.toList.drop (HT.sIx z.length 0 none)).take (HT.sIx z.length z.length (some 39) - HT.sIx z.length 0 none)).toArray).size ≤ 39
  rw [List.size_toArray, List.length_take, HT.sIx_none, show (39 : Int) = ((39 : Nat) : Int) from rfl, HT.sIx_nat]
  omega
theorem strW {z : Str} (h : z.length ≤ 40) (h' : z.cps.toList.all signOk = true) (B : Int) : sm B (.str z) = true := by
  rw [sm]
  show (decide (z.length ≤ 40) && z.cps.toList.all signOk) = true
  rw [decide_eq_true h, h']
  rfl
theorem app_all {a b : Str} (h : a.cps.toList.all signOk = true) (h' : b.cps.toList.all signOk = true) : (a ++ b).cps.toList.all signOk = true := by
  show ((a.cps ++ b.cps).toList).all signOk = true
  rw [Array.toList_append, List.all_append, h, h']
  rfl
theorem near_str {z z' : Str} (h : z'.length ≤ 40) (h' : z'.cps.toList.all signOk = true) : NearW (.str z) (.str z') := ⟨strW h h' 11, by rw [dep_leaf (d := .str z) (fun _ e => nomatch e), dep_leaf (d := .str z') (fun _ e => nomatch e)]; omega, by rw [cnt_leaf (d := .str z) (fun _ e => nomatch e), cnt_leaf (d := .str z') (fun _ e => nomatch e)]; omega⟩
theorem near_int {i j : Int} (h : sm 10 (.int i) = true) (h1 : i - 1 ≤ j) (h2 : j ≤ i + 1) : NearW (.int i) (.int j) := by
  rw [sm, Bool.and_eq_true] at h
  have a1 := of_decide_eq_true h.1
  have a2 := of_decide_eq_true h.2
  refine ⟨?_, by rw [dep_leaf (d := .int i) (fun _ e => nomatch e), dep_leaf (d := .int j) (fun _ e => nomatch e)]; omega, by rw [cnt_leaf (d := .int i) (fun _ e => nomatch e), cnt_leaf (d := .int j) (fun _ e => nomatch e)]; omega⟩
  rw [sm, Bool.and_eq_true]
  exact ⟨decide_eq_true (by omega), decide_eq_true (by omega)⟩
def spNear (K : PySem.W.Frag) (n : Nat) : Sp := fun vs H Q _ => ∃ (p c : Addr) (v : V) (d : Dt), (vs = [.ref p, v] ∧ PotAt H p c ∧ Rep K H v d ∧ sm 10 d = true ∧ dep d ≤ n) ∧ ∀ x d' H', NearW d d' → Rep K H' x d' → PotAt H' p c → Ex [p] H H' → Q x H'
-- @SP _law_draw spDraw
-- @SP _law_any spAny
-- @SP _law_worth (spWorthD K)
-- @SP _law_near (spNear K 7)
-- @SPR _law_near (spNear K)
section
variable {P : Program} {w : World} {K : PySem.W.Frag} {mg : Str → Option Value} {base : Heap} {A : Ad}
theorem ok_law_near {f : Addr} {fd : FuncData} (F : Fun K "_law_near" "_law_near" s_law_near f fd) (T : Txt K mg A) (C_law_draw : Cl P w K mg base 1 "_law_draw" spDraw) (C_law_any : Cl P w K mg base 2 "_law_any" spAny) (C_law_worth : Cl P w K mg base 3 "_law_worth" (spWorthD K)) (n : Nat) (C_law_near : Cl P w K mg base (n + 3) "_law_near" (prevSp (spNear K) n)) : FnOk P w K mg base CX0 (n + 3 + 1) f fd ["pot", "worth"] ((spNear K) n) := by
  refine F.ok sc_law_near (fun vs H Q E h => ?_) (fun cdv Ar outer s H vs Q E hr h => ?_)
  · obtain ⟨p, c, v, d, ⟨rfl, _⟩, _⟩ := h
    rfl
  · obtain ⟨p, c, v, d, ⟨rfl, hp, r, hs, hd⟩, k⟩ := h
    refine ⟨_, (pss_cons (ps_set (i := 2) sc_law_near.nd rfl (Or.inl rfl) (pe_cl C_law_draw hr (by omega) (by rfl) (pa_cons (pv 0) (pa_cons pe_int pa_nil)))) (pss_cons (ps_if (PW.pt (pw_and (pt_val (pe_callB (cIs (K := K) rfl) (by rfl) T.b_isinstance bt_isinstance (pa_cons (pv 1) (pa_cons (pe_bltn (v := .ty "tuple") (by rfl) T.b_tuple bt_tuple rfl) pa_nil)))) (pw_and (pt_cmpR oGt (pe_callB (cLen (K := K) rfl) (by rfl) T.b_len bt_len (pa_cons (pv 1) pa_nil)) pe_int (nomark _)) (pw_and1 (pt_cmpR oLt (pv 2) pe_int (nomark _)))))) (pss_cons (ps_set (i := 3) sc_law_near.nd rfl (Or.inl rfl) (pe_cl C_law_draw hr (by omega) (by rfl) (pa_cons (pv 0) (pa_cons (pe_callB (cLen (K := K) rfl) (by rfl) T.b_len bt_len (pa_cons (pv 1) pa_nil)) pa_nil)))) (pss_cons (ps_set (i := 4) sc_law_near.nd rfl (Or.inl rfl) (pe_ifExp (pt_cmpR oLt (pv 2) pe_int (nomark _)) (peTup (pa_cons (pe_cl C_law_near hr (by omega) (by rfl) (pa_cons (pv 0) (pa_cons (pe_ix (ixG (K := K) rfl) (pv 1) (pv 3) (fun _ _ => rfl)) pa_nil))) pa_nil)) (pe_ifExp (pt_cmpR op_eq (pv 2) pe_int (nomark _)) (peTup (pa_cons (pe_cl C_law_worth hr (by omega) (by rfl) (pa_cons (pv 0) pa_nil)) pa_nil)) (peTup pa_nil)))) (pss_one (ps_ret (pe_op (oAdd (K := K) rfl) (pe_op (oAdd (K := K) rfl) (pe_slice (slG (K := K) rfl) (pv 1) po_none (po_some (pv 3))) (pv 4)) (pe_slice (slG (K := K) rfl) (pv 1) (po_some (pe_op (oAdd (K := K) rfl) (pv 3) pe_int)) po_none)))))) pss_nil) (pss_cons (ps_if (pt_val (pe_callB (cIs (K := K) rfl) (by rfl) T.b_isinstance bt_isinstance (pa_cons (pv 1) (pa_cons (pe_bltn (v := .ty "str") (by rfl) T.b_str bt_str rfl) pa_nil)))) (pss_one (ps_ret (pe_cl C_law_any hr (by omega) (by rfl) (pa_cons (pv 0) (pa_cons (peLst (pa_cons (pe_op (oAdd (K := K) rfl) (pe_slice (slG (K := K) rfl) (pv 1) po_none (po_some pe_int)) pe_str) (pa_cons (pe_slice (slG (K := K) rfl) (pv 1) po_none (po_some (pe_un oNeg pe_int))) (pa_cons (pe_op (oAdd (K := K) rfl) (pe_slice (slG (K := K) rfl) (pv 1) po_none (po_some pe_int)) pe_str) (pa_cons pe_str (pa_cons (pe_op (oAdd (K := K) rfl) pe_str (pe_slice (slG (K := K) rfl) (pv 1) po_none (po_some pe_int))) pa_nil)))))) pa_nil))))) pss_nil) (pss_cons (ps_if (pt_val (pe_callB (cIs (K := K) rfl) (by rfl) T.b_isinstance bt_isinstance (pa_cons (pv 1) (pa_cons (pe_bltn (v := .ty "int") (by rfl) T.b_int bt_int rfl) pa_nil)))) (pss_one (ps_ret (pe_op oSub (pe_op (oAdd (K := K) rfl) (pv 1) (pe_cl C_law_draw hr (by omega) (by rfl) (pa_cons (pv 0) (pa_cons pe_int pa_nil)))) pe_int))) pss_nil) (pss_one (ps_ret (pe_cl C_law_any hr (by omega) (by rfl) (pa_cons (pv 0) (pa_cons (peLst (pa_cons (peTup (pa_cons (pv 1) pa_nil)) (pa_cons (pe_cl C_law_worth hr (by omega) (by rfl) (pa_cons (pv 0) pa_nil)) (pa_cons (pv 1) pa_nil)))) pa_nil))))))))), ?_⟩
    walk_at "nm"
    walk_at "rd"
    intro way H1 w0 w1 hp1 e1
    have r1 := e1.rep r
    have last : ∀ xw dw Hw q1 H2 q2 H3, dw ∈ worthMenu → H1 q1 = none → H2 q1 = some (.tup [v]) → Ex [] H1 H2 → Rep K Hw xw dw → PotAt Hw p c → Ex [p] H2 Hw → Hw q2 = none → H3 q2 = some (.lst [.ref q1, xw, v]) → Ex [] Hw H3 → ∀ x H4, x ∈ [V.ref q1, xw, v] → PotAt H4 p c → Ex [p] H3 H4 → Q x H4 := by
      intro xw dw Hw q1 H2 q2 H3 hdw nq1 hq1 e2 rw pw ew nq2 hq2 e3 x H4 hx hp4 e4
      obtain ⟨d', hd', r'⟩ := RepL.memOf (K := K) (H := H4) (l := [.tup [d], dw, d]) hx (by walk_at "repl")
      exact k x d' H4 (near_last hs hdw hd') r' hp4 (by walk_at "ex")
    have r0 := r
    cases r with
    | tup h1 h2 =>
      rename_i a xs l
      have hl := h2.length
      obtain ⟨hsl, hsa⟩ := sm_tup hs
      walk_at "rd"
      refine @ite2 _ _ _ _ (fun c1 => ?_) (fun c1 => ?_)
      · replace c1 : (0 : Int) < (xs.length : Nat) := of_decide_eq_true c1
        walk_at "rd"
        refine @ite2 _ _ _ _ (fun c2 => ?_) (fun c2 => ?_)
        · have h11 := e1.sqT h1
          walk_at "rd"
          intro at_ H2 t0 t1 hp2 e2
          obtain ⟨j, rfl⟩ : ∃ j : Nat, at_ = (j : Int) := ⟨at_.toNat, by omega⟩
          have hj : j < xs.length := by omega
          have hat : atI xs (j : Int) = some xs[j] := atI_nat (List.getElem?_eq_getElem hj)
          obtain ⟨dj, hdj, rj⟩ := h2.get (List.getElem?_eq_getElem hj)
          have wj : sm 10 dj = true := hsa dj (List.mem_of_getElem? hdj)
          have dpj := dep_mem (List.mem_of_getElem? hdj)
          generalize xs[j] = xj at hat rj
          have hz : ∀ lo hi, (cutV xs lo hi).length ≤ 900000 := fun lo hi => by
            have := cutV_length xs lo hi
            omega
          have z1 := hz none (some (j : Int))
          have z2 := hz (some ((j : Int) + 1)) none
          have p1 : RepL K H (cutV xs none (some (j : Int))) (l.take j) := by
            rw [cutV_to]
            exact h2.take j
          have p2 : RepL K H (cutV xs (some ((j : Int) + 1)) none) (l.drop (j + 1)) := by
            rw [show (j : Int) + 1 = ((j + 1 : Nat) : Int) by omega, cutV_from]
            exact h2.drop (j + 1)
          have rj2 := e2.rep (e1.rep rj)
          have p12 := e2.repL (e1.repL p1)
          have p22 := e2.repL (e1.repL p2)
          have h12 := e2.sqT h11
          have fin : ∀ (m : List Dt) (ms : List V) (H3 : Hp) (y : Addr), m.length ≤ 1 → (∀ x ∈ m, NearW dj x) → RepL K H3 ms m → Ex [p] H2 H3 → PotAt H3 p c → SqT K H3 y (cutV xs none (some (j : Int)) ++ ms ++ cutV xs (some ((j : Int) + 1)) none) → Q (.ref y) H3 := by
            intro m ms H3 y hm hn hr3 e3 hp3 hy
            refine k _ _ H3 (near_put hs hdj hm hn) (.tup hy (((e3.repL p12).append hr3).append (e3.repL p22))) hp3 (by walk_at "ex")
          rw [dep] at hd
          cases n with
          | zero => omega
          | succ n =>
            have dn : dep dj ≤ n := by omega
            walk_at "rd"
            refine @ite2 _ _ _ _ (fun c3 => ?_) (fun c3 => ?_)
            · walk_at "rd"
              intro x dx H3 nx rx hp3 e3
              walk_at "rdi"
              rename_i q1 A1 n1 h1' g1 q2 A2 s2 g2 q3 A3 s3 g3 q4 A4 s4 g4 q5 A5 s5 g5
              exact fin [dx] [x] A5 q5 (by simp) (fun y hy => by rw [List.mem_singleton.mp hy]; exact nx) (by walk_at "repl") (by walk_at "ex") (by walk_at "pot") s5
            · walk_at "rd"
              refine @ite2 _ _ _ _ (fun c4 => ?_) (fun c4 => ?_)
              · walk_at "rdi"
                rename_i xw dw Hw hdw rw pw ew q1 A1 n1 h1' g1 q2 A2 s2 g2 q3 A3 s3 g3 q4 A4 s4 g4 q5 A5 s5 g5
                exact fin [dw] [xw] A5 q5 (by simp) (fun y hy => by rw [List.mem_singleton.mp hy]; exact near_menu hdw) (by walk_at "repl") (by walk_at "ex") (by walk_at "pot") s5
              · walk_at "rdi"
                rename_i q1 A1 n1 h1' g1 q2 A2 s2 g2 q3 A3 s3 g3 q4 A4 s4 g4 q5 A5 s5 g5
                exact fin [] [] A5 q5 (by simp) (fun y hy => nomatch hy) .nil (by walk_at "ex") (by walk_at "pot") s5
        · walk_at "rdi"
          rename_i q1 A1 n1 h1' g1 xw dw Hw hdw rw pw ew q2 A2 n2 h2' g2 x A3 hx hp3 g3
          exact last xw dw Hw q1 A1 q2 A2 hdw n1 h1' g1 rw pw ew n2 h2' g2 x A3 hx hp3 g3
      · walk_at "rdi"
        rename_i q1 A1 n1 h1' g1 xw dw Hw hdw rw pw ew q2 A2 n2 h2' g2 x A3 hx hp3 g3
        exact last xw dw Hw q1 A1 q2 A2 hdw n1 h1' g1 rw pw ew n2 h2' g2 x A3 hx hp3 g3
    | non =>
      walk_at "rdi"
      rename_i q1 A1 n1 h1' g1 xw dw Hw hdw rw pw ew q2 A2 n2 h2' g2 x A3 hx hp3 g3
      exact last xw dw Hw q1 A1 q2 A2 hdw n1 h1' g1 rw pw ew n2 h2' g2 x A3 hx hp3 g3
    | int i =>
      walk_at "rdi"
      rename_i rr A1 r0' r1' pa ea
      exact k _ (.int (i + rr - 1)) A1 (near_int hs (by omega) (by omega)) (.int _) pa (by walk_at "ex")
    | str z hz =>
      have hpw : (decide (z.length ≤ 40) && z.cps.toList.all signOk) = true := by rw [sm] at hs; exact hs
      rw [Bool.and_eq_true] at hpw
      have hzl := of_decide_eq_true hpw.1
      have cl : ∀ lo hi, (cutS z lo hi).length ≤ 40 := fun lo hi => Nat.le_trans (cutS_length z lo hi) hzl
      have la : ("a" : Str).length = 1 := by decide +kernel
      have lb : (" " : Str).length = 1 := by decide +kernel
      have lB : ("B" : Str).length = 1 := by decide +kernel
      have c39 := cut_39 z
      have cm := cl none (some (-1))
      walk_at "rdi"
      rename_i q1 A1 n1 h1' g1 x A2 hx hpx g2
      obtain ⟨d', hd', r'⟩ := RepL.memOf (K := K) (H := A2) (l := [.str (cutS z none (some 39) ++ "a"), .str (cutS z none (some (-1))), .str (cutS z none (some 39) ++ " "), .str "~", .str ("B" ++ cutS z none (some 39))]) hx (by walk_at "repl")
      refine k x d' A2 ?_ r' hpx (by walk_at "ex")
      simp only [List.mem_cons, List.not_mem_nil, or_false] at hd'
      have a39 := cut_all hpw.2 none (some 39)
      rcases hd' with rfl | rfl | rfl | rfl | rfl
      · exact near_str (by rw [strapp_len]; omega) (app_all a39 (by decide +kernel))
      · exact near_str cm (cut_all hpw.2 none (some (-1)))
      · exact near_str (by rw [strapp_len]; omega) (app_all a39 (by decide +kernel))
      · exact near_str (by decide +kernel) (by decide +kernel)
      · exact near_str (by rw [strapp_len]; omega) (app_all (by decide +kernel) a39)
    | bl b => simp [sm] at hs
    | oth h => simp [sm] at hs
end

/-! ### worths put in order -/
def spInOrd (K : PySem.W.Frag) : Sp := fun vs H Q _ => ∃ (a : Addr) (xs : List V) (l : List Dt), (vs = [.ref a] ∧ H a = some (.lst xs) ∧ RepL K H xs l ∧ (∀ d ∈ l, isWorth d = true) ∧ l.length ≤ 100) ∧
  ∀ q ys m H', H' q = some (.lst ys) → RepL K H' ys m → (∀ d ∈ m, isWorth d = true) → Srt m → m.length ≤ 100 → Ex [] H H' → Q (.ref q) H'
-- @SP before (spBefore K A)
-- @SP _law_in_order (spInOrd K)
section
variable {P : Program} {w : World} {K : PySem.W.Frag} {mg : Str → Option Value} {base : Heap} {A : Ad}
theorem ok_law_in_order {f : Addr} {fd : FuncData} (F : Fun K "_law_in_order" "_law_in_order" s_law_in_order f fd) (T : Txt K mg A) (C_before : ClX P w K mg base 11 "before" (spBefore K A)) : FnOk P w K mg base CX0 12 f fd ["worths"] (spInOrd K) := by
  refine F.ok sc_law_in_order (fun vs H Q E h => ?_) (fun cdv Ar outer s H vs Q E hr h => ?_)
  · obtain ⟨a, xs, l, ⟨rfl, _⟩, _⟩ := h
    rfl
  · obtain ⟨a, xs, l, ⟨rfl, ha, hx, hw, hl⟩, k⟩ := h
    refine ⟨_, (pss_cons (ps_set (i := 1) sc_law_in_order.nd rfl (Or.inl rfl) (peLst pa_nil)) (pss_cons (ps_for PassesOwn.never rfl (pi_list (pv 0)) (pg_name (i := 2) sc_law_in_order.nd rfl (Or.inr rfl)) (pss_cons (ps_set (i := 3) sc_law_in_order.nd rfl (Or.inl rfl) (pe_callB (cLen (K := K) rfl) (by rfl) T.b_len bt_len (pa_cons (pe_lc (own := [("one", 4)]) (g := gName 4) (tt := _) rfl sc_law_in_order.nd (pi_list (pv 1)) (blkOk_by (N := n_law_in_order) (sc := defScope s_law_in_order) (by decide +kernel)) (fun _ _ _ _ _ => (pg_name (i := 4) sc_law_in_order.nd rfl (Or.inl rfl))) (fun _ _ _ _ _ => (pts_one (pt_val (pe_clX C_before L2.takes0 hr (by decide) (by rfl) (pa_cons (pv 4) (pa_cons (pv 2) pa_nil)))))) (fun _ _ _ _ _ => (pv 4))) pa_nil))) (pss_one (ps_set (i := 1) sc_law_in_order.nd rfl (Or.inl rfl) (pe_op (oAdd (K := K) rfl) (pe_op (oAdd (K := K) rfl) (pe_slice (slG (K := K) rfl) (pv 1) po_none (po_some (pv 3))) (peLst (pa_cons (pv 2) pa_nil))) (pe_slice (slG (K := K) rfl) (pv 1) (po_some (pv 3)) po_none)))))) (pss_one (ps_ret (pv 1))))), ?_⟩
    walk_at "nm"
    have hxl := hx.length
    walk_at "rd"
    intro q H1 nq hq e1
    have ha1 := e1.get0 ha
    walk_at "rd"
    refine for_it (walk_list (xs := xs)) (fun i σ H' => ∃ f ys m o2 o3 o4, σ = [some (.ref a), some (.ref f), o2, o3, o4] ∧ H' f = some (.lst ys) ∧ RepL K H' ys m ∧ (∀ d ∈ m, isWorth d = true) ∧ Srt m ∧ m.length = i ∧ Ex [] H H')
      ⟨q, [], [], none, none, none, rfl, hq, .nil, (fun _ h => nomatch h), List.Pairwise.nil, rfl, e1⟩ (fun i σ H' _ ⟨_, _, _, _, _, _, _, _, _, _, _, _, e⟩ => SqL.of (e.get0 ha)) ?_ ?_
    · clear hq e1 nq ha1
      rintro i y σ H2 H2' hi ⟨f, ys, m, o2, o3, o4, rfl, hf, hm, hwm, hs, hml, e2⟩ ⟨rfl, hy⟩
      obtain ⟨d, hd, ry⟩ := hx.get hy
      have wd := hw d (List.mem_of_getElem? hd)
      have ry2 := e2.rep ry
      have hyl := hm.length
      walk_at "rd"
      intro D hD
      refine lc_it (walk_list (xs := ys)) (fun j H' => ∃ acc, H' D = some (.lst acc) ∧ acc.length = (m.take j).countP (fun x => ltD x d) ∧ Ex [] H2' H') ⟨[], upd_same, by simp, Ex.new hD⟩ (fun i H h ⟨_, _, _, e⟩ => SqL.of (e.get0 hf)) ?_ ?_
      · rintro j x H3 H3' hj ⟨acc, hacc, hlen, e3⟩ ⟨rfl, hxj⟩
        obtain ⟨dx, hdx, rx⟩ := hm.get hxj
        have wx := hwm dx (List.mem_of_getElem? hdx)
        have rx3 := e3.rep rx
        have ry3 := e3.rep ry2
        have hct : (m.take (j + 1)).countP (fun x => ltD x d) = (m.take j).countP (fun x => ltD x d) + if ltD dx d = true then 1 else 0 := by
          rw [List.take_add_one, hdx, List.countP_append]
          simp [List.countP_cons]
        have hle : (m.take j).countP (fun x => ltD x d) ≤ 100 := Nat.le_trans List.countP_le_length (by rw [List.length_take]; omega)
        walk_at "rd"
        rw [wx, wd, if_pos (by rfl)]
        intro H4 e4
        have hacc4 := e4.get0 hacc
        walk_at "rd"
        refine @ite2 _ _ _ _ (fun c1 => ?_) (fun c1 => ?_)
        · walk_at "rd"
          refine ⟨?_, (e3.trans e4).put_new hD⟩
          rw [hct, if_pos c1, List.length_append, hlen]
          rfl
        · exact ⟨acc, hacc4, by rw [hct, if_neg c1, hlen]; rfl, e3.trans e4⟩
      · rintro H3 ⟨acc, hacc, hlen, e3⟩
        rw [hyl, List.take_length] at hlen
        have hle : m.countP (fun x => ltD x d) ≤ 100 := Nat.le_trans List.countP_le_length (by omega)
        have hf3 := e3.get0 hf
        have hz : ∀ lo hi, (cutV ys lo hi).length ≤ 1000 := fun lo hi => by
          have := cutV_length ys lo hi
          omega
        have z1 := hz none (some ((acc.length : Nat) : Int))
        have z2 := hz (some ((acc.length : Nat) : Int)) none
        walk_at "rd"
        intro p1 A1 n1 h1 g1
        walk_at "rd"
        intro p2 A2 n2 h2 g2
        walk_at "rd"
        intro p3 A3 n3 h3 g3
        walk_at "rd"
        intro p4 A4 n4 h4 g4
        walk_at "rd"
        intro p5 A5 n5 h5 g5
        refine ⟨p5, _, m.take acc.length ++ [d] ++ m.drop acc.length, _, _, _, rfl, h5, ?_, ?_, ?_, ?_, by walk_at "ex"⟩
        · rw [cutV_to, cutV_from]
          have hm3 := e3.repL hm
          have hm1 := hm3.take acc.length
          have hm2 := hm3.drop acc.length
          have ryy := e3.rep ry2
          refine RepL.append (RepL.append ?_ (.cons ?_ .nil)) ?_
          · walk_at "repl"
          · walk_at "rep"
          · walk_at "repl"
        · intro x hx
          rcases List.mem_append.mp hx with q | q
          · rcases List.mem_append.mp q with q | q
            · exact hwm x (List.mem_of_mem_take q)
            · rw [List.mem_singleton.mp q]; exact wd
          · exact hwm x (List.mem_of_mem_drop q)
        · rw [hlen]
          exact srt_ins (pw_pur d (worth_pw wd).1) (fun x hx => pw_pur x (worth_pw (hwm x hx)).1) hs
        · have hle2 : acc.length ≤ m.length := by rw [hlen]; exact List.countP_le_length
          rw [List.length_append, List.length_append, List.length_take, List.length_drop, List.length_singleton]
          omega
    · rintro σ H2 ⟨f, ys, m, o2, o3, o4, rfl, hf, hm, hwm, hs, hml, e2⟩
      walk_at "rd"
      exact k f ys m H2 hf hm hwm hs (by omega) e2
end

def spRef (K : PySem.W.Frag) : Sp := fun vs H Q _ => ∃ v u d e, (vs = [v, u] ∧ Rep K H v d ∧ Rep K H u e ∧ (isWorth d && isWorth e) = false) ∧ ∀ H', Ex [] H H' → Q (.bl true) H'
-- @SP before (spBefore K A)
-- @SP _law_is_refused (spRef K)
section
variable {P : Program} {w : World} {K : PySem.W.Frag} {mg : Str → Option Value} {base : Heap} {A : Ad}
theorem ok_law_is_refused {f : Addr} {fd : FuncData} (F : Fun K "_law_is_refused" "_law_is_refused" s_law_is_refused f fd) (T : Txt K mg A) (C_before : ClX P w K mg base 11 "before" (spBefore K A)) : FnOk P w K mg base CX0 12 f fd ["one", "other"] (spRef K) := by
  refine F.ok sc_law_is_refused (fun vs H Q E h => ?_) (fun cdv Ar outer s H vs Q E hr h => ?_)
  · obtain ⟨v, u, d, e, ⟨rfl, _⟩, _⟩ := h
    rfl
  · obtain ⟨v, u, d, e, ⟨rfl, r, r', hw⟩, k⟩ := h
    refine ⟨_, (pss_cons (L2.ps_try_as (i := 2) rfl rfl sc_law_is_refused.nd rfl rfl (ExcF.names T.e_NoWorth (by rfl)) L2.takes0 (fun W pn xe tk po => (pss_one (ps_expr (pe_clX C_before tk hr (by decide) (by rfl) (pa_cons (pv 0) (pa_cons (pv 1) pa_nil)))))) (fun a oe cls d pn hz hf => (pss_one (ps_ret (pe_callB (cIsX (K := K) rfl hz hf) (by rfl) T.b_isinstance bt_isinstance (pa_cons (pv 2) (pa_cons (C8.pe_gc (v := .ref A.TraceError) (by rfl) ⟨_, T.e_TraceError.g, rfl⟩) pa_nil))))))) (pss_one (ps_ret pe_bl))), ?_⟩
    walk_at "nm"
    walk_at "rd"
    rw [hw, if_neg (by simp)]
    intro H1 e1
    refine ⟨true, T.x_NoWorth_NoWorth, fun _ a ha => ?_, fun z => nomatch z⟩
    walk_at "rd"
    refine ⟨A.NoWorth, A.TraceError, true, ⟨rfl, rfl, rfl, T.q_NoWorth, kit_of_exm T.x_NoWorth_TraceError rfl⟩, ?_⟩
    exact k _ e1
end


-- @SP _law_draw spDraw
-- @SP _law_any spAny
theorem bt_dict : bootBuiltins "dict" = some (.type "dict") := by decide +kernel
/-! ### odd things -/
def spOdd (K : PySem.W.Frag) : Sp := fun vs H Q _ => ∃ (p c : Addr), (vs = [.ref p] ∧ PotAt H p c) ∧ ∀ x d H', Rep K H' x d → PotAt H' p c → Ex [p] H H' → Q x H'
-- @SP _law_odd (spOdd K)
section
variable {P : Program} {w : World} {K : PySem.W.Frag} {mg : Str → Option Value} {base : Heap}
theorem ok_law_odd {f : Addr} {fd : FuncData} (F : Fun K "_law_odd" "_law_odd" s_law_odd f fd) (T : Txt K mg A) (C_law_draw : Cl P w K mg base 1 "_law_draw" spDraw) (C_law_any : Cl P w K mg base 2 "_law_any" spAny) : FnOk P w K mg base CX0 3 f fd ["pot"] (spOdd K) := by
  refine F.ok sc_law_odd (fun vs H Q E h => ?_) (fun cdv A outer s H vs Q E hr h => ?_)
  · obtain ⟨p, c, ⟨rfl, _⟩, _⟩ := h
    rfl
  · obtain ⟨p, c, ⟨rfl, hp⟩, k⟩ := h
    refine ⟨_, (pss_cons (ps_set (i := 1) sc_law_odd.nd rfl (Or.inl rfl) (pe_cl C_law_any hr (by decide) (by rfl) (pa_cons (pv 0) (pa_cons (peLst (pa_cons pe_non (pa_cons pe_int (pa_cons (peTup pa_nil) (pa_cons pe_str pa_nil))))) pa_nil)))) (pss_cons (ps_for PassesOwn.never rfl (pi_range1 (by rfl) T.b_range (pa_cons (pe_cl C_law_any hr (by decide) (by rfl) (pa_cons (pv 0) (pa_cons (peLst (pa_cons (pe_op (oAdd (K := K) rfl) pe_int (pe_cl C_law_draw hr (by decide) (by rfl) (pa_cons (pv 0) (pa_cons pe_int pa_nil)))) (pa_cons (pe_op (oAdd (K := K) rfl) pe_int (pe_cl C_law_draw hr (by decide) (by rfl) (pa_cons (pv 0) (pa_cons pe_int pa_nil)))) pa_nil))) pa_nil))) pa_nil)) (pg_name (i := 2) sc_law_odd.nd rfl (Or.inl rfl)) (pss_one (ps_set (i := 1) sc_law_odd.nd rfl (Or.inl rfl) (pe_ix (ixG (K := K) rfl) (peLst (pa_cons (peTup (pa_cons (pv 1) pa_nil)) (pa_cons (peLst (pa_cons (pv 1) pa_nil)) (pa_cons (peTup (pa_cons pe_int (pa_cons (pv 1) pa_nil))) pa_nil)))) (pe_cl C_law_draw hr (by decide) (by rfl) (pa_cons (pv 0) (pa_cons pe_int pa_nil))) (fun _ _ => rfl))))) (pss_cons (ps_set (i := 3) sc_law_odd.nd rfl (Or.inl rfl) (peLst (pa_cons pe_bl (pa_cons pe_bl (pa_cons (peLst pa_nil) (pa_cons peDict0 (pa_cons (peLst (pa_cons pe_int pa_nil)) (pa_cons (pe_disp (pps_cons pe_int pe_int pps_nil) (by rfl) (by rfl) (fun z => by cases z) (by decide)) (pa_cons (pe_disp (pps_cons pe_str (peTup (pa_cons pe_int pa_nil)) pps_nil) (by rfl) (by rfl) (fun z => by cases z) (by decide)) (pa_cons (peTup (pa_cons pe_bl pa_nil)) (pa_cons (peTup (pa_cons (peLst pa_nil) pa_nil)) (pa_cons (pe_op (oAdd (K := K) rfl) (pe_op oPow pe_int pe_int) pe_int) (pa_cons (pe_op oSub pe_int (pe_op oPow pe_int pe_int)) pa_nil))))))))))))) (pss_cons (ps_set (i := 3) sc_law_odd.nd rfl (Or.inl rfl) (pe_op (oAdd (K := K) rfl) (pv 3) (peLst (pa_cons (pe_op (oMul (K := K) rfl) pe_str pe_int) (pa_cons pe_str (pa_cons (pv 1) (pa_cons (pv 1) pa_nil))))))) (pss_cons (ps_set (i := 4) sc_law_odd.nd rfl (Or.inl rfl) (peLst (pa_cons (pe_op (oMul (K := K) rfl) (peTup (pa_cons pe_int pa_nil)) pe_int) (pa_cons (pe_op (oMul (K := K) rfl) (peLst (pa_cons pe_int pa_nil)) pe_int) (pa_cons (pe_op (oMul (K := K) rfl) (peTup (pa_cons (peTup (pa_cons pe_int (pa_cons pe_str pa_nil))) pa_nil)) pe_int) (pa_cons (pe_op (oMul (K := K) rfl) (peTup (pa_cons (pe_op (oMul (K := K) rfl) (peTup (pa_cons pe_int pa_nil)) pe_int) pa_nil)) pe_int) (pa_cons (pe_callTy (cDict (K := K) rfl rfl) (by rfl) T.b_dict bt_dict (pa_cons (pe_lc (own := [("key", 5)]) (g := gName 5) (tt := tYes) rfl sc_law_odd.nd (pi_range1 (by rfl) T.b_range (pa_cons pe_int pa_nil)) (blkOk_by (N := n_law_odd) (sc := defScope s_law_odd) (by decide +kernel)) (fun _ _ _ _ _ => (pg_name (i := 5) sc_law_odd.nd rfl (Or.inl rfl))) (fun _ _ _ _ _ => pts_nil) (fun _ _ _ _ _ => (peTup (pa_cons (pv 5) (pa_cons (peTup pa_nil) pa_nil))))) pa_nil)) pa_nil))))))) (pss_one (ps_ret (pe_cl C_law_any hr (by decide) (by rfl) (pa_cons (pv 0) (pa_cons (pe_op (oAdd (K := K) rfl) (pv 3) (peLst (pa_cons (pv 1) (pa_cons (pe_cl C_law_any hr (by decide) (by rfl) (pa_cons (pv 0) (pa_cons (pv 4) pa_nil))) pa_nil)))) pa_nil)))))))))), ?_⟩
    walk_at "nm"
    walk_at "rdi"
    rename_i q1 A1 h1 h2 h3 q2 A2 h4 h5 h6 x1 A3 h7 h8 h9 r1 A4 h10 h11 h12 h13 r2 A5 h14 h15 h16 h17 q3 A6 h18 h19 h20 x2 A7 h21 h22 h23
    obtain ⟨d1, hd1, hr1⟩ := RepL.memOf (K := K) (H := A3) (l := [.non, .int 0, .tup [], .str "a"]) h7 (by walk_at "repl")
    obtain ⟨n, rfl, hn⟩ : ∃ n : Nat, x2 = .int n ∧ n ≤ 1000 := by
      rcases List.mem_cons.mp h21 with e | e
      · exact ⟨(20 + r1).toNat, by rw [e]; congr 1; omega, by omega⟩
      · have e := List.mem_singleton.mp e
        exact ⟨(54 + r2).toNat, by rw [e]; congr 1; omega, by omega⟩
    have hr7 : Rep K A7 x1 d1 := by walk_at "rep"
    have e7 : Ex [p] H A7 := by walk_at "ex"
    clear hd1 hr1 h1 h2 h3 h4 h5 h6 h7 h8 h9 h10 h11 h12 h13 h14 h15 h16 h17 h18 h19 h20 h21 h23
    clear A1 A2 A3 A4 A5 A6 q1 q2 q3 r1 r2
    walk_at "rd"
    refine for_it (walk_range (lo := 0) (n := ((n : Nat) : Int).toNat)) (fun i σ H' => ∃ x d o2, σ = [some (.ref p), some x, o2, none, none, none] ∧ Rep K H' x d ∧ PotAt H' p c ∧ Ex [p] H H')
      ⟨x1, d1, none, rfl, hr7, h22, e7⟩ (fun _ _ _ _ _ => trivial) ?_ ?_
    · clear hr7 h22 e7 A7 x1 d1
      rintro i y σ H1 H1' hi ⟨x, d, o2, rfl, hx, hp1, e1⟩ ⟨rfl, rfl⟩
      walk_at "rdi"
      rename_i q1 B1 h1 h2 h3 q2 B2 h4 h5 h6 q3 B3 h7 h8 h9 q4 B4 h10 h11 h12 r B5 h13 h14 h15 h16
      have hr : r = 0 ∨ r = 1 ∨ r = 2 := by omega
      rcases hr with rfl | rfl | rfl
      all_goals walk_at "rd"
      all_goals walk_at "ex"
    · rintro σ H1 ⟨x, d, o2, rfl, hx, hp1, e1⟩
      walk_at "rdi"
      rename_i Hc hsc ec D hD
      refine lc_it (walk_range (lo := 0) (n := 1000)) (LcP D [] (fun _ => True) (RepAt K ((List.range 1000).map fun i => Dt.tup [.int (0 + (i : Nat)), .tup []])) Hc) (LcP.start hD trivial (true_loc D)) (fun _ _ _ _ => trivial) ?_ ?_
      · clear hx hp1 e1 hsc ec
        rintro j y H3 H3' hj q ⟨rfl, rfl⟩
        walk_at "rd"
        intro t1 H4 ht1 hs1 e4
        walk_at "rd"
        intro t2 H5 ht2 hs2 e5
        exact q.step hD RepAt.stab (true_loc D) (by walk_at "ex") trivial trivial ⟨_, by rw [List.getElem?_map, List.getElem?_range hj]; rfl, by walk_at "rep"⟩ hj (by decide)
      · intro H3 q
        obtain ⟨ys, h5, h6⟩ := q.done (by rw [List.length_map, List.length_range])
        obtain ⟨ps, kvs, rfl, hps⟩ := pairs_of h6 fun d hd => by
          obtain ⟨i, _, e⟩ := List.mem_map.mp hd
          exact ⟨_, _, e.symm⟩
        have e3 := q.ex
        clear q h6
        walk_at "rdi"
        rename_i xw Hw hxw hpw ew q8 H8 g1 g2 g3 q7 H7 g4 g5 g6 x9 H9 hx9 hp9 e9
        obtain ⟨dw, _, rw⟩ := RepL.memOf (K := K) (H := Hw) (l := [.tup (List.replicate (Int.toNat 3000) [.int 0]).flatten, .oth, .tup (List.replicate (Int.toNat 1500) [.tup [.int 1, .str "a"]]).flatten,
          .tup (List.replicate (Int.toNat 50) [.tup (List.replicate (Int.toNat 50) [.int 0]).flatten]).flatten, .oth]) hxw (by walk_at "repl")
        simp only [List.cons_append, List.nil_append] at hx9
        obtain ⟨d9, _, r9⟩ := RepL.memOf (K := K) (H := H9) (l := [.bl true, .bl false, .oth, .oth, .oth, .oth, .oth, .tup [.bl true], .tup [.oth], .int _, .int _, .str _, .str _, d, d, d, dw]) hx9 (by walk_at "repl")
        exact k x9 d9 H9 r9 hp9 (by walk_at "ex")
end


/-! ### the law -/
def PAt (P : Dt → Prop) (K : PySem.W.Frag) (_ : Nat) (y : V) (H : Hp) : Prop := ∃ d, P d ∧ Rep K H y d
theorem PAt.stab {P : Dt → Prop} {K : PySem.W.Frag} : Stab (PAt P K) := fun _ _ _ _ _ e ⟨d, h, r⟩ => ⟨d, h, e.rep r⟩
theorem pat_list {P : Dt → Prop} {K : PySem.W.Frag} {H : Hp} : ∀ {ys : List V}, (∀ j y, ys[j]? = some y → PAt P K j y H) → ∃ ds, RepL K H ys ds ∧ ∀ d ∈ ds, P d
  | [], _ => ⟨[], .nil, fun _ h => nomatch h⟩
  | y :: ys, h => by
    obtain ⟨d, hd, r⟩ := h 0 y (by simp)
    obtain ⟨ds, rs, hs⟩ := pat_list (ys := ys) fun j z hz => h (j + 1) z (by simpa using hz)
    exact ⟨d :: ds, .cons r rs, fun e he => (List.mem_cons.mp he).elim (fun q => q ▸ hd) (hs e)⟩
def Drawn (d : Dt) : Prop := sm 10 d = true ∧ dep d ≤ 6 ∧ cnt d ≤ 38
theorem drawn_worth {d : Dt} (h : Drawn d) : isWorth d = true := sm_worth (sm_mono (by decide) d h.1) (by have := h.2.1; omega) (by have := h.2.2; omega)
theorem near_worth {d d' : Dt} (h : Drawn d) (h' : NearW d d') : isWorth d' = true := sm_worth h'.1 (by have := h.2.1; have := h'.2.1; omega) (by have := h.2.2; have := h'.2.2; omega)
theorem told_shown (b c : Bool) : (PyData.tuple [.bool b, .bool c]).showable = true ∧ (PyData.tuple [.bool b, .bool c]).hasDict = false ∧ (PyData.tuple [.bool b, .bool c]).depth ≤ 32 ∧ (PyData.tuple [.bool b, .bool c]).shown.length ≤ sizeLine := by
  cases b <;> cases c <;> decide +kernel
theorem SqT.frz {K : PySem.W.Frag} {H : Hp} {a : Addr} {o : Obj} {xs : List V} (h : H a = some (.frz o (.tup xs))) : SqT K H a xs := .inl (.inr ⟨o, h⟩)
def spLaw (K : PySem.W.Frag) : Sp := fun vs H Q _ => ∃ (a : Addr) (ns : List Int), (vs = [.ref a] ∧ SqL K H a (ns.map V.int) ∧ ns.length ≤ 63) ∧ ∀ H', Q (.bl true) H'
-- @SP _law_pot (spPot K)
-- @SP _law_draw spDraw
-- @SP _law_any spAny
-- @SP _law_deep_worth (spDeep K)
-- @SP _law_near (spNear K 7)
-- @SP before (spBefore K A)
-- @SP _law_is_less (spLess K 8)
-- @SP _law_in_order (spInOrd K)
-- @SP _law_odd (spOdd K)
-- @SP _law_is_worth (spWorth K)
-- @SP _law_is_refused (spRef K)
section
variable {P : Program} {w : World} {K : PySem.W.Frag} {mg : Str → Option Value} {base : Heap} {A : Ad}
theorem ok_law {f : Addr} {fd : FuncData} (F : Fun K "law" "law" s_law f fd) (T : Txt K mg A) (C_before : ClX P w K mg base 11 "before" (spBefore K A)) (C_law_pot : Cl P w K mg base 1 "_law_pot" (spPot K)) (C_law_draw : Cl P w K mg base 1 "_law_draw" spDraw) (C_law_any : Cl P w K mg base 2 "_law_any" spAny) (C_law_deep_worth : Cl P w K mg base 4 "_law_deep_worth" (spDeep K)) (C_law_is_worth : Cl P w K mg base 2 "_law_is_worth" (spWorth K)) (C_law_is_less : Cl P w K mg base 10 "_law_is_less" (spLess K 8)) (C_law_odd : Cl P w K mg base 3 "_law_odd" (spOdd K)) (C_law_near : Cl P w K mg base 11 "_law_near" (spNear K 7)) (C_law_is_refused : Cl P w K mg base 12 "_law_is_refused" (spRef K)) (C_law_in_order : Cl P w K mg base 12 "_law_in_order" (spInOrd K)) (bd : ∀ (s : Shared) (u : Value), BindsTo s fd ⟨[u], []⟩ [("script", u)]) : RunG P w K mg base f (spLaw K) := by
  refine claim_run (k := 40) F sc_law ⟨rfl, by decide, by decide⟩ bd fun cdv s H v Q E hr h => ?_
  have hgd : callerA.guards = some [] := rfl
  obtain ⟨a, ns, ⟨hv, ha, hn⟩, k⟩ := h
  obtain rfl : v = .ref a := by simpa using hv
  refine ⟨_, (pss_cons (ps_set (i := 1) sc_law.nd rfl (Or.inr rfl) (pe_cl C_law_pot hr (by decide) (by rfl) (pa_cons (pv 0) pa_nil))) (pss_cons (ps_setLc (i := 3) (own := [("turn", 2)]) (g := gName 2) (tt := tYes) rfl sc_law.nd rfl rfl (sw_true rfl rfl rfl (by decide +kernel)) (pi_range1 (by rfl) T.b_range (pa_cons pe_int pa_nil)) (blkOk_by (N := n_law) (sc := defScope s_law) (by decide +kernel)) (fun _ _ _ _ _ => (pg_name (i := 2) sc_law.nd rfl (Or.inl rfl))) (fun _ _ _ _ _ => pts_nil) (fun _ _ _ _ _ => (pe_cl C_law_deep_worth hr (by decide) (by rfl) (pa_cons (pv 1) (pa_cons (pe_cl C_law_draw hr (by decide) (by rfl) (pa_cons (pv 1) (pa_cons pe_int pa_nil))) pa_nil))))) (pss_cons (ps_set (i := 3) sc_law.nd rfl (Or.inl rfl) (pe_op (oAdd (K := K) rfl) (pe_op (oAdd (K := K) rfl) (pv 3) (pe_lc (own := [("worth", 4)]) (g := gName 4) (tt := tYes) rfl sc_law.nd (pi_list (pv 3)) (blkOk_by (N := n_law) (sc := defScope s_law) (by decide +kernel)) (fun _ _ _ _ _ => (pg_name (i := 4) sc_law.nd rfl (Or.inl rfl))) (fun _ _ _ _ _ => pts_nil) (fun _ _ _ _ _ => (pe_cl C_law_near hr (by decide) (by rfl) (pa_cons (pv 1) (pa_cons (pv 4) pa_nil)))))) (peLst (pa_cons (pe_un oNeg (pe_op oPow pe_int pe_int)) (pa_cons (pe_op oPow pe_int pe_int) (pa_cons (pe_op (oMul (K := K) rfl) pe_str pe_int) (pa_cons pe_str (pa_cons (peTup pa_nil) pa_nil)))))))) (pss_cons (ps_for PassesOwn.never rfl (pi_range1 (by rfl) T.b_range (pa_cons pe_int pa_nil)) (pg_name (i := 2) sc_law.nd rfl (Or.inl rfl)) (pss_cons (ps_par (i := 5) (j := 6) rfl sc_law.nd rfl rfl (by decide) rfl rfl (pa_cons (pe_cl C_law_any hr (by decide) (by rfl) (pa_cons (pv 1) (pa_cons (pv 3) pa_nil))) (pa_cons (pe_cl C_law_any hr (by decide) (by rfl) (pa_cons (pv 1) (pa_cons (pv 3) pa_nil))) pa_nil)) (by rfl)) (pss_cons (ps_set (i := 7) sc_law.nd rfl (Or.inl rfl) (peTupB (pa_cons (pe_clX C_before L2.takes0 hr (by decide) (by rfl) (pa_cons (pv 5) (pa_cons (pv 6) pa_nil))) (pa_cons (pe_clX C_before L2.takes0 hr (by decide) (by rfl) (pa_cons (pv 6) (pa_cons (pv 5) pa_nil))) pa_nil)))) (pss_cons (ps_if (pt_cmpR op_ne (pe_callB (cRepr (K := K) rfl rfl hr.units) (by rfl) T.b_repr bt_repr (pa_cons (pv 7) pa_nil)) (pe_callB (cRepr (K := K) rfl rfl hr.units) (by rfl) T.b_repr bt_repr (pa_cons (peTup (pa_cons (pe_cl C_law_is_less hr (by decide) (by rfl) (pa_cons (pv 5) (pa_cons (pv 6) pa_nil))) (pa_cons (pe_cl C_law_is_less hr (by decide) (by rfl) (pa_cons (pv 6) (pa_cons (pv 5) pa_nil))) pa_nil))) pa_nil)) (nomark _)) (pss_one (ps_ret pe_bl)) pss_nil) (pss_one (ps_if (pt_cmpR op_ne (pe_tm PySem.F.slot_tuple_count PySem.F.type_tuple_count (mCntB (K := K) rfl) (pv 7) (pa_cons pe_bl pa_nil)) (pe_callTy call_int1 (by rfl) T.b_int bt_int (pa_cons (pe_cmpR op_ne (pe_callB (cReprP (K := K) rfl hgd hr) (by rfl) T.b_repr bt_repr (pa_cons (pv 5) pa_nil)) (pe_callB (cReprP (K := K) rfl hgd hr) (by rfl) T.b_repr bt_repr (pa_cons (pv 6) pa_nil)) (nomark _)) pa_nil)) (nomark _)) (pss_one (ps_ret pe_bl)) pss_nil)))))) (pss_cons (ps_set (i := 8) sc_law.nd rfl (Or.inr rfl) (pe_cl C_law_in_order hr (by decide) (by rfl) (pa_cons (pv 3) pa_nil))) (pss_cons (ps_for PassesOwn.never rfl (pi_range1 (by rfl) T.b_range (pa_cons (pe_callB (cLen (K := K) rfl) (by rfl) T.b_len bt_len (pa_cons (pv 8) pa_nil)) pa_nil)) (pg_name (i := 9) sc_law.nd rfl (Or.inr rfl)) (pss_one (ps_if (pt_val (pe_callB (cAny (K := K) rfl rfl) (by rfl) T.b_any bt_any (pa_cons (pe_lc (own := [("later", 11)]) (g := gName 11) (tt := tYes) rfl sc_law.nd (pi_range2 (by rfl) T.b_range (pa_cons (pe_op (oAdd (K := K) rfl) (pv 9) pe_int) (pa_cons (pe_callB (cLen (K := K) rfl) (by rfl) T.b_len bt_len (pa_cons (pv 8) pa_nil)) pa_nil))) (blkOk_by (N := n_law) (sc := defScope s_law) (by decide +kernel)) (fun _ _ _ _ _ => (pg_name (i := 11) sc_law.nd rfl (Or.inl rfl))) (fun _ _ _ _ _ => pts_nil) (fun _ _ _ _ _ => (pe_cl C_law_is_less hr (by decide) (by rfl) (pa_cons (pe_ix (ixG (K := K) rfl) (pv 8) (pv 11) (fun _ _ => rfl)) (pa_cons (pe_ix (ixG (K := K) rfl) (pv 8) (pv 9) (fun _ _ => rfl)) pa_nil))))) pa_nil))) (pss_one (ps_ret pe_bl)) pss_nil))) (pss_cons (ps_par (i := 10) (j := 4) rfl sc_law.nd rfl rfl (by decide) rfl rfl (pa_cons (pe_cl C_law_odd hr (by decide) (by rfl) (pa_cons (pv 1) pa_nil)) (pa_cons (pe_cl C_law_any hr (by decide) (by rfl) (pa_cons (pv 1) (pa_cons (pv 3) pa_nil))) pa_nil)) (by rfl)) (pss_cons (ps_if (pt_val (pe_cl C_law_is_worth hr (by decide) (by rfl) (pa_cons (pv 10) pa_nil))) (pss_one (ps_ret pe_bl)) pss_nil) (pss_one (ps_ret (pe_and (pe_cl C_law_is_refused hr (by decide) (by rfl) (pa_cons (pv 10) (pa_cons (pv 4) pa_nil))) (pe_and (pe_cl C_law_is_refused hr (by decide) (by rfl) (pa_cons (pv 4) (pa_cons (pv 10) pa_nil))) (pe_one (pe_cl C_law_is_refused hr (by decide) (by rfl) (pa_cons (pv 10) (pa_cons (pv 10) pa_nil)))))))))))))))), ?_⟩
  walk_at "nm"
  walk_at "rd"
  intro p c H1 hp1 e1
  walk_at "rd"
  intro D hD
  refine lc_it (walk_range (lo := 0) (n := Int.toNat 4)) (LcP D [p] (fun H => PotAt H p c) (PAt Drawn K) H1) (LcP.start hD hp1 fun H o h => h.oth (hp1.ne hD) (hp1.nec hD)) (fun _ _ _ _ => trivial) ?_ ?_
  · rintro j y H3 H3' hj q ⟨rfl, rfl⟩
    have hp3 := q.p
    walk_at "rd"
    intro r H4 hr0 hr1 hp4 e4
    obtain ⟨n, rfl⟩ : ∃ n : Nat, r = (n : Int) := ⟨r.toNat, by omega⟩
    walk_at "rd"
    intro x d H5 hd rx hp5 e5
    have hs := deep_sm hd
    exact q.step hD PAt.stab (fun H o h => h.oth (hp1.ne hD) (hp1.nec hD)) (e4.trans e5) ⟨hp1.ne hD, trivial⟩ hp5 ⟨d, ⟨hs.1, by omega, by omega⟩, rx⟩ hj (by decide)
  intro H3 q
  obtain ⟨e3, hp3, ys, h5, h6, h7⟩ := q
  obtain ⟨ds, h8, h9⟩ := pat_list h7
  have h10 := h8.length
  have hDp := hp1.ne hD
  have hDc := hp1.nec hD
  clear h7
  walk_at "rd"
  intro D2 hD2
  have hD2p := hp3.ne hD2
  have hD2c := hp3.nec hD2
  have hDD : D ≠ D2 := ne_of_none h5 hD2
  refine lc_it (walk_list (xs := ys)) (LcP D2 [p] (fun H => PotAt H p c ∧ H D = some (.lst ys)) (PAt (fun d => isWorth d = true) K) H3) (LcP.start hD2 ⟨hp3, h5⟩ fun H o h => ⟨h.1.oth hD2p hD2c, upd_oth2 h.2 hDD⟩) (fun i H h q => SqL.of q.p.2) ?_ ?_
  · rintro j y H4 H4' hj q ⟨rfl, hy⟩
    obtain ⟨hp4, hl4⟩ := q.p
    obtain ⟨d, hd, ry⟩ := h8.get hy
    have dd := h9 d (List.mem_of_getElem? hd)
    have ry4 := q.ex.rep ry
    have hsm := dd.1
    have hdp : dep d ≤ 7 := by have := dd.2.1; omega
    walk_at "rd"
    intro x d' H5 hn' rx hp5 e5
    exact q.step hD2 PAt.stab (fun H o h => ⟨h.1.oth hD2p hD2c, upd_oth2 h.2 hDD⟩) e5 ⟨hD2p, trivial⟩ ⟨hp5, e5.get hl4 ⟨hDp, trivial⟩⟩ ⟨d', near_worth dd hn', rx⟩ hj (by omega)
  intro H4 q
  obtain ⟨e4, ⟨hp4, hl4⟩, ys2, g5, g6, g7⟩ := q
  obtain ⟨ds2, g8, g9⟩ := pat_list g7
  have g10 := g8.length
  have h84 := e4.repL h8
  clear g7 h8 h5
  have zz : ys.length + ys2.length ≤ 8 := by omega
  walk_at "rd"
  intro q1 A1 n1 f1 w1
  walk_at "rd"
  intro q2 A2 n2 f2 w2
  walk_at "rd"
  intro q3 A3 n3 f3 w3
  walk_at "rd"
  intro q4 A4 n4 f4 w4
  have hp9 : PotAt A4 p c := by walk_at "pot"
  have hq4 : q4 ≠ p := PotAt.ne' n4 (by walk_at "pot")
  have hwl : ∃ (ws : List V) (L : List Dt), A4 q4 = some (.lst ws) ∧ RepL K A4 ws L ∧ (∀ d ∈ L, isWorth d = true) ∧ 0 < ws.length ∧ ws.length ≤ 20 := by
    refine ⟨_, (ds ++ ds2) ++ [.int (-10 ^ Int.toNat 30), .int (10 ^ Int.toNat 30), .str (repS "~" 40), .str "", .tup []], f4, by walk_at "repl", fun d hd => ?_, ?_, ?_⟩
    · rcases List.mem_append.mp hd with q | q
      · rcases List.mem_append.mp q with q | q
        · exact drawn_worth (h9 d q)
        · exact g9 d q
      · exact (by decide +kernel : ∀ d ∈ [Dt.int (-10 ^ Int.toNat 30), .int (10 ^ Int.toNat 30), .str (repS "~" 40), .str "", .tup []], isWorth d = true) d q
    · rw [List.length_append]; simp
    · rw [List.length_append, List.length_append]
      simp only [List.length_cons, List.length_nil]
      omega
  obtain ⟨ws, L, f5, hL, hW, hw0, hw1⟩ := hwl
  have hq4c : q4 ≠ c := PotAt.nec' n4 (by walk_at "pot")
  clear f4 w4 n4 f3 w3 n3 f2 w2 n2 f1 w1 n1 h84 zz g10 g9 g8 g6 g5 hl4 hp4 e4 hDD hD2c hD2p hD2 hDc hDp h10 h9 h6 hp3 e3 hD hp1 e1
  clear A1 A2 A3 H4 H3 H1 ys ys2 ds ds2 D2 q1 q2 q3
  walk_at "rd"
  refine for_it (walk_range (lo := 0) (n := Int.toNat 30)) (fun i σ H' => ∃ o2 o5 o6 o7, σ = [some (.ref a), some (.ref p), o2, some (.ref q4), none, o5, o6, o7, none, none, none, none] ∧ PotAt H' p c ∧ Ex [p] A4 H')
    ⟨none, none, none, none, rfl, hp9, Ex.refl _ _⟩ (fun _ _ _ _ _ => trivial) ?_ ?_
  · clear hp9
    rintro i y σ H1 H1' hi ⟨o2, o5, o6, o7, rfl, hp1, e1⟩ ⟨rfl, rfl⟩
    have f6 := e1.get f5 ⟨hq4, trivial⟩
    have hL1 := e1.repL hL
    walk_at "rd"
    intro x H2 hx hp2 e2
    have f7 := e2.get f6 ⟨hq4, trivial⟩
    obtain ⟨d, hd, rx⟩ := RepL.memOf hx (e2.repL hL1)
    have wd := hW d hd
    clear hx
    walk_at "rd"
    intro x' H3 hx' hp3 e3
    obtain ⟨d', hd', rx'⟩ := RepL.memOf hx' (e3.repL (e2.repL hL1))
    have wd' := hW d' hd'
    have rx3 := e3.rep rx
    clear hx'
    obtain ⟨p1, q1⟩ := worth_pw wd
    obtain ⟨p2, q2⟩ := worth_pw wd'
    walk_at "rd"
    rw [wd, wd', if_pos (by rfl)]
    intro H4 e4
    have r4 := e4.rep rx3
    have r4' := e4.rep rx'
    walk_at "rd"
    rw [wd', wd, if_pos (by rfl)]
    intro H5 e5
    have r5 := e5.rep r4
    have r5' := e5.rep r4'
    clear r4 r4' rx rx' rx3
    walk_at "rd"
    refine ⟨[ltD d d', ltD d' d], ⟨rfl, by show 2 ≤ 16777216; decide⟩, ?_⟩
    intro t H6 nt ht e6
    have r6 := e6.rep r5
    have r6' := e6.rep r5'
    clear r5 r5'
    have sh := told_shown (ltD d d') (ltD d' d)
    walk_at "rd"
    refine .inr ⟨t, _, ⟨rfl, .tup (SqT.frz ht) (.cons (.bl _) (.cons (.bl _) .nil)), sh.1, sh.2.1, sh.2.2.1, sh.2.2.2⟩, ?_⟩
    walk_at "rd"
    intro H7 e7
    have r7 := e7.rep r6
    have r7' := e7.rep r6'
    walk_at "rd"
    intro H8 e8
    walk_at "rd"
    intro t2 H9 nt2 ht2 e9
    refine .inr ⟨t2, _, ⟨rfl, .tup (SqT.of ht2) (.cons (.bl _) (.cons (.bl _) .nil)), sh.1, sh.2.1, sh.2.2.1, sh.2.2.2⟩, ?_⟩
    walk_at "rd"
    refine @ite2 _ _ _ _ (fun c1 => absurd c1 (by simp)) (fun c1 => ?_)
    have ht9 := e9.frz (e8.frz (e7.frz ht))
    have r9 := e9.rep (e8.rep r7)
    have r9' := e9.rep (e8.rep r7')
    have ok1 := worth_ok wd
    have ok2 := worth_ok wd'
    have sz1 := worth_sz wd
    have sz2 := worth_sz wd'
    refine ⟨V.ref t, rfl, t, _, _, ⟨rfl, ht9, rfl⟩, ?_⟩
    refine ⟨t, [ltD d d', ltD d' d], true, ⟨rfl, rfl, SqT.frz ht9⟩, ?_⟩
    walk_at "rd"
    intro z1 hz1
    walk_at "rd"
    intro z2 hz2
    walk_at "rd"
    have hpot : PotAt H9 p c := by walk_at "pot"
    have hex : Ex [p] A4 H9 := by walk_at "ex"
    have key : ([ltD d d', ltD d' d].count true : Nat) = (if (!decide (V.str z1 = V.str z2)) = true then 1 else 0) := by
      have tt := tri d d' (pw_pur d p1) (pw_pur d' p2)
      by_cases c2 : eqD d d' = true
      · have c3 := (eqD_iff d d' (pw_pur d p1) (pw_pur d' p2)).mp c2
        have c4 : z1 = z2 := TL.ext_tl (by show z1.cps.toList = z2.cps.toList; rw [hz1, hz2, c3])
        rw [if_pos c2] at tt
        rw [c4, decide_eq_true rfl]
        cases b1 : ltD d d' <;> cases b2 : ltD d' d <;> rw [b1, b2] at tt <;> simp at tt
        rfl
      · have c4 : ¬ V.str z1 = V.str z2 := fun e => by
          injection e with e
          have e2 : shL d = shL d' := by rw [← hz1, ← hz2, e]
          exact c2 ((eqD_iff d d' (pw_pur d p1) (pw_pur d' p2)).mpr (shL_inj (okAt_plainD 1 d ok1) (okAt_plainD 1 d' ok2) e2))
        rw [if_neg c2] at tt
        rw [decide_eq_false c4]
        cases b1 : ltD d d' <;> cases b2 : ltD d' d <;> rw [b1, b2] at tt <;> simp at tt <;> rfl
    refine @ite2 _ _ _ _ (fun c1 => absurd c1 ?_) (fun c1 => ?_)
    · rw [key]
      split <;> simp_all
    · exact ⟨_, _, _, _, rfl, hpot, hex⟩
  · rintro σ H1 ⟨o2, o5, o6, o7, rfl, hp1, e1⟩
    have f6 := e1.get f5 ⟨hq4, trivial⟩
    have hL1 := e1.repL hL
    have hLl := hL.length
    have hL100 : L.length ≤ 100 := by omega
    walk_at "rd"
    intro q5 ys m H2 f7 hm hmw hs hml e2
    have hp2 := hp1.ex0 e2
    have f8 := e2.get0 f6
    have hL2 := e2.repL hL1
    have hyl := hm.length
    walk_at "rd"
    refine for_it (walk_range (lo := 0) (n := ((ys.length : Nat) : Int).toNat)) (fun i σ H' => ∃ o9, σ = [some (.ref a), some (.ref p), o2, some (.ref q4), none, o5, o6, o7, some (.ref q5), o9, none, none] ∧ Ex [] H2 H')
      ⟨none, rfl, Ex.refl _ _⟩ (fun _ _ _ _ _ => trivial) ?_ ?_
    · rintro i y σ H3 H3' hi ⟨o9, rfl, e3⟩ ⟨rfl, rfl⟩
      have f9 := e3.get0 f7
      walk_at "rd"
      intro D3 hD3
      refine lc_it walk_range (LcP D3 [] (fun _ => True) (fun _ y _ => y = V.bl false) H3') (LcP.start hD3 trivial (true_loc D3)) (fun _ _ _ _ => trivial) ?_ ?_
      · rintro j y H4 H4' hj q ⟨rfl, rfl⟩
        have f10 := q.ex.get0 f9
        have hm4 := q.ex.repL (e3.repL hm)
        have hj2 : i + 1 + j < ys.length := by omega
        have hi2 : i < ys.length := by omega
        have ha1 : atI ys (0 + (i : Int) + 1 + (j : Int)) = some ys[i + 1 + j] := by
          rw [show (0 + (i : Int) + 1 + (j : Int)) = ((i + 1 + j : Nat) : Int) by omega]
          exact atI_nat (List.getElem?_eq_getElem hj2)
        have ha2 : atI ys (0 + (i : Int)) = some ys[i] := by
          rw [show (0 + (i : Int)) = ((i : Nat) : Int) by omega]
          exact atI_nat (List.getElem?_eq_getElem hi2)
        obtain ⟨dl, hdl, rl⟩ := hm4.get (List.getElem?_eq_getElem hj2)
        obtain ⟨da, hda, ra⟩ := hm4.get (List.getElem?_eq_getElem hi2)
        obtain ⟨gl, gl2⟩ := List.getElem?_eq_some_iff.mp hdl
        obtain ⟨ga, ga2⟩ := List.getElem?_eq_some_iff.mp hda
        have no : ltD dl da = false := by
          have := List.pairwise_iff_getElem.mp hs i (i + 1 + j) ga gl (by omega)
          rw [gl2, ga2] at this
          exact this
        obtain ⟨pl, ql⟩ := worth_pw (hmw dl (List.mem_of_getElem? hdl))
        obtain ⟨pa, qa⟩ := worth_pw (hmw da (List.mem_of_getElem? hda))
        generalize ys[i + 1 + j] = xl at ha1 rl
        generalize ys[i] = xa at ha2 ra
        walk_at "rd"
        intro H5 e5
        exact q.step hD3 (fun _ _ _ _ _ _ h => h) (true_loc D3) e5 trivial trivial (by rw [no]) hj (by omega)
      · intro H4 q
        have ex4 := q.ex
        obtain ⟨acc, hacc, _, hall⟩ := q.l
        have hrep : acc = (List.replicate acc.length false).map V.bl := by
          rw [List.map_replicate]
          exact List.eq_replicate_iff.mpr ⟨rfl, fun b hb => by
            obtain ⟨j, hj⟩ := List.mem_iff_getElem?.mp hb
            exact hall j b hj⟩
        have hq : SqL K H4 D3 ((List.replicate acc.length false).map V.bl) := by
          rw [← hrep]
          exact SqL.of hacc
        have hno : (List.replicate acc.length false).any (fun b => b) = false := by
          rw [List.any_eq_false]
          intro x hx
          rw [List.eq_of_mem_replicate hx]
          decide
        refine ⟨D3, _, rfl, hq, _, rfl, ?_⟩
        refine @ite2 _ _ _ _ (fun c1 => absurd c1 ?_) (fun c1 => ?_)
        · rw [show (List.replicate acc.length false).any id = false from hno]
          decide
        · exact ⟨_, rfl, e3.trans ex4⟩
    · rintro σ H3 ⟨o9, rfl, e3⟩
      have hp3 := hp2.ex0 e3
      have f9 := e3.get0 f8
      have hL3 := e3.repL hL2
      walk_at "rd"
      intro xo d_o H4 ro hp4 e4
      have f10 := e4.get f9 ⟨hq4, trivial⟩
      walk_at "rd"
      intro x H5 hx hp5 e5
      obtain ⟨d, hd, rx⟩ := RepL.memOf hx (e5.repL (e4.repL hL3))
      have wd := hW d hd
      have ro5 := e5.rep ro
      clear hx
      walk_at "rd"
      intro H6 e6
      cases wo : isWorth d_o with
      | true =>
        walk_at "rd"
        exact k _
      | false =>
        have ro6 := e6.rep ro5
        have rx6 := e6.rep rx
        have w1 : (isWorth d_o && isWorth d) = false := by rw [wo]; rfl
        have w2 : (isWorth d && isWorth d_o) = false := by rw [wo, Bool.and_false]
        have w3 : (isWorth d_o && isWorth d_o) = false := by rw [wo]; rfl
        walk_at "rd"
        intro H7 e7
        have ro7 := e7.rep ro6
        have rx7 := e7.rep rx6
        walk_at "rd"
        intro H8 e8
        have ro8 := e8.rep ro7
        walk_at "rd"
        intro H9 e9
        exact k _
end
theorem all_mk {l : PySem.W.OpenLaw} {w : World} {K : PySem.W.Frag} {h : Heap} {mg : Str → Option Value} {fa : Addr} (X : K.In h) (G : h.Ns mainGlobals mg) (hfa : mg "law" = some (.ref fa))
    {C_NoWorth C_TraceError : Addr}
    {od0 an0 od1 an1 od2 an2 od3 an3 od4 an4 od5 an5 od6 an6 od7 an7 od8 an8 od9 an9 od10 an10 od11 an11 od12 an12 od13 an13 od14 an14 od15 an15 od16 an16 od17 an17 od18 an18 od19 an19 od20 an20 : Option Addr}
    {sl0 sl1 sl2 sl3 sl4 sl5 sl6 sl7 sl8 sl9 sl10 sl11 sl12 sl13 sl14 sl15 sl16 sl17 sl18 sl19 sl20 : Array (Option Value)}
    {oc0 kV0 dc0 pm0 cd0 cv0 oc1 kV1 dc1 pm1 cd1 cv1 oc2 kV2 dc2 pm2 cd2 cv2 oc3 kV3 dc3 pm3 cd3 cv3 oc4 kV4 dc4 pm4 cd4 cv4 oc5 kV5 dc5 pm5 cd5 cv5 oc6 kV6 dc6 pm6 cd6 cv6 oc7 kV7 dc7 pm7 cd7 cv7 oc8 kV8 dc8 pm8 cd8 cv8 oc9 kV9 dc9 pm9 cd9 cv9 oc10 kV10 dc10 pm10 cd10 cv10 oc11 kV11 dc11 pm11 cd11 cv11 oc12 kV12 dc12 pm12 cd12 cv12 oc13 kV13 dc13 pm13 cd13 cv13 oc14 kV14 dc14 pm14 cd14 cv14 oc15 kV15 dc15 pm15 cd15 cv15 oc16 kV16 dc16 pm16 cd16 cv16 oc17 kV17 dc17 pm17 cd17 cv17 oc18 kV18 dc18 pm18 cd18 cv18 oc19 kV19 dc19 pm19 cd19 cv19 oc20 kV20 dc20 pm20 cd20 cv20 : Value}
    {f0 f1 f2 f3 f4 f5 f6 f7 f8 f9 f10 f11 f12 f13 f14 f15 f16 f17 f18 f19 f20 : Addr}
    {tk_MOST tk_MOST_DEEP tk_MOST_ITEMS tk_MOST_SIGNS tk_MOST_WORTHS : Tok}
    (g_NoWorth : PySem.W.nsIn K mainGlobals "NoWorth" = some (some (.ref C_NoWorth)))
    (g_TraceError : PySem.W.nsIn K mainGlobals "TraceError" = some (some (.ref C_TraceError)))
    (eq_NoWorth : PySem.W.excIn K C_NoWorth excBm "ValueError.__new__" = true)
    (ek_NoWorth : PySem.W.keepIn K (.ref C_NoWorth) = true)
    (eb_NoWorth : PySem.W.subIn K (.ref C_NoWorth) (.type "BaseException") = some true)
    (et_NoWorth : PySem.W.typeIn K (.ref C_NoWorth) = some (.type "type"))
    (eq_TraceError : PySem.W.excIn K C_TraceError excBm "ValueError.__new__" = true)
    (ek_TraceError : PySem.W.keepIn K (.ref C_TraceError) = true)
    (eb_TraceError : PySem.W.subIn K (.ref C_TraceError) (.type "BaseException") = some true)
    (et_TraceError : PySem.W.typeIn K (.ref C_TraceError) = some (.type "type"))
    (qg_NoWorth : PySem.W.findIn K (.ref C_NoWorth) "__getattribute__" = some (some (.builtin "BaseException.__getattribute__")))
    (qk_NoWorth : PySem.W.findIn K (.ref C_NoWorth) "__getattr__" = some none)
    (qd_NoWorth : PySem.W.hasDictIn K C_NoWorth = true)
    (qa_NoWorth : PySem.W.findIn K (.ref C_NoWorth) "__class__" = some (some (.builtin "object.__class__")))
    (qn_NoWorth : PySem.W.specialIn K (.builtin "object.__class__") "__get__" = some (some (.builtin "getset_descriptor.__get__")))
    (qt_NoWorth : PySem.W.takesIn K (.builtin "object.__class__") = some true)
    (qm_NoWorth : PySem.W.mroIn K C_NoWorth (.type "object") = some true)
    (x_NoWorth_NoWorth : PySem.W.exmOne K (.ref C_NoWorth) (.ref C_NoWorth) = some true)
    (x_NoWorth_TraceError : PySem.W.exmOne K (.ref C_NoWorth) (.ref C_TraceError) = some true)
    (x_TraceError_NoWorth : PySem.W.exmOne K (.ref C_TraceError) (.ref C_NoWorth) = some false)
    (x_TraceError_TraceError : PySem.W.exmOne K (.ref C_TraceError) (.ref C_TraceError) = some true)
    (a0 : PySem.W.nsIn K mainGlobals "is_integer" = some (some (.ref f0)))
    (l0 : K.lookup f0 = some ⟨oc0, od0, .func (PySem.W.fnOf "is_integer" "is_integer" (defArgs s_is_integer) (defBody s_is_integer) (defScope s_is_integer) .none kV0 dc0 pm0 an0 cd0 cv0), sl0⟩)
    (c0 : PySem.W.codeIn K cd0 "is_integer" = true)
    (k0 : PySem.W.keepIn K (.ref f0) = true)
    (a1 : PySem.W.nsIn K mainGlobals "is_plain_worth" = some (some (.ref f1)))
    (l1 : K.lookup f1 = some ⟨oc1, od1, .func (PySem.W.fnOf "is_plain_worth" "is_plain_worth" (defArgs s_is_plain_worth) (defBody s_is_plain_worth) (defScope s_is_plain_worth) .none kV1 dc1 pm1 an1 cd1 cv1), sl1⟩)
    (c1 : PySem.W.codeIn K cd1 "is_plain_worth" = true)
    (k1 : PySem.W.keepIn K (.ref f1) = true)
    (a2 : PySem.W.nsIn K mainGlobals "is_worth" = some (some (.ref f2)))
    (l2 : K.lookup f2 = some ⟨oc2, od2, .func (PySem.W.fnOf "is_worth" "is_worth" (defArgs s_is_worth) (defBody s_is_worth) (defScope s_is_worth) .none kV2 dc2 pm2 an2 cd2 cv2), sl2⟩)
    (c2 : PySem.W.codeIn K cd2 "is_worth" = true)
    (k2 : PySem.W.keepIn K (.ref f2) = true)
    (a3 : PySem.W.nsIn K mainGlobals "kind_of" = some (some (.ref f3)))
    (l3 : K.lookup f3 = some ⟨oc3, od3, .func (PySem.W.fnOf "kind_of" "kind_of" (defArgs s_kind_of) (defBody s_kind_of) (defScope s_kind_of) .none kV3 dc3 pm3 an3 cd3 cv3), sl3⟩)
    (c3 : PySem.W.codeIn K cd3 "kind_of" = true)
    (k3 : PySem.W.keepIn K (.ref f3) = true)
    (a4 : PySem.W.nsIn K mainGlobals "order_key" = some (some (.ref f4)))
    (l4 : K.lookup f4 = some ⟨oc4, od4, .func (PySem.W.fnOf "order_key" "order_key" (defArgs s_order_key) (defBody s_order_key) (defScope s_order_key) .none kV4 dc4 pm4 an4 cd4 cv4), sl4⟩)
    (c4 : PySem.W.codeIn K cd4 "order_key" = true)
    (k4 : PySem.W.keepIn K (.ref f4) = true)
    (a5 : PySem.W.nsIn K mainGlobals "check_worth" = some (some (.ref f5)))
    (l5 : K.lookup f5 = some ⟨oc5, od5, .func (PySem.W.fnOf "check_worth" "check_worth" (defArgs s_check_worth) (defBody s_check_worth) (defScope s_check_worth) .none kV5 dc5 pm5 an5 cd5 cv5), sl5⟩)
    (c5 : PySem.W.codeIn K cd5 "check_worth" = true)
    (k5 : PySem.W.keepIn K (.ref f5) = true)
    (a6 : PySem.W.nsIn K mainGlobals "before" = some (some (.ref f6)))
    (l6 : K.lookup f6 = some ⟨oc6, od6, .func (PySem.W.fnOf "before" "before" (defArgs s_before) (defBody s_before) (defScope s_before) .none kV6 dc6 pm6 an6 cd6 cv6), sl6⟩)
    (c6 : PySem.W.codeIn K cd6 "before" = true)
    (k6 : PySem.W.keepIn K (.ref f6) = true)
    (a7 : PySem.W.nsIn K mainGlobals "_law_pot" = some (some (.ref f7)))
    (l7 : K.lookup f7 = some ⟨oc7, od7, .func (PySem.W.fnOf "_law_pot" "_law_pot" (defArgs s_law_pot) (defBody s_law_pot) (defScope s_law_pot) .none kV7 dc7 pm7 an7 cd7 cv7), sl7⟩)
    (c7 : PySem.W.codeIn K cd7 "_law_pot" = true)
    (k7 : PySem.W.keepIn K (.ref f7) = true)
    (a8 : PySem.W.nsIn K mainGlobals "_law_draw" = some (some (.ref f8)))
    (l8 : K.lookup f8 = some ⟨oc8, od8, .func (PySem.W.fnOf "_law_draw" "_law_draw" (defArgs s_law_draw) (defBody s_law_draw) (defScope s_law_draw) .none kV8 dc8 pm8 an8 cd8 cv8), sl8⟩)
    (c8 : PySem.W.codeIn K cd8 "_law_draw" = true)
    (k8 : PySem.W.keepIn K (.ref f8) = true)
    (a9 : PySem.W.nsIn K mainGlobals "_law_any" = some (some (.ref f9)))
    (l9 : K.lookup f9 = some ⟨oc9, od9, .func (PySem.W.fnOf "_law_any" "_law_any" (defArgs s_law_any) (defBody s_law_any) (defScope s_law_any) .none kV9 dc9 pm9 an9 cd9 cv9), sl9⟩)
    (c9 : PySem.W.codeIn K cd9 "_law_any" = true)
    (k9 : PySem.W.keepIn K (.ref f9) = true)
    (a10 : PySem.W.nsIn K mainGlobals "_law_worth" = some (some (.ref f10)))
    (l10 : K.lookup f10 = some ⟨oc10, od10, .func (PySem.W.fnOf "_law_worth" "_law_worth" (defArgs s_law_worth) (defBody s_law_worth) (defScope s_law_worth) .none kV10 dc10 pm10 an10 cd10 cv10), sl10⟩)
    (c10 : PySem.W.codeIn K cd10 "_law_worth" = true)
    (k10 : PySem.W.keepIn K (.ref f10) = true)
    (a11 : PySem.W.nsIn K mainGlobals "_law_deep_worth" = some (some (.ref f11)))
    (l11 : K.lookup f11 = some ⟨oc11, od11, .func (PySem.W.fnOf "_law_deep_worth" "_law_deep_worth" (defArgs s_law_deep_worth) (defBody s_law_deep_worth) (defScope s_law_deep_worth) .none kV11 dc11 pm11 an11 cd11 cv11), sl11⟩)
    (c11 : PySem.W.codeIn K cd11 "_law_deep_worth" = true)
    (k11 : PySem.W.keepIn K (.ref f11) = true)
    (a12 : PySem.W.nsIn K mainGlobals "_law_is_int" = some (some (.ref f12)))
    (l12 : K.lookup f12 = some ⟨oc12, od12, .func (PySem.W.fnOf "_law_is_int" "_law_is_int" (defArgs s_law_is_int) (defBody s_law_is_int) (defScope s_law_is_int) .none kV12 dc12 pm12 an12 cd12 cv12), sl12⟩)
    (c12 : PySem.W.codeIn K cd12 "_law_is_int" = true)
    (k12 : PySem.W.keepIn K (.ref f12) = true)
    (a13 : PySem.W.nsIn K mainGlobals "_law_is_worth" = some (some (.ref f13)))
    (l13 : K.lookup f13 = some ⟨oc13, od13, .func (PySem.W.fnOf "_law_is_worth" "_law_is_worth" (defArgs s_law_is_worth) (defBody s_law_is_worth) (defScope s_law_is_worth) .none kV13 dc13 pm13 an13 cd13 cv13), sl13⟩)
    (c13 : PySem.W.codeIn K cd13 "_law_is_worth" = true)
    (k13 : PySem.W.keepIn K (.ref f13) = true)
    (a14 : PySem.W.nsIn K mainGlobals "_law_kind" = some (some (.ref f14)))
    (l14 : K.lookup f14 = some ⟨oc14, od14, .func (PySem.W.fnOf "_law_kind" "_law_kind" (defArgs s_law_kind) (defBody s_law_kind) (defScope s_law_kind) .none kV14 dc14 pm14 an14 cd14 cv14), sl14⟩)
    (c14 : PySem.W.codeIn K cd14 "_law_kind" = true)
    (k14 : PySem.W.keepIn K (.ref f14) = true)
    (a15 : PySem.W.nsIn K mainGlobals "_law_is_less" = some (some (.ref f15)))
    (l15 : K.lookup f15 = some ⟨oc15, od15, .func (PySem.W.fnOf "_law_is_less" "_law_is_less" (defArgs s_law_is_less) (defBody s_law_is_less) (defScope s_law_is_less) .none kV15 dc15 pm15 an15 cd15 cv15), sl15⟩)
    (c15 : PySem.W.codeIn K cd15 "_law_is_less" = true)
    (k15 : PySem.W.keepIn K (.ref f15) = true)
    (a16 : PySem.W.nsIn K mainGlobals "_law_odd" = some (some (.ref f16)))
    (l16 : K.lookup f16 = some ⟨oc16, od16, .func (PySem.W.fnOf "_law_odd" "_law_odd" (defArgs s_law_odd) (defBody s_law_odd) (defScope s_law_odd) .none kV16 dc16 pm16 an16 cd16 cv16), sl16⟩)
    (c16 : PySem.W.codeIn K cd16 "_law_odd" = true)
    (k16 : PySem.W.keepIn K (.ref f16) = true)
    (a17 : PySem.W.nsIn K mainGlobals "_law_near" = some (some (.ref f17)))
    (l17 : K.lookup f17 = some ⟨oc17, od17, .func (PySem.W.fnOf "_law_near" "_law_near" (defArgs s_law_near) (defBody s_law_near) (defScope s_law_near) .none kV17 dc17 pm17 an17 cd17 cv17), sl17⟩)
    (c17 : PySem.W.codeIn K cd17 "_law_near" = true)
    (k17 : PySem.W.keepIn K (.ref f17) = true)
    (a18 : PySem.W.nsIn K mainGlobals "_law_is_refused" = some (some (.ref f18)))
    (l18 : K.lookup f18 = some ⟨oc18, od18, .func (PySem.W.fnOf "_law_is_refused" "_law_is_refused" (defArgs s_law_is_refused) (defBody s_law_is_refused) (defScope s_law_is_refused) .none kV18 dc18 pm18 an18 cd18 cv18), sl18⟩)
    (c18 : PySem.W.codeIn K cd18 "_law_is_refused" = true)
    (k18 : PySem.W.keepIn K (.ref f18) = true)
    (a19 : PySem.W.nsIn K mainGlobals "_law_in_order" = some (some (.ref f19)))
    (l19 : K.lookup f19 = some ⟨oc19, od19, .func (PySem.W.fnOf "_law_in_order" "_law_in_order" (defArgs s_law_in_order) (defBody s_law_in_order) (defScope s_law_in_order) .none kV19 dc19 pm19 an19 cd19 cv19), sl19⟩)
    (c19 : PySem.W.codeIn K cd19 "_law_in_order" = true)
    (k19 : PySem.W.keepIn K (.ref f19) = true)
    (a20 : PySem.W.nsIn K mainGlobals "law" = some (some (.ref f20)))
    (l20 : K.lookup f20 = some ⟨oc20, od20, .func (PySem.W.fnOf "law" "law" (defArgs s_law) (defBody s_law) (defScope s_law) .none kV20 dc20 pm20 an20 cd20 cv20), sl20⟩)
    (c20 : PySem.W.codeIn K cd20 "law" = true)
    (k20 : PySem.W.keepIn K (.ref f20) = true)
    (zb_abs : PySem.W.nsIn K mainGlobals "abs" = some none)
    (zb_all : PySem.W.nsIn K mainGlobals "all" = some none)
    (zb_any : PySem.W.nsIn K mainGlobals "any" = some none)
    (zb_bool : PySem.W.nsIn K mainGlobals "bool" = some none)
    (zb_dict : PySem.W.nsIn K mainGlobals "dict" = some none)
    (zb_int : PySem.W.nsIn K mainGlobals "int" = some none)
    (zb_isinstance : PySem.W.nsIn K mainGlobals "isinstance" = some none)
    (zb_len : PySem.W.nsIn K mainGlobals "len" = some none)
    (zb_range : PySem.W.nsIn K mainGlobals "range" = some none)
    (zb_repr : PySem.W.nsIn K mainGlobals "repr" = some none)
    (zb_str : PySem.W.nsIn K mainGlobals "str" = some none)
    (zb_tuple : PySem.W.nsIn K mainGlobals "tuple" = some none)
    (zb_zip : PySem.W.nsIn K mainGlobals "zip" = some none)
    (zc_MOST : PySem.W.nsIn K mainGlobals "MOST" = some (some (.int 1000000000000000000000000000000 tk_MOST)))
    (zc_MOST_DEEP : PySem.W.nsIn K mainGlobals "MOST_DEEP" = some (some (.int 8 tk_MOST_DEEP)))
    (zc_MOST_ITEMS : PySem.W.nsIn K mainGlobals "MOST_ITEMS" = some (some (.int 50 tk_MOST_ITEMS)))
    (zc_MOST_SIGNS : PySem.W.nsIn K mainGlobals "MOST_SIGNS" = some (some (.int 40 tk_MOST_SIGNS)))
    (zc_MOST_WORTHS : PySem.W.nsIn K mainGlobals "MOST_WORTHS" = some (some (.int 200 tk_MOST_WORTHS)))
    : ∀ base : Heap, K.In base → base.Ns mainGlobals mg → RunG l.prog w K mg base fa (spLaw K) := by
  have e := hfa.symm.trans (PySem.W.mg_of X G a20)
  cases e
  have T : Txt K mg ⟨C_NoWorth, C_TraceError⟩ := ⟨⟨PySem.W.mg_of X G g_NoWorth, eq_NoWorth, ek_NoWorth, eb_NoWorth, et_NoWorth⟩, ⟨PySem.W.mg_of X G g_TraceError, eq_TraceError, ek_TraceError, eb_TraceError, et_TraceError⟩, ⟨qg_NoWorth, qk_NoWorth, eb_NoWorth, qd_NoWorth, qa_NoWorth, qn_NoWorth, qt_NoWorth, qm_NoWorth⟩, x_NoWorth_NoWorth, x_NoWorth_TraceError, x_TraceError_NoWorth, x_TraceError_TraceError, PySem.W.mg_none_of X G zb_abs, PySem.W.mg_none_of X G zb_all, PySem.W.mg_none_of X G zb_any, PySem.W.mg_none_of X G zb_bool, PySem.W.mg_none_of X G zb_dict, PySem.W.mg_none_of X G zb_int, PySem.W.mg_none_of X G zb_isinstance, PySem.W.mg_none_of X G zb_len, PySem.W.mg_none_of X G zb_range, PySem.W.mg_none_of X G zb_repr, PySem.W.mg_none_of X G zb_str, PySem.W.mg_none_of X G zb_tuple, PySem.W.mg_none_of X G zb_zip, ⟨_, PySem.W.mg_of X G zc_MOST, _, rfl⟩, ⟨_, PySem.W.mg_of X G zc_MOST_DEEP, _, rfl⟩, ⟨_, PySem.W.mg_of X G zc_MOST_ITEMS, _, rfl⟩, ⟨_, PySem.W.mg_of X G zc_MOST_SIGNS, _, rfl⟩, ⟨_, PySem.W.mg_of X G zc_MOST_WORTHS, _, rfl⟩⟩
  intro base _ _
  have F0 := fun_mk (st := s_is_integer) l0 c0 k0
  have b0 := F0.binds (ps := ["thing"]) fun _ _ _ _ _ _ us hl => match us, hl with | [_], _ => rfl
  have C_is_integer : Cl l.prog w K mg base 1 "is_integer" _ := ⟨_, _, _, ok_is_integer F0 T, PySem.W.mg_of X G a0, k0, b0⟩
  have F1 := fun_mk (st := s_is_plain_worth) l1 c1 k1
  have b1 := F1.binds (ps := ["thing"]) fun _ _ _ _ _ _ us hl => match us, hl with | [_], _ => rfl
  have C_is_plain_worth : Cl l.prog w K mg base 2 "is_plain_worth" _ := ⟨_, _, _, ok_is_plain_worth F1 T C_is_integer, PySem.W.mg_of X G a1, k1, b1⟩
  have F2 := fun_mk (st := s_is_worth) l2 c2 k2
  have b2 := F2.binds (ps := ["thing"]) fun _ _ _ _ _ _ us hl => match us, hl with | [_], _ => rfl
  have C_is_worth : Cl l.prog w K mg base 3 "is_worth" _ := ⟨_, _, _, ok_is_worth F2 T C_is_plain_worth, PySem.W.mg_of X G a2, k2, b2⟩
  have F3 := fun_mk (st := s_kind_of) l3 c3 k3
  have b3 := F3.binds (ps := ["worth"]) fun _ _ _ _ _ _ us hl => match us, hl with | [_], _ => rfl
  have C_kind_of : Cl l.prog w K mg base 1 "kind_of" _ := ⟨_, _, _, ok_kind_of F3 T, PySem.W.mg_of X G a3, k3, b3⟩
  have F4 := fun_mk (st := s_order_key) l4 c4 k4
  have b4 := F4.binds (ps := ["worth"]) fun _ _ _ _ _ _ us hl => match us, hl with | [_], _ => rfl
  have C_order_key : Cl l.prog w K mg base 10 "order_key" _ := ⟨_, _, _, rec_ok (ok_order_key F4 T C_kind_of) (PySem.W.mg_of X G a4) k4 b4 8, PySem.W.mg_of X G a4, k4, b4⟩
  have F5 := fun_mk (st := s_check_worth) l5 c5 k5
  have b5 := F5.binds (ps := ["thing"]) fun _ _ _ _ _ _ us hl => match us, hl with | [_], _ => rfl
  have C_check_worth : ClX l.prog w K mg base 4 "check_worth" _ := ⟨_, _, _, ok_check_worth F5 T C_is_worth, PySem.W.mg_of X G a5, k5, b5⟩
  have F6 := fun_mk (st := s_before) l6 c6 k6
  have b6 := F6.binds (ps := ["one", "other"]) fun _ _ _ _ _ _ us hl => match us, hl with | [_, _], _ => rfl
  have C_before : ClX l.prog w K mg base 11 "before" _ := ⟨_, _, _, ok_before F6 T C_order_key C_check_worth, PySem.W.mg_of X G a6, k6, b6⟩
  have F7 := fun_mk (st := s_law_pot) l7 c7 k7
  have b7 := F7.binds (ps := ["script"]) fun _ _ _ _ _ _ us hl => match us, hl with | [_], _ => rfl
  have C_law_pot : Cl l.prog w K mg base 1 "_law_pot" _ := ⟨_, _, _, ok_law_pot F7 T, PySem.W.mg_of X G a7, k7, b7⟩
  have F8 := fun_mk (st := s_law_draw) l8 c8 k8
  have b8 := F8.binds (ps := ["pot", "many"]) fun _ _ _ _ _ _ us hl => match us, hl with | [_, _], _ => rfl
  have C_law_draw : Cl l.prog w K mg base 1 "_law_draw" _ := ⟨_, _, _, ok_law_draw F8 T, PySem.W.mg_of X G a8, k8, b8⟩
  have F9 := fun_mk (st := s_law_any) l9 c9 k9
  have b9 := F9.binds (ps := ["pot", "things"]) fun _ _ _ _ _ _ us hl => match us, hl with | [_, _], _ => rfl
  have C_law_any : Cl l.prog w K mg base 2 "_law_any" _ := ⟨_, _, _, ok_law_any F9 T C_law_draw, PySem.W.mg_of X G a9, k9, b9⟩
  have F10 := fun_mk (st := s_law_worth) l10 c10 k10
  have b10 := F10.binds (ps := ["pot"]) fun _ _ _ _ _ _ us hl => match us, hl with | [_], _ => rfl
  have C_law_worth : Cl l.prog w K mg base 3 "_law_worth" _ := ⟨_, _, _, ok_law_worth F10 T C_law_any, PySem.W.mg_of X G a10, k10, b10⟩
  have F11 := fun_mk (st := s_law_deep_worth) l11 c11 k11
  have b11 := F11.binds (ps := ["pot", "deep"]) fun _ _ _ _ _ _ us hl => match us, hl with | [_, _], _ => rfl
  have C_law_deep_worth : Cl l.prog w K mg base 4 "_law_deep_worth" _ := ⟨_, _, _, ok_law_deep_worth F11 T C_law_draw C_law_worth, PySem.W.mg_of X G a11, k11, b11⟩
  have F12 := fun_mk (st := s_law_is_int) l12 c12 k12
  have b12 := F12.binds (ps := ["thing"]) fun _ _ _ _ _ _ us hl => match us, hl with | [_], _ => rfl
  have C_law_is_int : Cl l.prog w K mg base 1 "_law_is_int" _ := ⟨_, _, _, ok_law_is_int F12 T, PySem.W.mg_of X G a12, k12, b12⟩
  have F13 := fun_mk (st := s_law_is_worth) l13 c13 k13
  have b13 := F13.binds (ps := ["thing"]) fun _ _ _ _ _ _ us hl => match us, hl with | [_], _ => rfl
  have C_law_is_worth : Cl l.prog w K mg base 2 "_law_is_worth" _ := ⟨_, _, _, ok_law_is_worth F13 T C_law_is_int, PySem.W.mg_of X G a13, k13, b13⟩
  have F14 := fun_mk (st := s_law_kind) l14 c14 k14
  have b14 := F14.binds (ps := ["worth"]) fun _ _ _ _ _ _ us hl => match us, hl with | [_], _ => rfl
  have C_law_kind : Cl l.prog w K mg base 1 "_law_kind" _ := ⟨_, _, _, ok_law_kind F14 T, PySem.W.mg_of X G a14, k14, b14⟩
  have F15 := fun_mk (st := s_law_is_less) l15 c15 k15
  have b15 := F15.binds (ps := ["one", "other"]) fun _ _ _ _ _ _ us hl => match us, hl with | [_, _], _ => rfl
  have C_law_is_less : Cl l.prog w K mg base 10 "_law_is_less" _ := ⟨_, _, _, rec_ok (ok_law_is_less F15 T C_law_kind) (PySem.W.mg_of X G a15) k15 b15 8, PySem.W.mg_of X G a15, k15, b15⟩
  have F16 := fun_mk (st := s_law_odd) l16 c16 k16
  have b16 := F16.binds (ps := ["pot"]) fun _ _ _ _ _ _ us hl => match us, hl with | [_], _ => rfl
  have C_law_odd : Cl l.prog w K mg base 3 "_law_odd" _ := ⟨_, _, _, ok_law_odd F16 T C_law_draw C_law_any, PySem.W.mg_of X G a16, k16, b16⟩
  have F17 := fun_mk (st := s_law_near) l17 c17 k17
  have b17 := F17.binds (ps := ["pot", "worth"]) fun _ _ _ _ _ _ us hl => match us, hl with | [_, _], _ => rfl
  have C_law_near : Cl l.prog w K mg base 11 "_law_near" _ := ⟨_, _, _, rec_ok (ok_law_near F17 T C_law_draw C_law_any C_law_worth) (PySem.W.mg_of X G a17) k17 b17 7, PySem.W.mg_of X G a17, k17, b17⟩
  have F18 := fun_mk (st := s_law_is_refused) l18 c18 k18
  have b18 := F18.binds (ps := ["one", "other"]) fun _ _ _ _ _ _ us hl => match us, hl with | [_, _], _ => rfl
  have C_law_is_refused : Cl l.prog w K mg base 12 "_law_is_refused" _ := ⟨_, _, _, ok_law_is_refused F18 T C_before, PySem.W.mg_of X G a18, k18, b18⟩
  have F19 := fun_mk (st := s_law_in_order) l19 c19 k19
  have b19 := F19.binds (ps := ["worths"]) fun _ _ _ _ _ _ us hl => match us, hl with | [_], _ => rfl
  have C_law_in_order : Cl l.prog w K mg base 12 "_law_in_order" _ := ⟨_, _, _, ok_law_in_order F19 T C_before, PySem.W.mg_of X G a19, k19, b19⟩
  exact ok_law (fun_mk (st := s_law) l20 c20 k20) T C_before C_law_pot C_law_draw C_law_any C_law_deep_worth C_law_is_worth C_law_is_less C_law_odd C_law_near C_law_is_refused C_law_in_order (fun s v => .of_eq rfl)
theorem walk {l : PySem.W.OpenLaw} {q : Program} {loose : List Str} {XP : (Str → Option Value) → Heap → Prop} {YP : World → Heap → Prop} {d : DefRec} {K : Params → PySem.W.Frag} (hn : l.most = some 63) (hdf : d.params.defaults = [])
    (hY : ∀ (w : World) (h : Heap), YP w h → (K w.params).In h)
    (F : ∀ (w : World) (mg : Str → Option Value) (fa : Addr) (h : Heap), (K w.params).In h → h.Ns mainGlobals mg → mg d.name = some (.ref fa) →
      ∀ base : Heap, (K w.params).In base → base.Ns mainGlobals mg → RunG l.prog w (K w.params) mg base fa (spLaw (K w.params))) :
    PySem.W.WalkO q loose XP YP l.row.toRowW d [] (fun f vs => PySem.call f vs) :=
  walk_claim (n := 63) (sp := fun w => spLaw (K w.params)) hn (by decide) hdf hY F (fun _ _ a ns hl hS => ⟨a, ns, ⟨rfl, hS, hl⟩, fun _ => rfl⟩)
end G
open PySem PySem.W PyProof.Rows in
set_option maxRecDepth 100000 in
set_option maxHeartbeats 0 in
theorem PySem.Challenge.cw_keptviews_k13_worths_in_order_holds : PySem.Challenge.rw_keptviews_k13_worths_in_order.Holds := by
  w_on; o_law; k_head; (case hw => w_witness2)
  k_fill
  refine G.walk (l := PySem.Challenge.rw_keptviews_k13_worths_in_order) rfl rfl (fun w h Y => PySem.W.kIn_of Y) ?F
  case F =>
    intro w mg fa h KX GG hmg
    refine' G.all_mk KX GG hmg ?g_NoWorth ?g_TraceError ?eq_NoWorth ?ek_NoWorth ?eb_NoWorth ?et_NoWorth ?eq_TraceError ?ek_TraceError ?eb_TraceError ?et_TraceError ?qg_NoWorth ?qk_NoWorth ?qd_NoWorth ?qa_NoWorth ?qn_NoWorth ?qt_NoWorth ?qm_NoWorth ?x_NoWorth_NoWorth ?x_NoWorth_TraceError ?x_TraceError_NoWorth ?x_TraceError_TraceError ?a0 ?l0 ?c0 ?k0 ?a1 ?l1 ?c1 ?k1 ?a2 ?l2 ?c2 ?k2 ?a3 ?l3 ?c3 ?k3 ?a4 ?l4 ?c4 ?k4 ?a5 ?l5 ?c5 ?k5 ?a6 ?l6 ?c6 ?k6 ?a7 ?l7 ?c7 ?k7 ?a8 ?l8 ?c8 ?k8 ?a9 ?l9 ?c9 ?k9 ?a10 ?l10 ?c10 ?k10 ?a11 ?l11 ?c11 ?k11 ?a12 ?l12 ?c12 ?k12 ?a13 ?l13 ?c13 ?k13 ?a14 ?l14 ?c14 ?k14 ?a15 ?l15 ?c15 ?k15 ?a16 ?l16 ?c16 ?k16 ?a17 ?l17 ?c17 ?k17 ?a18 ?l18 ?c18 ?k18 ?a19 ?l19 ?c19 ?k19 ?a20 ?l20 ?c20 ?k20 ?zb_abs ?zb_all ?zb_any ?zb_bool ?zb_dict ?zb_int ?zb_isinstance ?zb_len ?zb_range ?zb_repr ?zb_str ?zb_tuple ?zb_zip ?zc_MOST ?zc_MOST_DEEP ?zc_MOST_ITEMS ?zc_MOST_SIGNS ?zc_MOST_WORTHS
    (case g_NoWorth => k_is)
    (case g_TraceError => k_is)
    (case eq_NoWorth => k_exc)
    (case ek_NoWorth => k_is)
    (case eb_NoWorth => k_is)
    (case et_NoWorth => k_is)
    (case eq_TraceError => k_exc)
    (case ek_TraceError => k_is)
    (case eb_TraceError => k_is)
    (case et_TraceError => k_is)
    (case qg_NoWorth => first | k_is | kernel_rfl | decide +kernel)
    (case qk_NoWorth => first | k_is | kernel_rfl | decide +kernel)
    (case qd_NoWorth => first | k_is | kernel_rfl | decide +kernel)
    (case qa_NoWorth => first | k_is | kernel_rfl | decide +kernel)
    (case qn_NoWorth => first | k_is | kernel_rfl | decide +kernel)
    (case qt_NoWorth => first | k_is | kernel_rfl | decide +kernel)
    (case qm_NoWorth => first | k_is | kernel_rfl | decide +kernel)
    (case x_NoWorth_NoWorth => kernel_rfl)
    (case x_NoWorth_TraceError => kernel_rfl)
    (case x_TraceError_NoWorth => kernel_rfl)
    (case x_TraceError_TraceError => kernel_rfl)
    (case a0 => k_is)
    (case l0 => k_is)
    (case c0 => k_is)
    (case k0 => k_is)
    (case a1 => k_is)
    (case l1 => k_is)
    (case c1 => k_is)
    (case k1 => k_is)
    (case a2 => k_is)
    (case l2 => k_is)
    (case c2 => k_is)
    (case k2 => k_is)
    (case a3 => k_is)
    (case l3 => k_is)
    (case c3 => k_is)
    (case k3 => k_is)
    (case a4 => k_is)
    (case l4 => k_is)
    (case c4 => k_is)
    (case k4 => k_is)
    (case a5 => k_is)
    (case l5 => k_is)
    (case c5 => k_is)
    (case k5 => k_is)
    (case a6 => k_is)
    (case l6 => k_is)
    (case c6 => k_is)
    (case k6 => k_is)
    (case a7 => k_is)
    (case l7 => k_is)
    (case c7 => k_is)
    (case k7 => k_is)
    (case a8 => k_is)
    (case l8 => k_is)
    (case c8 => k_is)
    (case k8 => k_is)
    (case a9 => k_is)
    (case l9 => k_is)
    (case c9 => k_is)
    (case k9 => k_is)
    (case a10 => k_is)
    (case l10 => k_is)
    (case c10 => k_is)
    (case k10 => k_is)
    (case a11 => k_is)
    (case l11 => k_is)
    (case c11 => k_is)
    (case k11 => k_is)
    (case a12 => k_is)
    (case l12 => k_is)
    (case c12 => k_is)
    (case k12 => k_is)
    (case a13 => k_is)
    (case l13 => k_is)
    (case c13 => k_is)
    (case k13 => k_is)
    (case a14 => k_is)
    (case l14 => k_is)
    (case c14 => k_is)
    (case k14 => k_is)
    (case a15 => k_is)
    (case l15 => k_is)
    (case c15 => k_is)
    (case k15 => k_is)
    (case a16 => k_is)
    (case l16 => k_is)
    (case c16 => k_is)
    (case k16 => k_is)
    (case a17 => k_is)
    (case l17 => k_is)
    (case c17 => k_is)
    (case k17 => k_is)
    (case a18 => k_is)
    (case l18 => k_is)
    (case c18 => k_is)
    (case k18 => k_is)
    (case a19 => k_is)
    (case l19 => k_is)
    (case c19 => k_is)
    (case k19 => k_is)
    (case a20 => k_is)
    (case l20 => k_is)
    (case c20 => k_is)
    (case k20 => k_is)
    (case zb_abs => k_is)
    (case zb_all => k_is)
    (case zb_any => k_is)
    (case zb_bool => k_is)
    (case zb_dict => k_is)
    (case zb_int => k_is)
    (case zb_isinstance => k_is)
    (case zb_len => k_is)
    (case zb_range => k_is)
    (case zb_repr => k_is)
    (case zb_str => k_is)
    (case zb_tuple => k_is)
    (case zb_zip => k_is)
    (case zc_MOST => k_is)
    (case zc_MOST_DEEP => k_is)
    (case zc_MOST_ITEMS => k_is)
    (case zc_MOST_SIGNS => k_is)
    (case zc_MOST_WORTHS => k_is)
