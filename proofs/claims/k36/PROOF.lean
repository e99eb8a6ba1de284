import PyProof.Rows.All
import Wide.All
import OpenK.AllK
import Wide.FinOn
import HandS.ForMost
import HandS.IsInst
import HandS.TupAny
import HandS.TupMul
import HandS.Wide
import HandS.Style
import HandS.Flow
import HandS.Codes
import HandS.Walk
import PyProof.ReprRoads
import HandS.Lambda
import HandS.EndTab
import HandS.TryMany
import HandS.ExcOwn
import HandS.WordsExc
import HandS.Steps
import HandS.Small
import PySem.Challenge.RW_keptviews_k36_whole_disks_by_an_own_acco
set_option Elab.async false
set_option maxRecDepth 100000
set_option maxHeartbeats 4000000
namespace G
open PySem L2

/-! ### heaps that go on -/
/-- what of an object stays when it changes: its kind -/
def norm : HO → HO
  | .lst _ => .lst []
  | .dK _ => .dK []
  | .dT _ => .dT []
  | .set _ _ => .set (fun _ => false) 0
  | .ins C d _ => .ins C d []
  | .tbl _ => .tbl #[]
  | a => a
def Kin (a b : HO) : Prop := norm a = norm b
theorem Kin.refl (a : HO) : Kin a a := rfl
theorem Kin.trans {a b c : HO} (h : Kin a b) (k : Kin b c) : Kin a c := Eq.trans h k
/-- a is none of these -/
def Nin (a : Addr) : List Addr → Prop
  | [] => True
  | m :: r => a ≠ m ∧ Nin a r
theorem nin_of {a : Addr} : ∀ {M : List Addr}, a ∉ M → Nin a M
  | [], _ => True.intro
  | m :: r, h => ⟨fun e => h (by rw [e]; exact List.mem_cons_self), nin_of fun e => h (List.mem_cons_of_mem _ e)⟩
theorem nin_mem {a : Addr} : ∀ {M : List Addr}, Nin a M → a ∉ M
  | [], _ => by simp
  | m :: r, h => fun e => (List.mem_cons.mp e).elim h.1 (nin_mem h.2)
/-- all stays but what the objects at M hold -/
def Ex (M : List Addr) (H H' : Hp) : Prop := ∀ a o, H a = some o → (Nin a M → H' a = some o) ∧ ∃ o', H' a = some o' ∧ Kin o o'
theorem Ex.refl (M : List Addr) (H : Hp) : Ex M H H := fun _ o h => ⟨fun _ => h, o, h, Kin.refl o⟩
theorem Ex.get {M : List Addr} {H H' : Hp} {a : Addr} {o : HO} (e : Ex M H H') (h : H a = some o) (n : Nin a M) : H' a = some o := (e a o h).1 n
theorem Ex.get0 {H H' : Hp} {a : Addr} {o : HO} (e : Ex [] H H') (h : H a = some o) : H' a = some o := (e a o h).1 True.intro
theorem Ex.tup {M : List Addr} {H H' : Hp} {a : Addr} {xs : List V} (e : Ex M H H') (h : H a = some (.tup xs)) : H' a = some (.tup xs) := by
  obtain ⟨o', h1, k⟩ := (e a _ h).2
  cases o' <;> simp_all [Kin, norm]
theorem Ex.frz {M : List Addr} {H H' : Hp} {a : Addr} {o : Obj} {u : HO} (e : Ex M H H') (h : H a = some (.frz o u)) : H' a = some (.frz o u) := by
  obtain ⟨o', h1, k⟩ := (e a _ h).2
  cases o' <;> simp_all [Kin, norm]
theorem Ex.trans {M : List Addr} {H H1 H2 : Hp} (a : Ex M H H1) (b : Ex M H1 H2) : Ex M H H2 := fun c o h => by
  obtain ⟨h1, o1, h2, k1⟩ := a c o h
  obtain ⟨_, o2, h4, k2⟩ := b c o1 h2
  exact ⟨fun n => (b c o (h1 n)).1 n, o2, h4, k1.trans k2⟩
theorem Ex.mono {M N : List Addr} {H H' : Hp} (a : Ex M H H') (h : ∀ x ∈ M, x ∈ N) : Ex N H H' := fun c o e =>
  ⟨fun n => (a c o e).1 (nin_of fun m => nin_mem n (h c m)), (a c o e).2⟩
theorem Ex.of0 {M : List Addr} {H H' : Hp} (a : Ex [] H H') : Ex M H H' := a.mono (fun _ h => nomatch h)
theorem Ex.new {M : List Addr} {H : Hp} {p : Addr} {o : HO} (h : H p = none) : Ex M H (upd H p o) := fun a u e =>
  have q : upd H p o a = some u := by rw [upd_ne (ne_of_none e h)]; exact e
  ⟨fun _ => q, u, q, Kin.refl u⟩
theorem Ex.put {M : List Addr} {H : Hp} {p : Addr} {o o' : HO} (h : H p = some o) (k : Kin o o') (m : p ∈ M) : Ex M H (upd H p o') := fun a u e => by
  by_cases z : a = p
  · subst z
    rw [h] at e
    cases e
    exact ⟨fun n => absurd m (nin_mem n), o', upd_same, k⟩
  · exact ⟨fun _ => by rw [upd_ne z]; exact e, u, by rw [upd_ne z]; exact e, Kin.refl u⟩
/-- an object that was not there ahead may change -/
theorem Ex.put_new {M : List Addr} {H H' : Hp} {p : Addr} {o' : HO} (e : Ex M H H') (h : H p = none) : Ex M H (upd H' p o') := fun a u q => by
  have z : a ≠ p := ne_of_none q h
  obtain ⟨h1, o1, h2, k⟩ := e a u q
  exact ⟨fun n => by rw [upd_ne z]; exact h1 n, o1, by rw [upd_ne z]; exact h2, k⟩
/-- what is new behind is new ahead -/
theorem Ex.none {M : List Addr} {H H' : Hp} {p : Addr} (e : Ex M H H') (h : H' p = none) : H p = none := by
  cases q : H p with
  | none => rfl
  | some o =>
    obtain ⟨_, o', h1, _⟩ := e p o q
    rw [h] at h1
    cases h1
theorem upd_none {H : Hp} {p q : Addr} {o : HO} (h : upd H q o p = none) : p ≠ q ∧ H p = none := by
  by_cases z : p = q
  · subst z; rw [upd_same] at h; cases h
  · exact ⟨z, by rw [upd_ne z] at h; exact h⟩
theorem upd_new {H : Hp} {p a : Addr} {o u : HO} (h : H p = none) (e : H a = some u) : upd H p o a = some u := by rw [upd_ne (ne_of_none e h)]; exact e
theorem upd_oth {H : Hp} {p a : Addr} {o : HO} {u : Option HO} (h : a ≠ p) (e : H a = u) : upd H p o a = u := by rw [upd_ne h]; exact e
theorem upd_oth2 {H : Hp} {p a : Addr} {o u : HO} (e : H a = some u) (h : a ≠ p) : upd H p o a = some u := by rw [upd_ne h]; exact e
theorem ne_new {H : Hp} {p a : Addr} {u : HO} (h : H p = none) (e : H a = some u) : a ≠ p := ne_of_none e h
theorem rd_rd {M : List Addr} {H H' : Hp} {a : Addr} {xs : List V} (e : Ex M H H') (h : Rd H a (.tup xs)) : Rd H' a (.tup xs) := by
  rcases h with h | ⟨o, h⟩
  · exact .inl (e.tup h)
  · exact .inr ⟨o, e.frz h⟩
theorem Ex.sqT {K : PySem.W.Frag} {M : List Addr} {H H' : Hp} {a : Addr} {xs : List V} (e : Ex M H H') (h : SqT K H a xs) : SqT K H' a xs := by
  rcases h with h | h
  · exact .inl (rd_rd e h)
  · exact .inr h

/-! ### data -/
inductive Dt where
  | non | bl (b : Bool) | int (i : Int) | str (s : Str) | tup (l : List Dt) | oth
/-- a list or a dict -/
def Oth (H : Hp) (a : Addr) : Prop := (∃ xs, H a = some (.lst xs)) ∨ ∃ kvs, H a = some (.dK kvs)
mutual
inductive Rep (K : PySem.W.Frag) (H : Hp) : V → Dt → Prop
  | non : Rep K H .non .non
  | bl (b : Bool) : Rep K H (.bl b) (.bl b)
  | int (i : Int) : Rep K H (.int i) (.int i)
  | str (x : Str) (h : x.length ≤ 1000000) : Rep K H (.str x) (.str x)
  | tup {a : Addr} {xs : List V} {l : List Dt} : SqT K H a xs → RepL K H xs l → Rep K H (.ref a) (.tup l)
  | oth {a : Addr} : Oth H a → Rep K H (.ref a) .oth
inductive RepL (K : PySem.W.Frag) (H : Hp) : List V → List Dt → Prop
  | nil : RepL K H [] []
  | cons {v : V} {d : Dt} {vs : List V} {l : List Dt} : Rep K H v d → RepL K H vs l → RepL K H (v :: vs) (d :: l)
end
theorem Ex.oth {M : List Addr} {H H' : Hp} {a : Addr} (e : Ex M H H') (h : Oth H a) : Oth H' a := by
  rcases h with ⟨xs, h⟩ | ⟨kvs, h⟩
  · obtain ⟨_, o', h1, k⟩ := e a _ h
    cases o' <;> first | exact .inl ⟨_, h1⟩ | exact absurd k (by simp [Kin, norm])
  · obtain ⟨_, o', h1, k⟩ := e a _ h
    cases o' <;> first | exact .inr ⟨_, h1⟩ | exact absurd k (by simp [Kin, norm])
mutual
theorem Ex.rep {K : PySem.W.Frag} {M : List Addr} {H H' : Hp} (e : Ex M H H') : ∀ {v : V} {d : Dt}, Rep K H v d → Rep K H' v d
  | _, _, .non => .non
  | _, _, .bl b => .bl b
  | _, _, .int i => .int i
  | _, _, .str x h => .str x h
  | _, _, .tup h hl => .tup (e.sqT h) (e.repL hl)
  | _, _, .oth h => .oth (e.oth h)
theorem Ex.repL {K : PySem.W.Frag} {M : List Addr} {H H' : Hp} (e : Ex M H H') : ∀ {vs : List V} {l : List Dt}, RepL K H vs l → RepL K H' vs l
  | _, _, .nil => .nil
  | _, _, .cons h hl => .cons (e.rep h) (e.repL hl)
end
theorem RepL.length {K : PySem.W.Frag} {H : Hp} : ∀ {vs : List V} {l : List Dt}, RepL K H vs l → vs.length = l.length
  | _, _, .nil => rfl
  | _, _, .cons _ t => by rw [List.length_cons, List.length_cons, t.length]
theorem RepL.get {K : PySem.W.Frag} {H : Hp} : ∀ {vs : List V} {l : List Dt} {i : Nat} {v : V}, RepL K H vs l → vs[i]? = some v → ∃ d, l[i]? = some d ∧ Rep K H v d
  | _, _, _, _, .nil, e => by simp at e
  | _, _, 0, _, .cons (d := d) h _, e => by simp at e; subst e; exact ⟨d, by simp, h⟩
  | _, _, i + 1, _, .cons _ t, e => by
    obtain ⟨d, h1, h2⟩ := t.get (i := i) (by simpa using e)
    exact ⟨d, by simpa using h1, h2⟩
theorem RepL.snoc {K : PySem.W.Frag} {H : Hp} {d : Dt} : ∀ {l : List Dt} {vs : List V}, RepL K H vs (l ++ [d]) → ∃ ws y, vs = ws ++ [y] ∧ RepL K H ws l ∧ Rep K H y d
  | [], _, .cons h .nil => ⟨[], _, rfl, .nil, h⟩
  | _ :: l, _, .cons h t => by
    obtain ⟨ws, y, e, a, b⟩ := RepL.snoc t
    exact ⟨_ :: ws, y, by rw [e]; rfl, .cons h a, b⟩
theorem RepL.mem {K : PySem.W.Frag} {H : Hp} {x : V} : ∀ {l : List Dt} {vs : List V}, RepL K H vs l → x ∈ vs → ∃ d, d ∈ l ∧ Rep K H x d
  | _, _, .cons (d := d) h t, e => by
    rcases List.mem_cons.mp e with e | e
    · subst e; exact ⟨d, List.mem_cons_self, h⟩
    · obtain ⟨d', h1, h2⟩ := RepL.mem t e
      exact ⟨d', List.mem_cons_of_mem _ h1, h2⟩
theorem RepL.memOf {K : PySem.W.Frag} {H : Hp} {x : V} {vs : List V} {l : List Dt} (hx : x ∈ vs) (h : RepL K H vs l) : ∃ d, d ∈ l ∧ Rep K H x d := h.mem hx
theorem RepL.append {K : PySem.W.Frag} {H : Hp} : ∀ {vs ws : List V} {l m : List Dt}, RepL K H vs l → RepL K H ws m → RepL K H (vs ++ ws) (l ++ m)
  | _, _, _, _, .nil, h => h
  | _, _, _, _, .cons a t, h => .cons a (t.append h)
end G
namespace G
open PySem L2
section
variable {K : PySem.W.Frag} {H : Hp} {p : Addr} {o o' : HO}
theorem SqT.of {a : Addr} {xs : List V} (h : H a = some (.tup xs)) : SqT K H a xs := .inl (.inl h)
theorem Rep.oth_l {a : Addr} {xs : List V} (h : H a = some (.lst xs)) : Rep K H (.ref a) .oth := .oth (.inl ⟨xs, h⟩)
theorem Rep.oth_d {a : Addr} {kvs : List (Key × V)} (h : H a = some (.dK kvs)) : Rep K H (.ref a) .oth := .oth (.inr ⟨kvs, h⟩)
theorem sqt_new {a : Addr} {xs : List V} (h : H p = none) (r : SqT K H a xs) : SqT K (upd H p o) a xs := (Ex.new (M := []) h).sqT r
theorem sqt_put {a : Addr} {xs : List V} (h : H p = some o) (k : norm o = norm o') (r : SqT K H a xs) : SqT K (upd H p o') a xs := (Ex.put (M := [p]) h k List.mem_cons_self).sqT r
theorem rep_new {v : V} {d : Dt} (h : H p = none) (r : Rep K H v d) : Rep K (upd H p o) v d := (Ex.new (M := []) h).rep r
theorem rep_put {v : V} {d : Dt} (h : H p = some o) (k : norm o = norm o') (r : Rep K H v d) : Rep K (upd H p o') v d := (Ex.put (M := [p]) h k List.mem_cons_self).rep r
theorem repl_new {v : List V} {d : List Dt} (h : H p = none) (r : RepL K H v d) : RepL K (upd H p o) v d := (Ex.new (M := []) h).repL r
theorem repl_put {v : List V} {d : List Dt} (h : H p = some o) (k : norm o = norm o') (r : RepL K H v d) : RepL K (upd H p o') v d := (Ex.put (M := [p]) h k List.mem_cons_self).repL r
end
/-- what is new behind is new ahead -/
def Dom (H H' : Hp) : Prop := ∀ p, H' p = none → H p = none
theorem Dom.refl (H : Hp) : Dom H H := fun _ h => h
theorem Dom.step {M : List Addr} {H H1 H2 : Hp} (e : Ex M H1 H2) (d : Dom H H1) : Dom H H2 := fun p h => d p (e.none h)
theorem Dom.none {H H' : Hp} {p : Addr} (h : H' p = none) (d : Dom H H') : H p = none := d p h
theorem side0 {M : List Addr} {H : Hp} : ∀ x ∈ ([] : List Addr), x ∈ M ∨ H x = none := fun _ h => nomatch h
theorem side1 {M : List Addr} {H : Hp} {q : Addr} (h : q ∈ M ∨ H q = none) : ∀ x ∈ [q], x ∈ M ∨ H x = none := fun x e => by
  rw [List.mem_singleton] at e
  subst e
  exact h
theorem Ex.step {M N : List Addr} {H H1 H2 : Hp} (b : Ex N H1 H2) (s : ∀ x ∈ N, x ∈ M ∨ H x = Option.none) (a : Ex M H H1) : Ex M H H2 := fun c o h => by
  obtain ⟨h1, o1, h2, k1⟩ := a c o h
  obtain ⟨h3, o2, h4, k2⟩ := b c o1 h2
  refine ⟨fun n => (b c o (h1 n)).1 (nin_of fun m => ?_), o2, h4, k1.trans k2⟩
  rcases s c m with z | z
  · exact nin_mem n z
  · rw [h] at z
    cases z
theorem Ex.stepNew {M : List Addr} {H H1 : Hp} {p : Addr} {o : HO} (h : H1 p = Option.none) (a : Ex M H H1) : Ex M H (upd H1 p o) := a.trans (Ex.new h)
end G

namespace G
open PySem L2

/-! ### weaker readings -/
section
variable {X : Cx}
theorem opImp {f : Value → Value → Sem Value} {r r' : R2} (h : OpR X f r) (i : ∀ x y H Q, r' x y H Q → r x y H Q) : OpR X f r' := fun pins s σ H x y v u Q I rx ry q => h pins s σ H x y v u Q I rx ry (i _ _ _ _ q)
theorem opOr {f : Value → Value → Sem Value} {r1 r2 : R2} {r' : R2} (h1 : OpR X f r1) (h2 : OpR X f r2) (i : ∀ x y H Q, r' x y H Q → r1 x y H Q ∨ r2 x y H Q) : OpR X f r' := fun pins s σ H x y v u Q I rx ry q =>
  (i _ _ _ _ q).elim (h1 pins s σ H x y v u Q I rx ry) (h2 pins s σ H x y v u Q I rx ry)
theorem callImp {f : Value} {r r' : List V → Hp → VK → Prop} (h : CallR X f r) (i : ∀ xs H Q, r' xs H Q → r xs H Q) : CallR X f r' := fun pins s σ H xs us Q I rv q => h pins s σ H xs us Q I rv (i _ _ _ q)
theorem peImp {e : Expr} {t t' : TE} (h : PE X e t) (i : ∀ σ H Q, t' σ H Q → t σ H Q) : PE X e t' := ⟨fun pins s σ H Q I q => h.run pins s σ H Q I (i _ _ _ q)⟩
end

/-! ### defs by their names -/
structure Cl (P : Program) (w : World) (K : PySem.W.Frag) (mg : Str → Option Value) (base : Heap) (k : Nat) (x : Str) (sp : Sp) : Prop where
  ex : ∃ (f : Addr) (fd : FuncData) (ps : List Str), FnOk P w K mg base CX0 k f fd ps sp ∧ mg x = some (.ref f) ∧ PySem.W.keepIn K (.ref f) = true ∧ Binds K fd ps []
def tCl (sp : Sp) (E : XK) (t : TA) : TE := fun σ H Q => t σ H fun vs H1 => sp vs H1 Q E
section
variable {X : Cx}
theorem pe_cl {k j : Nat} {x : Str} {sp : Sp} {p pos : Pos} {e : Expr} {es : List Expr} {t : TA} (c : Cl X.prog X.w X.K X.mg X.base k x sp) (hr : Room j X.A) (hk : k ≤ j) (hg : Gl X x) (ha : PA X (e :: es) t)
    (hdb : (x == ("__debug__" : Str)) = false := by decide) (he : starEach (e :: es) X.env = (false, eval e X.env) :: starEach es X.env := by rfl) (hpl : (backTo pos (starEach es X.env)).any (·.1) = false := by rfl) :
    PE X (.Call (.Name x p) (e :: es) [] pos) (tCl sp E0 t) := by
  obtain ⟨f, fd, ps, F, m, kp, b⟩ := c.ex
  refine peImp (pe_call F (hr.mono hk) hg m kp b .nil pass0 ha hdb he hpl) fun σ H Q q => ?_
  show t σ H fun vs H1 => sp (vs ++ []) H1 Q E0
  simp only [List.append_nil]
  exact q
theorem pe_cl0 {k j : Nat} {x : Str} {sp : Sp} {p pos : Pos} (c : Cl X.prog X.w X.K X.mg X.base k x sp) (hr : Room j X.A) (hk : k ≤ j) (hg : Gl X x) (hdb : (x == ("__debug__" : Str)) = false := by decide) :
    PE X (.Call (.Name x p) [] [] pos) (tCl sp E0 tNil) := by
  obtain ⟨f, fd, ps, F, m, kp, b⟩ := c.ex
  exact pe_call0 F (hr.mono hk) hg m kp b .nil pass0 hdb
end

/-! ### the classes of data -/
def isTy : String → Dt → Option Bool
  | "int", .int _ => some true
  | "int", .bl _ => some true
  | "int", _ => some false
  | "bool", .bl _ => some true
  | "bool", _ => some false
  | "str", .str _ => some true
  | "str", _ => some false
  | "tuple", .tup _ => some true
  | "tuple", _ => some false
  | _, _ => none
theorem SqT.ty {K : PySem.W.Frag} {H : Hp} {a : Addr} {xs : List V} (h : SqT K H a xs) : TyX K H (.ref a) (.type "tuple") := by
  rcases h with (h | ⟨o, h⟩) | ⟨o, its, n, h, c, _⟩
  · exact .base (.tup h)
  · exact .fTuple h
  · exact .kTuple h c
def rIs (K : PySem.W.Frag) : List V → Hp → VK → Prop := fun xs H Q => ∃ (x : V) (T : String) (d : Dt) (b : Bool), (xs = [x, .ty T] ∧ Rep K H x d ∧ isTy T d = some b) ∧ Q (.bl b) H
theorem isTy_kit {K : PySem.W.Frag} {H : Hp} {x : V} {d : Dt} {T : String} {b : Bool} (r : Rep K H x d) (h : isTy T d = some b) : ∃ t, TyX K H x t ∧ PySem.W.kitOne K t (.type T) = some b := by
  have cs : T = "int" ∨ T = "bool" ∨ T = "str" ∨ T = "tuple" := by
    unfold isTy at h
    split at h <;> simp_all
  rcases cs with rfl | rfl | rfl | rfl <;> cases r <;> simp [isTy] at h <;> subst h
  all_goals first
    | exact ⟨_, .base .non, kit_ty (by decide +kernel)⟩
    | exact ⟨_, .base (.bl _), kit_ty (by decide +kernel)⟩
    | exact ⟨_, .base (.int _), kit_ty (by decide +kernel)⟩
    | exact ⟨_, .base (.str _), kit_ty (by decide +kernel)⟩
    | (rename_i hs _; exact ⟨_, SqT.ty hs, kit_ty (by decide +kernel)⟩)
    | (rename_i hs; rcases hs with ⟨_, hs⟩ | ⟨_, hs⟩
       · exact ⟨_, .base (.lst hs), kit_ty (by decide +kernel)⟩
       · exact ⟨_, .base (.dK hs), kit_ty (by decide +kernel)⟩)
theorem call_Is {X : Cx} : CallR X (.builtin "isinstance") (rIs X.K) := callImp call_isi fun xs H Q ⟨x, T, d, b, ⟨e, r, h⟩, q⟩ => by
  obtain ⟨t, ty, k⟩ := isTy_kit r h
  exact ⟨x, .ty T, t, .type T, b, e, .ty T, ty, k, q⟩

/-! ### lengths -/
inductive LenX (K : PySem.W.Frag) (H : Hp) : V → Nat → Prop
  | str (z : Str) (h : z.length ≤ sizeLine) : LenX K H (.str z) z.length
  | lst {p : Addr} {xs : List V} (h : SqL K H p xs) : LenX K H (.ref p) xs.length
  | tup {p : Addr} {xs : List V} (h : SqT K H p xs) : LenX K H (.ref p) xs.length
def rLn (K : PySem.W.Frag) : List V → Hp → VK → Prop := fun xs H Q => ∃ x n, (xs = [x] ∧ LenX K H x n) ∧ Q (.int n) H
theorem call_Len {X : Cx} : CallR X (.builtin "len") (rLn X.K) := callImp call_len fun xs H Q ⟨x, n, ⟨e, l⟩, q⟩ => ⟨x, n, e, by
  cases l with
  | str z h => exact ⟨h, rfl⟩
  | lst h => exact .inl ⟨_, h, rfl⟩
  | tup h => exact .inr ⟨_, h, rfl⟩, q⟩

/-! ### operators of several kinds -/
def rAddG (K : PySem.W.Frag) : R2 := fun x y H Q =>
  (∃ i j, (x = .int i ∧ y = .int j) ∧ Q (.int (i + j)) H) ∨ (∃ i j, (x = .str i ∧ y = .str j ∧ i.length + j.length ≤ sizeLine) ∧ Q (.str (i ++ j)) H) ∨
  (∃ l b xs zs, (x = .ref l ∧ y = .ref b ∧ H l = some (.lst xs) ∧ H b = some (.lst zs) ∧ xs.length + zs.length ≤ sizeLine) ∧ ∀ p H', H p = none → H' p = some (.lst (xs ++ zs)) → Ex [] H H' → Q (.ref p) H') ∨
  (∃ l b xs zs, (x = .ref l ∧ y = .ref b ∧ SqT K H l xs ∧ SqT K H b zs ∧ xs.length + zs.length ≤ sizeLine) ∧ ∀ p H', SqT K H' p (xs ++ zs) → Ex [] H H' → Q (.ref p) H')
theorem SqT.of_new {K : PySem.W.Frag} {H : Hp} {a : Addr} {xs : List V} : SqT K (upd H a (.tup xs)) a xs := .inl (.inl upd_same)
theorem op_AddG {X : Cx} : OpR X (binaryOp .Add) (rAddG X.K) := fun pins s σ H x y v u Q I rx ry q => by
  rcases q with ⟨i, j, ⟨rfl, rfl⟩, q⟩ | ⟨i, j, ⟨rfl, rfl, hl⟩, q⟩ | ⟨l, b, xs, zs, ⟨rfl, rfl, h1, h2, hl⟩, q⟩ | ⟨l, b, xs, zs, ⟨rfl, rfl, h1, h2, hl⟩, q⟩
  · exact op_add pins s σ H _ _ v u Q I rx ry ⟨i, j, rfl, rfl, q⟩
  · exact op_add_str pins s σ H _ _ v u Q I rx ry ⟨i, j, rfl, rfl, hl, q⟩
  · exact op_cat pins s σ H _ _ v u Q I rx ry ⟨l, b, xs, zs, rfl, rfl, h1, h2, hl, fun p hp => q p _ hp upd_same (Ex.new hp)⟩
  · refine op_catA pins s σ H _ _ v u Q I rx ry ⟨l, b, xs, zs, rfl, rfl, h1, h2, hl, fun e => ?_, fun _ e => ?_, fun _ _ p hp => ?_⟩
    · exact q b H (by rw [e]; exact h2) (Ex.refl _ _)
    · exact q l H (by rw [e, List.append_nil]; exact h1) (Ex.refl _ _)
    · exact q p _ SqT.of_new (Ex.new hp)
def rEqS (a b : V) (k : Bool) : Prop := scal a b = true ∧ k = decide (a = b)
/-- an item by its place -/
def rIxG (K : PySem.W.Frag) : R2 := fun x y H Q =>
  (∃ p xs i v, (x = .ref p ∧ y = .int i ∧ SqL K H p xs ∧ atI xs i = some v) ∧ Q v H) ∨ (∃ p xs i v, (x = .ref p ∧ y = .int i ∧ SqT K H p xs ∧ atI xs i = some v) ∧ Q v H) ∨
  (∃ z i c, (x = .str z ∧ y = .int i ∧ z.length ≤ sizeLine ∧ atI z.cps.toList i = some c) ∧ Q (.str ⟨#[c]⟩) H)
theorem ix_G {X : Cx} : IxR X (rIxG X.K) := fun value slice pins s σ H x y v u Q I rx ry q hs => by
  rcases q with ⟨p, xs, i, z, ⟨a, b, c, d⟩, q⟩ | ⟨p, xs, i, z, ⟨a, b, c, d⟩, q⟩ | ⟨z, i, c, ⟨a, b, e, d⟩, q⟩
  · exact ix_list value slice pins s σ H x y v u Q I rx ry ⟨p, xs, i, z, a, b, c, d, q⟩ hs
  · exact ix_tup value slice pins s σ H x y v u Q I rx ry ⟨p, xs, i, z, a, b, c, d, q⟩ hs
  · exact ix_str value slice pins s σ H x y v u Q I rx ry ⟨z, i, c, a, b, e, d, q⟩ hs

/-! ### loops -/
theorem while_w {c : TT} {tb : TS} {D : Ends} {σ : St} {H : Hp} (W : Nat → St → Hp → Prop) (m₀ : Nat) (h0 : W m₀ σ H)
    (hs : ∀ m σ H, W m σ H → c σ H fun b H1 => if b = true then ∃ N : St → Hp → Prop, (∀ σ' H', N σ' H' → ∃ m', m' < m ∧ W m' σ' H') ∧ tb { D with nx := N, ct := N, bk := D.nx } σ H1 else D.nx σ H1) : tWhile c tb D σ H := ⟨W, ⟨m₀, h0⟩, hs⟩
/-- what holds while a list is made of others -/
structure LcP (D : Addr) (M : List Addr) (P : Hp → Prop) (R : Nat → V → Hp → Prop) (H1 : Hp) (i : Nat) (H : Hp) : Prop where
  ex : Ex M H1 H
  p : P H
  l : ∃ acc, H D = some (.lst acc) ∧ acc.length = i ∧ ∀ j y, acc[j]? = some y → R j y H
theorem LcP.start {D : Addr} {M : List Addr} {P : Hp → Prop} {R : Nat → V → Hp → Prop} {H1 : Hp} (hD : H1 D = none) (p : P H1) (pl : ∀ H o, P H → P (upd H D o)) : LcP D M P R H1 0 (upd H1 D (.lst [])) :=
  ⟨Ex.new hD, pl _ _ p, [], upd_same, rfl, fun j y e => by simp at e⟩
/-- R does not hang on what changes -/
def Stab (R : Nat → V → Hp → Prop) : Prop := ∀ i y M H H', Ex M H H' → R i y H → R i y H'
theorem LcP.step {D : Addr} {M : List Addr} {P : Hp → Prop} {R : Nat → V → Hp → Prop} {H1 H H4 : Hp} {i n : Nat} {y : V} (h : LcP D M P R H1 i H) (hD : H1 D = none) (st : Stab R) (pl : ∀ H o, P H → P (upd H D o))
    (e : Ex M H H4) (nD : Nin D M) (p : P H4) (r : R i y H4) (hi : i < n) (hn : n ≤ 1000000) : ∃ acc, H4 D = some (.lst acc) ∧ acc.length < sizeLine ∧ LcP D M P R H1 (i + 1) (upd H4 D (.lst (acc ++ [y]))) := by
  obtain ⟨e0, _, acc, h1, h2, h3⟩ := h
  have h4 : H4 D = some (.lst acc) := e.get h1 nD
  have e5 : Ex [D] H4 (upd H4 D (.lst (acc ++ [y]))) := Ex.put h4 rfl (by simp)
  have hz : (1000000 : Nat) < sizeLine := by decide
  refine ⟨acc, h4, by omega, (e0.trans e).put_new hD, pl _ _ p, acc ++ [y], upd_same, by simp [h2], fun j z hj => ?_⟩
  by_cases hlt : j < acc.length
  · rw [List.getElem?_append_left hlt] at hj
    exact st _ _ _ _ _ e5 (st _ _ _ _ _ e (h3 j z hj))
  · rw [List.getElem?_append_right (by omega)] at hj
    have hj0 : j - acc.length = 0 := by
      have := (List.getElem?_eq_some_iff.mp hj).1
      simp at this
      omega
    rw [hj0] at hj
    simp at hj
    subst hj
    have : j = i := by omega
    subst this
    exact st _ _ _ _ _ e5 r
end G

namespace G
open PySem PySem.Spec PyProof.Rows L2
theorem flat_len {α : Type} (its : List α) (m : Nat) : (List.replicate m its).flatten.length = m * its.length := PyProof.Rows.lm_len_rep_flat _ _
/-- t * 1, () * k: the very tuple -/
theorem tmul_same (l : Addr) (items : Array Value) (n : Nat) (dd : Option Addr) (sl : Array (Option Value)) (x : Int) (u : Tok)
    (c0 : (decide (x < -(2 ^ 63)) || decide (x ≥ 2 ^ 63)) = false) (c1 : (items.isEmpty || x == 1) = true) :
    Meets (Builtin.«tuple.__mul__» ⟨[.ref l, .int x u], []⟩)
      (fun _ R s => s.heap.get? l = some { cls := .type "tuple", dict := dd, data := .seq items n, slots := sl } ∧ R (.ok (.ret (Value.ref l))) s) :=
  .of_wp fun prog w A R s h => by
    obtain ⟨hp, g, d, tk, os⟩ := s
    obtain ⟨hl, h⟩ := h
    have f1 := AutoSeq1.idx_int
    wp_walk using wpAny_loadPart' hl
    repeat (first
      | (refine wpAny_ite_false (decide_eq_false (by rw [c0]; exact Bool.false_ne_true)) ?_; wp_walk using wpAny_loadPart' hl)
      | (refine wpAny_ite_true (decide_eq_true c1) ?_; wp_walk using wpAny_loadPart' hl))
    exact ⟨_, rfl, h⟩
/-- t * k, k ≤ 0: an empty one -/
theorem tmul_none (l : Addr) (items : Array Value) (n : Nat) (dd : Option Addr) (sl : Array (Option Value)) (x : Int) (u : Tok)
    (c0 : (decide (x < -(2 ^ 63)) || decide (x ≥ 2 ^ 63)) = false) (c1 : (items.isEmpty || x == 1) = false) (c2 : (decide (x ≤ 0) || items.isEmpty) = true) :
    Meets (Builtin.«tuple.__mul__» ⟨[.ref l, .int x u], []⟩)
      (fun _ R s => s.heap.get? l = some { cls := .type "tuple", dict := dd, data := .seq items n, slots := sl } ∧
        R (.ok (.ret (Value.ref s.heap.objs.size))) { s with heap := s.heap.push { cls := Value.type "tuple", data := Data.seq #[] } }) :=
  .of_wp fun prog w A R s h => by
    obtain ⟨hp, g, d, tk, os⟩ := s
    obtain ⟨hl, h⟩ := h
    have f1 := AutoSeq1.idx_int
    wp_walk using wpAny_loadPart' hl
    repeat (first
      | (refine wpAny_ite_false (decide_eq_false (by rw [c0]; exact Bool.false_ne_true)) ?_; wp_walk using wpAny_loadPart' hl)
      | (refine wpAny_ite_false (decide_eq_false (by rw [c1]; exact Bool.false_ne_true)) ?_; wp_walk using wpAny_loadPart' hl)
      | (refine wpAny_ite_true (decide_eq_true c2) ?_; wp_walk using wpAny_loadPart' hl))
    exact ⟨_, rfl, h⟩
def repS (z : Str) (k : Int) : Str := ⟨((List.replicate k.toNat z.cps.toList).flatten).toArray⟩
def rMulG (K : PySem.W.Frag) : R2 := fun x y H Q =>
  (∃ i j, (x = .int i ∧ y = .int j ∧ CMul i j) ∧ Q (.int (i * j)) H) ∨
  (∃ z k, (x = .str z ∧ y = .int k ∧ 0 ≤ k ∧ k ≤ 1000000 ∧ z.length * k.toNat ≤ 1000000) ∧ Q (.str (repS z k)) H) ∨
  (∃ l k xs, (x = .ref l ∧ y = .int k ∧ H l = some (.lst xs) ∧ 0 ≤ k ∧ k ≤ 1000000 ∧ xs.length * k.toNat ≤ 1000000) ∧ ∀ p H', H p = none → H' p = some (.lst (List.replicate k.toNat xs).flatten) → Ex [] H H' → Q (.ref p) H') ∨
  (∃ l k xs, (x = .ref l ∧ y = .int k ∧ SqT K H l xs ∧ 0 ≤ k ∧ k ≤ 1000000 ∧ xs.length * k.toNat ≤ 1000000) ∧ ∀ p H', SqT K H' p (List.replicate k.toNat xs).flatten → Ex [] H H' → Q (.ref p) H')
theorem flat_nil {α : Type} : ∀ n : Nat, (List.replicate n ([] : List α)).flatten = []
  | 0 => rfl
  | n + 1 => by rw [List.replicate_succ, List.flatten_cons, flat_nil n]; rfl
theorem vals_rep {xs : List V} {us : List Value} (r : Vals xs us) : ∀ n : Nat, Vals (List.replicate n xs).flatten (List.replicate n us).flatten
  | 0 => .nil
  | n + 1 => by
    rw [List.replicate_succ, List.flatten_cons, List.replicate_succ, List.flatten_cons]
    exact r.append (vals_rep r n)
theorem op_mulT {X : Cx} {pins : List (Addr × Obj)} {s : Shared} {σ : L2.St} {H : Hp} {l : Addr} {k : Int} {xs : List V} {v u : Value} {Q : VK} (I : L2.Inv X pins σ H s) (rx : RelV (.ref l) v) (ry : RelV (.int k) u)
    (hT : SqT X.K H l xs) (h0 : 0 ≤ k) (h1 : k ≤ 1000000) (hz : xs.length * k.toNat ≤ 1000000) (q : ∀ p H', SqT X.K H' p (List.replicate k.toNat xs).flatten → Ex [] H H' → Q (.ref p) H') :
    wpAny (model X.prog X.w) X.A (binaryOp .Mult v u) (EP X pins σ Q) X.xe s := by
  cases rx
  obtain ⟨t, rfl⟩ := ry
  obtain ⟨its, r, ⟨⟨cls, dd, data, sl⟩, ho, hc, n, hd⟩, hs⟩ := I.tuple hT
  simp only at hc hd
  subst hc hd
  have hle : its.length = xs.length := r.length.symm
  have c0 : (decide (k < -(2 ^ 63)) || decide (k ≥ 2 ^ 63)) = false := by
    rw [decide_eq_false (by omega), decide_eq_false (by omega)]
    rfl
  have run : ∀ (R : Value → Shared → Prop), (∀ (P : Prop), wpAny (model X.prog X.w) X.A (call (.builtin "tuple.__mul__") [.ref l, .int k t]) R X.xe s → P → P) → wpAny (model X.prog X.w) X.A (call (.builtin "tuple.__mul__") [.ref l, .int k t]) R X.xe s →
      wpAny (model X.prog X.w) X.A (binaryOp .Mult (.ref l) (.int k t)) R X.xe s := fun R _ h =>
    wpAny_binaryOp_repeat_ref (T := "tuple") (U := "int") (by decide) ⟨_, ho, rfl⟩ (fun s' => typeIs_int s' k t) noFill_tuple_mul F.fills_int_mul F.slot_int_rmul repeat_tuple F.slot_int_index.lookup
      (call_meets F.slot_int_rmul (typeIs_int s k t) F.entry_int_rmul (F.args_int_rmul_2 _ _) (int_rmul_tuple k t l its.toArray n dd sl) ⟨ho, rfl, ⟨_, ho, rfl⟩, h⟩)
  refine run _ (fun _ _ p => p) ?_
  cases c1 : (its.toArray.isEmpty || k == 1) with
  | true =>
    refine call_meets F.slot_tuple_mul ⟨_, ho, rfl⟩ F.entry_tuple_mul (F.args_tuple_mul_2 _ _) (tmul_same l its.toArray n dd sl k t c0 c1) ⟨ho, ?_⟩
    have e : (List.replicate k.toNat xs).flatten = xs := by
      rcases Bool.or_eq_true _ _ |>.mp c1 with z | z
      · have : its = [] := by simpa using z
        subst this
        have : xs = [] := List.eq_nil_of_length_eq_zero hle.symm
        subst this
        exact flat_nil _
      · have : k = 1 := by simpa using z
        subst this
        simp
    exact ⟨.ref l, H, I.tok _, rfl, q l H (by rw [e]; exact hT) (Ex.refl _ _)⟩
  | false =>
    have c1' := c1
    rw [Bool.or_eq_false_iff] at c1
    obtain ⟨hi, hk1⟩ := c1
    cases c2 : (decide (k ≤ 0) || its.toArray.isEmpty) with
    | true =>
      refine call_meets F.slot_tuple_mul ⟨_, ho, rfl⟩ F.entry_tuple_mul (F.args_tuple_mul_2 _ _) (tmul_none l its.toArray n dd sl k t c0 c1' c2) ⟨ho, ?_⟩
      have hk0 : k = 0 := by
        rw [hi, Bool.or_false] at c2
        have := of_decide_eq_true c2
        omega
      subst hk0
      refine ⟨.ref s.heap.objs.size, _, I.laid (t' := s.toks) (o := .tup []) (fun b ob z => Heap.get?_push_of_some _ z) (Nat.le_refl _) ?_, rfl, q _ _ (by simpa using SqT.of_new) (Ex.new (I.hok.fresh (Nat.le_refl _)))⟩
      exact ⟨Nat.zero_le _, [], .nil, IsTup.new _ _⟩
    | false =>
      have hpos : ¬ k ≤ 0 := by
        intro z
        rw [decide_eq_true z] at c2
        cases c2
      have hm : ((its.toArray.size : Nat) : Int) * k ≤ 1000000 := by
        have e1 : k = ((k.toNat : Nat) : Int) := by omega
        have a1 : ((xs.length * k.toNat : Nat) : Int) ≤ 1000000 := by omega
        rw [List.size_toArray, hle, e1]
        rw [Int.natCast_mul] at a1
        exact a1
      have c4 : Builtin.Tuple.tupleTooMany (((its.toArray.size : Nat) : Int) * k) = false := by
        unfold Builtin.Tuple.tupleTooMany
        rw [sizeLine_eq]
        exact decide_eq_false (by omega)
      have flen : (List.replicate k.toNat its).flatten.length ≤ sizeLine := by
        rw [flat_len, hle, sizeLine_eq, Nat.mul_comm]
        omega
      refine call_meets F.slot_tuple_mul ⟨_, ho, rfl⟩ F.entry_tuple_mul (F.args_tuple_mul_2 _ _) (tuple_mulW l its.toArray n dd sl k t c0 c1' c2 (by omega) c4 (by rw [size_rep, List.size_toArray]; exact flen)) ⟨ho, ?_⟩
      rw [size_rep]
      have ok : xs.length * k.toNat ≤ sizeLine := by rw [sizeLine_eq]; omega
      refine ⟨.ref s.heap.objs.size, _, I.laid (t' := s.toks) (o := .tup (List.replicate k.toNat xs).flatten) (fun b ob z => Heap.get?_push_of_some _ z) (Nat.le_refl _) ?_, rfl, q _ _ SqT.of_new (Ex.new (I.hok.fresh (Nat.le_refl _)))⟩
      exact ⟨by rw [flat_len, Nat.mul_comm]; exact ok, _, vals_rep r _, IsTup.new _ _⟩
theorem fold_app {α : Type} : ∀ (l : List (List α)) (acc : Array α), ((l.map List.toArray).foldl (· ++ ·) acc) = acc ++ l.flatten.toArray
  | [], acc => by simp
  | x :: r, acc => by
    rw [List.map_cons, List.foldl_cons, fold_app r]
    simp
theorem op_mulS {X : Cx} {pins : List (Addr × Obj)} {s : Shared} {σ : L2.St} {H : Hp} {k : Int} {z : Str} {v u : Value} {Q : VK} (I : L2.Inv X pins σ H s) (rx : RelV (.str z) v) (ry : RelV (.int k) u)
    (h0 : 0 ≤ k) (h1 : k ≤ 1000000) (hz : z.length * k.toNat ≤ 1000000) (q : Q (.str (repS z k)) H) :
    wpAny (model X.prog X.w) X.A (binaryOp .Mult v u) (EP X pins σ Q) X.xe s := by
  obtain ⟨t, rfl⟩ := rx
  obtain ⟨t', rfl⟩ := ry
  have c0 : (decide (k < -(2 ^ 63)) || decide (k ≥ 2 ^ 63)) = false := by
    rw [decide_eq_false (by omega), decide_eq_false (by omega)]
    rfl
  have hzl : z.length = z.cps.size := rfl
  refine P.mul_str c0 (fun a b => ?_) (fun a b => ?_) ?_
  · intro c
    have a2 : (z.length : Int) ≤ 1000000 := by
      have : z.length * 1 ≤ z.length * k.toNat := Nat.mul_le_mul_left _ (by omega)
      omega
    have a3 : (1000000 : Int) ≤ (2 ^ 63 - 1) / k := (Int.le_ediv_iff_mul_le (by omega)).mpr (by omega)
    omega
  · unfold PySem.Builtin.Str.tooLong
    rw [sizeLine_eq]
    exact decide_eq_false (by omega)
  · by_cases hk : k < 1
    · rw [if_pos hk]
      have : k = 0 := by omega
      subst this
      refine ⟨by decide, .str Str.empty, H, I.tok _, ⟨_, rfl⟩, ?_⟩
      exact q
    · rw [if_neg hk]
      by_cases c : (k == 1 || z.length == 0) = true
      · rw [if_pos c]
        have e : repS z k = z := by
          rcases Bool.or_eq_true _ _ |>.mp c with y | y
          · have : k = 1 := by simpa using y
            subst this
            simp [repS]
          · have y' : z.cps.size = 0 := by simpa [hzl] using y
            have : z.cps = #[] := Array.eq_empty_of_size_eq_zero y'
            obtain ⟨a⟩ := z
            simp at this
            subst this
            simp [repS]
        refine ⟨.str z, H, I.tok _, ⟨_, rfl⟩, ?_⟩
        rw [e] at q
        exact q
      · rw [if_neg c]
        have e : (⟨(List.replicate k.toNat z.cps).foldl (· ++ ·) #[]⟩ : Str) = repS z k := by
          unfold repS
          congr 1
          have := fold_app (List.replicate k.toNat z.cps.toList) (#[] : Array Nat)
          simpa using this
        rw [e]
        refine ⟨?_, .str (repS z k), H, I.tok _, ⟨_, rfl⟩, q⟩
        show (repS z k).cps.size ≤ sizeLine
        rw [sizeLine_eq]
        simp only [repS, List.size_toArray, flat_len, Array.length_toList]
        rw [Nat.mul_comm, ← hzl]
        omega
theorem op_MulG {X : Cx} : OpR X (binaryOp .Mult) (rMulG X.K) := fun pins s σ H x y v u Q I rx ry q => by
  rcases q with ⟨i, j, ⟨rfl, rfl, c⟩, q⟩ | ⟨z, k, ⟨rfl, rfl, h0, h1, hz⟩, q⟩ | ⟨l, k, xs, ⟨rfl, rfl, hl, h0, h1, hz⟩, q⟩ | ⟨l, k, xs, ⟨rfl, rfl, hT, h0, h1, hz⟩, q⟩
  · exact op_mul pins s σ H _ _ v u Q I rx ry ⟨i, j, rfl, rfl, c, q⟩
  · exact op_mulS I rx ry h0 h1 hz q
  · exact op_rep pins s σ H _ _ v u Q I rx ry ⟨l, k, xs, rfl, rfl, hl, by omega, by omega, by rw [sizeLine_eq]; omega, fun p hp => q p _ hp upd_same (Ex.new hp)⟩
  · exact op_mulT I rx ry hT h0 h1 hz q
end G

namespace G
open PySem L2
section
variable {CX : CXT} {P : Program} {w : World} {K : PySem.W.Frag} {mg : Str → Option Value} {base : Heap} {N : List Str} {qual : Str} {scope : Scope} {f : Addr} {cd : Value} {A : Around} {outer : List Env} {s : Shared} {H : Hp} {E : XK}
theorem cx_K : (cxOf CX P w K mg base N qual scope f cd A outer s H E).K = K := rfl
theorem cx_nK : (cxOf CX P w K mg base N qual scope f cd A outer s H E).nox.K = K := rfl
end
theorem cmul_r {i j : Int} (h1 : -(2 ^ 64) < j) (h2 : j < 2 ^ 64) : CMul i j := .inr ⟨h1, h2⟩
theorem cmul_l {i j : Int} (h1 : -(2 ^ 64) < i) (h2 : i < 2 ^ 64) : CMul i j := .inl ⟨h1, h2⟩
theorem cdivw {i j : Int} (h1 : 0 < j) (h2 : j < 2 ^ 64) : CDivW i j := wide_div (b := 64) h1 (by omega) (by decide) (by decide)
theorem tyL {K : PySem.W.Frag} {H : Hp} {p : Addr} {xs : List V} (h : SqL K H p xs) : tyV K "list" (.ref p) H := Or.inl ⟨rfl, xs, h⟩
theorem pop_last (ws : List V) (y : V) : (ws ++ [y])[(ws ++ [y]).length - 1]? = some y := by simp
/-! ### lists of data that a comprehension makes -/
def RepAt (K : PySem.W.Frag) (ds : List Dt) (i : Nat) (y : V) (H : Hp) : Prop := ∃ d, ds[i]? = some d ∧ Rep K H y d
theorem RepAt.stab {K : PySem.W.Frag} {ds : List Dt} : Stab (RepAt K ds) := fun _ _ _ _ _ e ⟨d, h, r⟩ => ⟨d, h, e.rep r⟩
theorem repL_of {K : PySem.W.Frag} {H : Hp} : ∀ {ys : List V} {ds : List Dt}, ys.length = ds.length → (∀ j y, ys[j]? = some y → RepAt K ds j y H) → RepL K H ys ds
  | [], [], _, _ => .nil
  | y :: ys, d :: ds, hl, h => by
    obtain ⟨d', e, r⟩ := h 0 y (by simp)
    have e' : d = d' := by simpa using e
    subst e'
    refine .cons r (repL_of (by simpa using hl) fun j z hz => ?_)
    obtain ⟨d2, e2, r2⟩ := h (j + 1) z (by simpa using hz)
    exact ⟨d2, by simpa using e2, r2⟩
theorem LcP.done {K : PySem.W.Frag} {D : Addr} {M : List Addr} {P : Hp → Prop} {ds : List Dt} {H1 H : Hp} {n : Nat} (h : LcP D M P (RepAt K ds) H1 n H) (hn : ds.length = n) : ∃ ys, H D = some (.lst ys) ∧ RepL K H ys ds := by
  obtain ⟨_, _, acc, h1, h2, h3⟩ := h
  exact ⟨acc, h1, repL_of (by omega) h3⟩
theorem RepL.bls {K : PySem.W.Frag} {H : Hp} : ∀ {ys : List V} {bs : List Bool}, RepL K H ys (bs.map Dt.bl) → ys = bs.map V.bl
  | _, [], h => by cases h; rfl
  | _, b :: bs, h => by
    rw [List.map_cons] at h
    cases h with
    | cons a t =>
      cases a
      rw [t.bls, List.map_cons]
theorem RepL.ints {K : PySem.W.Frag} {H : Hp} : ∀ {ys : List V} {bs : List Int}, RepL K H ys (bs.map Dt.int) → ys = bs.map V.int
  | _, [], h => by cases h; rfl
  | _, b :: bs, h => by
    rw [List.map_cons] at h
    cases h with
    | cons a t =>
      cases a
      rw [t.ints, List.map_cons]
theorem RepL.strs {K : PySem.W.Frag} {H : Hp} : ∀ {ys : List V} {bs : List Str}, RepL K H ys (bs.map Dt.str) → ys = bs.map V.str
  | _, [], h => by cases h; rfl
  | _, b :: bs, h => by
    rw [List.map_cons] at h
    cases h with
    | cons a t =>
      cases a
      rw [t.strs, List.map_cons]
theorem SqL.bls {K : PySem.W.Frag} {H : Hp} {D : Addr} {ys : List V} {bs : List Bool} (h : H D = some (.lst ys)) (r : RepL K H ys (bs.map Dt.bl)) : SqL K H D (bs.map V.bl) := by
  rw [← r.bls]
  exact SqL.of h
theorem true_loc : ∀ (D : Addr) (H : Hp) (o : HO), (fun _ : Hp => True) H → (fun _ : Hp => True) (upd H D o) := fun _ _ _ h => h

/-! ### signs -/
def signOk (c : Nat) : Bool := decide (32 ≤ c) && decide (c ≤ 126)
theorem lt1 (a b : Nat) : decide (([a] : List Nat) < [b]) = decide (a < b) := by
  by_cases h : a < b
  · rw [decide_eq_true h, decide_eq_true]
    exact List.Lex.rel h
  · rw [decide_eq_false h, decide_eq_false]
    intro z
    cases z with
    | rel z => exact h z
    | cons z => cases z
theorem le1 (a b : Nat) : (!decide (([a] : List Nat) < [b])) = decide (b ≤ a) := by
  rw [lt1]
  by_cases h : a < b
  · rw [decide_eq_true h, decide_eq_false (by omega)]
    rfl
  · rw [decide_eq_false h, decide_eq_true (by omega)]
    rfl
theorem wipe_set1 (σ : L2.St) (j : Nat) (x : Option V) : wipe (σ.set j x) [j] = wipe σ [j] := by
  show (σ.set j x).set j none = σ.set j none
  rw [List.set_set]
theorem wipe_set1' (σ : L2.St) (j : Nat) (x : Option V) : wipe ((wipe σ [j]).set j x) [j] = wipe σ [j] := by
  show ((σ.set j none).set j x).set j none = σ.set j none
  rw [List.set_set, List.set_set]
theorem get_set1 (σ : L2.St) {j : Nat} (x : Option V) (h : j < σ.length) : ((wipe σ [j]).set j x)[j]? = some x := by
  show ((σ.set j none).set j x)[j]? = some x
  rw [List.getElem?_set_self (by rw [List.length_set]; exact h)]
/-! ### slices -/
def rSlG (K : PySem.W.Frag) : V → Option Int → Option Int → Hp → VK → Prop := fun x lo hi H Q =>
  (∃ z, (x = .str z ∧ z.length ≤ sizeLine) ∧ Q (.str (cutS z lo hi)) H) ∨
  (∃ a xs, (x = .ref a ∧ SqL K H a xs) ∧ ∀ p H', H p = none → H' p = some (.lst (cutV xs lo hi)) → Ex [] H H' → Q (.ref p) H') ∨
  (∃ a xs, (x = .ref a ∧ SqT K H a xs) ∧ ∀ p H', SqT K H' p (cutV xs lo hi) → Ex [] H H' → Q (.ref p) H')
theorem cutV_whole {xs : List V} {lo hi : Option Int} (h : HT.sIx xs.length 0 lo = 0 ∧ HT.sIx xs.length xs.length hi = xs.length) : cutV xs lo hi = xs := by
  unfold cutV
  rw [h.1, h.2]
  simp
theorem sl_G {X : Cx} : SlR X (rSlG X.K) := fun pins s σ H x v vl vu lo hi sl Q I rx hs pl pu q => by
  rcases q with ⟨z, ⟨rfl, hz⟩, q⟩ | ⟨a, xs, ⟨rfl, hx⟩, q⟩ | ⟨a, xs, ⟨rfl, hx⟩, q⟩
  · exact sl_str pins s σ H _ v vl vu lo hi sl Q I rx hs pl pu ⟨z, rfl, hz, q⟩
  · exact sl_list pins s σ H _ v vl vu lo hi sl Q I rx hs pl pu ⟨a, xs, rfl, hx, fun p hp => q p _ hp upd_same (Ex.new hp)⟩
  · refine sl_tupA pins s σ H _ v vl vu lo hi sl Q I rx hs pl pu ⟨a, xs, rfl, hx, fun e => ?_, fun _ p hp => ?_⟩
    · exact q a H (by rw [cutV_whole e]; exact hx) (Ex.refl _ _)
    · exact q p _ SqT.of_new (Ex.new hp)
/-! ### the same with the written part named -/
section
variable {X : Cx} {K : PySem.W.Frag}
theorem oAdd (h : X.K = K) : OpR X (binaryOp .Add) (rAddG K) := by subst h; exact op_AddG
theorem oMul (h : X.K = K) : OpR X (binaryOp .Mult) (rMulG K) := by subst h; exact op_MulG
theorem ixG (h : X.K = K) : IxR X (rIxG K) := by subst h; exact ix_G
theorem slG (h : X.K = K) : SlR X (rSlG K) := by subst h; exact sl_G
theorem cIs (h : X.K = K) : CallR X (.builtin "isinstance") (rIs K) := by subst h; exact call_Is
theorem cLen (h : X.K = K) : CallR X (.builtin "len") (rLn K) := by subst h; exact call_Len
theorem cAll (h : X.K = K) (hc : X.calm = true) : CallR X (.builtin "all") (rAll K) := by subst h; exact cr_all hc
theorem cAny (h : X.K = K) (hc : X.calm = true) : CallR X (.builtin "any") (rAny K) := by subst h; exact cr_any hc
end
end G

/-! ### rules in one form: facts, then what follows, over any heap that goes on -/
namespace G
open PySem PySem.Spec PyProof.Rows L2
section
variable {X : Cx} {K : PySem.W.Frag}
def tTupA (t : TA) : TE := fun σ H Q => t σ H fun xs H1 => xs.length ≤ sizeLine ∧ ∀ p H2, H1 p = none → H2 p = some (.tup xs) → Ex [] H1 H2 → Q (.ref p) H2
def tLstA (t : TA) : TE := fun σ H Q => t σ H fun xs H1 => xs.length ≤ sizeLine ∧ ∀ p H2, H1 p = none → H2 p = some (.lst xs) → Ex [] H1 H2 → Q (.ref p) H2
theorem peTup {es : List Expr} {t : TA} {pos : Pos} {x1} (h : PA X es t) : PE X (.Tuple es x1 pos) (tTupA t) := by
  constructor
  intro pins s σ H Q I hq
  apply wpAny_Tuple_spliced
  refine thn (h.run pos pins s σ H _ I hq) ?_
  rintro us s1 ⟨xs, H1, I1, r, z, q⟩
  have new := I1.hok.fresh (Nat.le_refl s1.heap.objs.size)
  refine ⟨r.length ▸ z, .ref s1.heap.objs.size, _, I1.laid (t' := s1.toks) (o := .tup xs) (fun _ _ e => Heap.get?_push_of_some _ e) (Nat.le_refl _) ?_, rfl, q _ _ new upd_same (Ex.new new)⟩
  exact ⟨z, us, r, IsTup.new _ _⟩
theorem peLst {es : List Expr} {t : TA} {pos : Pos} (h : PA X es t) : PE X (.List es pos) (tLstA t) := by
  constructor
  intro pins s σ H Q I hq
  apply wpAny_List_spliced
  refine thn (h.run pos pins s σ H _ I hq) ?_
  rintro us s1 ⟨xs, H1, I1, r, z, q⟩
  have new := I1.hok.fresh (Nat.le_refl s1.heap.objs.size)
  refine ⟨r.length ▸ z, .ref s1.heap.objs.size, _, I1.laid (t' := s1.toks) (o := .lst xs) (fun _ _ e => Heap.get?_push_of_some _ e) (Nat.le_refl _) ?_, rfl, q _ _ new upd_same (Ex.new new)⟩
  exact ⟨z, us, 0, r, Heap.get?_push_size _ rfl⟩
def rSub : R2 := fun x y H Q => ∃ i j, (x = .int i ∧ y = .int j) ∧ Q (.int (i - j)) H
theorem oSub : OpR X (binaryOp .Sub) rSub := opImp op_sub fun _ _ _ _ ⟨i, j, ⟨a, b⟩, q⟩ => ⟨i, j, a, b, q⟩
def rMod : R2 := fun x y H Q => ∃ i j, (x = .int i ∧ y = .int j ∧ 0 < j) ∧ Q (.int (i % j)) H
theorem oMod : OpR X (binaryOp .Mod) rMod := opImp op_mod fun _ _ _ _ ⟨i, j, ⟨a, b, c⟩, q⟩ => ⟨i, j, a, b, c, q⟩
def rFdv : R2 := fun x y H Q => ∃ i j, (x = .int i ∧ y = .int j ∧ CDivW i j) ∧ Q (.int (i / j)) H
theorem oFdv : OpR X (binaryOp .FloorDiv) rFdv := opImp op_fdivW fun _ _ _ _ ⟨i, j, ⟨a, b, c⟩, q⟩ => ⟨i, j, a, b, c, q⟩
def rPow : R2 := fun x y H Q => ∃ i j, (x = .int i ∧ y = .int j ∧ CPow i j) ∧ Q (.int (i ^ j.toNat)) H
theorem oPow : OpR X (binaryOp .Pow) rPow := opImp op_pow fun _ _ _ _ ⟨i, j, ⟨a, b, c⟩, q⟩ => ⟨i, j, a, b, c, q⟩
def rNeg : V → Hp → VK → Prop := fun x H Q => ∃ i, x = .int i ∧ Q (.int (-i)) H
theorem oNeg : UnR X (unaryOp .USub) rNeg := fun pins s σ H x v Q I rx ⟨i, a, q⟩ => un_neg pins s σ H x v Q I rx ⟨i, a, q⟩
/-- two ints, two texts compared -/
def rLt : R2 := fun x y H Q => (∃ i j, (x = .int i ∧ y = .int j) ∧ Q (.bl (decide (i < j))) H) ∨ ∃ i j, (x = .str i ∧ y = .str j) ∧ Q (.bl (decide (i.cps.toList < j.cps.toList))) H
def rLe : R2 := fun x y H Q => (∃ i j, (x = .int i ∧ y = .int j) ∧ Q (.bl (decide (i ≤ j))) H) ∨ ∃ i j, (x = .str i ∧ y = .str j) ∧ Q (.bl (!decide (j.cps.toList < i.cps.toList))) H
def rGt : R2 := fun x y H Q => (∃ i j, (x = .int i ∧ y = .int j) ∧ Q (.bl (decide (j < i))) H) ∨ ∃ i j, (x = .str i ∧ y = .str j) ∧ Q (.bl (decide (j.cps.toList < i.cps.toList))) H
def rGe : R2 := fun x y H Q => (∃ i j, (x = .int i ∧ y = .int j) ∧ Q (.bl (decide (j ≤ i))) H) ∨ ∃ i j, (x = .str i ∧ y = .str j) ∧ Q (.bl (!decide (i.cps.toList < j.cps.toList))) H
theorem oLt : OpR X (compareOp .Lt) rLt := fun pins s σ H x y v u Q I rx ry q => by
  rcases q with ⟨i, j, ⟨rfl, rfl⟩, q⟩ | ⟨i, j, ⟨rfl, rfl⟩, q⟩
  · exact op_lt pins s σ H _ _ v u Q I rx ry ⟨i, j, rfl, rfl, q⟩
  · exact op_lt_str pins s σ H _ _ v u Q I rx ry ⟨i, j, rfl, rfl, q⟩
theorem oLe : OpR X (compareOp .LtE) rLe := fun pins s σ H x y v u Q I rx ry q => by
  rcases q with ⟨i, j, ⟨rfl, rfl⟩, q⟩ | ⟨i, j, ⟨rfl, rfl⟩, q⟩
  · exact op_le pins s σ H _ _ v u Q I rx ry ⟨i, j, rfl, rfl, q⟩
  · exact op_le_str pins s σ H _ _ v u Q I rx ry ⟨i, j, rfl, rfl, q⟩
theorem oGt : OpR X (compareOp .Gt) rGt := fun pins s σ H x y v u Q I rx ry q => by
  rcases q with ⟨i, j, ⟨rfl, rfl⟩, q⟩ | ⟨i, j, ⟨rfl, rfl⟩, q⟩
  · exact op_gt pins s σ H _ _ v u Q I rx ry ⟨i, j, rfl, rfl, q⟩
  · exact op_gt_str pins s σ H _ _ v u Q I rx ry ⟨i, j, rfl, rfl, q⟩
theorem oGe : OpR X (compareOp .GtE) rGe := fun pins s σ H x y v u Q I rx ry q => by
  rcases q with ⟨i, j, ⟨rfl, rfl⟩, q⟩ | ⟨i, j, ⟨rfl, rfl⟩, q⟩
  · exact op_ge pins s σ H _ _ v u Q I rx ry ⟨i, j, rfl, rfl, q⟩
  · exact op_ge_str pins s σ H _ _ v u Q I rx ry ⟨i, j, rfl, rfl, q⟩
/-- changes of lists -/
def rAppA : V → List V → Hp → VK → Prop := fun x vs H Q => ∃ l xs y, (x = .ref l ∧ vs = [y] ∧ H l = some (.lst xs) ∧ xs.length < sizeLine) ∧ ∀ H', H' l = some (.lst (xs ++ [y])) → Ex [l] H H' → Q .non H'
theorem mAppend : MtR X "list.append" rAppA := fun pins s σ H x vs v us Q I rx rv ⟨l, xs, y, ⟨a, b, c, d⟩, q⟩ => mt_append pins s σ H x vs v us Q I rx rv ⟨l, xs, y, a, b, c, d, q _ upd_same (Ex.put c rfl (by simp))⟩
def rExtA : V → List V → Hp → VK → Prop := fun x vs H Q => ∃ l b xs zs, (x = .ref l ∧ vs = [.ref b] ∧ H l = some (.lst xs) ∧ H b = some (.lst zs) ∧ xs.length + zs.length ≤ sizeLine) ∧ ∀ H', H' l = some (.lst (xs ++ zs)) → Ex [l] H H' → Q .non H'
theorem mExtend : MtR X "list.extend" rExtA := fun pins s σ H x vs v us Q I rx rv ⟨l, b, xs, zs, ⟨a, b', c, d, e⟩, q⟩ => mt_extend pins s σ H x vs v us Q I rx rv ⟨l, b, xs, zs, a, b', c, d, e, q _ upd_same (Ex.put c rfl (by simp))⟩
def rPopA : V → List V → Hp → VK → Prop := fun x vs H Q => ∃ l ws y, (x = .ref l ∧ vs = [] ∧ H l = some (.lst (ws ++ [y]))) ∧ ∀ H', H' l = some (.lst ws) → Ex [l] H H' → Q y H'
theorem mPop : MtR X "list.pop" rPopA := fun pins s σ H x vs v us Q I rx rv ⟨l, ws, y, ⟨a, b, c⟩, q⟩ => mt_pop pins s σ H x vs v us Q I rx rv ⟨l, ws ++ [y], y, a, b, c, by simp, q _ (by rw [upd_same, List.dropLast_concat]) (Ex.put c rfl (by simp))⟩
def rSetA : TSet := fun o i v H Q => ∃ p xs k j, (o = .ref p ∧ i = .int k ∧ H p = some (.lst xs) ∧ ixN xs.length k = some j) ∧ ∀ H', H' p = some (.lst (xs.set j v)) → Ex [p] H H' → Q H'
theorem setL : PSet X rSetA := fun pins s σ H o i v ov iv u Q I ro ri rv ⟨p, xs, k, j, ⟨a, b, c, d⟩, q⟩ => set_list pins s σ H o i v ov iv u Q I ro ri rv ⟨p, xs, k, j, a, b, c, d, q _ upd_same (Ex.put c rfl (by simp))⟩
def rAugAdd : TIp := fun x y H Q => ∃ i j, (x = .int i ∧ y = .int j) ∧ Q (.int (i + j)) H
def rAugSub : TIp := fun x y H Q => ∃ i j, (x = .int i ∧ y = .int j) ∧ Q (.int (i - j)) H
theorem pAdd : PIp X .Add rAugAdd := fun pins s σ H x y v u Q I rx ry ⟨i, j, ⟨a, b⟩, q⟩ => ip_add pins s σ H x y v u Q I rx ry ⟨i, j, a, b, q⟩
theorem pSub : PIp X .Sub rAugSub := fun pins s σ H x y v u Q I rx ry ⟨i, j, ⟨a, b⟩, q⟩ => ip_sub pins s σ H x y v u Q I rx ry ⟨i, j, a, b, q⟩
def rAbs : List V → Hp → VK → Prop := fun xs H Q => ∃ i, xs = [.int i] ∧ Q (.int (if i < 0 then -i else i)) H
theorem cAbs : CallR X (.builtin "abs") rAbs := call_abs
end
/-- all([lo <= sign <= hi for sign in z]) -/
theorem all_signs {K : PySem.W.Frag} {σ : L2.St} {H : Hp} {Q : VK} {i j : Nat} {z lo hi : Str} {a b : Nat} (hi' : σ[i]? = some (some (.str z))) (hj : j < σ.length) (hlo : lo.cps.toList = [a]) (hhi : hi.cps.toList = [b]) (hz : z.length ≤ 1000000)
    (k : ∀ H', Ex [] H H' → Q (.bl (z.cps.toList.all fun c => decide (a ≤ c) && decide (c ≤ b))) H') :
    tCB (rAll K) (tCons (tLc (iStr (tVar i)) (gName j) tYes (tChain rLe rLe (tC (.str lo)) (tVar j) (tC (.str hi))) [j]) tNil) σ H Q := by
  refine ⟨_, hi', z, rfl, fun D hD => ?_⟩
  refine lc_it walk_str (LcP D [] (fun _ => True) (RepAt K ((z.cps.toList.map fun c => decide (a ≤ c) && decide (c ≤ b)).map Dt.bl)) H) (LcP.start hD trivial (true_loc D)) (fun _ _ _ _ => trivial) ?_ ?_
  · rintro n x H1 H2 hn p ⟨rfl, c, hc, rfl⟩
    have fin : ∀ v, v = (decide (a ≤ c) && decide (c ≤ b)) → ∃ acc, H2 D = some (.lst acc) ∧ acc.length < sizeLine ∧ LcP D [] (fun _ => True) (RepAt K ((z.cps.toList.map fun c => decide (a ≤ c) && decide (c ≤ b)).map Dt.bl)) H (n + 1) (upd H2 D (.lst (acc ++ [V.bl v]))) := fun v hv =>
      p.step hD RepAt.stab (true_loc D) (Ex.refl _ _) trivial trivial ⟨.bl v, by rw [List.getElem?_map, List.getElem?_map, Array.getElem?_toList, hc, hv]; rfl, .bl v⟩ hn (by
        have e : z.length = z.cps.size := rfl
        omega)
    refine ⟨wipe_set1' _ _ _, ?_⟩
    show tChain rLe rLe (tC (.str lo)) (tVar j) (tC (.str hi)) _ _ _
    refine ⟨_, get_set1 _ _ hj, .inr ⟨lo, ⟨#[c]⟩, ⟨rfl, rfl⟩, _, rfl, ?_⟩⟩
    have e1 : (!decide ((⟨#[c]⟩ : Str).cps.toList < lo.cps.toList)) = decide (a ≤ c) := by
      rw [hlo, show (⟨#[c]⟩ : Str).cps.toList = [c] from rfl, le1]
    rw [e1]
    refine ite2 (fun h => ?_) (fun h => ?_)
    · refine .inr ⟨⟨#[c]⟩, hi, ⟨rfl, rfl⟩, fin _ ?_⟩
      rw [h, Bool.true_and, hhi, show (⟨#[c]⟩ : Str).cps.toList = [c] from rfl, le1]
    · refine fin _ ?_
      rw [Bool.eq_false_iff.mpr h, Bool.false_and]
  · intro H1 p
    obtain ⟨ys, h1, h2⟩ := p.done (by rw [List.length_map, List.length_map, Array.length_toList])
    refine ⟨D, _, rfl, SqL.bls h1 h2, ?_⟩
    rw [List.all_map]
    exact k _ p.ex
/-! ### tuple(..), list(..) -/
def rTupOf (K : PySem.W.Frag) : List V → Hp → VK → Prop := fun xs H Q => (∃ p ys, (xs = [.ref p] ∧ SqL K H p ys) ∧ ∀ l H', H l = none → H' l = some (.tup ys) → Ex [] H H' → Q (.ref l) H') ∨ ∃ p ys, (xs = [.ref p] ∧ SqT K H p ys) ∧ Q (.ref p) H
theorem cTuple {X : Cx} {K : PySem.W.Frag} (h : X.K = K) : CallR X (.type "tuple") (rTupOf K) := by
  subst h
  refine callImp call_tuple_of fun xs H Q q => ?_
  rcases q with ⟨p, ys, ⟨a, b⟩, q⟩ | ⟨p, ys, ⟨a, b⟩, q⟩
  · exact ⟨p, ys, a, .inl ⟨b, fun l hl => q l _ hl upd_same (Ex.new hl)⟩⟩
  · exact ⟨p, ys, a, .inr ⟨b, q⟩⟩
def rLstOf (K : PySem.W.Frag) : List V → Hp → VK → Prop := fun xs H Q => (∃ p ys, (xs = [.ref p] ∧ SqL K H p ys) ∧ ∀ l H', H l = none → H' l = some (.lst ys) → Ex [] H H' → Q (.ref l) H') ∨ ∃ p ys, (xs = [.ref p] ∧ SqT K H p ys) ∧ ∀ l H', H l = none → H' l = some (.lst ys) → Ex [] H H' → Q (.ref l) H'
theorem cList {X : Cx} {K : PySem.W.Frag} (h : X.K = K) : CallR X (.type "list") (rLstOf K) := by
  subst h
  refine callImp call_list_of fun xs H Q q => ?_
  rcases q with ⟨p, ys, ⟨a, b⟩, q⟩ | ⟨p, ys, ⟨a, b⟩, q⟩
  · exact ⟨p, ys, a, .inl b, fun l hl => q l _ hl upd_same (Ex.new hl)⟩
  · exact ⟨p, ys, a, .inr b, fun l hl => q l _ hl upd_same (Ex.new hl)⟩
theorem cutV_to (xs : List V) (n : Nat) : cutV xs none (some (n : Int)) = xs.take n := by
  unfold cutV
  rw [HT.sIx_none, HT.sIx_nat, List.drop_zero, Nat.sub_zero]
  by_cases h : n ≤ xs.length
  · rw [Nat.min_eq_left h]
  · rw [Nat.min_eq_right (by omega), List.take_length, List.take_of_length_le (by omega)]
theorem cutV_from (xs : List V) (n : Nat) : cutV xs (some (n : Int)) none = xs.drop n := by
  unfold cutV
  rw [HT.sIx_none, HT.sIx_nat]
  by_cases h : n ≤ xs.length
  · rw [Nat.min_eq_left h, List.take_of_length_le (by rw [List.length_drop]; omega)]
  · rw [Nat.min_eq_right (by omega), List.drop_of_length_le (by omega), List.drop_of_length_le (by omega)]
    simp
theorem RepL.take {K : PySem.W.Frag} {H : Hp} : ∀ {vs : List V} {l : List Dt} (n : Nat), RepL K H vs l → RepL K H (vs.take n) (l.take n)
  | _, _, 0, _ => by rw [List.take_zero, List.take_zero]; exact .nil
  | _, _, n + 1, .nil => .nil
  | _, _, n + 1, .cons h t => .cons h (RepL.take n t)
theorem RepL.drop {K : PySem.W.Frag} {H : Hp} : ∀ {vs : List V} {l : List Dt} (n : Nat), RepL K H vs l → RepL K H (vs.drop n) (l.drop n)
  | _, _, 0, h => h
  | _, _, n + 1, .nil => .nil
  | _, _, n + 1, .cons _ t => RepL.drop n t
theorem repS_len (z : Str) (k : Int) : (repS z k).length = z.length * k.toNat := by
  show (repS z k).cps.size = z.cps.size * k.toNat
  simp only [repS, List.size_toArray, flat_len, Array.length_toList]
  rw [Nat.mul_comm]
theorem RepL.rep {K : PySem.W.Frag} {H : Hp} {vs : List V} {l : List Dt} (h : RepL K H vs l) : ∀ n : Nat, RepL K H (List.replicate n vs).flatten (List.replicate n l).flatten
  | 0 => .nil
  | n + 1 => by
    rw [List.replicate_succ, List.flatten_cons, List.replicate_succ, List.flatten_cons]
    exact h.append (RepL.rep h n)
def rDictOf (K : PySem.W.Frag) : List V → Hp → VK → Prop := fun xs H Q => ∃ (a : Addr) (ps : List Addr) (kvs : List (Key × V)), (xs = [.ref a] ∧ SqL K H a (ps.map V.ref) ∧ Paired (fun p kv => SqT K H p [kV kv.1, kv.2]) ps kvs) ∧
  ∀ p H', H p = none → H' p = some (.dK (mergeK [] kvs)) → Ex [] H H' → Q (.ref p) H'
theorem cDict {X : Cx} {K : PySem.W.Frag} (h : X.K = K) (hc : X.calm = true) : CallR X (.type "dict") (rDictOf K) := by
  subst h
  exact callImp (call_dictP hc) fun xs H Q ⟨a, ps, kvs, ⟨h1, h2, h3⟩, q⟩ => ⟨a, ps, kvs, h1, h2, h3, fun p hp => q p _ hp upd_same (Ex.new hp)⟩
/-- a list of pairs (an int, a thing), as dict(..) takes it -/
theorem pairs_of {K : PySem.W.Frag} {H : Hp} : ∀ {ys : List V} {ds : List Dt}, RepL K H ys ds → (∀ d ∈ ds, ∃ (i : Int) (e : Dt), d = .tup [.int i, e]) → ∃ (ps : List Addr) (kvs : List (Key × V)), ys = ps.map V.ref ∧ Paired (fun p kv => SqT K H p [kV kv.1, kv.2]) ps kvs
  | _, _, .nil, _ => ⟨[], [], rfl, .nil⟩
  | _, _, .cons (v := v) h t, hd => by
    obtain ⟨ps, kvs, e, q⟩ := pairs_of t fun d m => hd d (List.mem_cons_of_mem _ m)
    obtain ⟨i, e1, rfl⟩ := hd _ List.mem_cons_self
    cases h with
    | tup hs hl =>
      rename_i a xs
      cases hl with
      | cons h1 t1 =>
        cases t1 with
        | cons h2 t2 =>
          cases t2
          cases h1
          rename_i v2
          exact ⟨a :: ps, (Sum.inl i, v2) :: kvs, by rw [e]; rfl, .cons hs q⟩
theorem Ex.stepPut {M : List Addr} {H H1 : Hp} {p : Addr} {o o' : HO} (h : H1 p = some o) (k : norm o = norm o') (s : p ∈ M ∨ H p = Option.none) (a : Ex M H H1) : Ex M H (upd H1 p o') :=
  Ex.step (Ex.put (M := [p]) h k List.mem_cons_self) (side1 s) a
theorem Dom.upd {H H1 : Hp} {p : Addr} {o : HO} (a : Dom H H1) : Dom H (upd H1 p o) := fun _ h => a _ (upd_none h).2
theorem kvs_nil : ([] : List (V × V)) = List.map (fun kv => (kV kv.1, kv.2)) ([] : List (Key × V)) := rfl
theorem kvs_ci {i : Int} {v : V} {ps : List (V × V)} {kvs : List (Key × V)} (h : ps = List.map (fun kv => (kV kv.1, kv.2)) kvs) : (V.int i, v) :: ps = List.map (fun kv => (kV kv.1, kv.2)) ((Sum.inl i, v) :: kvs) := by rw [h]; rfl
theorem kvs_cs {z : Str} {v : V} {ps : List (V × V)} {kvs : List (Key × V)} (h : ps = List.map (fun kv => (kV kv.1, kv.2)) kvs) : (V.str z, v) :: ps = List.map (fun kv => (kV kv.1, kv.2)) ((Sum.inr z, v) :: kvs) := by rw [h]; rfl
section
variable {X : Cx}
def tDNewA : TE := fun _ H Q => ∀ p H', H p = none → H' p = some (.dK []) → Ex [] H H' → Q (.ref p) H'
theorem peDict0 {pos : Pos} : PE X (.Dict [] [] pos) tDNewA := peImp pe_dnewK fun _ _ _ q => fun p hp => q p _ hp upd_same (Ex.new hp)
end
theorem strapp_len (x y : Str) : (x ++ y).length = x.length + y.length := by
  show (x.cps ++ y.cps).size = _
  rw [Array.size_append]
  rfl
end G
namespace G
open PySem PySem.Spec PyProof.Rows L2
/-! ### repr, where nothing is being shown already -/
def rRepr (K : PySem.W.Frag) : List V → Hp → VK → Prop := fun xs H Q => (∃ b, (xs = [.bl b]) ∧ Q (.str (if b then "True" else "False")) H) ∨
  ∃ a d, (xs = [.ref a] ∧ Dp K H (.ref a) d ∧ d.showable = true ∧ d.hasDict = false ∧ d.depth ≤ 32 ∧ d.shown.length ≤ sizeLine) ∧ Q (.str d.shown) H
theorem cRepr {X : Cx} {K : PySem.W.Frag} (h : X.K = K) (hg : X.A.guards = some []) (hu : X.A.units + 64 < cLine) : CallR X (.builtin "repr") (rRepr K) := by
  subst h
  intro pins s σ H xs us Q I r h
  rcases h with ⟨b, rfl, q⟩ | ⟨a, d, ⟨rfl, hd, hs, hn, hdp, hz⟩, q⟩
  · obtain ⟨u, rfl, rfl⟩ := vals1 r
    exact PySem.P.repr_of_bool ⟨.str _, H, I.tok _, ⟨_, rfl⟩, q⟩
  · obtain ⟨u, rfl, rv⟩ := vals1 r
    obtain ⟨as, rd⟩ := Dp.reads I d _ _ hd rv
    obtain rfl : u = .ref a := rv
    exact repr_of_reads' rd hs (PyData.noDict_hsm hn) hg (by omega) (fun _ _ e => e) (fun h' u tk hk => ⟨.str _, H, I.kept hk, ⟨_, rfl⟩, q⟩) hz
/-! ### == and != of nested lists and tuples -/
def rEqP (K : PySem.W.Frag) : R2 := fun x y H Q => ∃ d e, (Dp K H x d ∧ Dp K H y e ∧ SeqAt.shaped d = true ∧ SeqAt.shaped e = true) ∧ Q (.bl (PyData.eqv d e)) H
def rNeP (K : PySem.W.Frag) : R2 := fun x y H Q => ∃ d e, (Dp K H x d ∧ Dp K H y e ∧ SeqAt.shaped d = true ∧ SeqAt.shaped e = true) ∧ Q (.bl (!PyData.eqv d e)) H
theorem oEqP {X : Cx} {K : PySem.W.Frag} (h : X.K = K) (hu : X.A.units + 64 < cLine) : OpR X (compareOp .Eq) (rEqP K) := by
  subst h
  exact opImp (op_eqD hu) fun x y H Q ⟨d, e, ⟨a, b, c, z⟩, q⟩ => ⟨d, e, a, b, c, z, q⟩
theorem oNeP {X : Cx} {K : PySem.W.Frag} (h : X.K = K) (hu : X.A.units + 64 < cLine) : OpR X (compareOp .NotEq) (rNeP K) := by
  subst h
  exact opImp (op_neD hu) fun x y H Q ⟨d, e, ⟨a, b, c, z⟩, q⟩ => ⟨d, e, a, b, c, z, q⟩
theorem dpBlsAll {K : PySem.W.Frag} {H : Hp} : ∀ bs : List Bool, DpAll K H (bs.map V.bl) (bs.map PyData.bool)
  | [] => .nil
  | b :: bs => .cons (.bl b) (dpBlsAll bs)
theorem dpBls {K : PySem.W.Frag} {H : Hp} {a : Addr} {bs : List Bool} (h : SqL K H a (bs.map V.bl)) : Dp K H (.ref a) (.list (bs.map PyData.bool)) := .lst h (dpBlsAll bs)
end G
namespace G
open PySem PySem.Spec PyProof.Rows L2
/-! ### defs that may raise -/
structure ClX (P : Program) (w : World) (K : PySem.W.Frag) (mg : Str → Option Value) (base : Heap) (k : Nat) (x : Str) (sp : Sp) : Prop where
  ex : ∃ (f : Addr) (fd : FuncData) (ps : List Str), FnOk P w K mg base (L2.CX P w) k f fd ps sp ∧ mg x = some (.ref f) ∧ PySem.W.keepIn K (.ref f) = true ∧ Binds K fd ps []
/-- a method of the class at C -/
structure Mt (P : Program) (w : World) (K : PySem.W.Frag) (mg : Str → Option Value) (base : Heap) (CX : CXT) (k : Nat) (C : Addr) (m : Str) (sp : Sp) : Prop where
  ex : ∃ (f : Addr) (fd : FuncData) (ps : List Str), Meth K C m f ∧ FnOk P w K mg base CX k f fd ps sp ∧ Binds K fd ps []
/-- the making of an instance of C -/
structure Mkr (P : Program) (w : World) (K : PySem.W.Frag) (mg : Str → Option Value) (base : Heap) (CX : CXT) (k : Nat) (x : Str) (C : Addr) (sp : Sp) : Prop where
  ex : ∃ (f : Addr) (fd : FuncData) (ps : List Str), Mk K C f ∧ FnOk P w K mg base CX k f fd ps sp ∧ Binds K fd ps [] ∧ mg x = some (.ref C)
def tClW (sp : Sp) (W : WX) (t : TA) : TE := fun σ H Q => t σ H fun vs H1 => sp vs H1 Q fun cls d H' => W cls d σ H'
def tMtW (C : Addr) (m : Str) (sp : Sp) (W : WX) (ta : TE) (t : TA) : TE := fun σ H Q => ta σ H fun x H1 => ∃ a dx fs, (x = .ref a ∧ H1 a = some (.ins C dx fs) ∧ fs.lookup m = none) ∧ t σ H1 fun vs H2 => sp (x :: vs) H2 Q fun cls d H' => W cls d σ H'
def tMt (C : Addr) (m : Str) (sp : Sp) (ta : TE) (t : TA) : TE := fun σ H Q => ta σ H fun x H1 => ∃ a dx fs, (x = .ref a ∧ H1 a = some (.ins C dx fs) ∧ fs.lookup m = none) ∧ t σ H1 fun vs H2 => sp (x :: vs) H2 Q E0
def tMkr (C : Addr) (sp : Sp) (t : TA) : TE := fun σ H Q => t σ H fun vs H1 => ∀ x dx H2, H1 x = none → H2 x = some (.ins C dx []) → Ex [] H1 H2 → sp (.ref x :: vs) H2 (fun v H3 => v = .non ∧ Q (.ref x) H3) E0
theorem Ex.made {H : Hp} {x dx C : Addr} (nx : H x = Option.none) (nd : H dx = Option.none) : Ex [] H (upd (upd H dx (.own x)) x (.ins C dx [])) := by
  have e1 : Ex [] H (upd H dx (.own x)) := Ex.new nd
  exact e1.put_new nx
section
variable {X : Cx} {k j : Nat} {x m : Str} {sp : Sp} {C : Addr} {p pos apos : Pos} {e o : Expr} {es : List Expr} {t : TA} {ta : TE} {W : WX}
theorem pe_clX (c : ClX X.prog X.w X.K X.mg X.base k x sp) (tk : Takes X W) (hr : Room j X.A) (hk : k ≤ j) (hg : Gl X x) (ha : PA X (e :: es) t)
    (hdb : (x == ("__debug__" : Str)) = false := by decide) (he : starEach (e :: es) X.env = (false, eval e X.env) :: starEach es X.env := by rfl) (hpl : (backTo pos (starEach es X.env)).any (·.1) = false := by rfl) :
    PE X (.Call (.Name x p) (e :: es) [] pos) (tClW sp W t) := by
  obtain ⟨f, fd, ps, F, m, kp, b⟩ := c.ex
  exact pe_callS F (hr.mono hk) hg m kp b (fun σ => passAt tk σ) ha hdb he hpl
theorem pe_clX0 (c : ClX X.prog X.w X.K X.mg X.base k x sp) (tk : Takes X W) (hr : Room j X.A) (hk : k ≤ j) (hg : Gl X x) (hdb : (x == ("__debug__" : Str)) = false := by decide) :
    PE X (.Call (.Name x p) [] [] pos) (tClW sp W tNil) := by
  obtain ⟨f, fd, ps, F, m, kp, b⟩ := c.ex
  refine ⟨fun pins s σ H Q I h => ?_⟩
  refine wpAny_Call_Name_kw (ld_glob I hg m ?_ hdb)
  exact PySem.W.callWith_K0 I.kIn kp (run_fnS (us := []) (vs := []) F (hr.mono hk) b (passAt tk σ) I .nil h)
theorem pe_mtX {pl : Sem Bool} (c : Mt X.prog X.w X.K X.mg X.base (L2.CX X.prog X.w) k C m sp) (cl : Cls X.K C) (tk : Takes X W) (he : PE X o ta) (hr : Room j X.A) (hk : k ≤ j) (ha : PA X (e :: es) t)
    (hst : starEach (e :: es) X.env = (false, eval e X.env) :: starEach es X.env := by rfl) (hpl : (backTo pos (starEach es X.env)).any (·.1) = false := by rfl)
    (ht : eval (.Call (.Attribute o m apos) (e :: es) [] pos) X.env = (do
      let ov ← eval o X.env
      standAt apos.atName
      let (f, first) ← holding [ov] (getMethod ov m pl)
      callWith pos f first (backTo pos (starEach (e :: es) X.env)) (backToKw pos (keywordEach [] X.env))) := by rfl) :
    PE X (.Call (.Attribute o m apos) (e :: es) [] pos) (tMtW C m sp W ta t) := by
  obtain ⟨f, fd, ps, hm, F, b⟩ := c.ex
  refine ⟨fun pins s σ H Q I h => ?_⟩
  refine PySem.W.methodCall_KW (pl := pl) (thn (he.run pins s σ H _ I h) fun u s1 ⟨x, H1, I1, rx, a, dx, fs, ⟨ex, ea, l⟩, q⟩ => ?_) ht
  subst ex
  obtain rfl : u = Value.ref a := rx
  refine getmeth_ok I1 ea cl hm l ?_
  refine PySem.W.callWith_K (first := [.ref a]) (h₀ := X.base) I.ok.mod.kin hm.kp (thn (ha.run pos pins s1 σ H1 _ I1 q) fun us s2 ⟨vs, H2, I2, r, q2⟩ => ⟨I2.kIn, ?_⟩) hst hpl
  exact run_fnS (us := .ref a :: us) (vs := .ref a :: vs) F (hr.mono hk) b (passAt tk σ) I2 (.cons rfl r) q2
theorem pe_mtX0 {pl : Sem Bool} (c : Mt X.prog X.w X.K X.mg X.base (L2.CX X.prog X.w) k C m sp) (cl : Cls X.K C) (tk : Takes X W) (he : PE X o ta) (hr : Room j X.A) (hk : k ≤ j)
    (ht : eval (.Call (.Attribute o m apos) [] [] pos) X.env = (do
      let ov ← eval o X.env
      standAt apos.atName
      let (f, first) ← holding [ov] (getMethod ov m pl)
      callWith pos f first (backTo pos (starEach [] X.env)) (backToKw pos (keywordEach [] X.env))) := by rfl) :
    PE X (.Call (.Attribute o m apos) [] [] pos) (tMtW C m sp W ta tNil) := by
  obtain ⟨f, fd, ps, hm, F, b⟩ := c.ex
  refine ⟨fun pins s σ H Q I h => ?_⟩
  refine PySem.W.methodCall_KW (pl := pl) (thn (he.run pins s σ H _ I h) fun u s1 ⟨x, H1, I1, rx, a, dx, fs, ⟨ex, ea, l⟩, q⟩ => ?_) ht
  subst ex
  obtain rfl : u = Value.ref a := rx
  refine getmeth_ok I1 ea cl hm l ?_
  exact PySem.W.callWith_K0 (first := [.ref a]) I1.kIn hm.kp (run_fnS (us := [.ref a]) (vs := [.ref a]) F (hr.mono hk) b (passAt tk σ) I1 (.cons rfl .nil) q)
theorem pe_mt {pl : Sem Bool} (c : Mt X.prog X.w X.K X.mg X.base CX0 k C m sp) (cl : Cls X.K C) (he : PE X o ta) (hr : Room j X.A) (hk : k ≤ j) (ha : PA X (e :: es) t)
    (hst : starEach (e :: es) X.env = (false, eval e X.env) :: starEach es X.env := by rfl) (hpl : (backTo pos (starEach es X.env)).any (·.1) = false := by rfl)
    (ht : eval (.Call (.Attribute o m apos) (e :: es) [] pos) X.env = (do
      let ov ← eval o X.env
      standAt apos.atName
      let (f, first) ← holding [ov] (getMethod ov m pl)
      callWith pos f first (backTo pos (starEach (e :: es) X.env)) (backToKw pos (keywordEach [] X.env))) := by rfl) :
    PE X (.Call (.Attribute o m apos) (e :: es) [] pos) (tMt C m sp ta t) := by
  obtain ⟨f, fd, ps, hm, F, b⟩ := c.ex
  refine peImp (pe_meth he cl hm F (hr.mono hk) b .nil pass0 ha hst hpl ht) fun σ H Q q => ?_
  show ta σ H _
  have : (fun x H1 => ∃ a dx fs, (x = V.ref a ∧ H1 a = some (HO.ins C dx fs) ∧ fs.lookup m = none) ∧ t σ H1 fun vs H2 => sp (x :: vs) H2 Q E0) = fun x H1 => ∃ a dx fs, x = V.ref a ∧ H1 a = some (HO.ins C dx fs) ∧ fs.lookup m = none ∧ t σ H1 fun vs H2 => sp (x :: (vs ++ [])) H2 Q E0 := by
    funext x H1
    simp only [List.append_nil, and_assoc]
  rw [← this]
  exact q
theorem pe_mt0 {pl : Sem Bool} (c : Mt X.prog X.w X.K X.mg X.base CX0 k C m sp) (cl : Cls X.K C) (he : PE X o ta) (hr : Room j X.A) (hk : k ≤ j)
    (ht : eval (.Call (.Attribute o m apos) [] [] pos) X.env = (do
      let ov ← eval o X.env
      standAt apos.atName
      let (f, first) ← holding [ov] (getMethod ov m pl)
      callWith pos f first (backTo pos (starEach [] X.env)) (backToKw pos (keywordEach [] X.env))) := by rfl) :
    PE X (.Call (.Attribute o m apos) [] [] pos) (tMt C m sp ta tNil) := by
  obtain ⟨f, fd, ps, hm, F, b⟩ := c.ex
  refine peImp (pe_meth0 he cl hm F (hr.mono hk) b .nil pass0 ht) fun σ H Q q => ?_
  show ta σ H _
  have : (fun x H1 => ∃ a dx fs, (x = V.ref a ∧ H1 a = some (HO.ins C dx fs) ∧ fs.lookup m = none) ∧ tNil σ H1 fun vs H2 => sp (x :: vs) H2 Q E0) = fun x H1 => ∃ a dx fs, x = V.ref a ∧ H1 a = some (HO.ins C dx fs) ∧ fs.lookup m = none ∧ tNil σ H1 fun vs H2 => sp (x :: (vs ++ [])) H2 Q E0 := by
    funext x H1
    simp only [List.append_nil, and_assoc]
  rw [← this]
  exact q
theorem pe_mkr (c : Mkr X.prog X.w X.K X.mg X.base CX0 k x C sp) (hr : Room j X.A) (hk : k + 1 ≤ j) (hg : Gl X x) (ha : PA X (e :: es) t)
    (hdb : (x == ("__debug__" : Str)) = false := by decide) (he : starEach (e :: es) X.env = (false, eval e X.env) :: starEach es X.env := by rfl) (hpl : (backTo pos (starEach es X.env)).any (·.1) = false := by rfl) :
    PE X (.Call (.Name x p) (e :: es) [] pos) (tMkr C sp t) := by
  obtain ⟨f, fd, ps, M, F, b, gC⟩ := c.ex
  refine ⟨fun pins s σ H Q I h => ?_⟩
  refine wpAny_Call_Name_kw (ld_glob I hg gC ?_ hdb)
  refine PySem.W.callWith_K (h₀ := X.base) I.ok.mod.kin M.kp (thn (ha.run pos pins s σ H _ I h) fun us s1 ⟨vs, H1, I1, r, q⟩ => ⟨I1.kIn, ?_⟩) he hpl
  exact run_make (dvs := []) M F (hr.mono hk) b .nil pass0 I1 r fun x dx nx nd _ => by rw [List.append_nil]; exact q x dx _ nx upd_same (Ex.made nx nd)
theorem pe_mkr0 (c : Mkr X.prog X.w X.K X.mg X.base CX0 k x C sp) (hr : Room j X.A) (hk : k + 1 ≤ j) (hg : Gl X x) (hdb : (x == ("__debug__" : Str)) = false := by decide) :
    PE X (.Call (.Name x p) [] [] pos) (tMkr C sp tNil) := by
  obtain ⟨f, fd, ps, M, F, b, gC⟩ := c.ex
  refine peImp (pe_make0 M F (hr.mono hk) hg gC b .nil pass0 hdb) fun σ H Q q => ?_
  show ∀ x dx, H x = none → H dx = none → dx ≠ x → sp (.ref x :: ([] ++ [])) _ _ E0
  intro x dx nx nd _
  exact q x dx _ nx upd_same (Ex.made nx nd)
end
/-! ### fields -/
theorem lk_hd {f : Str} {v : V} {r : List (Str × V)} : List.lookup f ((f, v) :: r) = some v := by simp
theorem lk_tl {f g : Str} {u : V} {v : Option V} {r : List (Str × V)} (n : (f == g) = false) (h : List.lookup f r = v) : List.lookup f ((g, u) :: r) = v := by rw [List.lookup_cons, n]; exact h
theorem lk_nil {f : Str} : List.lookup f ([] : List (Str × V)) = none := rfl
theorem pf_nil {f : Str} {v : V} : putF f v [] = [(f, v)] := rfl
theorem pf_hd {f : Str} {v u : V} {r : List (Str × V)} : putF f v ((f, u) :: r) = (f, v) :: r := by simp [putF]
theorem pf_tl {f g : Str} {v u : V} {r q : List (Str × V)} (n : (g == f) = false) (h : putF f v r = q) : putF f v ((g, u) :: r) = (g, u) :: q := by
  have n' : g ≠ f := fun z => by rw [z] at n; simp at n
  rw [putF, if_neg n', h]
def tFldA (C : Addr) (ta : TE) (f : Str) : TE := fun σ H Q => ta σ H fun x H1 => ∃ a dx fs v, (x = .ref a ∧ H1 a = some (.ins C dx fs) ∧ fs.lookup f = some v) ∧ Q v H1
def sFldA (C : Addr) (ta tv : TE) (f : Str) : TS := fun D σ H => tv σ H fun y H1 => ta σ H1 fun x H2 => ∃ a dx fs fs', (x = .ref a ∧ H2 a = some (.ins C dx fs) ∧ putF f y fs = fs' ∧ fs.length ≤ 900) ∧
  ∀ H3, H3 a = some (.ins C dx fs') → Ex [a] H2 H3 → D.nx σ H3
def sFldAugA (C : Addr) (ta tv : TE) (rd : V → V → Hp → VK → Prop) (f : Str) : TS := fun D σ H => ta σ H fun x H1 => ∃ a dx fs v, (x = .ref a ∧ H1 a = some (.ins C dx fs) ∧ fs.lookup f = some v) ∧
  tv σ H1 fun y H2 => rd v y H2 fun z H3 => ∃ dx' fs' fs'', (H3 a = some (.ins C dx' fs') ∧ putF f z fs' = fs'' ∧ fs'.length ≤ 900) ∧ ∀ H4, H4 a = some (.ins C dx' fs'') → Ex [a] H3 H4 → D.nx σ H4
section
variable {X : Cx} {o e value : Expr} {f : Str} {pos pos' tpos : Pos} {ta tv : TE} {C : Addr}
theorem Ex.ins {H : Hp} {a C dx : Addr} {fs fs' : List (Str × V)} (h : H a = some (.ins C dx fs)) : Ex [a] H (upd H a (.ins C dx fs')) := Ex.put h rfl (by simp)
theorem pe_fldA (c : Cls X.K C) (n : NoAttr X.K C f) (he : PE X e ta) (hb : attributeBase e f X.env (eval e X.env) = eval e X.env) : PE X (.Attribute e f pos) (tFldA C ta f) := by
  refine ⟨fun pins s σ H Q I h => ?_⟩
  refine attr_of hb (thn (he.run pins s σ H _ I h) fun u s1 ⟨x, H1, I1, rx, a, dx, fs, v, ⟨ex, ea, l⟩, q⟩ => ?_)
  subst ex
  obtain rfl : u = Value.ref a := rx
  exact getattr_ok I1 ea c n l fun u' s2 I2 ru => ⟨v, H1, I2, ru, q⟩
theorem ps_fldA (c : Cls X.K C) (n : NoAttr X.K C f) (ha : PE X o ta) (hv : PE X value tv) (hs : swapsWith value (some (.Attribute o f pos')) pos.line X.env = pure false) : PS X (.Assign [.Attribute o f pos'] value pos) (sFldA C ta tv f) := by
  refine ⟨fun pins s σ H D I h => ?_⟩
  refine plainObj_wpAny_Assign_Attribute (thn (hv.run pins s σ H _ I h) fun u s1 ⟨y, H1, I1, ry, q⟩ => thn (ha.run pins s1 σ H1 _ I1 q) fun ov s2 ⟨x, H2, I2, rx, a, dx, fs, fs', ⟨ex, ea, ef, l⟩, q2⟩ => ?_) hs
  subst ex ef
  obtain rfl : ov = Value.ref a := rx
  exact setattr_ok I2 ea c n (by omega) ry fun s3 I3 => ⟨σ, _, I3, q2 _ upd_same (Ex.ins ea)⟩
theorem ps_fldaugA {op : Operator} {rd : V → V → Hp → VK → Prop} (c : Cls X.K C) (n : NoAttr X.K C f) (ha : PE X o ta) (hv : PE X value tv) (hop : InOp X op rd) : PS X (.AugAssign (.Attribute o f tpos) op value pos) (sFldAugA C ta tv rd f) := by
  refine ⟨fun pins s σ H D I h => ?_⟩
  refine wpAny_AugAssign_AttributeAny (thn (ha.run pins s σ H _ I h) fun ov s1 ⟨x, H1, I1, rx, a, dx, fs, v, ⟨ex, ea, l⟩, q⟩ => ?_)
  subst ex
  obtain rfl : ov = Value.ref a := rx
  refine getattr_ok I1 ea c n l fun u s2 I2 ru => thn (hv.run pins s2 σ H1 _ I2 q) fun w3 s3 ⟨y, H2, I3, ry, q3⟩ => thn (hop pins s3 σ H2 v y u w3 _ I3 ru ry q3) fun w4 s4 ⟨z, H3, I4, rz, dx', fs', fs'', ⟨ea', ef, l'⟩, q4⟩ => ?_
  subst ef
  exact setattr_ok I4 ea' c n (by omega) rz fun s5 I5 => ⟨σ, _, I5, q4 _ upd_same (Ex.ins ea')⟩
def iAdd : V → V → Hp → VK → Prop := fun x y H Q => (∃ i j, (x = .int i ∧ y = .int j) ∧ Q (.int (i + j)) H) ∨ ∃ i j, (x = .str i ∧ y = .str j ∧ i.length + j.length ≤ sizeLine) ∧ Q (.str (i ++ j)) H
theorem inAdd : InOp X .Add iAdd := fun pins s σ H x y u v Q I rx ry q => by
  rcases q with ⟨i, j, ⟨rfl, rfl⟩, q⟩ | ⟨i, j, ⟨rfl, rfl, hl⟩, q⟩
  · exact in_add pins s σ H _ _ u v Q I rx ry ⟨i, j, rfl, rfl, q⟩
  · exact in_addS pins s σ H _ _ u v Q I rx ry ⟨i, j, rfl, rfl, hl, q⟩
def iSub : V → V → Hp → VK → Prop := fun x y H Q => ∃ i j, (x = .int i ∧ y = .int j) ∧ Q (.int (i - j)) H
theorem inSub : InOp X .Sub iSub := fun pins s σ H x y u v Q I rx ry ⟨i, j, ⟨a, b⟩, q⟩ => in_sub pins s σ H x y u v Q I rx ry ⟨i, j, a, b, q⟩
end
/-! ### xs[i] op= e -/
def rGetL (K : PySem.W.Frag) : V → V → Hp → VK → Prop := fun x y H Q => ∃ p xs i v, (x = .ref p ∧ y = .int i ∧ SqL K H p xs ∧ 0 ≤ i ∧ atI xs i = some v) ∧ Q v H
theorem getL {X : Cx} {K : PySem.W.Frag} (h : X.K = K) : PGet X (rGetL K) := by
  subst h
  intro pins s σ H x y v u Q I rx ry h
  obtain ⟨p, xs, i, z, ⟨rfl, rfl, hq, h0, he⟩, q⟩ := h
  cases rx
  obtain ⟨t, rfl⟩ := ry
  obtain ⟨its, r, pl, hz⟩ := I.list hq
  obtain ⟨j, h1, h2, h3, h4, h5⟩ := atI_get he
  obtain ⟨w, ew, rw'⟩ := r.get h2
  have hl := r.length
  have hn := line63
  have fin : EP X pins σ Q w s := ⟨z, H, I, rw', q⟩
  have hj : i.toNat = j := by
    rw [seqIndex_of h0 h5] at h1
    exact Option.some.inj h1
  exact wpAny_getItem_list pl.isList h0 (by omega) (by rw [hj]; simpa using ew) fin
/-! ### exceptions of one's own -/
def excBm : List Value := [.type "ValueError", .type "Exception", .type "BaseException", .type "object"]
structure ExcF (K : PySem.W.Frag) (mg : Str → Option Value) (x : Str) (C : Addr) : Prop where
  g : mg x = some (.ref C)
  q : PySem.W.excIn K C excBm "ValueError.__new__" = true
  k : PySem.W.keepIn K (.ref C) = true
  b : PySem.W.subIn K (.ref C) (.type "BaseException") = some true
  t : PySem.W.typeIn K (.ref C) = some (.type "type")
theorem ExcF.names {X : Cx} {x : Str} {C : Addr} (F : ExcF X.K X.mg x C) (hg : Gl X x) (hdb : (x == ("__debug__" : Str)) = false := by decide) : Names X x (.ref C) := ⟨hg, hdb, .inl F.g⟩
/-- X() -/
theorem pmk0 {X : Cx} {x : Str} {C : Addr} {p pos : Pos} (E : ExcF X.K X.mg x C) (hg : Gl X x) (hdb : (x == ("__debug__" : Str)) = false := by decide) : PMk X (.Call (.Name x p) [] [] pos) (fun _ H Q => Q (.ref C) none H) := by
  intro pins s σ H Q I h
  refine wpAny_Call_Name_kw (ld_glob I hg E.g ?_ hdb)
  refine PySem.W.callWith_K0 I.kIn E.k ?_
  show wpAny _ _ (call (.ref C) []) _ _ _
  obtain ⟨bm, N, nm, qn, bs, hdct, sn, sub, ab, col, dd, k0, k1, k2, k3, k5, mN, hC, hN, hni, T⟩ := exc_obj I.kIn E.q
  refine wpAny_call_exc_subT PySem.F.excBase_ValueError T hC hN hni (fun h' e hm => ?_) (Nat.zero_le _)
  exact mk_of I hm (raises_own E.b E.t) h (I.hok.gone hm.new)
end G
namespace G
open PySem PySem.Spec PyProof.Rows L2 LamX
/-! ### dicts with texts as keys -/
theorem vs_hd {k : Key} {v : V} {r : List (Key × V)} : valV ((k, v) :: r) k = some v := valV_pos rfl
theorem vs_tl {k g : Key} {u : V} {v : Option V} {r : List (Key × V)} (n : decide (g = k) = false) (h : valV r k = v) : valV ((g, u) :: r) k = v := by rw [valV_neg (of_decide_eq_false n), h]
def NoKey (k : Key) (r : List (Key × V)) : Prop := ∀ p ∈ r, p.1 ≠ k
theorem nk_nil {k : Key} : NoKey k [] := fun _ h => nomatch h
theorem nk_tl {k g : Key} {u : V} {r : List (Key × V)} (n : decide (g = k) = false) (h : NoKey k r) : NoKey k ((g, u) :: r) := fun p hp => (List.mem_cons.mp hp).elim (fun e => by rw [e]; exact of_decide_eq_false n) (h p)
def HasKey (k : Key) (r : List (Key × V)) : Prop := (r.any fun kv => decide (kv.1 = k)) = true
theorem hk_hd {k : Key} {u : V} {r : List (Key × V)} : HasKey k ((k, u) :: r) := by simp [HasKey]
theorem hk_tl {k g : Key} {u : V} {r : List (Key × V)} (h : HasKey k r) : HasKey k ((g, u) :: r) := by unfold HasKey at *; rw [List.any_cons, h, Bool.or_true]
theorem map_nokey {k : Key} {v : V} : ∀ {r : List (Key × V)}, NoKey k r → r.map (fun kv => if kv.1 = k then (kv.1, v) else kv) = r
  | [], _ => rfl
  | p :: r, h => by
    rw [List.map_cons, if_neg (h p List.mem_cons_self), map_nokey fun q hq => h q (List.mem_cons_of_mem _ hq)]
theorem pk_nil' {k : Key} {v : V} : putK ([] : List (Key × V)) k v = [(k, v)] := rfl
theorem pk_hd {k : Key} {v u : V} {r : List (Key × V)} (n : NoKey k r) : putK ((k, u) :: r) k v = (k, v) :: r := by
  unfold putK
  rw [if_pos (by simp), List.map_cons, if_pos rfl, map_nokey n]
theorem pk_tl {k g : Key} {v u : V} {r q : List (Key × V)} (n : decide (g = k) = false) (h : putK r k v = q) : putK ((g, u) :: r) k v = (g, u) :: q := by
  have n' := of_decide_eq_false n
  subst h
  unfold putK
  rw [List.any_cons, n, Bool.false_or]
  by_cases c : (r.any fun kv => decide (kv.1 = k)) = true
  · rw [if_pos c, if_pos c, List.map_cons, if_neg n']
  · rw [if_neg c, if_neg c]
    rfl
def tDGA (td ty : TE) : TE := fun σ H Q => td σ H fun x H1 => ty σ H1 fun y H2 => ∃ a kvs z v, (x = .ref a ∧ H2 a = some (.dK kvs) ∧ y = .str z ∧ valV kvs (Sum.inr z) = some v) ∧ Q v H2
theorem pe_dgA {X : Cx} {o i : Expr} {pos : Pos} {td ty : TE} (hu : X.A.units + 1 < cLine) (ho : PE X o td) (hi : PE X i ty) (hs : NoSl i) : PE X (.Subscript o i pos) (tDGA td ty) := by
  refine ⟨fun pins s σ H Q I h => subD_of PySem.F.slot_dict_getitem.lookup hs (thn (ho.run pins s σ H _ I h) fun u s1 ⟨x, H1, I1, rx, q1⟩ => thn (hi.run pins s1 σ H1 _ I1 q1) fun iv s2 ⟨y, H2, I2, ry, a, kvs, z, v, ⟨ex, hd, ey, hv⟩, q2⟩ => ?_)⟩
  subst ex ey
  cases (show u = Value.ref a from rx)
  have g : DGet H2 a (.str z) (some v) := .inl ⟨kvs, Sum.inr z, .inl hd, rfl, hv.symm⟩
  exact ⟨dict_typeIs I2 g, d_getItem hu I2 g ry fun w' s3 I3 rw' => ⟨v, H2, I3, rw', q2⟩⟩
def rSetS : TSet := fun o i v H Q => ∃ a kvs z kvs', (o = .ref a ∧ i = .str z ∧ H a = some (.dK kvs) ∧ putK kvs (Sum.inr z) v = kvs' ∧ kvs.length ≤ 900) ∧ ∀ H', H' a = some (.dK kvs') → Ex [a] H H' → Q H'
theorem setS {X : Cx} (hu : X.A.units + 1 < cLine) : PSet X rSetS := by
  intro pins s σ H o i v ov iv u Q I ro ri rv q0
  obtain ⟨a, kvs, z, kvs', ⟨rfl, rfl, h, e, hl⟩, q⟩ := q0
  have hz : (900 : Nat) < sizeLine := by decide
  refine set_dict hu pins s σ H _ _ v ov iv u Q I ro ri rv ⟨a, _, rfl, DPut.k (k := Sum.inr z) h (by omega), ?_⟩
  rw [e]
  exact q _ upd_same (Ex.put h rfl (by simp))
/-! ### a lambda handed to a def -/
theorem takes_len {X : Cx} {W : WX} (t : Takes X W) : Takes X (fun cls d σ H => σ.length = X.N.length → W cls d σ H) := fun u s' ⟨a, B, sI, pins, σ, H, cls, d, e, I, nb, up, sky, na, os, ag, w⟩ =>
  t u s' ⟨a, B, sI, pins, σ, H, cls, d, e, I, nb, up, sky, na, os, ag, w I.len⟩
/-- f(lambda: body), f a def of one parameter -/
theorem pe_lamF {X : Cx} {T : List (Addr × Str)} {TT : (XK → Hp → VK → Prop) → Hp → VK → Prop} {x a : Str} {g c P : Addr} {k j : Nat} {st : Stmt} {fd : FuncData} {Ng : List Str} {params : Arguments} {body : Expr} {scope : Scope} {t : XK → TE} {p lpos pos : Pos}
    (F : Fun X.K x x st g fd) (hm : X.mg x = some (.ref g)) (b : Binds X.K fd [a] []) (Sg : FnScope Ng [a] (defScope st)) (hg : Gl X x) (hNg : Ng[0]? = some a) (hva : Vis (defScope st) a)
    (hG : ∀ cdv, GivesTo X Ng x (defScope st) g cdv (defBody st) a (X.env.qual ++ "<lambda>") TT)
    (TB : TabB X.base X.mg c P) (hcode : X.env.code = .ref c) (hmT : (P, X.env.qual ++ "<lambda>") ∈ T) (hu : ∀ p ∈ T, p.1 = P → p.2 = X.env.qual ++ "<lambda>") (hr : Room j X.A) (hk : k + 2 ≤ j) (L : LamS X.env.scope scope) (hdef : defaultsOf params X.env = ([], []))
    (hbind : ∀ (q : Str) (cl : List (Str × Addr)) (pm cv ctv : Value), bindArgs (PySem.W.kla_fn "<lambda>" q params body scope cl pm cv ctv) ⟨[], []⟩ = pure [])
    (hbody : ∀ (A : Around) (outer : List Env) (s : Shared) (H : Hp) (E : XK) (f c' : Addr), Room k (A.deeper (lamEnv X scope s.heap.objs.size f c')) → PE (lamCx X A outer s H E scope f c') body (t E))
    (hdb : (x == ("__debug__" : Str)) = false := by decide) (hd : (a == ("__debug__" : Str)) = false := by decide) (hcd : (a == ("__classdict__" : Str)) = false := by decide) :
    PE X (.Call (.Name x p) [.Lambda params body scope lpos] [] pos) (tLam T TT t) := by
  obtain ⟨oc, od, kV, doc, pm, an, cdv, ct, osl, rfl, lk, hcd'⟩ := F.ex
  exact pe_lamcall hg hm F.kp lk hcd' b Sg hNg hva (hG cdv) TB hcode hmT hu (hr.mono hk) L hdef hbind hbody hdb hd hcd
/-- as Fun, its code object told -/
structure FunC (K : PySem.W.Frag) (x qual : Str) (st : Stmt) (f : Addr) (fd : FuncData) (c : Addr) : Prop where
  ex : ∃ (oc : Value) (od : Option Addr) (kV doc pm : Value) (an : Option Addr) (ct : Value) (osl : Array (Option Value)),
    fd = PySem.W.fnOf x qual (defArgs st) (defBody st) (defScope st) .none kV doc pm an (.ref c) ct ∧ K.lookup f = some ⟨oc, od, .func fd, osl⟩ ∧ PySem.W.codeIn K (.ref c) qual = true
theorem FunC.ok {P : Program} {w : World} {K : PySem.W.Frag} {mg : Str → Option Value} {base : Heap} {x qual : Str} {st : Stmt} {f c : Addr} {fd : FuncData} {N ps : List Str} {k : Nat} {sp : Sp} (F : FunC K x qual st f fd c) (S : FnScope N ps (defScope st))
    (len : ∀ vs H Q E, sp vs H Q E → vs.length = ps.length)
    (hb : ∀ (A : Around) (outer : List Env) (s : Shared) (H : Hp) (vs : List V) (Q : VK) (E : XK), Room k (A.deeper (envOfC qual (defScope st) s.heap.objs.size f (.ref c))) → sp vs H Q E →
      ∃ t, PSs (cxOf CX0 P w K mg base N qual (defScope st) f (.ref c) A outer s H E).nox (defBody st) t ∧ t { nx := fun _ H' => Q .non H', rt := Q } (start N vs) H) : FnOk P w K mg base CX0 (k + 1) f fd ps sp := by
  obtain ⟨oc, od, kV, doc, pm, an, ct, osl, rfl, lk, hcd⟩ := F.ex
  refine fn_of lk hcd S len fun A outer s H vs Q E hr h => ?_
  obtain ⟨t, h, q⟩ := hb A outer s H vs Q E hr h
  exact ⟨t, h.nox, q⟩
end G
namespace G
open PySem L2
open PySem L2 LamX
def top (i : Nat) : Stmt := PySem.Challenge.pw_keptviews_k36_whole_disks_by_an_own_acco.main.body.getD i (.Pass ⟨0, 0, 0, 0⟩)
abbrev s_is_integer : Stmt := top 6
abbrev n_is_integer : List Str := ["thing"]
theorem sc_is_integer : FnScope n_is_integer ["thing"] (defScope s_is_integer) := ⟨rfl, rfl, rfl, by decide +kernel, rfl, by decide +kernel, by decide +kernel⟩
abbrev s_is_within : Stmt := top 7
abbrev n_is_within : List Str := ["thing", "least", "most"]
theorem sc_is_within : FnScope n_is_within ["thing", "least", "most"] (defScope s_is_within) := ⟨rfl, rfl, rfl, by decide +kernel, rfl, by decide +kernel, by decide +kernel⟩
abbrev s_check_number : Stmt := top 10
abbrev n_check_number : List Str := ["thing", "most"]
theorem sc_check_number : FnScope n_check_number ["thing", "most"] (defScope s_check_number) := ⟨rfl, rfl, rfl, by decide +kernel, rfl, by decide +kernel, by decide +kernel⟩
abbrev s_Disk___init__ : Stmt := inClass (top 11) 0
abbrev n_Disk___init__ : List Str := ["self"]
theorem sc_Disk___init__ : FnScope n_Disk___init__ ["self"] (defScope s_Disk___init__) := ⟨rfl, rfl, rfl, by decide +kernel, rfl, by decide +kernel, by decide +kernel⟩
abbrev s_Disk_append : Stmt := inClass (top 11) 1
abbrev n_Disk_append : List Str := ["self", "text", "many"]
theorem sc_Disk_append : FnScope n_Disk_append ["self", "text"] (defScope s_Disk_append) := ⟨rfl, rfl, rfl, by decide +kernel, rfl, by decide +kernel, by decide +kernel⟩
abbrev s_Disk_sync : Stmt := inClass (top 11) 2
abbrev n_Disk_sync : List Str := ["self"]
theorem sc_Disk_sync : FnScope n_Disk_sync ["self"] (defScope s_Disk_sync) := ⟨rfl, rfl, rfl, by decide +kernel, rfl, by decide +kernel, by decide +kernel⟩
abbrev s_Disk_cut : Stmt := inClass (top 11) 3
abbrev n_Disk_cut : List Str := ["self", "kept"]
theorem sc_Disk_cut : FnScope n_Disk_cut ["self", "kept"] (defScope s_Disk_cut) := ⟨rfl, rfl, rfl, by decide +kernel, rfl, by decide +kernel, by decide +kernel⟩
abbrev s_Disk_power : Stmt := inClass (top 11) 4
abbrev n_Disk_power : List Str := ["self", "many"]
theorem sc_Disk_power : FnScope n_Disk_power ["self", "many"] (defScope s_Disk_power) := ⟨rfl, rfl, rfl, by decide +kernel, rfl, by decide +kernel, by decide +kernel⟩
abbrev s_Disk_trim : Stmt := inClass (top 11) 5
abbrev n_Disk_trim : List Str := ["self", "many"]
theorem sc_Disk_trim : FnScope n_Disk_trim ["self", "many"] (defScope s_Disk_trim) := ⟨rfl, rfl, rfl, by decide +kernel, rfl, by decide +kernel, by decide +kernel⟩
abbrev s_Disk_lying : Stmt := inClass (top 11) 6
abbrev n_Disk_lying : List Str := ["self"]
theorem sc_Disk_lying : FnScope n_Disk_lying ["self"] (defScope s_Disk_lying) := ⟨rfl, rfl, rfl, by decide +kernel, rfl, by decide +kernel, by decide +kernel⟩
abbrev s_Disk_waiting : Stmt := inClass (top 11) 7
abbrev n_Disk_waiting : List Str := ["self"]
theorem sc_Disk_waiting : FnScope n_Disk_waiting ["self"] (defScope s_Disk_waiting) := ⟨rfl, rfl, rfl, by decide +kernel, rfl, by decide +kernel, by decide +kernel⟩
abbrev s_Disk_copy : Stmt := inClass (top 11) 8
abbrev n_Disk_copy : List Str := ["self", "found"]
theorem sc_Disk_copy : FnScope n_Disk_copy ["self"] (defScope s_Disk_copy) := ⟨rfl, rfl, rfl, by decide +kernel, rfl, by decide +kernel, by decide +kernel⟩
abbrev s_law_flow : Stmt := top 13
abbrev n_law_flow : List Str := ["script"]
theorem sc_law_flow : FnScope n_law_flow ["script"] (defScope s_law_flow) := ⟨rfl, rfl, rfl, by decide +kernel, rfl, by decide +kernel, by decide +kernel⟩
abbrev s_law_draw : Stmt := top 14
abbrev n_law_draw : List Str := ["flow", "many", "left", "cell"]
theorem sc_law_draw : FnScope n_law_draw ["flow", "many"] (defScope s_law_draw) := ⟨rfl, rfl, rfl, by decide +kernel, rfl, by decide +kernel, by decide +kernel⟩
abbrev s_law_some : Stmt := top 15
abbrev n_law_some : List Str := ["flow", "things"]
theorem sc_law_some : FnScope n_law_some ["flow", "things"] (defScope s_law_some) := ⟨rfl, rfl, rfl, by decide +kernel, rfl, by decide +kernel, by decide +kernel⟩
abbrev s_law_text : Stmt := top 16
abbrev n_law_text : List Str := ["flow", "signs", "sign"]
theorem sc_law_text : FnScope n_law_text ["flow"] (defScope s_law_text) := ⟨rfl, rfl, rfl, by decide +kernel, rfl, by decide +kernel, by decide +kernel⟩
abbrev s_law_word : Stmt := top 17
abbrev n_law_word : List Str := ["deed", "word"]
theorem sc_law_word : FnScope n_law_word ["deed"] (defScope s_law_word) := ⟨rfl, rfl, rfl, by decide +kernel, rfl, by decide +kernel, by decide +kernel⟩
abbrev s_law_appended : Stmt := top 18
abbrev n_law_appended : List Str := ["own", "text", "some"]
theorem sc_law_appended : FnScope n_law_appended ["own", "text"] (defScope s_law_appended) := ⟨rfl, rfl, rfl, by decide +kernel, rfl, by decide +kernel, by decide +kernel⟩
abbrev s_law_numbered : Stmt := top 19
abbrev n_law_numbered : List Str := ["own", "kind", "number", "all_of_it", "most"]
theorem sc_law_numbered : FnScope n_law_numbered ["own", "kind", "number"] (defScope s_law_numbered) := ⟨rfl, rfl, rfl, by decide +kernel, rfl, by decide +kernel, by decide +kernel⟩
abbrev s_law_done : Stmt := top 20
abbrev n_law_done : List Str := ["disk", "kind", "number"]
theorem sc_law_done : FnScope n_law_done ["disk", "kind", "number"] (defScope s_law_done) := ⟨rfl, rfl, rfl, by decide +kernel, rfl, by decide +kernel, by decide +kernel⟩
abbrev s_law_deed : Stmt := top 21
abbrev n_law_deed : List Str := ["flow", "disk", "own", "most", "kind", "number", "text"]
theorem sc_law_deed : FnScope n_law_deed ["flow", "disk", "own"] (defScope s_law_deed) := ⟨rfl, rfl, rfl, by decide +kernel, rfl, by decide +kernel, by decide +kernel⟩
abbrev s_law : Stmt := top 22
abbrev n_law : List Str := ["script", "flow", "disk", "own", "turn", "other"]
theorem sc_law : FnScope n_law ["script"] (defScope s_law) := ⟨rfl, rfl, rfl, by decide +kernel, rfl, by decide +kernel, by decide +kernel⟩
/-- where the classes stand -/
structure Ad where
  Disk : Addr
  NoNumber : Addr
  NoText : Addr
  Stopped : Addr
/-- what the top has left -/
structure Txt (K : PySem.W.Frag) (mg : Str → Option Value) (A : Ad) : Prop where
  k_Disk : Cls K A.Disk
  g_Disk : mg "Disk" = some (.ref A.Disk)
  n_Disk_laid : NoAttr K A.Disk "laid"
  n_Disk_late : NoAttr K A.Disk "late"
  n_Disk_own_left : NoAttr K A.Disk "own_left"
  e_NoNumber : ExcF K mg "NoNumber" A.NoNumber
  e_NoText : ExcF K mg "NoText" A.NoText
  e_Stopped : ExcF K mg "Stopped" A.Stopped
  x_NoNumber_NoNumber : PySem.W.exmOne K (.ref A.NoNumber) (.ref A.NoNumber) = some true
  x_NoNumber_NoText : PySem.W.exmOne K (.ref A.NoNumber) (.ref A.NoText) = some false
  x_NoNumber_Stopped : PySem.W.exmOne K (.ref A.NoNumber) (.ref A.Stopped) = some false
  x_NoText_NoNumber : PySem.W.exmOne K (.ref A.NoText) (.ref A.NoNumber) = some false
  x_NoText_NoText : PySem.W.exmOne K (.ref A.NoText) (.ref A.NoText) = some true
  x_NoText_Stopped : PySem.W.exmOne K (.ref A.NoText) (.ref A.Stopped) = some false
  x_Stopped_NoNumber : PySem.W.exmOne K (.ref A.Stopped) (.ref A.NoNumber) = some false
  x_Stopped_NoText : PySem.W.exmOne K (.ref A.Stopped) (.ref A.NoText) = some false
  x_Stopped_Stopped : PySem.W.exmOne K (.ref A.Stopped) (.ref A.Stopped) = some true
  b_bool : mg "bool" = none
  b_int : mg "int" = none
  b_isinstance : mg "isinstance" = none
  b_len : mg "len" = none
  b_list : mg "list" = none
  b_min : mg "min" = none
  b_range : mg "range" = none
  b_str : mg "str" = none
  c_MOST_POWER : ∃ u, mg "MOST_POWER" = some u ∧ RelV (.int 1000000) u
theorem bt_isinstance : bootBuiltins "isinstance" = some (.builtin "isinstance") := by decide +kernel
theorem bt_int : bootBuiltins "int" = some (.type "int") := by decide +kernel
theorem bt_bool : bootBuiltins "bool" = some (.type "bool") := by decide +kernel
theorem bt_str : bootBuiltins "str" = some (.type "str") := by decide +kernel
theorem bt_len : bootBuiltins "len" = some (.builtin "len") := by decide +kernel
theorem bt_min : bootBuiltins "min" = some (.builtin "min") := by decide +kernel
theorem bt_list : bootBuiltins "list" = some (.type "list") := by decide +kernel
open PySem L2 LamX
local macro_rules | `(tactic| walk_at "ne") => `(tactic| first
  | assumption
  | (apply Ne.symm; assumption)
  | (with_reducible apply ne_new; (focus with_reducible assumption); walk_at "hp")
  | (apply Ne.symm; with_reducible apply ne_new; (focus with_reducible assumption); walk_at "hp")
  | walk_at "ne2")
local macro_rules | `(tactic| walk_at "nin") => `(tactic| with_unfolding_all first | exact True.intro | (apply And.intro; (focus walk_at "ne"); walk_at "nin"))
local macro_rules | `(tactic| walk_at "hp") => `(tactic| with_reducible first
  | assumption
  | exact upd_same
  | (apply Ex.get; (focus with_reducible assumption); (focus walk_at "hp"); walk_at "nin")
  | (apply upd_oth2; (focus walk_at "hp"); walk_at "ne"))
local macro_rules | `(tactic| walk_at "sqt") => `(tactic| with_reducible first
  | assumption
  | (apply SqT.of; assumption)
  | (apply Ex.sqT; (focus with_reducible assumption); walk_at "sqt")
  | exact SqT.of_new
  | (apply sqt_new; (focus with_reducible assumption); walk_at "sqt")
  | (apply sqt_put; (focus walk_at "hp"); (focus with_unfolding_all exact rfl); walk_at "sqt"))
local macro_rules | `(tactic| walk_at "sql") => `(tactic| with_reducible first
  | assumption
  | (apply SqL.of; walk_at "hp"))
local macro_rules | `(tactic| walk_at "rep") => `(tactic| with_reducible first
  | assumption
  | exact Rep.non
  | exact Rep.bl _
  | exact Rep.int _
  | (apply Rep.str; walk_at "sz")
  | (apply Rep.tup; (focus walk_at "sqt"); walk_at "repl")
  | (apply Ex.rep; (focus with_reducible assumption); walk_at "rep")
  | (apply rep_new; (focus with_reducible assumption); walk_at "rep")
  | (apply rep_put; (focus walk_at "hp"); (focus with_unfolding_all exact rfl); walk_at "rep")
  | (apply Rep.oth_l; walk_at "hp")
  | (apply Rep.oth_d; walk_at "hp"))
local macro_rules | `(tactic| walk_at "repl") => `(tactic| with_reducible first
  | assumption
  | exact RepL.nil
  | (apply RepL.cons; (focus walk_at "rep"); walk_at "repl")
  | (apply RepL.rep; walk_at "repl")
  | (apply RepL.append; (focus walk_at "repl"); walk_at "repl")
  | (apply Ex.repL; (focus with_reducible assumption); walk_at "repl")
  | (apply repl_new; (focus with_reducible assumption); walk_at "repl")
  | (apply repl_put; (focus walk_at "hp"); (focus with_unfolding_all exact rfl); walk_at "repl"))
/-- what is new is new ahead -/
local macro_rules | `(tactic| walk_at "dom") => `(tactic| with_reducible first
  | exact Dom.refl _
  | (apply Dom.step; (focus with_reducible assumption); walk_at "dom")
  | (apply Dom.upd; walk_at "dom"))
local macro_rules | `(tactic| walk_at "nn") => `(tactic| with_reducible first
  | assumption
  | (apply Dom.none; (focus with_reducible assumption); walk_at "dom"))
local macro_rules | `(tactic| walk_at "side") => `(tactic| first
  | exact side0
  | (apply side1; first | (apply Or.inl; simp; done) | (apply Or.inr; walk_at "nn")))
/-- one heap behind another -/
local macro_rules | `(tactic| walk_at "ex") => `(tactic| first
  | (with_reducible exact Ex.refl _ _)
  | assumption
  | (with_reducible apply Ex.step; (focus with_reducible assumption); (focus walk_at "side"); walk_at "ex")
  | (with_reducible apply Ex.stepNew; (focus with_reducible assumption); walk_at "ex")
  | (with_reducible apply Ex.stepPut; (focus walk_at "hp"); (focus with_unfolding_all exact rfl); (focus first | (apply Or.inl; simp; done) | (apply Or.inr; walk_at "nn")); walk_at "ex"))
local macro_rules | `(tactic| walk_at "lenx") => `(tactic| first
  | (apply LenX.lst; walk_at "sql")
  | (apply LenX.tup; walk_at "sqt")
  | (apply LenX.str; walk_at "sz"))
local macro_rules | `(tactic| walk_at "sz") => `(tactic| first
  | exact Nat.le_of_ble_eq_true rfl
  | assumption
  | omega
  | (show _ ≤ 16777216; omega)
  | (show _ < 16777216; omega)
  | (show _ ≤ 16777216; simp only [List.length_append, List.length_cons, List.length_nil, List.length_map, flat_len, repS_len, strapp_len]; omega)
  | (show _ ≤ 16777216; decide)
  | (simp only [repS_len, strapp_len]; first | exact Nat.le_of_ble_eq_true rfl | omega | (simp (config := { decide := true }) only []; omega)))
local macro_rules | `(tactic| walk_at "kvs") => `(tactic| with_reducible first
  | exact kvs_nil
  | (apply kvs_ci; walk_at "kvs")
  | (apply kvs_cs; walk_at "kvs"))
/-- one of the facts that a reading asks -/
local macro_rules | `(tactic| walk_at "fact") => `(tactic| first
  | rfl
  | with_reducible assumption
  | walk_at "hp"
  | walk_at "sqt"
  | walk_at "sql"
  | walk_at "rep"
  | walk_at "repl"
  | walk_at "lenx"
  | walk_at "kvs"
  | (apply tyL; walk_at "sql")
  | (apply Exists.intro; walk_at "sqt")
  | (apply Exists.intro; walk_at "sql")
  | (apply cmul_r; (focus decide); decide)
  | (apply cmul_l; (focus omega); omega)
  | (apply cdivw; (focus first | decide | omega); first | decide | omega)
  | decide
  | omega
  | (show (0 : Int) < _; omega)
  | walk_at "sz"
  | walk_at "fact2")
local macro_rules | `(tactic| walk_at "facts") => `(tactic| first
  | (apply And.intro; (focus walk_at "fact"); walk_at "facts")
  | walk_at "fact")
local macro_rules | `(tactic| walk_at "exs") => `(tactic| repeat (apply Exists.intro))
/-- one part of a reading -/
local macro_rules | `(tactic| walk_at "rd1") => `(tactic| first
  | (apply Exists.intro; walk_at "exs"; (apply And.intro; focus walk_at "facts"))
  | (apply And.intro; focus walk_at "facts")
  | (apply Or.inl; walk_at "exs"; (apply And.intro; focus walk_at "facts"))
  | (apply Or.inr; walk_at "rd1"))
local macro_rules | `(tactic| walk_at "rd") => `(tactic| repeat (walk_at "rd1"))
local macro_rules | `(tactic| walk_at "rdi") => `(tactic| repeat (first | walk_at "rd1" | intro _))
/-- the written part by its name -/
local macro_rules | `(tactic| walk_at "nm") => `(tactic| try dsimp only [cx_nK, cx_K, List.map_cons, List.map_nil])
local macro_rules | `(tactic| walk_at "lkf") => `(tactic| with_reducible first
  | exact lk_hd
  | exact lk_nil
  | (apply lk_tl; (focus decide +kernel); walk_at "lkf"))
local macro_rules | `(tactic| walk_at "pff") => `(tactic| with_reducible first
  | exact pf_hd
  | exact pf_nil
  | (apply pf_tl; (focus decide +kernel); walk_at "pff"))
local macro_rules | `(tactic| walk_at "vsf") => `(tactic| with_reducible first
  | exact vs_hd
  | (apply vs_tl; (focus decide +kernel); walk_at "vsf"))
local macro_rules | `(tactic| walk_at "nkf") => `(tactic| with_reducible first
  | exact nk_nil
  | (apply nk_tl; (focus decide +kernel); walk_at "nkf"))
local macro_rules | `(tactic| walk_at "pkf") => `(tactic| with_reducible first
  | exact pk_nil'
  | (apply pk_hd; walk_at "nkf")
  | (apply pk_tl; (focus decide +kernel); walk_at "pkf"))
local macro_rules | `(tactic| walk_at "fact") => `(tactic| with_reducible first
  | walk_at "lkf"
  | walk_at "pff"
  | walk_at "vsf"
  | walk_at "pkf"
  | exact ⟨_, rfl⟩)
-- @SP is_integer (spIsInt K)
-- @SP is_within (spWithin K)
-- @SP check_number (spChk K A)
-- @SP Disk.__init__ (spInit A)
-- @SP Disk.append (spAppend K A)
-- @SP Disk.sync (spSync A)
-- @SP Disk.cut (spCut K A)
-- @SP Disk.power (spPower K A)
-- @SP Disk.trim (spTrim K A)
-- @SP Disk.lying (spLying A)
-- @SP Disk.waiting (spWaiting A)
-- @SP Disk.copy (spCopy A)
def isInt : Dt → Bool
  | .int _ => true
  | _ => false
def spIsInt (K : PySem.W.Frag) : Sp := fun vs H Q _ => ∃ v d, (vs = [v] ∧ Rep K H v d) ∧ Q (.bl (isInt d)) H
def within : Dt → Int → Int → Bool
  | .int i, lo, hi => decide (lo ≤ i) && decide (i ≤ hi)
  | _, _, _ => false
def spWithin (K : PySem.W.Frag) : Sp := fun vs H Q _ => ∃ v d lo hi, (vs = [v, .int lo, .int hi] ∧ Rep K H v d) ∧ Q (.bl (within d lo hi)) H
def spChk (K : PySem.W.Frag) (A : Ad) : Sp := fun vs H Q E => ∃ v d hi, (vs = [v, .int hi] ∧ Rep K H v d) ∧ if within d 0 hi = true then Q .non H else E (.ref A.NoNumber) none H
def powV : Option Nat → V
  | none => .non
  | some n => .int n
def DiskAt (A : Ad) (H : Hp) (a : Addr) (laid late : Str) (pw : Option Nat) : Prop := laid.length ≤ 100000 ∧ late.length ≤ 100000 ∧ ∃ dx, H a = some (.ins A.Disk dx [("laid", .str laid), ("late", .str late), ("own_left", powV pw)])
def takeS (z : Str) : Option Nat → Str
  | none => z
  | some n => ⟨(z.cps.toList.take n).toArray⟩
def spInit (A : Ad) : Sp := fun vs H Q _ => ∃ a dx, (vs = [.ref a] ∧ H a = some (.ins A.Disk dx [])) ∧ ∀ H', DiskAt A H' a "" "" none → Ex [a] H H' → Q .non H'
section
variable {P : Program} {w : World} {K : PySem.W.Frag} {mg : Str → Option Value} {base : Heap} {A : Ad}
theorem ok_is_integer {f : Addr} {fd : FuncData} (F : Fun K "is_integer" "is_integer" s_is_integer f fd) (T : Txt K mg A)  : FnOk P w K mg base CX0 1 f fd ["thing"] (spIsInt K) := by
  refine F.ok sc_is_integer (fun vs H Q E h => ?_) (fun cdv Ar outer s H vs Q E hr h => ?_)
  · obtain ⟨v, d, ⟨rfl, _⟩, _⟩ := h
    rfl
  · obtain ⟨v, d, ⟨rfl, r⟩, k⟩ := h
    refine ⟨_, (pss_one (ps_ret (pe_and (pe_callB (cIs (K := K) rfl) (by rfl) T.b_isinstance bt_isinstance (pa_cons (pv 0) (pa_cons (pe_bltn (v := .ty "int") (by rfl) T.b_int bt_int rfl) pa_nil))) (pe_one (pe_not (pe_callB (cIs (K := K) rfl) (by rfl) T.b_isinstance bt_isinstance (pa_cons (pv 0) (pa_cons (pe_bltn (v := .ty "bool") (by rfl) T.b_bool bt_bool rfl) pa_nil)))))))), ?_⟩
    walk_at "nm"
    have r0 := r
    cases r <;> walk_at "rd"
    all_goals exact k
theorem ok_is_within {f : Addr} {fd : FuncData} (F : Fun K "is_within" "is_within" s_is_within f fd) (T : Txt K mg A) (C_is_integer : Cl P w K mg base 1 "is_integer" (spIsInt K)) : FnOk P w K mg base CX0 2 f fd ["thing", "least", "most"] (spWithin K) := by
  refine F.ok sc_is_within (fun vs H Q E h => ?_) (fun cdv Ar outer s H vs Q E hr h => ?_)
  · obtain ⟨v, d, lo, hi, ⟨rfl, _⟩, _⟩ := h
    rfl
  · obtain ⟨v, d, lo, hi, ⟨rfl, r⟩, k⟩ := h
    refine ⟨_, (pss_one (ps_ret (pe_and (pe_cl C_is_integer hr (by decide) (by rfl) (pa_cons (pv 0) pa_nil)) (pe_one (pe_chain oLe oLe (pv 1) (pv 0) (pv 2)))))), ?_⟩
    walk_at "nm"
    walk_at "rd"
    have r0 := r
    cases r with
    | int i =>
      walk_at "rd"
      refine @ite2 _ _ _ _ (fun c => ?_) (fun c => ?_)
      · walk_at "rd"
        have e : within (.int i) lo hi = decide (i ≤ hi) := by show (decide (lo ≤ i) && _) = _; rw [c, Bool.true_and]
        rw [e] at k
        exact k
      · have e : within (.int i) lo hi = false := by show (decide (lo ≤ i) && _) = _; rw [Bool.eq_false_iff.mpr c, Bool.false_and]
        rw [e] at k
        exact k
    | _ => exact k
theorem ok_check_number {f : Addr} {fd : FuncData} (F : Fun K "check_number" "check_number" s_check_number f fd) (T : Txt K mg A) (C_is_within : Cl P w K mg base 2 "is_within" (spWithin K)) : FnOk P w K mg base (L2.CX P w) 3 f fd ["thing", "most"] (spChk K A) := by
  refine F.okX sc_check_number (fun vs H Q E h => ?_) (fun cdv Ar outer s H vs Q E hr h => ?_)
  · obtain ⟨v, d, hi, ⟨rfl, _⟩, _⟩ := h
    rfl
  · obtain ⟨v, d, hi, ⟨rfl, r⟩, k⟩ := h
    refine ⟨_, (pss_one (ps_if (pt_not (pt_val (pe_cl C_is_within hr (by decide) (by rfl) (pa_cons (pv 0) (pa_cons pe_int (pa_cons (pv 1) pa_nil)))))) (pss_one (ps_raise rfl (takes_of rfl rfl rfl rfl) (pmk0 T.e_NoNumber (by rfl)))) pss_nil)), ?_⟩
    walk_at "nm"
    walk_at "rd"
    cases e : within d 0 hi with
    | true =>
      rw [e, if_pos rfl] at k
      exact k
    | false =>
      rw [e, if_neg (by decide)] at k
      exact k
theorem ok_Disk___init__ {f : Addr} {fd : FuncData} (F : Fun K "__init__" "Disk.__init__" s_Disk___init__ f fd) (T : Txt K mg A)  : FnOk P w K mg base CX0 1 f fd ["self"] (spInit A) := by
  refine F.ok sc_Disk___init__ (fun vs H Q E h => ?_) (fun cdv Ar outer s H vs Q E hr h => ?_)
  · obtain ⟨a, dx, ⟨rfl, _⟩, _⟩ := h
    rfl
  · obtain ⟨a, dx, ⟨rfl, ha⟩, k⟩ := h
    refine ⟨_, (pss_cons (ps_fldA T.k_Disk T.n_Disk_laid (pv 0) pe_str rfl) (pss_cons (ps_fldA T.k_Disk T.n_Disk_late (pv 0) pe_str rfl) (pss_one (ps_fldA T.k_Disk T.n_Disk_own_left (pv 0) pe_non rfl)))), ?_⟩
    walk_at "nm"
    walk_at "rdi"
    rename_i H1 h1 e1 H2 h2 e2 H3 h3 e3
    exact k H3 ⟨by decide, by decide, _, h3⟩ (by walk_at "ex")
end
open PySem L2 LamX


/-- what _law_word makes of the lambda's reading -/
def TWord (K : PySem.W.Frag) (A : Ad) : (XK → Hp → VK → Prop) → Hp → VK → Prop := fun tl H Q =>
  tl (fun cls _ H' => (cls = .ref A.Stopped ∧ Q (.str "stopped") H') ∨ (cls = .ref A.NoText ∧ Q (.str "text") H') ∨ (cls = .ref A.NoNumber ∧ Q (.str "number") H')) H fun _ H' => ∃ v, some (some (V.str "let")) = some (some v) ∧ Q v H'
section
variable {P : Program} {w : World} {K : PySem.W.Frag} {mg : Str → Option Value} {base : Heap} {A : Ad}
theorem word_gives {X : Cx} {q : Str} {g : Addr} {cdg : Value} (T : Txt X.K X.mg A) : GivesTo X n_law_word "_law_word" (defScope s_law_word) g cdg (defBody s_law_word) "deed" q (TWord X.K A) := by
  intro f c' s H Q tl act hc h
  let Z : Cx := (cxOf C8.CX0 X.prog X.w X.K X.mg X.base n_law_word "_law_word" (defScope s_law_word) g cdg X.A X.stack s H C8.E0).nox
  refine ⟨_, pss_cons (ps_set (X := Z) (i := 1) sc_law_word.nd rfl (Or.inl rfl) pe_str) (pss_cons (ps_try_many (X := Z) rfl rfl L2.takes0
      (tb := fun W D σ H => ∃ Ech : XK, (∀ cls d σ' H', σ'.length = 2 → Ech cls d H' → W cls d σ' H') ∧ σ[0]? = some (some (.ref f)) ∧ H c' = some (CodeO c' q) ∧ tl Ech H fun _ H' => D.nx σ H')
      (fun W pn xe tk _ => ?_)
      (HdsOk.cons (ExcF.names T.e_Stopped (by rfl)) (fun a oe cls d pn _ _ => pss_one (ps_set (i := 1) sc_law_word.nd rfl (Or.inl rfl) pe_str))
        (HdsOk.cons (ExcF.names T.e_NoText (by rfl)) (fun a oe cls d pn _ _ => pss_one (ps_set (i := 1) sc_law_word.nd rfl (Or.inl rfl) pe_str))
          (HdsOk.cons (ExcF.names T.e_NoNumber (by rfl)) (fun a oe cls d pn _ _ => pss_one (ps_set (i := 1) sc_law_word.nd rfl (Or.inl rfl) pe_str)) HdsOk.nil))))
      (pss_one (ps_ret (X := Z) (pv 1)))), ?_⟩
  · refine ⟨fun pins s' σ H' D I h' => ?_⟩
    obtain ⟨Ech, hW, h1, h2, h3⟩ := h'
    exact (pss_one (ps_expr (act (fun cls d σ H => σ.length = 2 → W cls d σ H) pn xe Ech _ _ (takes_len tk) (fun cls d σ' H' e z => hW cls d σ' H' z e)))).run pins s' σ H' D I ⟨h1, h2, h3⟩
  · refine ⟨fun cls _ H' => (cls = .ref A.Stopped ∧ Q (.str "stopped") H') ∨ (cls = .ref A.NoText ∧ Q (.str "text") H') ∨ (cls = .ref A.NoNumber ∧ Q (.str "number") H'), ?_, rfl, hc, ?_⟩
    · intro cls d σ' H' hl e
      match σ', hl with
      | [o1, o2], _ =>
      rcases e with ⟨rfl, e⟩ | ⟨rfl, e⟩ | ⟨rfl, e⟩
      · exact ⟨true, T.x_Stopped_Stopped, fun _ a _ => ⟨_, rfl, e⟩, fun z => nomatch z⟩
      · exact ⟨false, T.x_NoText_Stopped, (fun z => nomatch z), fun _ => ⟨true, T.x_NoText_NoText, fun _ a _ => ⟨_, rfl, e⟩, fun z => nomatch z⟩⟩
      · exact ⟨false, T.x_NoNumber_Stopped, (fun z => nomatch z), fun _ => ⟨false, T.x_NoNumber_NoText, (fun z => nomatch z), fun _ => ⟨true, T.x_NoNumber_NoNumber, fun _ a _ => ⟨_, rfl, e⟩, fun z => nomatch z⟩⟩⟩
    · exact h
end
open PySem L2 LamX


/-! ### the flow that is drawn from -/
/-- a flow lies at p: its cells at c -/
def FlowAt (H : Hp) (p c : Addr) : Prop := ∃ (cells : List Int) (i s r : Int), H p = some (.lst [.ref c, .int i, .int s, .int r]) ∧ H c = some (.lst (cells.map V.int)) ∧ c ≠ p ∧ 0 ≤ i ∧ 0 ≤ r ∧ cells.length ≤ 63
theorem FlowAt.new {H : Hp} {p c q : Addr} {o : HO} (h : H q = none) (t : FlowAt H p c) : FlowAt (upd H q o) p c := by
  obtain ⟨cells, i, r, s, h1, h2, h3⟩ := t
  exact ⟨cells, i, r, s, upd_new h h1, upd_new h h2, h3⟩
theorem FlowAt.oth' {H : Hp} {p c q : Addr} {o : HO} (t : FlowAt H p c) (h : q ≠ p) (h' : q ≠ c) : FlowAt (upd H q o) p c := by
  obtain ⟨cells, i, r, s, h1, h2, h3⟩ := t
  exact ⟨cells, i, r, s, upd_oth h.symm h1, upd_oth h'.symm h2, h3⟩
theorem FlowAt.ex {M : List Addr} {H H' : Hp} {p c : Addr} (e : Ex M H H') (hp : Nin p M) (hc : Nin c M) (t : FlowAt H p c) : FlowAt H' p c := by
  obtain ⟨cells, i, r, s, h1, h2, h3⟩ := t
  exact ⟨cells, i, r, s, e.get h1 hp, e.get h2 hc, h3⟩
theorem FlowAt.ex0 {H H' : Hp} {p c : Addr} (e : Ex [] H H') (t : FlowAt H p c) : FlowAt H' p c := t.ex e trivial trivial
theorem FlowAt.ne {H : Hp} {p c q : Addr} (t : FlowAt H p c) (h : H q = none) : q ≠ p := by
  obtain ⟨_, _, _, _, h1, _⟩ := t
  exact (ne_of_none h1 h).symm
theorem FlowAt.nec {H : Hp} {p c q : Addr} (t : FlowAt H p c) (h : H q = none) : q ≠ c := by
  obtain ⟨_, _, _, _, _, h1, _⟩ := t
  exact (ne_of_none h1 h).symm
theorem FlowAt.ne' {H : Hp} {p c q : Addr} (h : H q = none) (t : FlowAt H p c) : q ≠ p := t.ne h
theorem FlowAt.nec' {H : Hp} {p c q : Addr} (h : H q = none) (t : FlowAt H p c) : q ≠ c := t.nec h
/-- an object that is none of the flow's lists -/
theorem FlowAt.neO {H : Hp} {p c q : Addr} {o : HO} (t : FlowAt H p c) (h : H q = some o) (n : ∀ xs, o ≠ .lst xs) : q ≠ p ∧ q ≠ c := by
  obtain ⟨_, _, _, _, h1, h2, _⟩ := t
  constructor
  · intro z
    rw [z, h1] at h
    cases h
    exact n _ rfl
  · intro z
    rw [z, h2] at h
    cases h
    exact n _ rfl
local macro_rules | `(tactic| walk_at "pot") => `(tactic| with_reducible first
  | assumption
  | (apply FlowAt.new; (focus with_reducible assumption); walk_at "pot")
  | (apply FlowAt.ex0; (focus with_reducible assumption); walk_at "pot")
  | (apply FlowAt.oth'; (focus walk_at "pot"); (focus walk_at "fact2"); walk_at "fact2"))
local macro_rules | `(tactic| walk_at "ne2") => `(tactic| first
  | (with_reducible apply FlowAt.ne'; (focus with_reducible assumption); walk_at "pot")
  | (with_reducible apply FlowAt.nec'; (focus with_reducible assumption); walk_at "pot"))
local macro_rules | `(tactic| walk_at "fact2") => `(tactic| first
  | walk_at "pot"
  | (with_reducible apply FlowAt.ne'; (focus with_reducible assumption); walk_at "pot")
  | (with_reducible apply FlowAt.nec'; (focus with_reducible assumption); walk_at "pot"))
def spFlow (K : PySem.W.Frag) : Sp := fun vs H Q _ => ∃ (a : Addr) (ns : List Int), (vs = [.ref a] ∧ SqL K H a (ns.map V.int) ∧ ns.length ≤ 63) ∧ ∀ p c H', FlowAt H' p c → Ex [] H H' → H p = none → H c = none → Q (.ref p) H'
def spFDraw : Sp := fun vs H Q _ => ∃ p c many, (vs = [.ref p, .int many] ∧ FlowAt H p c ∧ 0 < many ∧ many < 1000000) ∧ ∀ r H', 0 ≤ r → r < many → FlowAt H' p c → Ex [p] H H' → Q (.int r) H'
def spFSome : Sp := fun vs H Q _ => ∃ (p c a : Addr) (xs : List V), (vs = [.ref p, .ref a] ∧ FlowAt H p c ∧ H a = some (.lst xs) ∧ a ≠ p ∧ 0 < xs.length ∧ xs.length < 1000000) ∧ ∀ x H', x ∈ xs → FlowAt H' p c → Ex [p] H H' → Q x H'
-- @SP _law_flow (spFlow K)
-- @SP _law_draw spFDraw
-- @SP _law_some spFSome
section
variable {P : Program} {w : World} {K : PySem.W.Frag} {mg : Str → Option Value} {base : Heap} {A : Ad}
theorem ok_law_flow {f : Addr} {fd : FuncData} (F : Fun K "_law_flow" "_law_flow" s_law_flow f fd) (T : Txt K mg A)  : FnOk P w K mg base CX0 1 f fd ["script"] (spFlow K) := by
  refine F.ok sc_law_flow (fun vs H Q E h => ?_) (fun cdv Ar outer s H vs Q E hr h => ?_)
  · obtain ⟨a, ns, ⟨rfl, _⟩, _⟩ := h
    rfl
  · obtain ⟨a, ns, ⟨rfl, ha, hn⟩, k⟩ := h
    refine ⟨_, (pss_one (ps_ret (peLst (pa_cons (pe_callTy (cList (K := K) rfl) (by rfl) T.b_list bt_list (pa_cons (pv 0) pa_nil)) (pa_cons pe_int (pa_cons pe_int (pa_cons pe_int pa_nil))))))), ?_⟩
    walk_at "nm"
    walk_at "rdi"
    rename_i c H1 n1 h1 e1 p H2 n2 h2 e2
    exact k p c H2 ⟨ns, 0, 17, 0, h2, e2.get0 h1, ne_of_none h1 n2, by decide, by decide, hn⟩ (by walk_at "ex") (e1.none n2) n1
theorem ok_law_draw {f : Addr} {fd : FuncData} (F : Fun K "_law_draw" "_law_draw" s_law_draw f fd) (T : Txt K mg A)  : FnOk P w K mg base CX0 1 f fd ["flow", "many"] spFDraw := by
  refine F.ok sc_law_draw (fun vs H Q E h => ?_) (fun cdv Ar outer s H vs Q E hr h => ?_)
  · obtain ⟨p, c, many, ⟨rfl, _⟩, _⟩ := h
    rfl
  · obtain ⟨p, c, many, ⟨rfl, ⟨cells, i, sd, r, hp, hc, ncp, hi0, hr0, hcl⟩, hm0, hm1⟩, k⟩ := h
    refine ⟨_, (pss_cons (ps_if (pt_cmpR oGt (pe_ix (ixG (K := K) rfl) (pv 0) pe_int (fun _ _ => rfl)) pe_int (nomark _)) (pss_cons (ps_asg (peTup (pa_cons (pe_op oFdv (pe_ix (ixG (K := K) rfl) (pv 0) pe_int (fun _ _ => rfl)) (pv 1)) (pa_cons (pe_ix (ixG (K := K) rfl) (pv 0) pe_int (fun _ _ => rfl)) pa_nil))) (pg_tup (by rfl) (pgs_cons (pg_sub (pv 0) pe_int setL) (pgs_cons (pg_name (i := 2) sc_law_draw.nd rfl (Or.inl rfl)) pgs_nil)))) (pss_one (ps_ret (pe_op oMod (pe_callTy call_int1 (by rfl) T.b_int bt_int (pa_cons (pv 2) pa_nil)) (pv 1))))) pss_nil) (pss_cons (ps_set (i := 3) sc_law_draw.nd rfl (Or.inl rfl) (pe_op oMod (pe_ix (ixG (K := K) rfl) (pv 0) pe_int (fun _ _ => rfl)) pe_int)) (C8.pss_cut (ps_if (pt_cmpR oLt (pe_ix (ixG (K := K) rfl) (pv 0) pe_int (fun _ _ => rfl)) (pe_callB (cLen (K := K) rfl) (by rfl) T.b_len bt_len (pa_cons (pe_ix (ixG (K := K) rfl) (pv 0) pe_int (fun _ _ => rfl)) pa_nil)) (nomark _)) (pss_one (ps_set (i := 3) sc_law_draw.nd rfl (Or.inl rfl) (pe_ix (ixG (K := K) rfl) (pe_ix (ixG (K := K) rfl) (pv 0) pe_int (fun _ _ => rfl)) (pe_ix (ixG (K := K) rfl) (pv 0) pe_int (fun _ _ => rfl)) (fun _ _ => rfl)))) pss_nil) (pss_cons (ps_augS (pv 0) pe_int (getL (K := K) rfl) pe_int pAdd setL) (pss_cons (ps_if (pt_cmpR oGe (pv 3) (pe_op oPow pe_int pe_int) (nomark _)) (pss_cons (ps_asg (pe_op oFdv (pv 3) (pv 1)) (pg_sub (pv 0) pe_int setL)) (pss_one (ps_ret (pe_op oMod (pe_callTy call_int1 (by rfl) T.b_int bt_int (pa_cons (pv 3) pa_nil)) (pv 1))))) pss_nil) (pss_cons (ps_asg (pe_op oMod (pe_callTy call_int1 (by rfl) T.b_int bt_int (pa_cons (pe_op (oAdd (K := K) rfl) (pe_op (oAdd (K := K) rfl) (pe_op (oMul (K := K) rfl) (pe_ix (ixG (K := K) rfl) (pv 0) pe_int (fun _ _ => rfl)) pe_int) (pe_op oMod (pe_callTy call_int1 (by rfl) T.b_int bt_int (pa_cons (pv 3) pa_nil)) pe_int)) (pe_ix (ixG (K := K) rfl) (pv 0) pe_int (fun _ _ => rfl))) pa_nil)) pe_int) (pg_sub (pv 0) pe_int setL)) (pss_one (ps_ret (pe_op oMod (pe_callTy call_int1 (by rfl) T.b_int bt_int (pa_cons (pe_op oFdv (pe_ix (ixG (K := K) rfl) (pv 0) pe_int (fun _ _ => rfl)) pe_int) pa_nil)) (pv 1)))))))))), ?_⟩
    walk_at "nm"
    walk_at "rd"
    refine @ite2 _ _ _ _ (fun c1 => ?_) (fun c1 => ?_)
    · replace c1 : 0 < r := of_decide_eq_true c1
      walk_at "rdi"
      exact k _ _ (Int.emod_nonneg _ (by omega)) (Int.emod_lt_of_pos _ hm0) ⟨cells, _, _, _, by assumption, by walk_at "hp", ncp, by omega, Int.ediv_nonneg hr0 (by omega), hcl⟩ (by walk_at "ex")
    · walk_at "rd"
      refine ⟨fun σ H' => ∃ cell, σ = [some (.ref p), some (.int many), none, some (.int cell)] ∧ H' = H, ?_, ?_⟩
      · walk_at "rd"
        refine @ite2 _ _ _ _ (fun c2 => ?_) (fun c2 => ?_)
        · replace c2 : i < ((cells.map V.int).length : Nat) := of_decide_eq_true c2
          rw [List.length_map] at c2
          obtain ⟨j, rfl⟩ : ∃ j : Nat, i = (j : Int) := ⟨i.toNat, by omega⟩
          have hj : j < cells.length := by omega
          have hat : atI (cells.map V.int) (j : Int) = some (.int cells[j]) := atI_nat (by rw [List.getElem?_map, List.getElem?_eq_getElem hj]; rfl)
          generalize cells[j] = cell at hat
          walk_at "rd"
          rfl
        · walk_at "rd"
          rfl
      · rintro σ H1 ⟨cell, rfl, rfl⟩
        walk_at "rd"
        intro H2 h2 e2
        walk_at "rd"
        refine @ite2 _ _ _ _ (fun c3 => ?_) (fun c3 => ?_)
        · replace c3 : (10 : Int) ^ 18 ≤ cell := of_decide_eq_true c3
          walk_at "rdi"
          exact k _ _ (Int.emod_nonneg _ (by omega)) (Int.emod_lt_of_pos _ hm0) ⟨cells, _, _, _, by assumption, by walk_at "hp", ncp, by omega, Int.ediv_nonneg (by omega) (by omega), hcl⟩ (by walk_at "ex")
        · walk_at "rdi"
          exact k _ _ (Int.emod_nonneg _ (by omega)) (Int.emod_lt_of_pos _ hm0) ⟨cells, _, _, _, by assumption, by walk_at "hp", ncp, by omega, hr0, hcl⟩ (by walk_at "ex")
theorem ok_law_some {f : Addr} {fd : FuncData} (F : Fun K "_law_some" "_law_some" s_law_some f fd) (T : Txt K mg A) (C_law_draw : Cl P w K mg base 1 "_law_draw" spFDraw) : FnOk P w K mg base CX0 2 f fd ["flow", "things"] spFSome := by
  refine F.ok sc_law_some (fun vs H Q E h => ?_) (fun cdv Ar outer s H vs Q E hr h => ?_)
  · obtain ⟨p, c, a, xs, ⟨rfl, _⟩, _⟩ := h
    rfl
  · obtain ⟨p, c, a, xs, ⟨rfl, hp, ha, nap, h0, h1⟩, k⟩ := h
    refine ⟨_, (pss_one (ps_ret (pe_ix (ixG (K := K) rfl) (pv 1) (pe_cl C_law_draw hr (by decide) (by rfl) (pa_cons (pv 0) (pa_cons (pe_callB (cLen (K := K) rfl) (by rfl) T.b_len bt_len (pa_cons (pv 1) pa_nil)) pa_nil))) (fun _ _ => rfl)))), ?_⟩
    walk_at "nm"
    walk_at "rd"
    intro r H1 hr0 hr1 hp1 e1
    obtain ⟨j, rfl⟩ : ∃ j : Nat, r = (j : Int) := ⟨r.toNat, by omega⟩
    have hj : j < xs.length := by omega
    have hat : atI xs (j : Int) = some xs[j] := atI_nat (List.getElem?_eq_getElem hj)
    walk_at "rd"
    exact k _ _ (List.getElem_mem hj) hp1 e1
end
open PySem L2 LamX


-- @SP is_integer (spIsInt K)
-- @SP is_within (spWithin K)
-- @SP check_number (spChk K A)
-- @SP Disk.__init__ (spInit A)
-- @SP Disk.append (spAppend K A)
-- @SP Disk.sync (spSync A)
-- @SP Disk.cut (spCut K A)
-- @SP Disk.power (spPower K A)
-- @SP Disk.trim (spTrim K A)
-- @SP Disk.lying (spLying A)
-- @SP Disk.waiting (spWaiting A)
-- @SP Disk.copy (spCopy A)
theorem takeS_len (z : Str) : ∀ p, (takeS z p).length ≤ z.length
  | none => Nat.le_refl _
  | some n => by
    show ((z.cps.toList.take n).toArray).size ≤ z.cps.size
    rw [List.size_toArray, List.length_take, Array.length_toList]
    omega
theorem takeS_len2 (z : Str) (n : Nat) : (takeS z (some n)).length = min n z.length := by
  show ((z.cps.toList.take n).toArray).size = min n z.cps.size
  rw [List.size_toArray, List.length_take, Array.length_toList]
theorem takeS_all (z : Str) {n : Nat} (h : z.length ≤ n) : takeS z (some n) = z := by
  have h' : z.cps.toList.length ≤ n := by rw [Array.length_toList]; exact h
  obtain ⟨c⟩ := z
  show (⟨(c.toList.take n).toArray⟩ : Str) = ⟨c⟩
  rw [List.take_of_length_le h']
theorem cutS_take (z : Str) (n : Nat) : cutS z none (some (n : Int)) = takeS z (some n) := by
  unfold cutS takeS
  rw [HT.sIx_none, HT.sIx_nat, List.drop_zero, Nat.sub_zero]
  by_cases h : n ≤ z.length
  · rw [Nat.min_eq_left h]
  · have h2 : z.length ≤ n := by omega
    have h3 : z.cps.toList.take n = z.cps.toList := List.take_of_length_le (by rw [Array.length_toList]; exact h2)
    have h4 : z.cps.toList.take z.length = z.cps.toList := List.take_of_length_le (by rw [Array.length_toList]; exact Nat.le_refl _)
    rw [Nat.min_eq_right h2, h4]
    show _ = (⟨(z.cps.toList.take n).toArray⟩ : Str)
    rw [h3]
def stops (t : Str) : Option Nat → Bool
  | none => false
  | some n => decide (n < t.length)
def left (t : Str) : Option Nat → Option Nat
  | none => none
  | some n => some (n - t.length)
def spAppend (K : PySem.W.Frag) (A : Ad) : Sp := fun vs H Q E => ∃ a v d laid late pw, (vs = [.ref a, v] ∧ Rep K H v d ∧ DiskAt A H a laid late pw ∧ ∀ t, d = .str t → late.length + t.length ≤ 100000) ∧
  match d with
  | .str t => ∀ H', DiskAt A H' a laid (late ++ takeS t pw) (left t pw) → Ex [a] H H' → if stops t pw = true then E (.ref A.Stopped) none H' else Q .non H'
  | _ => E (.ref A.NoText) none H
def spSync (A : Ad) : Sp := fun vs H Q _ => ∃ a laid late pw, (vs = [.ref a] ∧ DiskAt A H a laid late pw ∧ laid.length + late.length ≤ 100000) ∧ ∀ H', DiskAt A H' a (laid ++ late) "" pw → Ex [a] H H' → Q .non H'
def spCut (K : PySem.W.Frag) (A : Ad) : Sp := fun vs H Q E => ∃ a v d laid late pw, (vs = [.ref a, v] ∧ Rep K H v d ∧ DiskAt A H a laid late pw ∧ laid.length + late.length ≤ 100000) ∧
  if within d 0 late.length = true then ∀ n, d = .int (n : Nat) → ∀ H', DiskAt A H' a (laid ++ takeS late (some n)) "" none → Ex [a] H H' → Q .non H' else E (.ref A.NoNumber) none H
def spPower (K : PySem.W.Frag) (A : Ad) : Sp := fun vs H Q E => ∃ a v d laid late pw, (vs = [.ref a, v] ∧ Rep K H v d ∧ DiskAt A H a laid late pw) ∧
  match d with
  | .non => ∀ H', DiskAt A H' a laid late none → Ex [a] H H' → Q .non H'
  | d => if within d 0 1000000 = true then ∀ n, d = .int (n : Nat) → ∀ H', DiskAt A H' a laid late (some n) → Ex [a] H H' → Q .non H' else E (.ref A.NoNumber) none H
def spTrim (K : PySem.W.Frag) (A : Ad) : Sp := fun vs H Q E => ∃ a v d laid late pw, (vs = [.ref a, v] ∧ Rep K H v d ∧ DiskAt A H a laid late pw ∧ laid.length + late.length ≤ 100000) ∧
  if within d 0 (laid.length + late.length : Nat) = true then ∀ n, d = .int (n : Nat) → ∀ H', DiskAt A H' a (takeS (laid ++ late) (some n)) "" pw → Ex [a] H H' → Q .non H' else E (.ref A.NoNumber) none H
def spLying (A : Ad) : Sp := fun vs H Q _ => ∃ a laid late pw, (vs = [.ref a] ∧ DiskAt A H a laid late pw) ∧ Q (.str laid) H
def spWaiting (A : Ad) : Sp := fun vs H Q _ => ∃ a laid late pw, (vs = [.ref a] ∧ DiskAt A H a laid late pw) ∧ Q (.str late) H
def spCopy (A : Ad) : Sp := fun vs H Q _ => ∃ a laid late pw, (vs = [.ref a] ∧ DiskAt A H a laid late pw) ∧ ∀ b H', DiskAt A H' b laid "" none → Ex [] H H' → H b = none → Q (.ref b) H'
theorem within_int {d : Dt} {hi : Int} (h : within d 0 hi = true) : ∃ n : Nat, d = .int n ∧ (n : Int) ≤ hi := by
  cases d with
  | int i =>
    have h' : (decide (0 ≤ i) && decide (i ≤ hi)) = true := h
    rw [Bool.and_eq_true] at h'
    have h1 := of_decide_eq_true h'.1
    exact ⟨i.toNat, by rw [Int.toNat_of_nonneg h1], by rw [Int.toNat_of_nonneg h1]; exact of_decide_eq_true h'.2⟩
  | _ => exact nomatch h
section
variable {P : Program} {w : World} {K : PySem.W.Frag} {mg : Str → Option Value} {base : Heap} {A : Ad}
theorem ok_Disk_append {f : Addr} {fd : FuncData} (F : Fun K "append" "Disk.append" s_Disk_append f fd) (T : Txt K mg A)  : FnOk P w K mg base (L2.CX P w) 1 f fd ["self", "text"] (spAppend K A) := by
  refine F.okX sc_Disk_append (fun vs H Q E h => ?_) (fun cdv Ar outer s H vs Q E hr h => ?_)
  · obtain ⟨a, v, d, laid, late, pw, ⟨rfl, _⟩, _⟩ := h
    rfl
  · obtain ⟨a, v, d, laid, late, pw, ⟨rfl, r, ⟨hl1, hl2, dx, ha⟩, hz⟩, k⟩ := h
    refine ⟨_, (pss_cons (ps_if (pt_not (pt_val (pe_callB (cIs (K := K) rfl) (by rfl) T.b_isinstance bt_isinstance (pa_cons (pv 1) (pa_cons (pe_bltn (v := .ty "str") (by rfl) T.b_str bt_str rfl) pa_nil))))) (pss_one (ps_raise rfl (takes_of rfl rfl rfl rfl) (pmk0 T.e_NoText (by rfl)))) pss_nil) (pss_cons (ps_set (i := 2) sc_Disk_append.nd rfl (Or.inl rfl) (pe_callB (cLen (K := K) rfl) (by rfl) T.b_len bt_len (pa_cons (pv 1) pa_nil))) (pss_cons (ps_if (pt_cmpR op_notN (pe_fldA T.k_Disk T.n_Disk_own_left (pv 0) rfl) pe_non (nomark _)) (pss_cons (ps_set (i := 2) sc_Disk_append.nd rfl (Or.inl rfl) (pe_callB (call_min2 rfl) (by rfl) T.b_min bt_min (pa_cons (pv 2) (pa_cons (pe_fldA T.k_Disk T.n_Disk_own_left (pv 0) rfl) pa_nil)))) (pss_one (ps_fldaugA T.k_Disk T.n_Disk_own_left (pv 0) (pv 2) inSub))) pss_nil) (pss_cons (ps_fldaugA T.k_Disk T.n_Disk_late (pv 0) (pe_slice (slG (K := K) rfl) (pv 1) po_none (po_some (pv 2))) inAdd) (pss_one (ps_if (pt_cmpR oLt (pv 2) (pe_callB (cLen (K := K) rfl) (by rfl) T.b_len bt_len (pa_cons (pv 1) pa_nil)) (nomark _)) (pss_one (ps_raise rfl (takes_of rfl rfl rfl rfl) (pmk0 T.e_Stopped (by rfl)))) pss_nil)))))), ?_⟩
    walk_at "nm"
    have r0 := r
    cases r with
    | str t ht =>
      have hz' := hz t rfl
      have k' : ∀ H', DiskAt A H' a laid (late ++ takeS t pw) (left t pw) → Ex [a] H H' → if stops t pw = true then E (.ref A.Stopped) none H' else Q .non H' := k
      clear k
      cases pw with
      | none =>
        walk_at "rd"
        rw [cutS_take, takeS_all t (Nat.le_refl _)]
        have z1 : late.length + t.length ≤ sizeLine := by walk_at "sz"
        walk_at "rd"
        intro H4 g4 e4
        walk_at "rd"
        rw [decide_eq_false (Int.lt_irrefl _)]
        exact k' H4 ⟨hl1, by show (late ++ t).length ≤ _; rw [strapp_len]; exact hz', _, g4⟩ e4
      | some n =>
        walk_at "rd"
        intro H4 g4 e4
        obtain ⟨m, hm, hm2⟩ : ∃ m : Nat, (if (n : Int) < (t.length : Int) then (n : Int) else (t.length : Int)) = (m : Int) ∧ m = min n t.length := by
          by_cases c : n < t.length
          · exact ⟨n, if_pos (by omega), by omega⟩
          · exact ⟨t.length, if_neg (by omega), by omega⟩
        rw [hm] at g4 ⊢
        walk_at "rd"
        rw [cutS_take]
        have hm3 : takeS t (some m) = takeS t (some n) := by
          by_cases c : n < t.length
          · rw [show m = n by omega]
          · rw [takeS_all t (by omega : t.length ≤ m), takeS_all t (by omega : t.length ≤ n)]
        rw [hm3]
        have z0 := takeS_len t (some n)
        have z1 : late.length + (takeS t (some n)).length ≤ sizeLine := by walk_at "sz"
        walk_at "rd"
        intro H5 g5 e5
        walk_at "rd"
        have g6 : (n : Int) - (m : Int) = ((n - t.length : Nat) : Int) := by omega
        rw [g6] at g5
        have := k' H5 ⟨hl1, by rw [strapp_len]; omega, _, g5⟩ (by walk_at "ex")
        have c0 : stops t (some n) = decide ((m : Int) < (t.length : Int)) := by
          show decide (n < t.length) = _
          exact decide_eq_decide.mpr ⟨fun z => by omega, fun z => by omega⟩
        rw [c0] at this
        exact this
    | _ => walk_at "rd"; exact k
theorem ok_Disk_sync {f : Addr} {fd : FuncData} (F : Fun K "sync" "Disk.sync" s_Disk_sync f fd) (T : Txt K mg A)  : FnOk P w K mg base CX0 1 f fd ["self"] (spSync A) := by
  refine F.ok sc_Disk_sync (fun vs H Q E h => ?_) (fun cdv Ar outer s H vs Q E hr h => ?_)
  · obtain ⟨a, laid, late, pw, ⟨rfl, _⟩, _⟩ := h
    rfl
  · obtain ⟨a, laid, late, pw, ⟨rfl, ⟨hl1, hl2, dx, ha⟩, hz⟩, k⟩ := h
    refine ⟨_, (pss_cons (ps_fldaugA T.k_Disk T.n_Disk_laid (pv 0) (pe_fldA T.k_Disk T.n_Disk_late (pv 0) rfl) inAdd) (pss_one (ps_fldA T.k_Disk T.n_Disk_late (pv 0) pe_str rfl))), ?_⟩
    walk_at "nm"
    have z1 : laid.length + late.length ≤ sizeLine := by walk_at "sz"
    walk_at "rdi"
    rename_i H1 h1 e1 H2 h2 e2
    exact k H2 ⟨by rw [strapp_len]; exact hz, by decide, _, h2⟩ (by walk_at "ex")
theorem ok_Disk_lying {f : Addr} {fd : FuncData} (F : Fun K "lying" "Disk.lying" s_Disk_lying f fd) (T : Txt K mg A)  : FnOk P w K mg base CX0 1 f fd ["self"] (spLying A) := by
  refine F.ok sc_Disk_lying (fun vs H Q E h => ?_) (fun cdv Ar outer s H vs Q E hr h => ?_)
  · obtain ⟨a, laid, late, pw, ⟨rfl, _⟩, _⟩ := h
    rfl
  · obtain ⟨a, laid, late, pw, ⟨rfl, ⟨hl1, hl2, dx, ha⟩⟩, k⟩ := h
    refine ⟨_, (pss_one (ps_ret (pe_fldA T.k_Disk T.n_Disk_laid (pv 0) rfl))), ?_⟩
    walk_at "nm"
    walk_at "rd"
    exact k
theorem ok_Disk_waiting {f : Addr} {fd : FuncData} (F : Fun K "waiting" "Disk.waiting" s_Disk_waiting f fd) (T : Txt K mg A)  : FnOk P w K mg base CX0 1 f fd ["self"] (spWaiting A) := by
  refine F.ok sc_Disk_waiting (fun vs H Q E h => ?_) (fun cdv Ar outer s H vs Q E hr h => ?_)
  · obtain ⟨a, laid, late, pw, ⟨rfl, _⟩, _⟩ := h
    rfl
  · obtain ⟨a, laid, late, pw, ⟨rfl, ⟨hl1, hl2, dx, ha⟩⟩, k⟩ := h
    refine ⟨_, (pss_one (ps_ret (pe_fldA T.k_Disk T.n_Disk_late (pv 0) rfl))), ?_⟩
    walk_at "nm"
    walk_at "rd"
    exact k
theorem ok_Disk_copy {f : Addr} {fd : FuncData} (F : Fun K "copy" "Disk.copy" s_Disk_copy f fd) (T : Txt K mg A) (K_Disk : Mkr P w K mg base CX0 1 "Disk" A.Disk (spInit A)) : FnOk P w K mg base CX0 3 f fd ["self"] (spCopy A) := by
  refine F.ok sc_Disk_copy (fun vs H Q E h => ?_) (fun cdv Ar outer s H vs Q E hr h => ?_)
  · obtain ⟨a, laid, late, pw, ⟨rfl, _⟩, _⟩ := h
    rfl
  · obtain ⟨a, laid, late, pw, ⟨rfl, ⟨hl1, hl2, dx, ha⟩⟩, k⟩ := h
    refine ⟨_, (pss_cons (ps_set (i := 1) sc_Disk_copy.nd rfl (Or.inl rfl) (pe_mkr0 K_Disk hr (by decide) (by rfl))) (pss_cons (ps_fldA T.k_Disk T.n_Disk_laid (pv 1) (pe_fldA T.k_Disk T.n_Disk_laid (pv 0) rfl) rfl) (pss_one (ps_ret (pv 1))))), ?_⟩
    walk_at "nm"
    intro x dx' H1 nx hx e1
    walk_at "rd"
    rintro H2 ⟨q1, q2, dy, hy⟩ e2
    have nxa : x ≠ a := fun z => by rw [z, ha] at nx; cases nx
    walk_at "rd"
    intro H3 h3 e3
    walk_at "rd"
    exact k x H3 ⟨hl1, by decide, _, h3⟩ (by walk_at "ex") nx
theorem ok_Disk_cut {f : Addr} {fd : FuncData} (F : Fun K "cut" "Disk.cut" s_Disk_cut f fd) (T : Txt K mg A) (C_check_number : ClX P w K mg base 3 "check_number" (spChk K A)) : FnOk P w K mg base (L2.CX P w) 4 f fd ["self", "kept"] (spCut K A) := by
  refine F.okX sc_Disk_cut (fun vs H Q E h => ?_) (fun cdv Ar outer s H vs Q E hr h => ?_)
  · obtain ⟨a, v, d, laid, late, pw, ⟨rfl, _⟩, _⟩ := h
    rfl
  · obtain ⟨a, v, d, laid, late, pw, ⟨rfl, r, ⟨hl1, hl2, dx, ha⟩, hz⟩, k⟩ := h
    refine ⟨_, (pss_cons (ps_expr (pe_clX C_check_number (takes_of rfl rfl rfl rfl) hr (by decide) (by rfl) (pa_cons (pv 1) (pa_cons (pe_callB (cLen (K := K) rfl) (by rfl) T.b_len bt_len (pa_cons (pe_fldA T.k_Disk T.n_Disk_late (pv 0) rfl) pa_nil)) pa_nil)))) (pss_cons (ps_fldaugA T.k_Disk T.n_Disk_laid (pv 0) (pe_slice (slG (K := K) rfl) (pe_fldA T.k_Disk T.n_Disk_late (pv 0) rfl) po_none (po_some (pv 1))) inAdd) (pss_cons (ps_fldA T.k_Disk T.n_Disk_late (pv 0) pe_str rfl) (pss_one (ps_fldA T.k_Disk T.n_Disk_own_left (pv 0) pe_non rfl))))), ?_⟩
    walk_at "nm"
    walk_at "rd"
    cases e : within d 0 late.length with
    | false =>
      rw [e, if_neg (by decide)] at k
      rw [if_neg (by decide)]
      exact k
    | true =>
      rw [e, if_pos rfl] at k
      rw [if_pos rfl]
      obtain ⟨n, rfl, hn⟩ := within_int e
      have k' := k n rfl
      cases r
      walk_at "rd"
      rw [cutS_take]
      have z0 := takeS_len late (some n)
      have z1 : laid.length + (takeS late (some n)).length ≤ sizeLine := by walk_at "sz"
      walk_at "rdi"
      rename_i H1 h1 e1 H2 h2 e2 H3 h3 e3
      exact k' H3 ⟨by rw [strapp_len]; omega, by decide, _, h3⟩ (by walk_at "ex")
theorem ok_Disk_trim {f : Addr} {fd : FuncData} (F : Fun K "trim" "Disk.trim" s_Disk_trim f fd) (T : Txt K mg A) (C_check_number : ClX P w K mg base 3 "check_number" (spChk K A)) : FnOk P w K mg base (L2.CX P w) 4 f fd ["self", "many"] (spTrim K A) := by
  refine F.okX sc_Disk_trim (fun vs H Q E h => ?_) (fun cdv Ar outer s H vs Q E hr h => ?_)
  · obtain ⟨a, v, d, laid, late, pw, ⟨rfl, _⟩, _⟩ := h
    rfl
  · obtain ⟨a, v, d, laid, late, pw, ⟨rfl, r, ⟨hl1, hl2, dx, ha⟩, hz⟩, k⟩ := h
    refine ⟨_, (pss_cons (ps_expr (pe_clX C_check_number (takes_of rfl rfl rfl rfl) hr (by decide) (by rfl) (pa_cons (pv 1) (pa_cons (pe_op (oAdd (K := K) rfl) (pe_callB (cLen (K := K) rfl) (by rfl) T.b_len bt_len (pa_cons (pe_fldA T.k_Disk T.n_Disk_laid (pv 0) rfl) pa_nil)) (pe_callB (cLen (K := K) rfl) (by rfl) T.b_len bt_len (pa_cons (pe_fldA T.k_Disk T.n_Disk_late (pv 0) rfl) pa_nil))) pa_nil)))) (pss_cons (ps_fldA T.k_Disk T.n_Disk_laid (pv 0) (pe_slice (slG (K := K) rfl) (pe_op (oAdd (K := K) rfl) (pe_fldA T.k_Disk T.n_Disk_laid (pv 0) rfl) (pe_fldA T.k_Disk T.n_Disk_late (pv 0) rfl)) po_none (po_some (pv 1))) rfl) (pss_one (ps_fldA T.k_Disk T.n_Disk_late (pv 0) pe_str rfl)))), ?_⟩
    walk_at "nm"
    walk_at "rd"
    rw [show (laid.length : Int) + (late.length : Int) = ((laid.length + late.length : Nat) : Int) by omega]
    cases e : within d 0 (laid.length + late.length : Nat) with
    | false =>
      rw [e, if_neg (by decide)] at k
      rw [if_neg (by decide)]
      exact k
    | true =>
      rw [e, if_pos rfl] at k
      rw [if_pos rfl]
      obtain ⟨n, rfl, hn⟩ := within_int e
      have k' := k n rfl
      cases r
      have z1 : laid.length + late.length ≤ sizeLine := by walk_at "sz"
      have z2 : (laid ++ late).length ≤ sizeLine := by rw [strapp_len]; exact z1
      walk_at "rd"
      rw [cutS_take]
      have z0 := takeS_len (laid ++ late) (some n)
      rw [strapp_len] at z0
      walk_at "rdi"
      rename_i H1 h1 e1 H2 h2 e2
      exact k' H2 ⟨by omega, by decide, _, h2⟩ (by walk_at "ex")
theorem ok_Disk_power {f : Addr} {fd : FuncData} (F : Fun K "power" "Disk.power" s_Disk_power f fd) (T : Txt K mg A) (C_check_number : ClX P w K mg base 3 "check_number" (spChk K A)) : FnOk P w K mg base (L2.CX P w) 4 f fd ["self", "many"] (spPower K A) := by
  refine F.okX sc_Disk_power (fun vs H Q E h => ?_) (fun cdv Ar outer s H vs Q E hr h => ?_)
  · obtain ⟨a, v, d, laid, late, pw, ⟨rfl, _⟩, _⟩ := h
    rfl
  · obtain ⟨a, v, d, laid, late, pw, ⟨rfl, r, ⟨hl1, hl2, dx, ha⟩⟩, k⟩ := h
    refine ⟨_, (pss_cons (ps_if (pt_cmpR op_notN (pv 1) pe_non (nomark _)) (pss_one (ps_expr (pe_clX C_check_number (takes_of rfl rfl rfl rfl) hr (by decide) (by rfl) (pa_cons (pv 1) (pa_cons (C8.pe_gc (by rfl) T.c_MOST_POWER) pa_nil))))) pss_nil) (pss_one (ps_fldA T.k_Disk T.n_Disk_own_left (pv 0) (pv 1) rfl))), ?_⟩
    walk_at "nm"
    have r0 := r
    cases r with
    | non =>
      walk_at "rdi"
      rename_i H1 h1 e1
      exact k H1 ⟨hl1, hl2, _, h1⟩ e1
    | int i =>
      have kk : if within (.int i) 0 1000000 = true then ∀ n, Dt.int i = .int (n : Nat) → ∀ H', DiskAt A H' a laid late (some n) → Ex [a] H H' → Q .non H' else E (.ref A.NoNumber) none H := k
      clear k
      walk_at "rd"
      cases e : within (.int i) 0 1000000 with
      | false =>
        rw [e, if_neg (by decide)] at kk
        rw [if_neg (by decide)]
        exact kk
      | true =>
        rw [e, if_pos rfl] at kk
        rw [if_pos rfl]
        obtain ⟨n, hn, _⟩ := within_int e
        cases hn
        walk_at "rd"
        intro H1 h1 e1
        exact kk n rfl H1 ⟨hl1, hl2, _, h1⟩ e1
    | _ => walk_at "rd"; exact k
end
open PySem L2 LamX



-- @SP is_integer (spIsInt K)
-- @SP is_within (spWithin K)
-- @SP check_number (spChk K A)
-- @SP Disk.__init__ (spInit A)
-- @SP Disk.append (spAppend K A)
-- @SP Disk.sync (spSync A)
-- @SP Disk.cut (spCut K A)
-- @SP Disk.power (spPower K A)
-- @SP Disk.trim (spTrim K A)
-- @SP Disk.lying (spLying A)
-- @SP Disk.waiting (spWaiting A)
-- @SP Disk.copy (spCopy A)
-- @SP _law_flow (spFlow K)
-- @SP _law_draw spFDraw
-- @SP _law_some spFSome
-- @SP _law_text spText
-- @SP _law_appended (spAppended K)
-- @SP _law_numbered (spNumbered K)
-- @SP _law_done (spDone K A)
theorem bt_range : bootBuiltins "range" = some (.type "range") := by decide +kernel
def OwnAt (H : Hp) (b : Addr) (laid late : Str) (pw : Option Nat) : Prop := laid.length ≤ 100000 ∧ late.length ≤ 100000 ∧ H b = some (.dK [(.inr "laid", .str laid), (.inr "late", .str late), (.inr "power", powV pw)])
def spText : Sp := fun vs H Q _ => ∃ p c, (vs = [.ref p] ∧ FlowAt H p c) ∧ ∀ t H', t.length ≤ 31 → PyData.strOk t = true → FlowAt H' p c → Ex [p] H H' → Q (.str t) H'
def spAppended (K : PySem.W.Frag) : Sp := fun vs H Q _ => ∃ b v d laid late pw, (vs = [.ref b, v] ∧ Rep K H v d ∧ OwnAt H b laid late pw ∧ ∀ t, d = .str t → late.length + t.length ≤ 100000) ∧
  match d with
  | .str t => ∀ H', OwnAt H' b laid (late ++ takeS t pw) (left t pw) → Ex [b] H H' → Q (.str (if stops t pw then "stopped" else "let")) H'
  | _ => Q (.str "text") H
def natOf : Dt → Nat
  | .int i => i.toNat
  | _ => 0
/-- what a deed with a number does -/
def numRes (kind : Int) (d : Dt) (laid late : Str) (pw : Option Nat) : Option (Str × Str × Option Nat) :=
  if kind = 0 then if within d 0 late.length = true then some (laid ++ takeS late (some (natOf d)), "", none) else none
  else if kind = 1 then if within d 0 (laid.length + late.length : Nat) = true then some (takeS (laid ++ late) (some (natOf d)), "", pw) else none
  else match d with
    | .non => some (laid, late, none)
    | d => if within d 0 1000000 = true then some (laid, late, some (natOf d)) else none
def spDone (K : PySem.W.Frag) (A : Ad) : Sp := fun vs H Q E => ∃ a v d kind laid late pw, (vs = [.ref a, .int kind, v] ∧ Rep K H v d ∧ DiskAt A H a laid late pw ∧ laid.length + late.length ≤ 100000 ∧ 0 ≤ kind ∧ kind < 3) ∧
  match numRes kind d laid late pw with
  | some (l1, l2, p2) => ∀ H', DiskAt A H' a l1 l2 p2 → Ex [a] H H' → Q .non H'
  | none => E (.ref A.NoNumber) none H
def spNumbered (K : PySem.W.Frag) : Sp := fun vs H Q _ => ∃ b v d kind laid late pw, (vs = [.ref b, .int kind, v] ∧ Rep K H v d ∧ OwnAt H b laid late pw ∧ laid.length + late.length ≤ 100000 ∧ 0 ≤ kind ∧ kind < 3) ∧
  match numRes kind d laid late pw with
  | some (l1, l2, p2) => ∀ H', OwnAt H' b l1 l2 p2 → Ex [b] H H' → Q (.str "let") H'
  | none => ∀ H', Ex [] H H' → Q (.str "number") H'
theorem wtt {i lo hi : Int} (h1 : lo ≤ i) (h2 : i ≤ hi) : within (.int i) lo hi = true := by show (decide (lo ≤ i) && decide (i ≤ hi)) = true; rw [decide_eq_true h1, decide_eq_true h2]; rfl
theorem wff1 {i lo hi : Int} (h1 : i < lo) : within (.int i) lo hi = false := by show (decide (lo ≤ i) && decide (i ≤ hi)) = false; rw [decide_eq_false (by omega), Bool.false_and]
theorem wff2 {i lo hi : Int} (h1 : hi < i) : within (.int i) lo hi = false := by show (decide (lo ≤ i) && decide (i ≤ hi)) = false; rw [decide_eq_false (p := i ≤ hi) (by omega), Bool.and_false]
theorem signs_of : ∀ {acc : List V}, (∀ (j : Nat) (y : V), acc[j]? = some y → ∃ ch, y = .str ⟨#[ch]⟩ ∧ ch < 0x110000) → ∃ cs : List Nat, acc = (cs.map fun ch => (⟨#[ch]⟩ : Str)).map V.str ∧ cs.length = acc.length ∧ ∀ c ∈ cs, c < 0x110000
  | [], _ => ⟨[], rfl, rfl, fun _ h => nomatch h⟩
  | y :: r, h => by
    obtain ⟨ch, rfl, hc⟩ := h 0 y (by simp)
    obtain ⟨cs, e, hl, ho⟩ := signs_of (acc := r) fun j y hj => h (j + 1) y (by simpa using hj)
    exact ⟨ch :: cs, by rw [e]; rfl, by simp [hl], fun c hm => (List.mem_cons.mp hm).elim (fun z => z ▸ hc) (ho c)⟩
theorem strOk_of {cs : List Nat} (h : ∀ c ∈ cs, c < 0x110000) : PyData.strOk ⟨cs.toArray⟩ = true := by
  show (cs.toArray.all fun c => decide (c < 0x110000)) = true
  rw [List.all_toArray, List.all_eq_true]
  exact fun c hc => decide_eq_true (h c hc)
theorem of_strOk {z : Str} (h : PyData.strOk z = true) : ∀ c ∈ z.cps.toList, c < 0x110000 := by
  obtain ⟨⟨l⟩⟩ := z
  have h' : (l.toArray.all fun c => decide (c < 0x110000)) = true := h
  rw [List.all_toArray, List.all_eq_true] at h'
  exact fun c hc => of_decide_eq_true (h' c hc)
theorem strOk_app {a b : Str} (h : PyData.strOk a = true) (h' : PyData.strOk b = true) : PyData.strOk (a ++ b) = true := by
  have e : a ++ b = ⟨(a.cps.toList ++ b.cps.toList).toArray⟩ := by
    show (⟨a.cps ++ b.cps⟩ : Str) = _
    simp
  rw [e]
  exact strOk_of fun c hc => (List.mem_append.mp hc).elim (of_strOk h c) (of_strOk h' c)
theorem strOk_take {a : Str} (h : PyData.strOk a = true) : ∀ p, PyData.strOk (takeS a p) = true
  | none => h
  | some n => strOk_of fun c hc => of_strOk h c (List.mem_of_mem_take hc)
theorem signs_sum : ∀ cs : List Nat, ((cs.map fun ch => (⟨#[ch]⟩ : Str)).map (·.length)).sum = cs.length
  | [] => rfl
  | c :: cs => by
    have h := signs_sum cs
    simp only [List.map_cons, List.sum_cons, List.length_cons, h]
    show 1 + cs.length = _
    omega
theorem joinL_nil : ∀ l : List (List Nat), TL.joinL [] l = l.flatten
  | [] => rfl
  | [p] => by simp [TL.joinL]
  | p :: q :: r => by rw [TL.joinL, joinL_nil (q :: r)]; simp
theorem tl_inj {a b : Str} (h : TL.tl a = TL.tl b) : a = b := by
  obtain ⟨⟨a⟩⟩ := a
  obtain ⟨⟨b⟩⟩ := b
  have h' : a = b := h
  rw [h']
theorem join_signs (cs : List Nat) : Txt.join "" (cs.map fun ch => (⟨#[ch]⟩ : Str)) = ⟨cs.toArray⟩ := by
  apply tl_inj
  rw [TL.join_eq, TL.tl_join]
  have e : TL.tl ("" : Str) = [] := by decide +kernel
  rw [e, joinL_nil, List.map_map]
  show _ = cs
  induction cs with
  | nil => rfl
  | cons c cs ih => 
    rw [List.map_cons, List.flatten_cons, ih]
    rfl
theorem join_ok {cs : List Nat} (h : ∀ c ∈ cs, c < 0x110000) : PyData.strOk (Txt.join "" (cs.map fun ch => (⟨#[ch]⟩ : Str))) = true := by
  rw [join_signs]
  exact strOk_of h
section
variable {P : Program} {w : World} {K : PySem.W.Frag} {mg : Str → Option Value} {base : Heap} {A : Ad}
theorem ok_law_text {f : Addr} {fd : FuncData} (F : Fun K "_law_text" "_law_text" s_law_text f fd) (T : Txt K mg A) (C_law_draw : Cl P w K mg base 1 "_law_draw" spFDraw) : FnOk P w K mg base CX0 2 f fd ["flow"] spText := by
  refine F.ok sc_law_text (fun vs H Q E h => ?_) (fun cdv Ar outer s H vs Q E hr h => ?_)
  · obtain ⟨p, c, ⟨rfl, _⟩, _⟩ := h
    rfl
  · obtain ⟨p, c, ⟨rfl, hp⟩, k⟩ := h
    refine ⟨_, (pss_cons (ps_set (i := 1) sc_law_text.nd rfl (Or.inr rfl) pe_str) (pss_one (ps_ret (pe_join pe_str (pe_lc (own := [("sign", 2)]) (g := gName 2) (tt := tYes) rfl sc_law_text.nd (pi_range1 (by rfl) T.b_range (pa_cons (pe_cl C_law_draw hr (by decide) (by rfl) (pa_cons (pv 0) (pa_cons pe_int pa_nil))) pa_nil)) (blkOk_by (N := n_law_text) (sc := defScope s_law_text) (by decide +kernel)) (fun _ _ _ _ _ => (pg_name (i := 2) sc_law_text.nd rfl (Or.inl rfl))) (fun _ _ _ _ _ => pts_nil) (fun _ _ _ _ _ => (pe_ix (ixG (K := K) rfl) (pv 1) (pe_cl C_law_draw hr (by decide) (by rfl) (pa_cons (pv 0) (pa_cons (pe_callB (cLen (K := K) rfl) (by rfl) T.b_len bt_len (pa_cons (pv 1) pa_nil)) pa_nil))) (fun _ _ => rfl)))))))), ?_⟩
    walk_at "nm"
    walk_at "rd"
    intro r H1 hr0 hr1 hp1 e1
    obtain ⟨n, rfl⟩ : ∃ n : Nat, r = (n : Int) := ⟨r.toNat, by omega⟩
    have hs : (" !09azAZ~()\n" : Str).length = 12 := by decide +kernel
    walk_at "rd"
    intro D hD
    refine lc_it (walk_range (lo := 0) (n := ((n : Nat) : Int).toNat)) (LcP D [p] (fun H => FlowAt H p c) (fun _ y _ => ∃ ch, y = .str ⟨#[ch]⟩ ∧ ch < 0x110000) H1) (LcP.start hD hp1 fun H o h => h.oth' (hp1.ne hD) (hp1.nec hD)) (fun _ _ _ _ => trivial) ?_ ?_
    · rintro j y H3 H3' hj q ⟨rfl, rfl⟩
      have hp3 := q.p
      have z1 : (0 : Int) < ((" !09azAZ~()\n" : Str).length : Int) := by rw [hs]; decide
      have z2 : ((" !09azAZ~()\n" : Str).length : Int) < 1000000 := by rw [hs]; decide
      walk_at "rd"
      intro r H4 r0 r1 hp4 e4
      rw [hs] at r1
      obtain ⟨m, rfl⟩ : ∃ m : Nat, r = (m : Int) := ⟨r.toNat, by omega⟩
      have hm : m < (" !09azAZ~()\n" : Str).cps.toList.length := by
        show m < (" !09azAZ~()\n" : Str).cps.toList.length
        rw [Array.length_toList]
        have : (" !09azAZ~()\n" : Str).cps.size = 12 := hs
        omega
      have hat : atI (" !09azAZ~()\n" : Str).cps.toList (m : Int) = some ((" !09azAZ~()\n" : Str).cps.toList[m]) := atI_nat (List.getElem?_eq_getElem hm)
      have hch : ((" !09azAZ~()\n" : Str).cps.toList[m]) < 0x110000 := (by decide +kernel : ∀ c ∈ (" !09azAZ~()\n" : Str).cps.toList, c < 0x110000) _ (List.getElem_mem hm)
      generalize ((" !09azAZ~()\n" : Str).cps.toList[m]) = ch at hat hch
      have z3 : (" !09azAZ~()\n" : Str).length ≤ sizeLine := by rw [hs]; decide
      walk_at "rd"
      exact q.step hD (fun _ _ _ _ _ _ h => h) (fun H o h => h.oth' (hp1.ne hD) (hp1.nec hD)) e4 ⟨hp1.ne hD, trivial⟩ hp4 ⟨ch, rfl, hch⟩ hj (by omega)
    · intro H3 q
      obtain ⟨e3, hp3, acc, h5, h6, h7⟩ := q
      obtain ⟨cs, hcs, hl, h7'⟩ := signs_of h7
      subst hcs
      refine ⟨_, _, _, rfl, rfl, .inl (SqL.of h5), ?_, ?_⟩
      · rw [signs_sum]
        have : ("" : Str).length = 0 := by decide +kernel
        rw [this, List.length_map]
        omega
      · refine k _ H3 ?_ (join_ok h7') hp3 (by walk_at "ex")
        rw [join_signs]
        show cs.toArray.size ≤ 31
        rw [List.size_toArray]
        rw [List.length_map, List.length_map] at h6
        omega
theorem ok_law_appended {f : Addr} {fd : FuncData} (F : Fun K "_law_appended" "_law_appended" s_law_appended f fd) (T : Txt K mg A)  : FnOk P w K mg base CX0 1 f fd ["own", "text"] (spAppended K) := by
  refine F.ok sc_law_appended (fun vs H Q E h => ?_) (fun cdv Ar outer s H vs Q E hr h => ?_)
  · obtain ⟨b, v, d, laid, late, pw, ⟨rfl, _⟩, _⟩ := h
    rfl
  · obtain ⟨b, v, d, laid, late, pw, ⟨rfl, r, ⟨hl1, hl2, hb⟩, hz⟩, k⟩ := h
    refine ⟨_, (pss_cons (ps_if (pt_not (pt_val (pe_callB (cIs (K := K) rfl) (by rfl) T.b_isinstance bt_isinstance (pa_cons (pv 1) (pa_cons (pe_bltn (v := .ty "str") (by rfl) T.b_str bt_str rfl) pa_nil))))) (pss_one (ps_ret pe_str)) pss_nil) (pss_cons (ps_set (i := 2) sc_law_appended.nd rfl (Or.inl rfl) (pe_ifExp (pt_cmpR op_isN (pe_dgA (hu_of hr) (pv 0) pe_str (fun _ _ => rfl)) pe_non (nomark _)) (pv 1) (pe_slice (slG (K := K) rfl) (pv 1) po_none (po_some (pe_dgA (hu_of hr) (pv 0) pe_str (fun _ _ => rfl)))))) (pss_cons (ps_asg (pe_op (oAdd (K := K) rfl) (pe_dgA (hu_of hr) (pv 0) pe_str (fun _ _ => rfl)) (pv 2)) (pg_sub (pv 0) pe_str (setS (hu_of hr)))) (pss_cons (ps_if (pt_cmpR op_notN (pe_dgA (hu_of hr) (pv 0) pe_str (fun _ _ => rfl)) pe_non (nomark _)) (pss_one (ps_asg (pe_op oSub (pe_dgA (hu_of hr) (pv 0) pe_str (fun _ _ => rfl)) (pe_callB (cLen (K := K) rfl) (by rfl) T.b_len bt_len (pa_cons (pv 2) pa_nil))) (pg_sub (pv 0) pe_str (setS (hu_of hr))))) pss_nil) (pss_one (ps_ret (pe_ifExp (pt_cmpR op_eq (pv 2) (pv 1) (nomark _)) pe_str pe_str))))))), ?_⟩
    walk_at "nm"
    have r0 := r
    cases r with
    | str t ht =>
      have hz' := hz t rfl
      have k' : ∀ H', OwnAt H' b laid (late ++ takeS t pw) (left t pw) → Ex [b] H H' → Q (.str (if stops t pw then "stopped" else "let")) H' := k
      clear k
      cases pw with
      | none =>
        have z1 : late.length + t.length ≤ sizeLine := by walk_at "sz"
        walk_at "rd"
        intro H4 g4 e4
        walk_at "rd"
        rw [decide_eq_true rfl]
        exact k' H4 ⟨hl1, by show (late ++ t).length ≤ _; rw [strapp_len]; exact hz', g4⟩ e4
      | some n =>
        walk_at "rd"
        rw [cutS_take]
        have z0 := takeS_len t (some n)
        have z1 : late.length + (takeS t (some n)).length ≤ sizeLine := by walk_at "sz"
        walk_at "rd"
        intro H4 g4 e4
        have z2 := takeS_len2 t n
        have z3 : (takeS t (some n)).length ≤ sizeLine := by show _ ≤ 16777216; omega
        walk_at "rd"
        intro H5 g5 e5
        walk_at "rd"
        have g6 : (n : Int) - ((takeS t (some n)).length : Int) = ((n - t.length : Nat) : Int) := by omega
        rw [g6] at g5
        have := k' H5 ⟨hl1, by rw [strapp_len]; omega, g5⟩ (by walk_at "ex")
        have c0 : decide (V.str (takeS t (some n)) = V.str t) = !stops t (some n) := by
          show _ = !decide (n < t.length)
          by_cases c : n < t.length
          · rw [decide_eq_true c]
            refine decide_eq_false fun z => ?_
            rw [V.str.injEq] at z
            rw [z] at z2
            omega
          · rw [decide_eq_false c, takeS_all t (by omega)]
            exact decide_eq_true rfl
        rw [c0]
        cases hst : stops t (some n) <;> (rw [hst] at this; exact this)
    | _ => walk_at "rd"; exact k
theorem ok_law_done {f : Addr} {fd : FuncData} (F : Fun K "_law_done" "_law_done" s_law_done f fd) (T : Txt K mg A) (M_Disk_cut : Mt P w K mg base (L2.CX P w) 4 A.Disk "cut" (spCut K A)) (M_Disk_power : Mt P w K mg base (L2.CX P w) 4 A.Disk "power" (spPower K A)) (M_Disk_trim : Mt P w K mg base (L2.CX P w) 4 A.Disk "trim" (spTrim K A)) : FnOk P w K mg base (L2.CX P w) 5 f fd ["disk", "kind", "number"] (spDone K A) := by
  refine F.okX sc_law_done (fun vs H Q E h => ?_) (fun cdv Ar outer s H vs Q E hr h => ?_)
  · obtain ⟨a, v, d, kind, laid, late, pw, ⟨rfl, _⟩, _⟩ := h
    rfl
  · obtain ⟨a, v, d, kind, laid, late, pw, ⟨rfl, r, ⟨hl1, hl2, dx, ha⟩, hz, k0, k3⟩, k⟩ := h
    refine ⟨_, (pss_one (ps_if (pt_cmpR op_eq (pv 1) pe_int (nomark _)) (pss_one (ps_expr (pe_mtX M_Disk_cut T.k_Disk (takes_of rfl rfl rfl rfl) (pv 0) hr (by decide) (pa_cons (pv 2) pa_nil)))) (pss_one (ps_if (pt_cmpR op_eq (pv 1) pe_int (nomark _)) (pss_one (ps_expr (pe_mtX M_Disk_trim T.k_Disk (takes_of rfl rfl rfl rfl) (pv 0) hr (by decide) (pa_cons (pv 2) pa_nil)))) (pss_one (ps_expr (pe_mtX M_Disk_power T.k_Disk (takes_of rfl rfl rfl rfl) (pv 0) hr (by decide) (pa_cons (pv 2) pa_nil)))))))), ?_⟩
    walk_at "nm"
    have hd : DiskAt A H a laid late pw := ⟨hl1, hl2, dx, ha⟩
    obtain rfl | rfl | rfl : kind = 0 ∨ kind = 1 ∨ kind = 2 := by omega
    · have k' : match (if within d 0 late.length = true then some (laid ++ takeS late (some (natOf d)), "", none) else none : Option (Str × Str × Option Nat)) with
        | some (l1, l2, p2) => ∀ H', DiskAt A H' a l1 l2 p2 → Ex [a] H H' → Q .non H'
        | none => E (.ref A.NoNumber) none H := k
      clear k
      walk_at "rd"
      cases e : within d 0 late.length with
      | false =>
        rw [e] at k'
        rw [if_neg (by decide)]
        exact k'
      | true =>
        rw [e] at k'
        rw [if_pos rfl]
        rintro n rfl H1 h1 e1
        exact k' H1 h1 e1
    · have k' : match (if within d 0 (laid.length + late.length : Nat) = true then some (takeS (laid ++ late) (some (natOf d)), "", pw) else none : Option (Str × Str × Option Nat)) with
        | some (l1, l2, p2) => ∀ H', DiskAt A H' a l1 l2 p2 → Ex [a] H H' → Q .non H'
        | none => E (.ref A.NoNumber) none H := k
      clear k
      walk_at "rd"
      cases e : within d 0 (laid.length + late.length : Nat) with
      | false =>
        rw [e] at k'
        rw [if_neg (by decide)]
        exact k'
      | true =>
        rw [e] at k'
        rw [if_pos rfl]
        rintro n rfl H1 h1 e1
        exact k' H1 h1 e1
    · walk_at "rd"
      cases d with
      | non => exact k
      | int i =>
        have k' : match (if within (.int i) 0 1000000 = true then some (laid, late, some (natOf (.int i))) else none : Option (Str × Str × Option Nat)) with
          | some (l1, l2, p2) => ∀ H', DiskAt A H' a l1 l2 p2 → Ex [a] H H' → Q .non H'
          | none => E (.ref A.NoNumber) none H := k
        show if within (.int i) 0 1000000 = true then _ else _
        cases e : within (.int i) 0 1000000 with
        | false =>
          rw [e] at k'
          exact k'
        | true =>
          rw [e] at k'
          rw [if_pos rfl]
          intro n hn
          cases hn
          intro H1 h1 e1
          exact k' H1 h1 e1
      | _ => exact k
theorem ok_law_numbered {f : Addr} {fd : FuncData} (F : Fun K "_law_numbered" "_law_numbered" s_law_numbered f fd) (T : Txt K mg A)  : FnOk P w K mg base CX0 1 f fd ["own", "kind", "number"] (spNumbered K) := by
  refine F.ok sc_law_numbered (fun vs H Q E h => ?_) (fun cdv Ar outer s H vs Q E hr h => ?_)
  · obtain ⟨b, v, d, kind, laid, late, pw, ⟨rfl, _⟩, _⟩ := h
    rfl
  · obtain ⟨b, v, d, kind, laid, late, pw, ⟨rfl, r, ⟨hl1, hl2, hb⟩, hz, k0, k3⟩, k⟩ := h
    refine ⟨_, (pss_cons (ps_set (i := 3) sc_law_numbered.nd rfl (Or.inl rfl) (pe_op (oAdd (K := K) rfl) (pe_dgA (hu_of hr) (pv 0) pe_str (fun _ _ => rfl)) (pe_dgA (hu_of hr) (pv 0) pe_str (fun _ _ => rfl)))) (pss_cons (ps_set (i := 4) sc_law_numbered.nd rfl (Or.inl rfl) (pe_ix (ixG (K := K) rfl) (peLst (pa_cons (pe_callB (cLen (K := K) rfl) (by rfl) T.b_len bt_len (pa_cons (pe_dgA (hu_of hr) (pv 0) pe_str (fun _ _ => rfl)) pa_nil)) (pa_cons (pe_callB (cLen (K := K) rfl) (by rfl) T.b_len bt_len (pa_cons (pv 3) pa_nil)) (pa_cons (pe_op oPow pe_int pe_int) pa_nil)))) (pv 1) (fun _ _ => rfl))) (pss_cons (ps_if (PW.pt (pw_and (pt_cmpR op_eq (pv 1) pe_int (nomark _)) (pw_and1 (pt_cmpR op_isN (pv 2) pe_non (nomark _))))) (pss_cons (ps_asg pe_non (pg_sub (pv 0) pe_str (setS (hu_of hr)))) (pss_one (ps_ret pe_str))) pss_nil) (pss_cons (ps_if (PW.pt (pw_or (pt_not (pt_val (pe_callB (cIs (K := K) rfl) (by rfl) T.b_isinstance bt_isinstance (pa_cons (pv 2) (pa_cons (pe_bltn (v := .ty "int") (by rfl) T.b_int bt_int rfl) pa_nil))))) (pw_or (pt_val (pe_callB (cIs (K := K) rfl) (by rfl) T.b_isinstance bt_isinstance (pa_cons (pv 2) (pa_cons (pe_bltn (v := .ty "bool") (by rfl) T.b_bool bt_bool rfl) pa_nil)))) (pw_or1 (pt_not (pt_chain oLe oLe pe_int (pv 2) (pv 4))))))) (pss_one (ps_ret pe_str)) pss_nil) (pss_cons (ps_if (pt_cmpR op_eq (pv 1) pe_int (nomark _)) (pss_cons (ps_asg (pv 2) (pg_sub (pv 0) pe_str (setS (hu_of hr)))) (pss_one (ps_ret pe_str))) pss_nil) (pss_cons (ps_if (pt_cmpR op_eq (pv 1) pe_int (nomark _)) (pss_one (ps_asg (peTup (pa_cons (pe_op (oAdd (K := K) rfl) (pe_dgA (hu_of hr) (pv 0) pe_str (fun _ _ => rfl)) (pe_slice (slG (K := K) rfl) (pe_dgA (hu_of hr) (pv 0) pe_str (fun _ _ => rfl)) po_none (po_some (pv 2)))) (pa_cons pe_non pa_nil))) (pg_tup (by rfl) (pgs_cons (pg_sub (pv 0) pe_str (setS (hu_of hr))) (pgs_cons (pg_sub (pv 0) pe_str (setS (hu_of hr))) pgs_nil))))) (pss_one (ps_asg (pe_slice (slG (K := K) rfl) (pv 3) po_none (po_some (pv 2))) (pg_sub (pv 0) pe_str (setS (hu_of hr)))))) (pss_cons (ps_asg pe_str (pg_sub (pv 0) pe_str (setS (hu_of hr)))) (pss_one (ps_ret pe_str))))))))), ?_⟩
    walk_at "nm"
    have kn : numRes kind d laid late pw = none → ∀ H', Ex [] H H' → Q (.str "number") H' := fun e => by rw [e] at k; exact k
    have ks : ∀ l1 l2 p2, numRes kind d laid late pw = some (l1, l2, p2) → ∀ H', OwnAt H' b l1 l2 p2 → Ex [b] H H' → Q (.str "let") H' := fun l1 l2 p2 e => by rw [e] at k; exact k
    clear k
    have z1 : laid.length + late.length ≤ sizeLine := by walk_at "sz"
    have z2 : (laid ++ late).length = laid.length + late.length := strapp_len _ _
    have z3 : (laid ++ late).length ≤ sizeLine := by rw [z2]; exact z1
    walk_at "rd"
    intro q1 H1 n1 h1 e1
    rw [z2] at h1
    have hb1 : H1 b = _ := e1.get0 hb
    obtain rfl | rfl | rfl : kind = 0 ∨ kind = 1 ∨ kind = 2 := by omega
    · have r0 := r
      cases r with
      | int i =>
        walk_at "rd"
        refine @ite2 _ _ _ _ (fun c1 => ?_) (fun c1 => ?_)
        · replace c1 : 0 ≤ i := of_decide_eq_true c1
          walk_at "rd"
          refine @ite2 _ _ _ _ (fun c2 => ?_) (fun c2 => ?_); rotate_left
          · replace c2 : i ≤ ((late.length : Nat) : Int) := by simpa using c2
            obtain ⟨m, rfl⟩ : ∃ m : Nat, i = (m : Int) := ⟨i.toNat, by omega⟩
            have hw : within (.int (m : Int)) 0 late.length = true := wtt c1 c2
            have z4 := takeS_len late (some m)
            walk_at "rd"
            rw [cutS_take]
            have z5 : laid.length + (takeS late (some m)).length ≤ sizeLine := by walk_at "sz"
            walk_at "rdi"
            rename_i H5 g5 f5 H6 g6 f6 H7 g7 f7 H8 g8 f8
            refine ks _ _ _ (by unfold numRes; rw [if_pos rfl, hw, if_pos rfl]) H8 ⟨by show (laid ++ takeS late (some m)).length ≤ _; rw [strapp_len]; omega, by decide, g8⟩ (by walk_at "ex")
          · have hw : within (.int i) 0 late.length = false := wff2 (by simpa using c2)
            walk_at "rd"
            exact kn (by unfold numRes; rw [if_pos rfl, hw]; rfl) _ e1
        · have hw : within (.int i) 0 late.length = false := wff1 (by simpa using c1)
          walk_at "rd"
          exact kn (by unfold numRes; rw [if_pos rfl, hw]; rfl) _ e1
      | _ => 
        walk_at "rd"
        exact kn rfl _ e1
    · have r0 := r
      cases r with
      | int i =>
        walk_at "rd"
        refine @ite2 _ _ _ _ (fun c1 => ?_) (fun c1 => ?_)
        · replace c1 : 0 ≤ i := of_decide_eq_true c1
          walk_at "rd"
          refine @ite2 _ _ _ _ (fun c2 => ?_) (fun c2 => ?_); rotate_left
          · replace c2 : i ≤ ((laid.length + late.length : Nat) : Int) := by simpa using c2
            obtain ⟨m, rfl⟩ : ∃ m : Nat, i = (m : Int) := ⟨i.toNat, by omega⟩
            have hw : within (.int (m : Int)) 0 (laid.length + late.length : Nat) = true := wtt c1 c2
            have z4 := takeS_len (laid ++ late) (some m)
            walk_at "rd"
            rw [cutS_take]
            walk_at "rdi"
            rename_i H5 g5 f5 H6 g6 f6
            refine ks _ _ _ (by unfold numRes; rw [if_neg (by decide), if_pos rfl, hw, if_pos rfl]; rfl) H6 ⟨by show (takeS (laid ++ late) (some m)).length ≤ _; omega, by decide, g6⟩ (by walk_at "ex")
          · have hw : within (.int i) 0 (laid.length + late.length : Nat) = false := wff2 (by simpa using c2)
            walk_at "rd"
            exact kn (by unfold numRes; rw [if_neg (by decide), if_pos rfl, hw]; rfl) _ e1
        · have hw : within (.int i) 0 (laid.length + late.length : Nat) = false := wff1 (by simpa using c1)
          walk_at "rd"
          exact kn (by unfold numRes; rw [if_neg (by decide), if_pos rfl, hw]; rfl) _ e1
      | _ => 
        walk_at "rd"
        exact kn rfl _ e1
    · have r0 := r
      cases r with
      | non =>
        walk_at "rdi"
        rename_i H5 g5 f5
        exact ks _ _ _ rfl H5 ⟨hl1, hl2, g5⟩ (by walk_at "ex")
      | int i =>
        walk_at "rd"
        refine @ite2 _ _ _ _ (fun c1 => ?_) (fun c1 => ?_)
        · replace c1 : 0 ≤ i := of_decide_eq_true c1
          walk_at "rd"
          refine @ite2 _ _ _ _ (fun c2 => ?_) (fun c2 => ?_); rotate_left
          · replace c2 : i ≤ (10 : Int) ^ 6 := by simpa using c2
            obtain ⟨m, rfl⟩ : ∃ m : Nat, i = (m : Int) := ⟨i.toNat, by omega⟩
            have hw : within (.int (m : Int)) 0 1000000 = true := wtt c1 c2
            walk_at "rdi"
            rename_i H5 g5 f5
            have ho : OwnAt H5 b laid late (some m) := ⟨hl1, hl2, g5⟩
            exact ks _ _ _ (by unfold numRes; rw [if_neg (by decide), if_neg (by decide)]; show (if within (.int (m : Int)) 0 1000000 = true then some (laid, late, some (m : Int).toNat) else none) = some (laid, late, some m); rw [hw, if_pos rfl]; rfl) H5 ho (by walk_at "ex")
          · have hw : within (.int i) 0 1000000 = false := wff2 (by simpa using c2)
            walk_at "rd"
            exact kn (by unfold numRes; rw [if_neg (by decide), if_neg (by decide)]; show (if within (.int i) 0 1000000 = true then _ else _) = _; rw [hw]; rfl) _ e1
        · have hw : within (.int i) 0 1000000 = false := wff1 (by simpa using c1)
          walk_at "rd"
          exact kn (by unfold numRes; rw [if_neg (by decide), if_neg (by decide)]; show (if within (.int i) 0 1000000 = true then _ else _) = _; rw [hw]; rfl) _ e1
      | _ => 
        walk_at "rd"
        exact kn rfl _ e1
end
open PySem L2 LamX



-- @SP is_integer (spIsInt K)
-- @SP is_within (spWithin K)
-- @SP check_number (spChk K A)
-- @SP Disk.__init__ (spInit A)
-- @SP Disk.append (spAppend K A)
-- @SP Disk.sync (spSync A)
-- @SP Disk.cut (spCut K A)
-- @SP Disk.power (spPower K A)
-- @SP Disk.trim (spTrim K A)
-- @SP Disk.lying (spLying A)
-- @SP Disk.waiting (spWaiting A)
-- @SP Disk.copy (spCopy A)
-- @SP _law_flow (spFlow K)
-- @SP _law_draw spFDraw
-- @SP _law_some spFSome
-- @SP _law_text spText
-- @SP _law_appended (spAppended K)
-- @SP _law_numbered (spNumbered K)
-- @SP _law_done (spDone K A)
abbrev tabs36 (Pt : Addr) : List (Addr × Str) := [(Pt, "_law_deed" ++ ".<locals>." ++ "<lambda>")]
structure W2 (A : Ad) (Pt : Addr) (H : Hp) (p c a b : Addr) (laid late : Str) (pw : Option Nat) (laid2 late2 : Str) (pw2 : Option Nat) : Prop where
  f : FlowAt H p c
  d : DiskAt A H a laid late pw
  o : OwnAt H b laid2 late2 pw2
  t : Tabs (tabs36 Pt) H
abbrev Wld (A : Ad) (Pt : Addr) (H : Hp) (p c a b : Addr) (laid late : Str) (pw : Option Nat) : Prop := W2 A Pt H p c a b laid late pw laid late pw
def OkS (a b : Str) : Prop := PyData.strOk a = true ∧ PyData.strOk b = true
def spDeed (A : Ad) (Pt : Addr) : Sp := fun vs H Q _ => ∃ p c a b laid late pw, (vs = [.ref p, .ref a, .ref b] ∧ Wld A Pt H p c a b laid late pw ∧ laid.length + late.length ≤ 90000 ∧ OkS laid late) ∧
  ∀ laid' late' pw' H', Wld A Pt H' p c a b laid' late' pw' → OkS laid' late' → laid'.length + late'.length ≤ laid.length + late.length + 31 → Q (.bl true) H'
theorem ne_kind {H : Hp} {x y : Addr} {o o' : HO} (h : H x = some o) (h' : H y = some o') (n : norm o ≠ norm o') : x ≠ y := fun z => by
  subst z
  rw [h] at h'
  cases h'
  exact n rfl
theorem DiskAt.ex {A : Ad} {H H' : Hp} {M : List Addr} {a : Addr} {laid late : Str} {pw : Option Nat} (h : DiskAt A H a laid late pw) (e : Ex M H H') (n : Nin a M) : DiskAt A H' a laid late pw := by
  obtain ⟨h1, h2, dx, h3⟩ := h
  exact ⟨h1, h2, dx, e.get h3 n⟩
theorem OwnAt.ex {H H' : Hp} {M : List Addr} {a : Addr} {laid late : Str} {pw : Option Nat} (h : OwnAt H a laid late pw) (e : Ex M H H') (n : Nin a M) : OwnAt H' a laid late pw := by
  obtain ⟨h1, h2, h3⟩ := h
  exact ⟨h1, h2, e.get h3 n⟩
/-- no table, no code object -/
def Plain (H : Hp) (m : Addr) : Prop := ∃ o, H m = some o ∧ (∀ ps, o ≠ .tbl ps) ∧ ∀ φ, o ≠ .ext φ
theorem Tabs.exM {T : List (Addr × Str)} {H H' : Hp} {m : Addr} (t : Tabs T H) (e : Ex [m] H H') (n : Plain H m) : Tabs T H' := by
  obtain ⟨o, hm, n1, n2⟩ := n
  intro q hq
  obtain ⟨ps, h1, h2, h3⟩ := t q hq
  refine ⟨ps, e.get h1 ⟨fun z => ?_, trivial⟩, h2, fun pos cv hc => ?_⟩
  · rw [z, hm] at h1
    exact n1 ps (Option.some.inj h1)
  · obtain ⟨c, e1, e2⟩ := h3 pos cv hc
    refine ⟨c, e1, e.get e2 ⟨fun z => ?_, trivial⟩⟩
    rw [z, hm] at e2
    exact n2 _ (Option.some.inj e2)
theorem Tabs.ex0 {T : List (Addr × Str)} {H H' : Hp} (t : Tabs T H) (e : Ex [] H H') : Tabs T H' := fun q hq => by
  obtain ⟨ps, h1, h2, h3⟩ := t q hq
  exact ⟨ps, e.get0 h1, h2, fun pos cv hc => let ⟨c, e1, e2⟩ := h3 pos cv hc; ⟨c, e1, e.get0 e2⟩⟩
section
variable {A : Ad} {Pt : Addr} {H H' : Hp} {p c a b : Addr} {laid late laid2 late2 l1 l2 : Str} {pw pw2 p2 : Option Nat}
theorem W2.ne (h : W2 A Pt H p c a b laid late pw laid2 late2 pw2) : a ≠ p ∧ b ≠ p ∧ a ≠ b ∧ a ≠ c ∧ b ≠ c ∧ Plain H p ∧ Plain H a ∧ Plain H b := by
  obtain ⟨⟨cells, i, s, r, h1, h2, _⟩, ⟨_, _, dx, h3⟩, ⟨_, _, h4⟩, _⟩ := h
  refine ⟨ne_kind h3 h1 (by simp [norm]), ne_kind h4 h1 (by simp [norm]), ne_kind h3 h4 (by simp [norm]), ne_kind h3 h2 (by simp [norm]), ne_kind h4 h2 (by simp [norm]), ⟨_, h1, ?_, ?_⟩, ⟨_, h3, ?_, ?_⟩, ⟨_, h4, ?_, ?_⟩⟩ <;> intro _ z <;> cases z
theorem W2.draw (h : W2 A Pt H p c a b laid late pw laid2 late2 pw2) (e : Ex [p] H H') (hf : FlowAt H' p c) : W2 A Pt H' p c a b laid late pw laid2 late2 pw2 := by
  obtain ⟨n1, n2, n3, n4, n5, p1, p2, p3⟩ := h.ne
  exact ⟨hf, h.d.ex e ⟨n1, trivial⟩, h.o.ex e ⟨n2, trivial⟩, Tabs.exM h.t e p1⟩
theorem W2.disk (h : W2 A Pt H p c a b laid late pw laid2 late2 pw2) (e : Ex [a] H H') (hd : DiskAt A H' a l1 l2 p2) : W2 A Pt H' p c a b l1 l2 p2 laid2 late2 pw2 := by
  obtain ⟨n1, n2, n3, n4, n5, p1, p2, p3⟩ := h.ne
  exact ⟨h.f.ex e ⟨n1.symm, trivial⟩ ⟨n4.symm, trivial⟩, hd, h.o.ex e ⟨n3.symm, trivial⟩, Tabs.exM h.t e p2⟩
theorem W2.own (h : W2 A Pt H p c a b laid late pw laid2 late2 pw2) (e : Ex [b] H H') (ho : OwnAt H' b l1 l2 p2) : W2 A Pt H' p c a b laid late pw l1 l2 p2 := by
  obtain ⟨n1, n2, n3, n4, n5, p1, p2, p3⟩ := h.ne
  exact ⟨h.f.ex e ⟨n2.symm, trivial⟩ ⟨n5.symm, trivial⟩, h.d.ex e ⟨n3, trivial⟩, ho, Tabs.exM h.t e p3⟩
theorem W2.ex0 (h : W2 A Pt H p c a b laid late pw laid2 late2 pw2) (e : Ex [] H H') : W2 A Pt H' p c a b laid late pw laid2 late2 pw2 := ⟨h.f.ex0 e, h.d.ex e trivial, h.o.ex e trivial, Tabs.ex0 h.t e⟩
/-- behind a step that leaves all but tables -/
theorem W2.extN (h : W2 A Pt H p c a b laid late pw laid2 late2 pw2) (e : ExtN H H') (t : Tabs (tabs36 Pt) H') : W2 A Pt H' p c a b laid late pw laid2 late2 pw2 := by
  obtain ⟨⟨cells, i, s, r, h1, h2, h5⟩, ⟨q1, q2, dx, h3⟩, ⟨q3, q4, h4⟩, _⟩ := h
  exact ⟨⟨cells, i, s, r, e _ _ h1 (fun _ z => nomatch z), e _ _ h2 (fun _ z => nomatch z), h5⟩, ⟨q1, q2, dx, e _ _ h3 (fun _ z => nomatch z)⟩, ⟨q3, q4, e _ _ h4 (fun _ z => nomatch z)⟩, t⟩
end
theorem ExtN.sqT {K : PySem.W.Frag} {H H' : Hp} {a : Addr} {xs : List V} (e : ExtN H H') (h : SqT K H a xs) : SqT K H' a xs := by
  rcases h with (h | ⟨o, h⟩) | h
  · exact .inl (.inl (e _ _ h fun _ z => nomatch z))
  · exact .inl (.inr ⟨o, e _ _ h fun _ z => nomatch z⟩)
  · exact .inr h
theorem ExtN.oth {H H' : Hp} {a : Addr} (e : ExtN H H') (h : Oth H a) : Oth H' a := by
  rcases h with ⟨xs, h⟩ | ⟨kvs, h⟩
  · exact .inl ⟨xs, e _ _ h fun _ z => nomatch z⟩
  · exact .inr ⟨kvs, e _ _ h fun _ z => nomatch z⟩
mutual
theorem repN {K : PySem.W.Frag} {H H' : Hp} (e : ExtN H H') : ∀ {v : V} {d : Dt}, Rep K H v d → Rep K H' v d
  | _, _, .non => .non
  | _, _, .bl b => .bl b
  | _, _, .int i => .int i
  | _, _, .str x h => .str x h
  | _, _, .tup h hl => .tup (ExtN.sqT e h) (repLN e hl)
  | _, _, .oth h => .oth (ExtN.oth e h)
theorem repLN {K : PySem.W.Frag} {H H' : Hp} (e : ExtN H H') : ∀ {vs : List V} {l : List Dt}, RepL K H vs l → RepL K H' vs l
  | _, _, .nil => .nil
  | _, _, .cons h hl => .cons (repN e h) (repLN e hl)
end
section
variable {P : Program} {w : World} {K : PySem.W.Frag} {mg : Str → Option Value} {base : Heap} {A : Ad}
theorem numRes_len {kd : Int} {d : Dt} {laid late l1 l2 : Str} {pw p2 : Option Nat} (h : numRes kd d laid late pw = some (l1, l2, p2)) : l1.length + l2.length ≤ laid.length + late.length := by
  have e0 : ("" : Str).length = 0 := by decide +kernel
  unfold numRes at h
  split at h
  · split at h
    · cases h
      have := takeS_len late (some (natOf d))
      rw [strapp_len, e0]
      omega
    · cases h
  · split at h
    · split at h
      · cases h
        have := takeS_len (laid ++ late) (some (natOf d))
        rw [strapp_len] at this
        rw [e0]
        omega
      · cases h
    · split at h
      · cases h
        omega
      · split at h
        · cases h
          omega
        · cases h
theorem numRes_ok {kd : Int} {d : Dt} {laid late l1 l2 : Str} {pw p2 : Option Nat} (hs : OkS laid late) (h : numRes kd d laid late pw = some (l1, l2, p2)) : OkS l1 l2 := by
  have e0 : PyData.strOk ("" : Str) = true := by decide +kernel
  unfold numRes at h
  split at h
  · split at h
    · cases h
      exact ⟨strOk_app hs.1 (strOk_take hs.2 _), e0⟩
    · cases h
  · split at h
    · split at h
      · cases h
        exact ⟨strOk_take (strOk_app hs.1 hs.2) _, e0⟩
      · cases h
    · split at h
      · cases h
        exact hs
      · split at h
        · cases h
          exact hs
        · cases h
theorem deed_text {Pt : Addr} {E0 : XK} {H : Hp} {Q : VK} {p c a b : Addr} {v : V} {d : Dt} {laid late : Str} {pw : Option Nat} {σ : L2.St}
    (hs : OkS laid late) (k : ∀ laid' late' pw' H', Wld A Pt H' p c a b laid' late' pw' → OkS laid' late' → laid'.length + late'.length ≤ laid.length + late.length + 31 → Q (.bl true) H') (hz : laid.length + late.length ≤ 90000) (hW : Wld A Pt H p c a b laid late pw) (rv : Rep K H v d)
    (hl : ∀ z, d = .str z → z.length ≤ 31) (ho : ∀ z, d = .str z → PyData.strOk z = true) (hs1 : σ[1]? = some (some (.ref a))) (hs2 : σ[2]? = some (some (.ref b))) (hs6 : σ[6]? = some (some v)) :
    tOp rEq (tLam (tabs36 Pt) (TWord K A) fun E => tMtW A.Disk "append" (spAppend K A) (fun cls d x H => E cls d H) (tVar 1) (tCons (tVar 6) tNil)) (tCl (spAppended K) E0 (tCons (tVar 2) (tCons (tVar 6) tNil))) σ H Q := by
  refine ⟨hW.t, fun H4 eN t4 => ?_⟩
  have hW4 := hW.extN eN t4
  have rv4 := repN eN rv
  have hd4 := hW4.d
  have hl4 : ∀ t, d = .str t → late.length + t.length ≤ 100000 := fun t e => by have := hl t e; omega
  dsimp only [TWord]
  obtain ⟨q1, q2, dx, hdx⟩ := id hd4
  refine ⟨_, hs1, a, dx, _, ⟨rfl, hdx, by walk_at "lkf"⟩, _, hs6, a, v, d, laid, late, pw, ⟨rfl, rv4, hd4, hl4⟩, ?_⟩
  cases d with
  | str t =>
    have fin : ∀ H5 s1, W2 A Pt H5 p c a b laid (late ++ takeS t pw) (left t pw) laid late pw → Rep K H5 v (.str t) → s1 = (if stops t pw = true then "stopped" else "let" : Str) →
        tCl (spAppended K) E0 (tCons (tVar 2) (tCons (tVar 6) tNil)) σ H5 fun y H2 => rEq (.str s1) y H2 Q := fun H5 s1 hw5 rv5 hs' => by
      refine ⟨_, hs2, _, hs6, b, v, .str t, laid, late, pw, ⟨rfl, rv5, hw5.o, hl4⟩, fun H6 ho6 e6 => ?_⟩
      rw [hs']
      refine ⟨rfl, ?_⟩
      rw [decide_eq_true rfl]
      have h1 := takeS_len t pw
      have h2 := hl t rfl
      exact k _ _ _ H6 (hw5.own e6 ho6) ⟨hs.1, strOk_app hs.2 (strOk_take (ho t rfl) pw)⟩ (by rw [strapp_len]; omega)
    intro H5 hd5 e5
    have hw5 := hW4.disk e5 hd5
    have rv5 := e5.rep rv4
    cases hst : stops t pw with
    | true =>
      rw [if_pos rfl]
      exact .inl ⟨rfl, fin H5 _ hw5 rv5 (by rw [hst]; rfl)⟩
    | false =>
      rw [if_neg (by decide)]
      exact ⟨_, rfl, fin H5 _ hw5 rv5 (by rw [hst]; rfl)⟩
  | _ =>
    refine .inr (.inl ⟨rfl, _, hs2, _, hs6, b, v, _, laid, late, pw, ⟨rfl, rv4, hW4.o, hl4⟩, ?_⟩)
    refine ⟨rfl, ?_⟩
    rw [decide_eq_true rfl]
    exact k _ _ _ H4 hW4 hs (by omega)
theorem deed_num {Pt : Addr} {E0 : XK} {H : Hp} {Q : VK} {p c a b : Addr} {v : V} {d : Dt} {kd : Int} {laid late : Str} {pw : Option Nat} {σ : L2.St}
    (hs : OkS laid late) (k : ∀ laid' late' pw' H', Wld A Pt H' p c a b laid' late' pw' → OkS laid' late' → laid'.length + late'.length ≤ laid.length + late.length + 31 → Q (.bl true) H') (hz : laid.length + late.length ≤ 100000) (hk : kd = 0 ∨ kd = 1 ∨ kd = 2) (hW : Wld A Pt H p c a b laid late pw) (rv : Rep K H v d)
    (hs1 : σ[1]? = some (some (.ref a))) (hs2 : σ[2]? = some (some (.ref b))) (hs4 : σ[4]? = some (some (.int kd))) (hs5 : σ[5]? = some (some v)) :
    tOp rEq (tLam (tabs36 Pt) (TWord K A) fun E => tClW (spDone K A) (fun cls d x H => E cls d H) (tCons (tVar 1) (tCons (tVar 4) (tCons (tVar 5) tNil)))) (tCl (spNumbered K) E0 (tCons (tVar 2) (tCons (tVar 4) (tCons (tVar 5) tNil)))) σ H Q := by
  refine ⟨hW.t, fun H4 eN t4 => ?_⟩
  have hW4 := hW.extN eN t4
  have rv4 := repN eN rv
  have k0 : 0 ≤ kd := by omega
  have k3 : kd < 3 := by omega
  dsimp only [TWord]
  refine ⟨_, hs1, _, hs4, _, hs5, a, v, d, kd, laid, late, pw, ⟨rfl, rv4, hW4.d, hz, k0, k3⟩, ?_⟩
  cases e : numRes kd d laid late pw with
  | none =>
    refine .inr (.inr ⟨rfl, _, hs2, _, hs4, _, hs5, b, v, d, kd, laid, late, pw, ⟨rfl, rv4, hW4.o, hz, k0, k3⟩, ?_⟩)
    rw [e]
    intro H5 e5
    refine ⟨rfl, ?_⟩
    rw [decide_eq_true rfl]
    exact k _ _ _ H5 (hW4.ex0 e5) hs (by omega)
  | some r =>
    obtain ⟨l1, l2, p2⟩ := r
    intro H5 hd5 e5
    have hw5 := hW4.disk e5 hd5
    refine ⟨_, rfl, _, hs2, _, hs4, _, hs5, b, v, d, kd, laid, late, pw, ⟨rfl, e5.rep rv4, hw5.o, hz, k0, k3⟩, ?_⟩
    rw [e]
    intro H6 ho6 e6
    refine ⟨rfl, ?_⟩
    rw [decide_eq_true rfl]
    exact k _ _ _ H6 (hw5.own e6 ho6) (numRes_ok hs e) (by have := numRes_len e; omega)
theorem ok_law_deed {f c0 Pt g : Addr} {fd fdW : FuncData} (F : FunC K "_law_deed" "_law_deed" s_law_deed f fd c0) (T : Txt K mg A) (FW : Fun K "_law_word" "_law_word" s_law_word g fdW) (mW : mg "_law_word" = some (.ref g)) (bW : Binds K fdW ["deed"] []) (TB : TabB base mg c0 Pt)
    (M_Disk_append : Mt P w K mg base (L2.CX P w) 1 A.Disk "append" (spAppend K A)) (M_Disk_sync : Mt P w K mg base CX0 1 A.Disk "sync" (spSync A)) (C_law_draw : Cl P w K mg base 1 "_law_draw" spFDraw) (C_law_some : Cl P w K mg base 2 "_law_some" spFSome) (C_law_text : Cl P w K mg base 2 "_law_text" spText) (C_law_appended : Cl P w K mg base 1 "_law_appended" (spAppended K)) (C_law_numbered : Cl P w K mg base 1 "_law_numbered" (spNumbered K)) (C_law_done : ClX P w K mg base 5 "_law_done" (spDone K A)) : FnOk P w K mg base CX0 12 f fd ["flow", "disk", "own"] (spDeed A Pt) := by
  refine F.ok sc_law_deed (fun vs H Q E h => ?_) (fun Ar outer s H vs Q E hr h => ?_)
  · obtain ⟨p, c, a, b, laid, late, pw, ⟨rfl, _⟩, _⟩ := h
    rfl
  · obtain ⟨p, c, a, b, laid, late, pw, ⟨rfl, hw, hz, hs⟩, k⟩ := h
    have hk : (P : Program) = P := rfl
    refine ⟨_, (pss_cons (ps_set (i := 4) sc_law_deed.nd rfl (Or.inr rfl) (pe_cl C_law_draw hr (by decide) (by rfl) (pa_cons (pv 0) (pa_cons pe_int pa_nil)))) (pss_cons (ps_if (pt_cmpR oLt (pv 4) pe_int (nomark _)) (pss_cons (ps_set (i := 6) sc_law_deed.nd rfl (Or.inr rfl) (pe_ifExp (pt_cmpR oGt (pe_cl C_law_draw hr (by decide) (by rfl) (pa_cons (pv 0) (pa_cons pe_int pa_nil))) pe_int (nomark _)) (pe_cl C_law_text hr (by decide) (by rfl) (pa_cons (pv 0) pa_nil)) (pe_cl C_law_some hr (by decide) (by rfl) (pa_cons (pv 0) (pa_cons (peLst (pa_cons pe_non (pa_cons pe_int (pa_cons (peLst pa_nil) (pa_cons (peTup (pa_cons pe_str pa_nil)) (pa_cons pe_bl pa_nil)))))) pa_nil))))) (pss_one (ps_ret (pe_cmpR op_eq (pe_lamF (k := 8) FW mW bW sc_law_word (by rfl) rfl (Or.inl rfl) (fun cdv => word_gives T) TB rfl (List.mem_singleton.mpr rfl) (fun p hp _ => by rw [List.mem_singleton.mp hp]) hr (by decide) (lamS_by (by show lamSB (defScope s_law_deed) _ = true; decide +kernel)) rfl (fun _ _ _ _ _ => rfl) (fun Ar outer s H E f c' hr => (pe_mtX M_Disk_append T.k_Disk (takes_of rfl rfl rfl rfl) (pv 1) hr (by decide) (pa_cons (pv 6) pa_nil)))) (pe_cl C_law_appended hr (by decide) (by rfl) (pa_cons (pv 2) (pa_cons (pv 6) pa_nil))) (nomark _))))) pss_nil) (pss_cons (ps_if (pt_cmpR op_eq (pv 4) pe_int (nomark _)) (pss_cons (ps_asg (peTup (pa_cons (pe_op (oAdd (K := K) rfl) (pe_dgA (hu_of hr) (pv 2) pe_str (fun _ _ => rfl)) (pe_dgA (hu_of hr) (pv 2) pe_str (fun _ _ => rfl))) (pa_cons pe_str pa_nil))) (pg_tup (by rfl) (pgs_cons (pg_sub (pv 2) pe_str (setS (hu_of hr))) (pgs_cons (pg_sub (pv 2) pe_str (setS (hu_of hr))) pgs_nil)))) (pss_one (ps_ret (pe_cmpR op_isN (pe_mt0 M_Disk_sync T.k_Disk (pv 1) hr (by decide)) pe_non (nomark _))))) pss_nil) (pss_cons (ps_aug (i := 4) sc_law_deed.nd rfl (Or.inr rfl) pe_int pSub) (pss_cons (ps_set (i := 3) sc_law_deed.nd rfl (Or.inl rfl) (pe_ix (ixG (K := K) rfl) (peLst (pa_cons (pe_callB (cLen (K := K) rfl) (by rfl) T.b_len bt_len (pa_cons (pe_dgA (hu_of hr) (pv 2) pe_str (fun _ _ => rfl)) pa_nil)) (pa_cons (pe_callB (cLen (K := K) rfl) (by rfl) T.b_len bt_len (pa_cons (pe_op (oAdd (K := K) rfl) (pe_dgA (hu_of hr) (pv 2) pe_str (fun _ _ => rfl)) (pe_dgA (hu_of hr) (pv 2) pe_str (fun _ _ => rfl))) pa_nil)) (pa_cons pe_int pa_nil)))) (pv 4) (fun _ _ => rfl))) (pss_cons (ps_set (i := 5) sc_law_deed.nd rfl (Or.inr rfl) (pe_cl C_law_draw hr (by decide) (by rfl) (pa_cons (pv 0) (pa_cons (pe_op (oAdd (K := K) rfl) (pv 3) pe_int) pa_nil)))) (pss_cons (ps_if (pt_cmpR op_eq (pe_cl C_law_draw hr (by decide) (by rfl) (pa_cons (pv 0) (pa_cons pe_int pa_nil))) pe_int (nomark _)) (pss_one (ps_set (i := 5) sc_law_deed.nd rfl (Or.inr rfl) (pe_cl C_law_some hr (by decide) (by rfl) (pa_cons (pv 0) (pa_cons (peLst (pa_cons (pe_op (oAdd (K := K) rfl) (pv 3) pe_int) (pa_cons (pe_op (oAdd (K := K) rfl) (pv 3) pe_int) (pa_cons pe_non (pa_cons pe_bl (pa_cons (pe_un oNeg pe_int) (pa_cons (pe_op oPow pe_int pe_int) (pa_cons (pe_op oPow pe_int pe_int) (pa_cons (pe_op (oAdd (K := K) rfl) (pe_op oPow pe_int pe_int) pe_int) (pa_cons pe_str (pa_cons (peTup (pa_cons pe_int pa_nil)) (pa_cons (peLst pa_nil) (pa_cons (pe_op oPow pe_int pe_int) pa_nil))))))))))))) pa_nil))))) pss_nil) (pss_one (ps_ret (pe_cmpR op_eq (pe_lamF (k := 8) FW mW bW sc_law_word (by rfl) rfl (Or.inl rfl) (fun cdv => word_gives T) TB rfl (List.mem_singleton.mpr rfl) (fun p hp _ => by rw [List.mem_singleton.mp hp]) hr (by decide) (lamS_by (by show lamSB (defScope s_law_deed) _ = true; decide +kernel)) rfl (fun _ _ _ _ _ => rfl) (fun Ar outer s H E f c' hr => (pe_clX C_law_done (takes_of rfl rfl rfl rfl) hr (by decide) (by rfl) (pa_cons (pv 1) (pa_cons (pv 4) (pa_cons (pv 5) pa_nil)))))) (pe_cl C_law_numbered hr (by decide) (by rfl) (pa_cons (pv 2) (pa_cons (pv 4) (pa_cons (pv 5) pa_nil)))) (nomark _))))))))))), ?_⟩
    walk_at "nm"
    have hf := hw.f
    walk_at "rd"
    intro r H1 hr0 hr1 hf1 e1
    have hw1 := hw.draw e1 hf1
    clear hw hf e1
    walk_at "rd"
    refine @ite2 _ _ _ _ (fun c1 => ?_) (fun c1 => ?_)
    · walk_at "rd"
      intro r2 H2 hr20 hr21 hf2 e2
      have hw2 := hw1.draw e2 hf2
      clear hw1 hf1 e2
      walk_at "rd"
      refine @ite2 _ _ _ _ (fun c2 => ?_) (fun c2 => ?_)
      · walk_at "rd"
        intro t H3 htl hto hf3 e3
        have hW : Wld A Pt H3 p c a b laid late pw := hw2.draw e3 hf3
        have rv : Rep K H3 (.str t) (.str t) := .str t (by omega)
        have hl : ∀ z, Dt.str t = .str z → z.length ≤ 31 := fun z e => by cases e; exact htl
        have ho : ∀ z, Dt.str t = .str z → PyData.strOk z = true := fun z e => by cases e; exact hto
        clear hw2 e3 hf3 hf2
        generalize V.str t = v at rv ⊢
        generalize Dt.str t = d at rv hl ho
        clear htl hto
        dsimp only [gName, tRet]
        exact deed_text hs k hz hW rv hl ho rfl rfl rfl
      · walk_at "rdi"
        rename_i q1 B1 n1 h1 e1 q2 B2 n2 h2 e2 q3 B3 n3 h3 e3 x H5 hx hf5 e5
        have hW : Wld A Pt H5 p c a b laid late pw := (((hw2.ex0 e1).ex0 e2).ex0 e3).draw e5 hf5
        obtain ⟨d, hd, rv⟩ := RepL.memOf (K := K) (H := H5) (l := [.non, .int 0, .oth, .tup [.str "a"], .bl true]) hx (by walk_at "repl")
        have hl : ∀ z, d = .str z → z.length ≤ 31 := fun z e => by
          subst e
          simp at hd
        have ho : ∀ z, d = .str z → PyData.strOk z = true := fun z e => by
          subst e
          simp at hd
        dsimp only [gName, tRet]
        exact deed_text hs k hz hW rv hl ho rfl rfl rfl
    · walk_at "rd"
      refine @ite2 _ _ _ _ (fun c2 => ?_) (fun c2 => ?_)
      · have hb := hw1.o.2.2
        have hd := hw1.d
        have z1 : laid.length + late.length ≤ sizeLine := by walk_at "sz"
        walk_at "rd"
        intro q1 B1 n1 h1 e1
        have hw2 := hw1.ex0 e1
        walk_at "rd"
        intro H3 g3 f3 
        walk_at "rd"
        intro H4 g4 f4
        have hw4 := (hw2.own f3 (l1 := laid ++ late) (l2 := late) (p2 := pw) ⟨by rw [strapp_len]; omega, hw1.o.2.1, g3⟩).own f4 (l1 := laid ++ late) (l2 := "") (p2 := pw) ⟨by rw [strapp_len]; omega, by decide, g4⟩
        have hd4 := hw4.d
        obtain ⟨_, _, dx, hdx⟩ := id hd4
        have e0 : ("" : Str).length = 0 := by decide +kernel
        have z5 : (laid ++ late).length + ("" : Str).length ≤ 100000 := by rw [strapp_len, e0]; omega
        walk_at "rd"
        intro H5 hd5 e5
        walk_at "rd"
        have hw5 := hw4.disk e5 hd5
        rw [decide_eq_true rfl]
        exact k _ _ _ H5 hw5 ⟨strOk_app hs.1 hs.2, by decide +kernel⟩ (by rw [strapp_len, e0]; omega)
      · have hb := hw1.o.2.2
        have hlen := hw1.o
        have z1 : laid.length + late.length ≤ sizeLine := by walk_at "sz"
        have z2 : (laid ++ late).length ≤ sizeLine := by rw [strapp_len]; exact z1
        have z3 : late.length ≤ sizeLine := by walk_at "sz"
        have c3 : r - 5 = 0 ∨ r - 5 = 1 ∨ r - 5 = 2 := by
          have h1 : ¬ r < 4 := fun z => c1 (decide_eq_true z)
          have h2 : ¬ r = 4 := fun z => c2 (decide_eq_true (by rw [z]))
          omega
        obtain ⟨m, hat, hm⟩ : ∃ m : Int, atI [V.int (late.length : Nat), V.int ((laid ++ late).length : Nat), V.int 60] (r - 5) = some (.int m) ∧ 0 ≤ m ∧ m ≤ 100000 := by
          rw [strapp_len]
          rcases c3 with e | e | e <;> rw [e]
          · exact ⟨_, rfl, by omega, by omega⟩
          · exact ⟨_, rfl, by omega, by omega⟩
          · exact ⟨_, rfl, by omega, by omega⟩
        obtain ⟨hm0, hm1⟩ := hm
        clear c1 c2 hr0 hr1
        walk_at "rd"
        intro q1 B1 n1 h1 e1
        have hw2 := hw1.ex0 e1
        have hf2 := hw2.f
        walk_at "rd"
        intro n H3 hn0 hn1 hf3 e3
        have hw3 := hw2.draw e3 hf3
        clear hw2 hf2
        walk_at "rd"
        intro r4 H4 hr40 hr41 hf4 e4
        have hw4 := hw3.draw e4 hf4
        clear hw3
        walk_at "rd"
        refine @ite2 _ _ _ _ (fun c4 => ?_) (fun c4 => ?_)
        · walk_at "rdi"
          rename_i q5 B5 n5 h5 e5 q6 B6 n6 h6 e6 q7 B7 n7 h7 e7 x H8 hx hf8 e8
          have hW : Wld A Pt H8 p c a b laid late pw := (((hw4.ex0 e5).ex0 e6).ex0 e7).draw e8 hf8
          obtain ⟨d, hd, rv⟩ := RepL.memOf (K := K) (H := H8) (l := [.int (m + 1), .int (m + 1), .non, .bl true, .int (-1), .int (10 ^ Int.toNat 6), .int (10 ^ Int.toNat 6), .int (10 ^ Int.toNat 6 + 1), .str "1", .tup [.int 1], .oth, .int (10 ^ Int.toNat 30)]) hx (by walk_at "repl")
          dsimp only [gName, tRet]
          exact deed_num hs k (by omega) c3 hW rv rfl rfl rfl rfl
        · dsimp only [tNext, tRet]
          exact deed_num hs k (by omega) c3 hw4 (.int n) rfl rfl rfl rfl
end
open PySem L2 LamX



-- @SP is_integer (spIsInt K)
-- @SP is_within (spWithin K)
-- @SP check_number (spChk K A)
-- @SP Disk.__init__ (spInit A)
-- @SP Disk.append (spAppend K A)
-- @SP Disk.sync (spSync A)
-- @SP Disk.cut (spCut K A)
-- @SP Disk.power (spPower K A)
-- @SP Disk.trim (spTrim K A)
-- @SP Disk.lying (spLying A)
-- @SP Disk.waiting (spWaiting A)
-- @SP Disk.copy (spCopy A)
-- @SP _law_flow (spFlow K)
-- @SP _law_draw spFDraw
-- @SP _law_deed (spDeed A Pt)
def spLaw (K : PySem.W.Frag) (Pt : Addr) : Sp := fun vs H Q _ => ∃ (a : Addr) (ns : List Int), (vs = [.ref a] ∧ SqL K H a (ns.map V.int) ∧ ns.length ≤ 63 ∧ H Pt = some (.tbl #[])) ∧ ∀ H', Q (.bl true) H'
-- @SP law (spLaw K Pt)
theorem sh2 {a b : Str} (h : OkS a b) : SeqAt.shaped (.list [.str a, .str b]) = true := by simp [SeqAt.shaped, PyData.canLay0, PyData.canLayAll0, PyData.depth, PyData.depthAll, h.1, h.2]
def own0 : List (Key × V) := [(Sum.inr "laid", V.str ""), (Sum.inr "late", V.str ""), (Sum.inr "power", powV none)]
section
variable {P : Program} {w : World} {K : PySem.W.Frag} {mg : Str → Option Value} {base : Heap} {A : Ad} {Pt : Addr}
theorem ok_law {f : Addr} {fd : FuncData} (F : Fun K "law" "law" s_law f fd) (T : Txt K mg A) (K_Disk : Mkr P w K mg base CX0 1 "Disk" A.Disk (spInit A)) (M_Disk_sync : Mt P w K mg base CX0 1 A.Disk "sync" (spSync A)) (M_Disk_lying : Mt P w K mg base CX0 1 A.Disk "lying" (spLying A)) (M_Disk_waiting : Mt P w K mg base CX0 1 A.Disk "waiting" (spWaiting A)) (M_Disk_copy : Mt P w K mg base CX0 3 A.Disk "copy" (spCopy A)) (C_law_flow : Cl P w K mg base 1 "_law_flow" (spFlow K)) (C_law_draw : Cl P w K mg base 1 "_law_draw" spFDraw) (C_law_deed : Cl P w K mg base 12 "_law_deed" (spDeed A Pt)) : FnOk P w K mg base CX0 13 f fd ["script"] (spLaw K Pt) := by
  refine F.ok sc_law (fun vs H Q E h => ?_) (fun cdv Ar outer s H vs Q E hr h => ?_)
  · obtain ⟨a, ns, ⟨rfl, _⟩, _⟩ := h
    rfl
  · obtain ⟨a, ns, ⟨rfl, ha, hn, hT⟩, k⟩ := h
    refine ⟨_, (pss_cons (ps_set (i := 1) sc_law.nd rfl (Or.inl rfl) (pe_cl C_law_flow hr (by decide) (by rfl) (pa_cons (pv 0) pa_nil))) (pss_cons (ps_par (i := 2) (j := 3) rfl sc_law.nd rfl rfl (by decide) rfl rfl (pa_cons (pe_mkr0 K_Disk hr (by decide) (by rfl)) (pa_cons (pe_disp (pps_cons pe_str pe_str (pps_cons pe_str pe_str (pps_cons pe_str pe_non pps_nil))) (by rfl) (by rfl) (fun z => by cases z) (by decide)) pa_nil)) (by rfl)) (pss_cons (ps_for PassesOwn.never rfl (pi_range1 (by rfl) T.b_range (pa_cons (pe_op (oAdd (K := K) rfl) pe_int (pe_cl C_law_draw hr (by decide) (by rfl) (pa_cons (pv 1) (pa_cons pe_int pa_nil)))) pa_nil)) (pg_name (i := 4) sc_law.nd rfl (Or.inl rfl)) (pss_cons (ps_if (PW.pt (pw_or (pt_not (pt_val (pe_cl C_law_deed hr (by decide) (by rfl) (pa_cons (pv 1) (pa_cons (pv 2) (pa_cons (pv 3) pa_nil)))))) (pw_or1 (pt_cmpR (oNeP (K := K) rfl hr.units) (peLst (pa_cons (pe_mt0 M_Disk_lying T.k_Disk (pv 2) hr (by decide)) (pa_cons (pe_mt0 M_Disk_waiting T.k_Disk (pv 2) hr (by decide)) pa_nil))) (peLst (pa_cons (pe_dgA (hu_of hr) (pv 3) pe_str (fun _ _ => rfl)) (pa_cons (pe_dgA (hu_of hr) (pv 3) pe_str (fun _ _ => rfl)) pa_nil))) (nomark _))))) (pss_one (ps_ret pe_bl)) pss_nil) (pss_one (ps_if (pt_cmpR op_eq (pe_cl C_law_draw hr (by decide) (by rfl) (pa_cons (pv 1) (pa_cons pe_int pa_nil))) pe_int (nomark _)) (pss_cons (ps_par (i := 5) (j := 2) rfl sc_law.nd rfl rfl (by decide) rfl rfl (pa_cons (pv 2) (pa_cons (pe_mt0 M_Disk_copy T.k_Disk (pv 2) hr (by decide)) pa_nil)) (by rfl)) (pss_cons (ps_expr (pe_mt0 M_Disk_sync T.k_Disk (pv 5) hr (by decide))) (pss_one (ps_asg (peTup (pa_cons pe_str (pa_cons pe_non pa_nil))) (pg_tup (by rfl) (pgs_cons (pg_sub (pv 3) pe_str (setS (hu_of hr))) (pgs_cons (pg_sub (pv 3) pe_str (setS (hu_of hr))) pgs_nil))))))) pss_nil)))) (pss_one (ps_ret (pe_cmpR (oEqP (K := K) rfl hr.units) (peLst (pa_cons (pe_mt0 M_Disk_lying T.k_Disk (pv 2) hr (by decide)) (pa_cons (pe_mt0 M_Disk_waiting T.k_Disk (pv 2) hr (by decide)) pa_nil))) (peLst (pa_cons (pe_dgA (hu_of hr) (pv 3) pe_str (fun _ _ => rfl)) (pa_cons (pe_dgA (hu_of hr) (pv 3) pe_str (fun _ _ => rfl)) pa_nil))) (nomark _))))))), ?_⟩
    walk_at "nm"
    walk_at "rd"
    intro p c H1 hf1 e1 np nc
    have ht1 : Tabs (tabs36 Pt) H1 := fun q hq => by
      rw [List.mem_singleton.mp hq]
      exact TabS.nil (e1.get0 hT)
    walk_at "rd"
    intro x dx H2 nx hx e2
    walk_at "rd"
    intro H3 hd3 e3
    walk_at "rd"
    have hf2 := hf1.ex0 e2
    obtain ⟨nxp, nxc⟩ := hf2.neO hx fun _ z => nomatch z
    have hf3 : FlowAt H3 p c := hf2.ex e3 ⟨nxp.symm, trivial⟩ ⟨nxc.symm, trivial⟩
    have ht3 : Tabs (tabs36 Pt) H3 := Tabs.exM (Tabs.ex0 ht1 e2) e3 ⟨_, hx, (fun _ z => nomatch z), fun _ z => nomatch z⟩
    clear hf1 ht1
    intro b hb
    have hmk : mergeK [] ([(Sum.inr "laid", V.str ""), (Sum.inr "late", V.str ""), (Sum.inr "power", V.non)] : List (Key × V)) = own0 := by decide +kernel
    walk_at "rd"
    rw [hmk]
    have ho4 : OwnAt (upd (upd H3 b (.dK [])) b (.dK own0)) b "" "" none := ⟨by decide, by decide, upd_same⟩
    have ex4 : Ex [] H3 (upd (upd H3 b (.dK [])) b (.dK own0)) := (Ex.new hb).put_new hb
    generalize upd (upd H3 b (.dK [])) b (.dK own0) = H4 at ho4 ex4 ⊢
    have hw4 : Wld A Pt H4 p c x b "" "" none := ⟨hf3.ex0 ex4, hd3.ex ex4 trivial, ho4, Tabs.ex0 ht3 ex4⟩
    have hf4 := hw4.f
    clear hf3 ht3 ho4 hd3 hb hmk
    walk_at "rd"
    intro n H5 hn0 hn1 hf5 e5
    have hw5 := hw4.draw e5 hf5
    clear hf4 hw4
    walk_at "rd"
    refine for_it (walk_range (lo := 0) (n := (10 + n).toNat)) (fun i σ H' => ∃ x l1 l2 pw o4 o5, σ = [some (.ref a), some (.ref p), some (.ref x), some (.ref b), o4, o5] ∧ Wld A Pt H' p c x b l1 l2 pw ∧ l1.length + l2.length ≤ 31 * i ∧ OkS l1 l2)
      ⟨x, "", "", none, none, none, rfl, hw5, by decide, by decide +kernel, by decide +kernel⟩ (fun _ _ _ _ _ => trivial) ?_ ?_
    · clear hw5 hf5 hx hf2 nxp nxc e2 e3 e5 ex4 e1
      rintro i y σ H6 H6' hi ⟨x, l1, l2, pw, o4, o5, rfl, hw, hz, hs0⟩ ⟨rfl, rfl⟩
      have hi' : i < 60 := by omega
      have hz1 : l1.length + l2.length ≤ 90000 := by omega
      walk_at "rd"
      intro m1 m2 pw2 H7 hw7 hs hz7
      have hz8 : m1.length + m2.length ≤ 31 * (i + 1) := by omega
      obtain ⟨_, _, dx, hdx⟩ := hw7.d
      have hd7 := hw7.d
      have hb7 := hw7.o.2.2
      walk_at "rd"
      intro q1 H8 n8 h8 e8
      have hb8 := e8.get0 hb7
      walk_at "rd"
      intro q2 H9 n9 h9 e9
      have d1 : Dp K H9 (.ref q1) (.list [.str m1, .str m2]) := .lst (SqL.of (e9.get0 h8)) (.cons (.str _) (.cons (.str _) .nil))
      have d2 : Dp K H9 (.ref q2) (.list [.str m1, .str m2]) := .lst (SqL.of h9) (.cons (.str _) (.cons (.str _) .nil))
      have sh : SeqAt.shaped (.list [.str m1, .str m2]) = true := sh2 hs
      walk_at "rd"
      rw [SeqAt.eqv_refl _ (SeqAt.canLay_of_shaped sh)]
      have hw9 := (hw7.ex0 e8).ex0 e9
      clear hw7 hd7 hb7 hb8 hdx d1 d2
      have hf9 := hw9.f
      walk_at "rd"
      intro r H10 hr0 hr1 hf10 e10
      have hw10 := hw9.draw e10 hf10
      clear hw9 hf9
      walk_at "rd"
      refine @ite2 _ _ _ _ (fun c1 => ?_) (fun c1 => ?_)
      · obtain ⟨_, _, dx2, hdx2⟩ := hw10.d
        have hd10 := hw10.d
        walk_at "rd"
        intro x2 H11 hd11 e11 nx2
        have hw11 := hw10.ex0 e11
        obtain ⟨_, _, dx3, hdx3⟩ := hw11.d
        have hd11' := hw11.d
        have nx12 : x2 ≠ x := fun z => by rw [z, hdx2] at nx2; cases nx2
        walk_at "rd"
        intro H12 hd12 e12
        have hw12 := hw11.disk e12 hd12
        have hd13 : DiskAt A H12 x2 m1 "" none := hd11.ex e12 ⟨nx12, trivial⟩
        have hb12 := hw12.o.2.2
        walk_at "rd"
        intro q3 H13 n13 h13 e13
        have hw13 := hw12.ex0 e13
        have hd14 := hd13.ex e13 trivial
        have hb13 := hw13.o.2.2
        obtain ⟨_, _, dx4, hdx4⟩ := id hd14
        have nb : x2 ≠ b := ne_kind hdx4 hb13 (by simp [norm])
        walk_at "rd"
        intro H14 g14 e14
        have hw14 := hw13.own e14 (l1 := m1) (l2 := "") (p2 := pw2) ⟨by omega, by decide, g14⟩
        walk_at "rd"
        intro H15 g15 e15
        have hw15 := hw14.own e15 (l1 := m1) (l2 := "") (p2 := none) ⟨by omega, by decide, g15⟩
        have e0 : ("" : Str).length = 0 := by decide +kernel
        exact ⟨rfl, x2, m1, "", none, _, _, rfl, ⟨hw15.f, (hd14.ex e14 ⟨nb, trivial⟩).ex e15 ⟨nb, trivial⟩, hw15.o, hw15.t⟩, by rw [e0]; omega, hs.1, by decide +kernel⟩
      · exact ⟨x, m1, m2, pw2, _, _, rfl, hw10, hz8, hs⟩
    · rintro σ H6 ⟨x, l1, l2, pw, o4, o5, rfl, hw7, hz, hs⟩
      obtain ⟨_, _, dx, hdx⟩ := hw7.d
      have hd7 := hw7.d
      have hb7 := hw7.o.2.2
      walk_at "rd"
      intro q1 H8 n8 h8 e8
      have hb8 := e8.get0 hb7
      walk_at "rd"
      intro q2 H9 n9 h9 e9
      have d1 : Dp K H9 (.ref q1) (.list [.str l1, .str l2]) := .lst (SqL.of (e9.get0 h8)) (.cons (.str _) (.cons (.str _) .nil))
      have d2 : Dp K H9 (.ref q2) (.list [.str l1, .str l2]) := .lst (SqL.of h9) (.cons (.str _) (.cons (.str _) .nil))
      have sh : SeqAt.shaped (.list [.str l1, .str l2]) = true := sh2 hs
      walk_at "rd"
      rw [SeqAt.eqv_refl _ (SeqAt.canLay_of_shaped sh)]
      exact k _
end
theorem all_mk {l : PySem.W.OpenLaw} {w : World} {K : PySem.W.Frag} {h : Heap} {mg : Str → Option Value} {fa : Addr} (X : K.In h) (G : h.Ns mainGlobals mg) (hfa : mg "law" = some (.ref fa))
    {C_Disk C_NoNumber C_NoText C_Stopped : Addr}
    {ct0 Pt0 : Addr}
    {od0 an0 od1 an1 od2 an2 od3 an3 od4 an4 od5 an5 od6 an6 od7 an7 od8 an8 od9 an9 od10 an10 od11 an11 od12 an12 od13 an13 od14 an14 od15 an15 od16 an16 od17 an17 od18 an18 od19 an19 od20 an20 od21 an21 : Option Addr}
    {sl0 sl1 sl2 sl3 sl4 sl5 sl6 sl7 sl8 sl9 sl10 sl11 sl12 sl13 sl14 sl15 sl16 sl17 sl18 sl19 sl20 sl21 : Array (Option Value)}
    {oc0 kV0 dc0 pm0 cd0 cv0 oc1 kV1 dc1 pm1 cd1 cv1 oc2 kV2 dc2 pm2 cd2 cv2 oc3 kV3 dc3 pm3 cd3 cv3 oc4 kV4 dc4 pm4 cd4 cv4 oc5 kV5 dc5 pm5 cd5 cv5 oc6 kV6 dc6 pm6 cd6 cv6 oc7 kV7 dc7 pm7 cd7 cv7 oc8 kV8 dc8 pm8 cd8 cv8 oc9 kV9 dc9 pm9 cd9 cv9 oc10 kV10 dc10 pm10 cd10 cv10 oc11 kV11 dc11 pm11 cd11 cv11 oc12 kV12 dc12 pm12 cd12 cv12 oc13 kV13 dc13 pm13 cd13 cv13 oc14 kV14 dc14 pm14 cd14 cv14 oc15 kV15 dc15 pm15 cd15 cv15 oc16 kV16 dc16 pm16 cd16 cv16 oc17 kV17 dc17 pm17 cd17 cv17 oc18 kV18 dc18 pm18 cd18 cv18 oc19 kV19 dc19 pm19 cd19 cv19 oc20 kV20 dc20 pm20  cv20 oc21 kV21 dc21 pm21 cd21 cv21 : Value}
    {f0 f1 f2 f3 f4 f5 f6 f7 f8 f9 f10 f11 f12 f13 f14 f15 f16 f17 f18 f19 f20 f21 : Addr}
    {occ0 : Value} {odc0 : Option Addr} {vsc0 : Array Value} {slc0 : Array (Option Value)}
    {tk_MOST_POWER : Tok}
    (g_Disk : PySem.W.nsIn K mainGlobals "Disk" = some (some (.ref C_Disk)))
    (g_NoNumber : PySem.W.nsIn K mainGlobals "NoNumber" = some (some (.ref C_NoNumber)))
    (g_NoText : PySem.W.nsIn K mainGlobals "NoText" = some (some (.ref C_NoText)))
    (g_Stopped : PySem.W.nsIn K mainGlobals "Stopped" = some (some (.ref C_Stopped)))
    (pg_Disk : PySem.W.plainGet K C_Disk Str.empty = true)
    (hd_Disk : PySem.W.hasDictIn K C_Disk = true)
    (po_Disk : PySem.W.plainOver K C_Disk = true)
    (sa_Disk : PySem.W.findIn K (.ref C_Disk) "__setattr__" = some (some (.builtin "object.__setattr__")))
    (mk_Disk : PySem.W.makesIn K C_Disk = true)
    (kc_Disk : PySem.W.keepIn K (.ref C_Disk) = true)
    (n_Disk_laid : PySem.W.findIn K (.ref C_Disk) "laid" = some none)
    (n_Disk_late : PySem.W.findIn K (.ref C_Disk) "late" = some none)
    (n_Disk_own_left : PySem.W.findIn K (.ref C_Disk) "own_left" = some none)
    (eq_NoNumber : PySem.W.excIn K C_NoNumber excBm "ValueError.__new__" = true)
    (ek_NoNumber : PySem.W.keepIn K (.ref C_NoNumber) = true)
    (eb_NoNumber : PySem.W.subIn K (.ref C_NoNumber) (.type "BaseException") = some true)
    (et_NoNumber : PySem.W.typeIn K (.ref C_NoNumber) = some (.type "type"))
    (eq_NoText : PySem.W.excIn K C_NoText excBm "ValueError.__new__" = true)
    (ek_NoText : PySem.W.keepIn K (.ref C_NoText) = true)
    (eb_NoText : PySem.W.subIn K (.ref C_NoText) (.type "BaseException") = some true)
    (et_NoText : PySem.W.typeIn K (.ref C_NoText) = some (.type "type"))
    (eq_Stopped : PySem.W.excIn K C_Stopped excBm "ValueError.__new__" = true)
    (ek_Stopped : PySem.W.keepIn K (.ref C_Stopped) = true)
    (eb_Stopped : PySem.W.subIn K (.ref C_Stopped) (.type "BaseException") = some true)
    (et_Stopped : PySem.W.typeIn K (.ref C_Stopped) = some (.type "type"))
    (x_NoNumber_NoNumber : PySem.W.exmOne K (.ref C_NoNumber) (.ref C_NoNumber) = some true)
    (x_NoNumber_NoText : PySem.W.exmOne K (.ref C_NoNumber) (.ref C_NoText) = some false)
    (x_NoNumber_Stopped : PySem.W.exmOne K (.ref C_NoNumber) (.ref C_Stopped) = some false)
    (x_NoText_NoNumber : PySem.W.exmOne K (.ref C_NoText) (.ref C_NoNumber) = some false)
    (x_NoText_NoText : PySem.W.exmOne K (.ref C_NoText) (.ref C_NoText) = some true)
    (x_NoText_Stopped : PySem.W.exmOne K (.ref C_NoText) (.ref C_Stopped) = some false)
    (x_Stopped_NoNumber : PySem.W.exmOne K (.ref C_Stopped) (.ref C_NoNumber) = some false)
    (x_Stopped_NoText : PySem.W.exmOne K (.ref C_Stopped) (.ref C_NoText) = some false)
    (x_Stopped_Stopped : PySem.W.exmOne K (.ref C_Stopped) (.ref C_Stopped) = some true)
    (a0 : PySem.W.nsIn K mainGlobals "is_integer" = some (some (.ref f0)))
    (l0 : K.lookup f0 = some ⟨oc0, od0, .func (PySem.W.fnOf "is_integer" "is_integer" (defArgs s_is_integer) (defBody s_is_integer) (defScope s_is_integer) .none kV0 dc0 pm0 an0 cd0 cv0), sl0⟩)
    (c0 : PySem.W.codeIn K cd0 "is_integer" = true)
    (k0 : PySem.W.keepIn K (.ref f0) = true)
    (a1 : PySem.W.nsIn K mainGlobals "is_within" = some (some (.ref f1)))
    (l1 : K.lookup f1 = some ⟨oc1, od1, .func (PySem.W.fnOf "is_within" "is_within" (defArgs s_is_within) (defBody s_is_within) (defScope s_is_within) .none kV1 dc1 pm1 an1 cd1 cv1), sl1⟩)
    (c1 : PySem.W.codeIn K cd1 "is_within" = true)
    (k1 : PySem.W.keepIn K (.ref f1) = true)
    (a2 : PySem.W.nsIn K mainGlobals "check_number" = some (some (.ref f2)))
    (l2 : K.lookup f2 = some ⟨oc2, od2, .func (PySem.W.fnOf "check_number" "check_number" (defArgs s_check_number) (defBody s_check_number) (defScope s_check_number) .none kV2 dc2 pm2 an2 cd2 cv2), sl2⟩)
    (c2 : PySem.W.codeIn K cd2 "check_number" = true)
    (k2 : PySem.W.keepIn K (.ref f2) = true)
    (a3 : PySem.W.findIn K (.ref C_Disk) "__init__" = some (some (.ref f3)))
    (i3 : PySem.W.isFn K (.ref f3) = true)
    (l3 : K.lookup f3 = some ⟨oc3, od3, .func (PySem.W.fnOf "__init__" "Disk.__init__" (defArgs s_Disk___init__) (defBody s_Disk___init__) (defScope s_Disk___init__) .none kV3 dc3 pm3 an3 cd3 cv3), sl3⟩)
    (c3 : PySem.W.codeIn K cd3 "Disk.__init__" = true)
    (k3 : PySem.W.keepIn K (.ref f3) = true)
    (a4 : PySem.W.findIn K (.ref C_Disk) "append" = some (some (.ref f4)))
    (i4 : PySem.W.isFn K (.ref f4) = true)
    (l4 : K.lookup f4 = some ⟨oc4, od4, .func (PySem.W.fnOf "append" "Disk.append" (defArgs s_Disk_append) (defBody s_Disk_append) (defScope s_Disk_append) .none kV4 dc4 pm4 an4 cd4 cv4), sl4⟩)
    (c4 : PySem.W.codeIn K cd4 "Disk.append" = true)
    (k4 : PySem.W.keepIn K (.ref f4) = true)
    (a5 : PySem.W.findIn K (.ref C_Disk) "sync" = some (some (.ref f5)))
    (i5 : PySem.W.isFn K (.ref f5) = true)
    (l5 : K.lookup f5 = some ⟨oc5, od5, .func (PySem.W.fnOf "sync" "Disk.sync" (defArgs s_Disk_sync) (defBody s_Disk_sync) (defScope s_Disk_sync) .none kV5 dc5 pm5 an5 cd5 cv5), sl5⟩)
    (c5 : PySem.W.codeIn K cd5 "Disk.sync" = true)
    (k5 : PySem.W.keepIn K (.ref f5) = true)
    (a6 : PySem.W.findIn K (.ref C_Disk) "cut" = some (some (.ref f6)))
    (i6 : PySem.W.isFn K (.ref f6) = true)
    (l6 : K.lookup f6 = some ⟨oc6, od6, .func (PySem.W.fnOf "cut" "Disk.cut" (defArgs s_Disk_cut) (defBody s_Disk_cut) (defScope s_Disk_cut) .none kV6 dc6 pm6 an6 cd6 cv6), sl6⟩)
    (c6 : PySem.W.codeIn K cd6 "Disk.cut" = true)
    (k6 : PySem.W.keepIn K (.ref f6) = true)
    (a7 : PySem.W.findIn K (.ref C_Disk) "power" = some (some (.ref f7)))
    (i7 : PySem.W.isFn K (.ref f7) = true)
    (l7 : K.lookup f7 = some ⟨oc7, od7, .func (PySem.W.fnOf "power" "Disk.power" (defArgs s_Disk_power) (defBody s_Disk_power) (defScope s_Disk_power) .none kV7 dc7 pm7 an7 cd7 cv7), sl7⟩)
    (c7 : PySem.W.codeIn K cd7 "Disk.power" = true)
    (k7 : PySem.W.keepIn K (.ref f7) = true)
    (a8 : PySem.W.findIn K (.ref C_Disk) "trim" = some (some (.ref f8)))
    (i8 : PySem.W.isFn K (.ref f8) = true)
    (l8 : K.lookup f8 = some ⟨oc8, od8, .func (PySem.W.fnOf "trim" "Disk.trim" (defArgs s_Disk_trim) (defBody s_Disk_trim) (defScope s_Disk_trim) .none kV8 dc8 pm8 an8 cd8 cv8), sl8⟩)
    (c8 : PySem.W.codeIn K cd8 "Disk.trim" = true)
    (k8 : PySem.W.keepIn K (.ref f8) = true)
    (a9 : PySem.W.findIn K (.ref C_Disk) "lying" = some (some (.ref f9)))
    (i9 : PySem.W.isFn K (.ref f9) = true)
    (l9 : K.lookup f9 = some ⟨oc9, od9, .func (PySem.W.fnOf "lying" "Disk.lying" (defArgs s_Disk_lying) (defBody s_Disk_lying) (defScope s_Disk_lying) .none kV9 dc9 pm9 an9 cd9 cv9), sl9⟩)
    (c9 : PySem.W.codeIn K cd9 "Disk.lying" = true)
    (k9 : PySem.W.keepIn K (.ref f9) = true)
    (a10 : PySem.W.findIn K (.ref C_Disk) "waiting" = some (some (.ref f10)))
    (i10 : PySem.W.isFn K (.ref f10) = true)
    (l10 : K.lookup f10 = some ⟨oc10, od10, .func (PySem.W.fnOf "waiting" "Disk.waiting" (defArgs s_Disk_waiting) (defBody s_Disk_waiting) (defScope s_Disk_waiting) .none kV10 dc10 pm10 an10 cd10 cv10), sl10⟩)
    (c10 : PySem.W.codeIn K cd10 "Disk.waiting" = true)
    (k10 : PySem.W.keepIn K (.ref f10) = true)
    (a11 : PySem.W.findIn K (.ref C_Disk) "copy" = some (some (.ref f11)))
    (i11 : PySem.W.isFn K (.ref f11) = true)
    (l11 : K.lookup f11 = some ⟨oc11, od11, .func (PySem.W.fnOf "copy" "Disk.copy" (defArgs s_Disk_copy) (defBody s_Disk_copy) (defScope s_Disk_copy) .none kV11 dc11 pm11 an11 cd11 cv11), sl11⟩)
    (c11 : PySem.W.codeIn K cd11 "Disk.copy" = true)
    (k11 : PySem.W.keepIn K (.ref f11) = true)
    (a12 : PySem.W.nsIn K mainGlobals "_law_flow" = some (some (.ref f12)))
    (l12 : K.lookup f12 = some ⟨oc12, od12, .func (PySem.W.fnOf "_law_flow" "_law_flow" (defArgs s_law_flow) (defBody s_law_flow) (defScope s_law_flow) .none kV12 dc12 pm12 an12 cd12 cv12), sl12⟩)
    (c12 : PySem.W.codeIn K cd12 "_law_flow" = true)
    (k12 : PySem.W.keepIn K (.ref f12) = true)
    (a13 : PySem.W.nsIn K mainGlobals "_law_draw" = some (some (.ref f13)))
    (l13 : K.lookup f13 = some ⟨oc13, od13, .func (PySem.W.fnOf "_law_draw" "_law_draw" (defArgs s_law_draw) (defBody s_law_draw) (defScope s_law_draw) .none kV13 dc13 pm13 an13 cd13 cv13), sl13⟩)
    (c13 : PySem.W.codeIn K cd13 "_law_draw" = true)
    (k13 : PySem.W.keepIn K (.ref f13) = true)
    (a14 : PySem.W.nsIn K mainGlobals "_law_some" = some (some (.ref f14)))
    (l14 : K.lookup f14 = some ⟨oc14, od14, .func (PySem.W.fnOf "_law_some" "_law_some" (defArgs s_law_some) (defBody s_law_some) (defScope s_law_some) .none kV14 dc14 pm14 an14 cd14 cv14), sl14⟩)
    (c14 : PySem.W.codeIn K cd14 "_law_some" = true)
    (k14 : PySem.W.keepIn K (.ref f14) = true)
    (a15 : PySem.W.nsIn K mainGlobals "_law_text" = some (some (.ref f15)))
    (l15 : K.lookup f15 = some ⟨oc15, od15, .func (PySem.W.fnOf "_law_text" "_law_text" (defArgs s_law_text) (defBody s_law_text) (defScope s_law_text) .none kV15 dc15 pm15 an15 cd15 cv15), sl15⟩)
    (c15 : PySem.W.codeIn K cd15 "_law_text" = true)
    (k15 : PySem.W.keepIn K (.ref f15) = true)
    (a16 : PySem.W.nsIn K mainGlobals "_law_word" = some (some (.ref f16)))
    (l16 : K.lookup f16 = some ⟨oc16, od16, .func (PySem.W.fnOf "_law_word" "_law_word" (defArgs s_law_word) (defBody s_law_word) (defScope s_law_word) .none kV16 dc16 pm16 an16 cd16 cv16), sl16⟩)
    (c16 : PySem.W.codeIn K cd16 "_law_word" = true)
    (k16 : PySem.W.keepIn K (.ref f16) = true)
    (a17 : PySem.W.nsIn K mainGlobals "_law_appended" = some (some (.ref f17)))
    (l17 : K.lookup f17 = some ⟨oc17, od17, .func (PySem.W.fnOf "_law_appended" "_law_appended" (defArgs s_law_appended) (defBody s_law_appended) (defScope s_law_appended) .none kV17 dc17 pm17 an17 cd17 cv17), sl17⟩)
    (c17 : PySem.W.codeIn K cd17 "_law_appended" = true)
    (k17 : PySem.W.keepIn K (.ref f17) = true)
    (a18 : PySem.W.nsIn K mainGlobals "_law_numbered" = some (some (.ref f18)))
    (l18 : K.lookup f18 = some ⟨oc18, od18, .func (PySem.W.fnOf "_law_numbered" "_law_numbered" (defArgs s_law_numbered) (defBody s_law_numbered) (defScope s_law_numbered) .none kV18 dc18 pm18 an18 cd18 cv18), sl18⟩)
    (c18 : PySem.W.codeIn K cd18 "_law_numbered" = true)
    (k18 : PySem.W.keepIn K (.ref f18) = true)
    (a19 : PySem.W.nsIn K mainGlobals "_law_done" = some (some (.ref f19)))
    (l19 : K.lookup f19 = some ⟨oc19, od19, .func (PySem.W.fnOf "_law_done" "_law_done" (defArgs s_law_done) (defBody s_law_done) (defScope s_law_done) .none kV19 dc19 pm19 an19 cd19 cv19), sl19⟩)
    (c19 : PySem.W.codeIn K cd19 "_law_done" = true)
    (k19 : PySem.W.keepIn K (.ref f19) = true)
    (a20 : PySem.W.nsIn K mainGlobals "_law_deed" = some (some (.ref f20)))
    (l20 : K.lookup f20 = some ⟨oc20, od20, .func (PySem.W.fnOf "_law_deed" "_law_deed" (defArgs s_law_deed) (defBody s_law_deed) (defScope s_law_deed) .none kV20 dc20 pm20 an20 (.ref ct0) cv20), sl20⟩)
    (c20 : PySem.W.codeIn K (.ref ct0) "_law_deed" = true)
    (k20 : PySem.W.keepIn K (.ref f20) = true)
    (a21 : PySem.W.nsIn K mainGlobals "law" = some (some (.ref f21)))
    (l21 : K.lookup f21 = some ⟨oc21, od21, .func (PySem.W.fnOf "law" "law" (defArgs s_law) (defBody s_law) (defScope s_law) .none kV21 dc21 pm21 an21 cd21 cv21), sl21⟩)
    (c21 : PySem.W.codeIn K cd21 "law" = true)
    (k21 : PySem.W.keepIn K (.ref f21) = true)
    (tb0 : K.lookup ct0 = some ⟨occ0, odc0, .fields vsc0, slc0⟩)
    (tv0 : (vsc0[11]? : Option Value) = some (.ref Pt0))
    (th0 : PySem.W.codeHdIn K ct0 Pt0 = true)
    (tn0 : K.lookup Pt0 = none)
    (tp0 : h.get? Pt0 = some { cls := .none, data := .fields #[] })
    (zb_bool : PySem.W.nsIn K mainGlobals "bool" = some none)
    (zb_int : PySem.W.nsIn K mainGlobals "int" = some none)
    (zb_isinstance : PySem.W.nsIn K mainGlobals "isinstance" = some none)
    (zb_len : PySem.W.nsIn K mainGlobals "len" = some none)
    (zb_list : PySem.W.nsIn K mainGlobals "list" = some none)
    (zb_min : PySem.W.nsIn K mainGlobals "min" = some none)
    (zb_range : PySem.W.nsIn K mainGlobals "range" = some none)
    (zb_str : PySem.W.nsIn K mainGlobals "str" = some none)
    (zc_MOST_POWER : PySem.W.nsIn K mainGlobals "MOST_POWER" = some (some (.int 1000000 tk_MOST_POWER)))
    : LawAtS l w K CX0 13 63 "script" mg fa h := by
  have e := hfa.symm.trans (PySem.W.mg_of X G a21)
  cases e
  have T : Txt K mg ⟨C_Disk, C_NoNumber, C_NoText, C_Stopped⟩ := ⟨⟨pg_Disk, hd_Disk, po_Disk, sa_Disk⟩, PySem.W.mg_of X G g_Disk, n_Disk_laid, n_Disk_late, n_Disk_own_left, ⟨PySem.W.mg_of X G g_NoNumber, eq_NoNumber, ek_NoNumber, eb_NoNumber, et_NoNumber⟩, ⟨PySem.W.mg_of X G g_NoText, eq_NoText, ek_NoText, eb_NoText, et_NoText⟩, ⟨PySem.W.mg_of X G g_Stopped, eq_Stopped, ek_Stopped, eb_Stopped, et_Stopped⟩, x_NoNumber_NoNumber, x_NoNumber_NoText, x_NoNumber_Stopped, x_NoText_NoNumber, x_NoText_NoText, x_NoText_Stopped, x_Stopped_NoNumber, x_Stopped_NoText, x_Stopped_Stopped, PySem.W.mg_none_of X G zb_bool, PySem.W.mg_none_of X G zb_int, PySem.W.mg_none_of X G zb_isinstance, PySem.W.mg_none_of X G zb_len, PySem.W.mg_none_of X G zb_list, PySem.W.mg_none_of X G zb_min, PySem.W.mg_none_of X G zb_range, PySem.W.mg_none_of X G zb_str, ⟨_, PySem.W.mg_of X G zc_MOST_POWER, _, rfl⟩⟩
  refine ⟨PySem.W.fnOf "law" "law" (defArgs s_law) (defBody s_law) (defScope s_law) .none kV21 dc21 pm21 an21 cd21 cv21, [(ct0, Pt0)], spLaw K Pt0, ?_, ?_, ?_, fun s v => .of_eq rfl, ?_, fun base _ _ TB => ?_⟩
  · exact (List.forall_mem_cons.mpr ⟨tp0, (fun _ z => nomatch z)⟩)
  · exact (List.forall_mem_cons.mpr ⟨tn0, (fun _ z => nomatch z)⟩)
  · exact (List.forall_mem_cons.mpr ⟨PySem.W.codeHd_of_K X th0, (fun _ z => nomatch z)⟩)
  · exact (fun H a ns hl _ hT hS => ⟨a, ns, ⟨rfl, hS, hl, hT (ct0, Pt0) (by simp)⟩, fun _ => rfl⟩)
  have TB0 := TB (ct0, Pt0) (by simp)
  have F0 := fun_mk (st := s_is_integer) l0 c0 k0
  have b0 := F0.binds (ps := ["thing"]) fun _ _ _ _ _ _ us hl => match us, hl with | [_], _ => rfl
  have C_is_integer : Cl l.prog w K mg base 1 "is_integer" _ := ⟨_, _, _, ok_is_integer F0 T, PySem.W.mg_of X G a0, k0, b0⟩
  have F1 := fun_mk (st := s_is_within) l1 c1 k1
  have b1 := F1.binds (ps := ["thing", "least", "most"]) fun _ _ _ _ _ _ us hl => match us, hl with | [_, _, _], _ => rfl
  have C_is_within : Cl l.prog w K mg base 2 "is_within" _ := ⟨_, _, _, ok_is_within F1 T C_is_integer, PySem.W.mg_of X G a1, k1, b1⟩
  have F2 := fun_mk (st := s_check_number) l2 c2 k2
  have b2 := F2.binds (ps := ["thing", "most"]) fun _ _ _ _ _ _ us hl => match us, hl with | [_, _], _ => rfl
  have C_check_number : ClX l.prog w K mg base 3 "check_number" _ := ⟨_, _, _, ok_check_number F2 T C_is_within, PySem.W.mg_of X G a2, k2, b2⟩
  have F3 := fun_mk (st := s_Disk___init__) l3 c3 k3
  have b3 := F3.binds (ps := ["self"]) fun _ _ _ _ _ _ us hl => match us, hl with | [_], _ => rfl
  have K_Disk : Mkr l.prog w K mg base CX0 1 "Disk" C_Disk _ := ⟨_, _, _, ⟨mk_Disk, a3, i3, kc_Disk⟩, ok_Disk___init__ F3 T, b3, PySem.W.mg_of X G g_Disk⟩
  have F4 := fun_mk (st := s_Disk_append) l4 c4 k4
  have b4 := F4.binds (ps := ["self", "text"]) fun _ _ _ _ _ _ us hl => match us, hl with | [_, _], _ => rfl
  have M_Disk_append : Mt l.prog w K mg base (L2.CX l.prog w) 1 C_Disk "append" _ := ⟨_, _, _, ⟨a4, i4, k4⟩, ok_Disk_append F4 T, b4⟩
  have F5 := fun_mk (st := s_Disk_sync) l5 c5 k5
  have b5 := F5.binds (ps := ["self"]) fun _ _ _ _ _ _ us hl => match us, hl with | [_], _ => rfl
  have M_Disk_sync : Mt l.prog w K mg base CX0 1 C_Disk "sync" _ := ⟨_, _, _, ⟨a5, i5, k5⟩, ok_Disk_sync F5 T, b5⟩
  have F6 := fun_mk (st := s_Disk_cut) l6 c6 k6
  have b6 := F6.binds (ps := ["self", "kept"]) fun _ _ _ _ _ _ us hl => match us, hl with | [_, _], _ => rfl
  have M_Disk_cut : Mt l.prog w K mg base (L2.CX l.prog w) 4 C_Disk "cut" _ := ⟨_, _, _, ⟨a6, i6, k6⟩, ok_Disk_cut F6 T C_check_number, b6⟩
  have F7 := fun_mk (st := s_Disk_power) l7 c7 k7
  have b7 := F7.binds (ps := ["self", "many"]) fun _ _ _ _ _ _ us hl => match us, hl with | [_, _], _ => rfl
  have M_Disk_power : Mt l.prog w K mg base (L2.CX l.prog w) 4 C_Disk "power" _ := ⟨_, _, _, ⟨a7, i7, k7⟩, ok_Disk_power F7 T C_check_number, b7⟩
  have F8 := fun_mk (st := s_Disk_trim) l8 c8 k8
  have b8 := F8.binds (ps := ["self", "many"]) fun _ _ _ _ _ _ us hl => match us, hl with | [_, _], _ => rfl
  have M_Disk_trim : Mt l.prog w K mg base (L2.CX l.prog w) 4 C_Disk "trim" _ := ⟨_, _, _, ⟨a8, i8, k8⟩, ok_Disk_trim F8 T C_check_number, b8⟩
  have F9 := fun_mk (st := s_Disk_lying) l9 c9 k9
  have b9 := F9.binds (ps := ["self"]) fun _ _ _ _ _ _ us hl => match us, hl with | [_], _ => rfl
  have M_Disk_lying : Mt l.prog w K mg base CX0 1 C_Disk "lying" _ := ⟨_, _, _, ⟨a9, i9, k9⟩, ok_Disk_lying F9 T, b9⟩
  have F10 := fun_mk (st := s_Disk_waiting) l10 c10 k10
  have b10 := F10.binds (ps := ["self"]) fun _ _ _ _ _ _ us hl => match us, hl with | [_], _ => rfl
  have M_Disk_waiting : Mt l.prog w K mg base CX0 1 C_Disk "waiting" _ := ⟨_, _, _, ⟨a10, i10, k10⟩, ok_Disk_waiting F10 T, b10⟩
  have F11 := fun_mk (st := s_Disk_copy) l11 c11 k11
  have b11 := F11.binds (ps := ["self"]) fun _ _ _ _ _ _ us hl => match us, hl with | [_], _ => rfl
  have M_Disk_copy : Mt l.prog w K mg base CX0 3 C_Disk "copy" _ := ⟨_, _, _, ⟨a11, i11, k11⟩, ok_Disk_copy F11 T K_Disk, b11⟩
  have F12 := fun_mk (st := s_law_flow) l12 c12 k12
  have b12 := F12.binds (ps := ["script"]) fun _ _ _ _ _ _ us hl => match us, hl with | [_], _ => rfl
  have C_law_flow : Cl l.prog w K mg base 1 "_law_flow" _ := ⟨_, _, _, ok_law_flow F12 T, PySem.W.mg_of X G a12, k12, b12⟩
  have F13 := fun_mk (st := s_law_draw) l13 c13 k13
  have b13 := F13.binds (ps := ["flow", "many"]) fun _ _ _ _ _ _ us hl => match us, hl with | [_, _], _ => rfl
  have C_law_draw : Cl l.prog w K mg base 1 "_law_draw" _ := ⟨_, _, _, ok_law_draw F13 T, PySem.W.mg_of X G a13, k13, b13⟩
  have F14 := fun_mk (st := s_law_some) l14 c14 k14
  have b14 := F14.binds (ps := ["flow", "things"]) fun _ _ _ _ _ _ us hl => match us, hl with | [_, _], _ => rfl
  have C_law_some : Cl l.prog w K mg base 2 "_law_some" _ := ⟨_, _, _, ok_law_some F14 T C_law_draw, PySem.W.mg_of X G a14, k14, b14⟩
  have F15 := fun_mk (st := s_law_text) l15 c15 k15
  have b15 := F15.binds (ps := ["flow"]) fun _ _ _ _ _ _ us hl => match us, hl with | [_], _ => rfl
  have C_law_text : Cl l.prog w K mg base 2 "_law_text" _ := ⟨_, _, _, ok_law_text F15 T C_law_draw, PySem.W.mg_of X G a15, k15, b15⟩
  have F16 := fun_mk (st := s_law_word) l16 c16 k16
  have b16 := F16.binds (ps := ["deed"]) fun _ _ _ _ _ _ us hl => match us, hl with | [_], _ => rfl
  have F17 := fun_mk (st := s_law_appended) l17 c17 k17
  have b17 := F17.binds (ps := ["own", "text"]) fun _ _ _ _ _ _ us hl => match us, hl with | [_, _], _ => rfl
  have C_law_appended : Cl l.prog w K mg base 1 "_law_appended" _ := ⟨_, _, _, ok_law_appended F17 T, PySem.W.mg_of X G a17, k17, b17⟩
  have F18 := fun_mk (st := s_law_numbered) l18 c18 k18
  have b18 := F18.binds (ps := ["own", "kind", "number"]) fun _ _ _ _ _ _ us hl => match us, hl with | [_, _, _], _ => rfl
  have C_law_numbered : Cl l.prog w K mg base 1 "_law_numbered" _ := ⟨_, _, _, ok_law_numbered F18 T, PySem.W.mg_of X G a18, k18, b18⟩
  have F19 := fun_mk (st := s_law_done) l19 c19 k19
  have b19 := F19.binds (ps := ["disk", "kind", "number"]) fun _ _ _ _ _ _ us hl => match us, hl with | [_, _, _], _ => rfl
  have C_law_done : ClX l.prog w K mg base 5 "_law_done" _ := ⟨_, _, _, ok_law_done F19 T M_Disk_cut M_Disk_power M_Disk_trim, PySem.W.mg_of X G a19, k19, b19⟩
  have F20 := fun_mk (st := s_law_deed) l20 c20 k20
  have b20 := F20.binds (ps := ["flow", "disk", "own"]) fun _ _ _ _ _ _ us hl => match us, hl with | [_, _, _], _ => rfl
  have C_law_deed : Cl l.prog w K mg base 12 "_law_deed" _ := ⟨_, _, _, ok_law_deed (⟨⟨_, _, _, _, _, _, _, _, rfl, l20, c20⟩⟩ : FunC K "_law_deed" "_law_deed" s_law_deed f20 _ ct0) T F16 (PySem.W.mg_of X G a16) b16 TB0 M_Disk_append M_Disk_sync C_law_draw C_law_some C_law_text C_law_appended C_law_numbered C_law_done, PySem.W.mg_of X G a20, k20, b20⟩
  exact ok_law (fun_mk (st := s_law) l21 c21 k21) T K_Disk M_Disk_sync M_Disk_lying M_Disk_waiting M_Disk_copy C_law_flow C_law_draw C_law_deed
end G
open PySem PySem.W PyProof.Rows in
set_option maxRecDepth 100000 in
set_option maxHeartbeats 0 in
theorem PySem.Challenge.cw_keptviews_k36_whole_disks_by_an_own_acco_holds : PySem.Challenge.rw_keptviews_k36_whole_disks_by_an_own_acco.Holds := by
  w_on; o_law; k_head; (case hw => w_witness2)
  k_fill
  refine LamX.walk_ofTs (l := PySem.Challenge.rw_keptviews_k36_whole_disks_by_an_own_acco) (n := 63) (k := 13) (x := "script") (CX := fun _ => L2.CX0) rfl (by decide) rfl ⟨rfl, by decide, by decide⟩ (fun w h Y => PySem.W.km_in_of Y) ?F fun _ _ _ _ _ z => z
  case F =>
    intro w mg fa h Y KX GG hmg
    refine' G.all_mk KX GG hmg ?g_Disk ?g_NoNumber ?g_NoText ?g_Stopped ?pg_Disk ?hd_Disk ?po_Disk ?sa_Disk ?mk_Disk ?kc_Disk ?n_Disk_laid ?n_Disk_late ?n_Disk_own_left ?eq_NoNumber ?ek_NoNumber ?eb_NoNumber ?et_NoNumber ?eq_NoText ?ek_NoText ?eb_NoText ?et_NoText ?eq_Stopped ?ek_Stopped ?eb_Stopped ?et_Stopped ?x_NoNumber_NoNumber ?x_NoNumber_NoText ?x_NoNumber_Stopped ?x_NoText_NoNumber ?x_NoText_NoText ?x_NoText_Stopped ?x_Stopped_NoNumber ?x_Stopped_NoText ?x_Stopped_Stopped ?a0 ?l0 ?c0 ?k0 ?a1 ?l1 ?c1 ?k1 ?a2 ?l2 ?c2 ?k2 ?a3 ?i3 ?l3 ?c3 ?k3 ?a4 ?i4 ?l4 ?c4 ?k4 ?a5 ?i5 ?l5 ?c5 ?k5 ?a6 ?i6 ?l6 ?c6 ?k6 ?a7 ?i7 ?l7 ?c7 ?k7 ?a8 ?i8 ?l8 ?c8 ?k8 ?a9 ?i9 ?l9 ?c9 ?k9 ?a10 ?i10 ?l10 ?c10 ?k10 ?a11 ?i11 ?l11 ?c11 ?k11 ?a12 ?l12 ?c12 ?k12 ?a13 ?l13 ?c13 ?k13 ?a14 ?l14 ?c14 ?k14 ?a15 ?l15 ?c15 ?k15 ?a16 ?l16 ?c16 ?k16 ?a17 ?l17 ?c17 ?k17 ?a18 ?l18 ?c18 ?k18 ?a19 ?l19 ?c19 ?k19 ?a20 ?l20 ?c20 ?k20 ?a21 ?l21 ?c21 ?k21 ?tb0 ?tv0 ?th0 ?tn0 ?tp0 ?zb_bool ?zb_int ?zb_isinstance ?zb_len ?zb_list ?zb_min ?zb_range ?zb_str ?zc_MOST_POWER
    (case g_Disk => k_is)
    (case g_NoNumber => k_is)
    (case g_NoText => k_is)
    (case g_Stopped => k_is)
    (case pg_Disk => k_is)
    (case hd_Disk => k_is)
    (case po_Disk => k_is)
    (case sa_Disk => k_is)
    (case mk_Disk => k_is)
    (case kc_Disk => k_is)
    (case n_Disk_laid => k_is)
    (case n_Disk_late => k_is)
    (case n_Disk_own_left => k_is)
    (case eq_NoNumber => k_exc)
    (case ek_NoNumber => k_is)
    (case eb_NoNumber => k_is)
    (case et_NoNumber => k_is)
    (case eq_NoText => k_exc)
    (case ek_NoText => k_is)
    (case eb_NoText => k_is)
    (case et_NoText => k_is)
    (case eq_Stopped => k_exc)
    (case ek_Stopped => k_is)
    (case eb_Stopped => k_is)
    (case et_Stopped => k_is)
    (case x_NoNumber_NoNumber => kernel_rfl)
    (case x_NoNumber_NoText => kernel_rfl)
    (case x_NoNumber_Stopped => kernel_rfl)
    (case x_NoText_NoNumber => kernel_rfl)
    (case x_NoText_NoText => kernel_rfl)
    (case x_NoText_Stopped => kernel_rfl)
    (case x_Stopped_NoNumber => kernel_rfl)
    (case x_Stopped_NoText => kernel_rfl)
    (case x_Stopped_Stopped => kernel_rfl)
    (case a0 => k_is)
    (case l0 => k_is)
    (case c0 => k_is)
    (case k0 => k_is)
    (case a1 => k_is)
    (case l1 => k_is)
    (case c1 => k_is)
    (case k1 => k_is)
    (case a2 => k_is)
    (case l2 => k_is)
    (case c2 => k_is)
    (case k2 => k_is)
    (case a3 => k_is)
    (case i3 => k_is)
    (case l3 => k_is)
    (case c3 => k_is)
    (case k3 => k_is)
    (case a4 => k_is)
    (case i4 => k_is)
    (case l4 => k_is)
    (case c4 => k_is)
    (case k4 => k_is)
    (case a5 => k_is)
    (case i5 => k_is)
    (case l5 => k_is)
    (case c5 => k_is)
    (case k5 => k_is)
    (case a6 => k_is)
    (case i6 => k_is)
    (case l6 => k_is)
    (case c6 => k_is)
    (case k6 => k_is)
    (case a7 => k_is)
    (case i7 => k_is)
    (case l7 => k_is)
    (case c7 => k_is)
    (case k7 => k_is)
    (case a8 => k_is)
    (case i8 => k_is)
    (case l8 => k_is)
    (case c8 => k_is)
    (case k8 => k_is)
    (case a9 => k_is)
    (case i9 => k_is)
    (case l9 => k_is)
    (case c9 => k_is)
    (case k9 => k_is)
    (case a10 => k_is)
    (case i10 => k_is)
    (case l10 => k_is)
    (case c10 => k_is)
    (case k10 => k_is)
    (case a11 => k_is)
    (case i11 => k_is)
    (case l11 => k_is)
    (case c11 => k_is)
    (case k11 => k_is)
    (case a12 => k_is)
    (case l12 => k_is)
    (case c12 => k_is)
    (case k12 => k_is)
    (case a13 => k_is)
    (case l13 => k_is)
    (case c13 => k_is)
    (case k13 => k_is)
    (case a14 => k_is)
    (case l14 => k_is)
    (case c14 => k_is)
    (case k14 => k_is)
    (case a15 => k_is)
    (case l15 => k_is)
    (case c15 => k_is)
    (case k15 => k_is)
    (case a16 => k_is)
    (case l16 => k_is)
    (case c16 => k_is)
    (case k16 => k_is)
    (case a17 => k_is)
    (case l17 => k_is)
    (case c17 => k_is)
    (case k17 => k_is)
    (case a18 => k_is)
    (case l18 => k_is)
    (case c18 => k_is)
    (case k18 => k_is)
    (case a19 => k_is)
    (case l19 => k_is)
    (case c19 => k_is)
    (case k19 => k_is)
    (case a20 => k_is)
    (case l20 => k_is)
    (case c20 => k_is)
    (case k20 => k_is)
    (case a21 => k_is)
    (case l21 => k_is)
    (case c21 => k_is)
    (case k21 => k_is)
    (case tb0 => k_is)
    (case tv0 => exact rfl)
    (case th0 => kernel_rfl)
    (case tn0 => kernel_rfl)
    (case tp0 => exact PySem.W.km_tabs_of Y _ (by k_mem))
    (case zb_bool => k_is)
    (case zb_int => k_is)
    (case zb_isinstance => k_is)
    (case zb_len => k_is)
    (case zb_list => k_is)
    (case zb_min => k_is)
    (case zb_range => k_is)
    (case zb_str => k_is)
    (case zc_MOST_POWER => k_is)
