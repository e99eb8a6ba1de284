import PyProof.Rows.All
import Wide.All
import OpenK.AllK
import Wide.FinOn
import HandS.ForMost
import HandS.IsInst
import HandS.TupAny
import HandS.TupMul
import HandS.Wide
import HandS.Style
import HandS.Flow
import HandS.Codes
import HandS.Walk
import PyProof.ReprRoads
import HandS.Lambda
import HandS.EndTab
import HandS.TryMany
import HandS.ExcOwn
import HandS.WordsExc
import HandS.Steps
import HandS.Small
import HandS.ReplaceLit
import HandS.ReplaceDef
import HandS.ReplaceList
import PySem.Challenge.RW_keptviews_k72_whole_things_there_and_bac
set_option Elab.async false
set_option maxRecDepth 100000
set_option maxHeartbeats 4000000
namespace G
open PySem L2

/-! ### heaps that go on -/
/-- what of an object stays when it changes: its kind -/
def norm : HO → HO
  | .lst _ => .lst []
  | .dK _ => .dK []
  | .dT _ => .dT []
  | .set _ _ => .set (fun _ => false) 0
  | .ins C d _ => .ins C d []
  | .tbl _ => .tbl #[]
  | a => a
def Kin (a b : HO) : Prop := norm a = norm b
theorem Kin.refl (a : HO) : Kin a a := rfl
theorem Kin.trans {a b c : HO} (h : Kin a b) (k : Kin b c) : Kin a c := Eq.trans h k
/-- a is none of these -/
def Nin (a : Addr) : List Addr → Prop
  | [] => True
  | m :: r => a ≠ m ∧ Nin a r
theorem nin_of {a : Addr} : ∀ {M : List Addr}, a ∉ M → Nin a M
  | [], _ => True.intro
  | m :: r, h => ⟨fun e => h (by rw [e]; exact List.mem_cons_self), nin_of fun e => h (List.mem_cons_of_mem _ e)⟩
theorem nin_mem {a : Addr} : ∀ {M : List Addr}, Nin a M → a ∉ M
  | [], _ => by simp
  | m :: r, h => fun e => (List.mem_cons.mp e).elim h.1 (nin_mem h.2)
/-- all stays but what the objects at M hold -/
def Ex (M : List Addr) (H H' : Hp) : Prop := ∀ a o, H a = some o → (Nin a M → H' a = some o) ∧ ∃ o', H' a = some o' ∧ Kin o o'
theorem Ex.refl (M : List Addr) (H : Hp) : Ex M H H := fun _ o h => ⟨fun _ => h, o, h, Kin.refl o⟩
theorem Ex.get {M : List Addr} {H H' : Hp} {a : Addr} {o : HO} (e : Ex M H H') (h : H a = some o) (n : Nin a M) : H' a = some o := (e a o h).1 n
theorem Ex.get0 {H H' : Hp} {a : Addr} {o : HO} (e : Ex [] H H') (h : H a = some o) : H' a = some o := (e a o h).1 True.intro
theorem Ex.tup {M : List Addr} {H H' : Hp} {a : Addr} {xs : List V} (e : Ex M H H') (h : H a = some (.tup xs)) : H' a = some (.tup xs) := by
  obtain ⟨o', h1, k⟩ := (e a _ h).2
  cases o' <;> simp_all [Kin, norm]
theorem Ex.frz {M : List Addr} {H H' : Hp} {a : Addr} {o : Obj} {u : HO} (e : Ex M H H') (h : H a = some (.frz o u)) : H' a = some (.frz o u) := by
  obtain ⟨o', h1, k⟩ := (e a _ h).2
  cases o' <;> simp_all [Kin, norm]
theorem Ex.trans {M : List Addr} {H H1 H2 : Hp} (a : Ex M H H1) (b : Ex M H1 H2) : Ex M H H2 := fun c o h => by
  obtain ⟨h1, o1, h2, k1⟩ := a c o h
  obtain ⟨_, o2, h4, k2⟩ := b c o1 h2
  exact ⟨fun n => (b c o (h1 n)).1 n, o2, h4, k1.trans k2⟩
theorem Ex.mono {M N : List Addr} {H H' : Hp} (a : Ex M H H') (h : ∀ x ∈ M, x ∈ N) : Ex N H H' := fun c o e =>
  ⟨fun n => (a c o e).1 (nin_of fun m => nin_mem n (h c m)), (a c o e).2⟩
theorem Ex.of0 {M : List Addr} {H H' : Hp} (a : Ex [] H H') : Ex M H H' := a.mono (fun _ h => nomatch h)
theorem Ex.new {M : List Addr} {H : Hp} {p : Addr} {o : HO} (h : H p = none) : Ex M H (upd H p o) := fun a u e =>
  have q : upd H p o a = some u := by rw [upd_ne (ne_of_none e h)]; exact e
  ⟨fun _ => q, u, q, Kin.refl u⟩
theorem Ex.put {M : List Addr} {H : Hp} {p : Addr} {o o' : HO} (h : H p = some o) (k : Kin o o') (m : p ∈ M) : Ex M H (upd H p o') := fun a u e => by
  by_cases z : a = p
  · subst z
    rw [h] at e
    cases e
    exact ⟨fun n => absurd m (nin_mem n), o', upd_same, k⟩
  · exact ⟨fun _ => by rw [upd_ne z]; exact e, u, by rw [upd_ne z]; exact e, Kin.refl u⟩
/-- an object that was not there ahead may change -/
theorem Ex.put_new {M : List Addr} {H H' : Hp} {p : Addr} {o' : HO} (e : Ex M H H') (h : H p = none) : Ex M H (upd H' p o') := fun a u q => by
  have z : a ≠ p := ne_of_none q h
  obtain ⟨h1, o1, h2, k⟩ := e a u q
  exact ⟨fun n => by rw [upd_ne z]; exact h1 n, o1, by rw [upd_ne z]; exact h2, k⟩
/-- what is new behind is new ahead -/
theorem Ex.none {M : List Addr} {H H' : Hp} {p : Addr} (e : Ex M H H') (h : H' p = none) : H p = none := by
  cases q : H p with
  | none => rfl
  | some o =>
    obtain ⟨_, o', h1, _⟩ := e p o q
    rw [h] at h1
    cases h1
theorem upd_none {H : Hp} {p q : Addr} {o : HO} (h : upd H q o p = none) : p ≠ q ∧ H p = none := by
  by_cases z : p = q
  · subst z; rw [upd_same] at h; cases h
  · exact ⟨z, by rw [upd_ne z] at h; exact h⟩
theorem upd_new {H : Hp} {p a : Addr} {o u : HO} (h : H p = none) (e : H a = some u) : upd H p o a = some u := by rw [upd_ne (ne_of_none e h)]; exact e
theorem upd_oth {H : Hp} {p a : Addr} {o : HO} {u : Option HO} (h : a ≠ p) (e : H a = u) : upd H p o a = u := by rw [upd_ne h]; exact e
theorem upd_oth2 {H : Hp} {p a : Addr} {o u : HO} (e : H a = some u) (h : a ≠ p) : upd H p o a = some u := by rw [upd_ne h]; exact e
theorem ne_new {H : Hp} {p a : Addr} {u : HO} (h : H p = none) (e : H a = some u) : a ≠ p := ne_of_none e h
theorem rd_rd {M : List Addr} {H H' : Hp} {a : Addr} {xs : List V} (e : Ex M H H') (h : Rd H a (.tup xs)) : Rd H' a (.tup xs) := by
  rcases h with h | ⟨o, h⟩
  · exact .inl (e.tup h)
  · exact .inr ⟨o, e.frz h⟩
theorem Ex.sqT {K : PySem.W.Frag} {M : List Addr} {H H' : Hp} {a : Addr} {xs : List V} (e : Ex M H H') (h : SqT K H a xs) : SqT K H' a xs := by
  rcases h with h | h
  · exact .inl (rd_rd e h)
  · exact .inr h

/-! ### data -/
inductive Dt where
  | non | bl (b : Bool) | int (i : Int) | str (s : Str) | tup (l : List Dt) | oth
/-- a list or a dict -/
def Oth (H : Hp) (a : Addr) : Prop := (∃ xs, H a = some (.lst xs)) ∨ ∃ kvs, H a = some (.dK kvs)
mutual
inductive Rep (K : PySem.W.Frag) (H : Hp) : V → Dt → Prop
  | non : Rep K H .non .non
  | bl (b : Bool) : Rep K H (.bl b) (.bl b)
  | int (i : Int) : Rep K H (.int i) (.int i)
  | str (x : Str) (h : x.length ≤ 1000000) : Rep K H (.str x) (.str x)
  | tup {a : Addr} {xs : List V} {l : List Dt} : SqT K H a xs → RepL K H xs l → Rep K H (.ref a) (.tup l)
  | oth {a : Addr} : Oth H a → Rep K H (.ref a) .oth
inductive RepL (K : PySem.W.Frag) (H : Hp) : List V → List Dt → Prop
  | nil : RepL K H [] []
  | cons {v : V} {d : Dt} {vs : List V} {l : List Dt} : Rep K H v d → RepL K H vs l → RepL K H (v :: vs) (d :: l)
end
theorem Ex.oth {M : List Addr} {H H' : Hp} {a : Addr} (e : Ex M H H') (h : Oth H a) : Oth H' a := by
  rcases h with ⟨xs, h⟩ | ⟨kvs, h⟩
  · obtain ⟨_, o', h1, k⟩ := e a _ h
    cases o' <;> first | exact .inl ⟨_, h1⟩ | exact absurd k (by simp [Kin, norm])
  · obtain ⟨_, o', h1, k⟩ := e a _ h
    cases o' <;> first | exact .inr ⟨_, h1⟩ | exact absurd k (by simp [Kin, norm])
mutual
theorem Ex.rep {K : PySem.W.Frag} {M : List Addr} {H H' : Hp} (e : Ex M H H') : ∀ {v : V} {d : Dt}, Rep K H v d → Rep K H' v d
  | _, _, .non => .non
  | _, _, .bl b => .bl b
  | _, _, .int i => .int i
  | _, _, .str x h => .str x h
  | _, _, .tup h hl => .tup (e.sqT h) (e.repL hl)
  | _, _, .oth h => .oth (e.oth h)
theorem Ex.repL {K : PySem.W.Frag} {M : List Addr} {H H' : Hp} (e : Ex M H H') : ∀ {vs : List V} {l : List Dt}, RepL K H vs l → RepL K H' vs l
  | _, _, .nil => .nil
  | _, _, .cons h hl => .cons (e.rep h) (e.repL hl)
end
theorem RepL.length {K : PySem.W.Frag} {H : Hp} : ∀ {vs : List V} {l : List Dt}, RepL K H vs l → vs.length = l.length
  | _, _, .nil => rfl
  | _, _, .cons _ t => by rw [List.length_cons, List.length_cons, t.length]
theorem RepL.get {K : PySem.W.Frag} {H : Hp} : ∀ {vs : List V} {l : List Dt} {i : Nat} {v : V}, RepL K H vs l → vs[i]? = some v → ∃ d, l[i]? = some d ∧ Rep K H v d
  | _, _, _, _, .nil, e => by simp at e
  | _, _, 0, _, .cons (d := d) h _, e => by simp at e; subst e; exact ⟨d, by simp, h⟩
  | _, _, i + 1, _, .cons _ t, e => by
    obtain ⟨d, h1, h2⟩ := t.get (i := i) (by simpa using e)
    exact ⟨d, by simpa using h1, h2⟩
theorem RepL.snoc {K : PySem.W.Frag} {H : Hp} {d : Dt} : ∀ {l : List Dt} {vs : List V}, RepL K H vs (l ++ [d]) → ∃ ws y, vs = ws ++ [y] ∧ RepL K H ws l ∧ Rep K H y d
  | [], _, .cons h .nil => ⟨[], _, rfl, .nil, h⟩
  | _ :: l, _, .cons h t => by
    obtain ⟨ws, y, e, a, b⟩ := RepL.snoc t
    exact ⟨_ :: ws, y, by rw [e]; rfl, .cons h a, b⟩
theorem RepL.mem {K : PySem.W.Frag} {H : Hp} {x : V} : ∀ {l : List Dt} {vs : List V}, RepL K H vs l → x ∈ vs → ∃ d, d ∈ l ∧ Rep K H x d
  | _, _, .cons (d := d) h t, e => by
    rcases List.mem_cons.mp e with e | e
    · subst e; exact ⟨d, List.mem_cons_self, h⟩
    · obtain ⟨d', h1, h2⟩ := RepL.mem t e
      exact ⟨d', List.mem_cons_of_mem _ h1, h2⟩
theorem RepL.memOf {K : PySem.W.Frag} {H : Hp} {x : V} {vs : List V} {l : List Dt} (hx : x ∈ vs) (h : RepL K H vs l) : ∃ d, d ∈ l ∧ Rep K H x d := h.mem hx
theorem RepL.append {K : PySem.W.Frag} {H : Hp} : ∀ {vs ws : List V} {l m : List Dt}, RepL K H vs l → RepL K H ws m → RepL K H (vs ++ ws) (l ++ m)
  | _, _, _, _, .nil, h => h
  | _, _, _, _, .cons a t, h => .cons a (t.append h)
end G
namespace G
open PySem L2
section
variable {K : PySem.W.Frag} {H : Hp} {p : Addr} {o o' : HO}
theorem SqT.of {a : Addr} {xs : List V} (h : H a = some (.tup xs)) : SqT K H a xs := .inl (.inl h)
theorem Rep.oth_l {a : Addr} {xs : List V} (h : H a = some (.lst xs)) : Rep K H (.ref a) .oth := .oth (.inl ⟨xs, h⟩)
theorem Rep.oth_d {a : Addr} {kvs : List (Key × V)} (h : H a = some (.dK kvs)) : Rep K H (.ref a) .oth := .oth (.inr ⟨kvs, h⟩)
theorem sqt_new {a : Addr} {xs : List V} (h : H p = none) (r : SqT K H a xs) : SqT K (upd H p o) a xs := (Ex.new (M := []) h).sqT r
theorem sqt_put {a : Addr} {xs : List V} (h : H p = some o) (k : norm o = norm o') (r : SqT K H a xs) : SqT K (upd H p o') a xs := (Ex.put (M := [p]) h k List.mem_cons_self).sqT r
theorem rep_new {v : V} {d : Dt} (h : H p = none) (r : Rep K H v d) : Rep K (upd H p o) v d := (Ex.new (M := []) h).rep r
theorem rep_put {v : V} {d : Dt} (h : H p = some o) (k : norm o = norm o') (r : Rep K H v d) : Rep K (upd H p o') v d := (Ex.put (M := [p]) h k List.mem_cons_self).rep r
theorem repl_new {v : List V} {d : List Dt} (h : H p = none) (r : RepL K H v d) : RepL K (upd H p o) v d := (Ex.new (M := []) h).repL r
theorem repl_put {v : List V} {d : List Dt} (h : H p = some o) (k : norm o = norm o') (r : RepL K H v d) : RepL K (upd H p o') v d := (Ex.put (M := [p]) h k List.mem_cons_self).repL r
end
/-- what is new behind is new ahead -/
def Dom (H H' : Hp) : Prop := ∀ p, H' p = none → H p = none
theorem Dom.refl (H : Hp) : Dom H H := fun _ h => h
theorem Dom.step {M : List Addr} {H H1 H2 : Hp} (e : Ex M H1 H2) (d : Dom H H1) : Dom H H2 := fun p h => d p (e.none h)
theorem Dom.none {H H' : Hp} {p : Addr} (h : H' p = none) (d : Dom H H') : H p = none := d p h
theorem side0 {M : List Addr} {H : Hp} : ∀ x ∈ ([] : List Addr), x ∈ M ∨ H x = none := fun _ h => nomatch h
theorem side1 {M : List Addr} {H : Hp} {q : Addr} (h : q ∈ M ∨ H q = none) : ∀ x ∈ [q], x ∈ M ∨ H x = none := fun x e => by
  rw [List.mem_singleton] at e
  subst e
  exact h
theorem Ex.step {M N : List Addr} {H H1 H2 : Hp} (b : Ex N H1 H2) (s : ∀ x ∈ N, x ∈ M ∨ H x = Option.none) (a : Ex M H H1) : Ex M H H2 := fun c o h => by
  obtain ⟨h1, o1, h2, k1⟩ := a c o h
  obtain ⟨h3, o2, h4, k2⟩ := b c o1 h2
  refine ⟨fun n => (b c o (h1 n)).1 (nin_of fun m => ?_), o2, h4, k1.trans k2⟩
  rcases s c m with z | z
  · exact nin_mem n z
  · rw [h] at z
    cases z
theorem Ex.stepNew {M : List Addr} {H H1 : Hp} {p : Addr} {o : HO} (h : H1 p = Option.none) (a : Ex M H H1) : Ex M H (upd H1 p o) := a.trans (Ex.new h)
end G

namespace G
open PySem L2

/-! ### weaker readings -/
section
variable {X : Cx}
theorem opImp {f : Value → Value → Sem Value} {r r' : R2} (h : OpR X f r) (i : ∀ x y H Q, r' x y H Q → r x y H Q) : OpR X f r' := fun pins s σ H x y v u Q I rx ry q => h pins s σ H x y v u Q I rx ry (i _ _ _ _ q)
theorem opOr {f : Value → Value → Sem Value} {r1 r2 : R2} {r' : R2} (h1 : OpR X f r1) (h2 : OpR X f r2) (i : ∀ x y H Q, r' x y H Q → r1 x y H Q ∨ r2 x y H Q) : OpR X f r' := fun pins s σ H x y v u Q I rx ry q =>
  (i _ _ _ _ q).elim (h1 pins s σ H x y v u Q I rx ry) (h2 pins s σ H x y v u Q I rx ry)
theorem callImp {f : Value} {r r' : List V → Hp → VK → Prop} (h : CallR X f r) (i : ∀ xs H Q, r' xs H Q → r xs H Q) : CallR X f r' := fun pins s σ H xs us Q I rv q => h pins s σ H xs us Q I rv (i _ _ _ q)
theorem peImp {e : Expr} {t t' : TE} (h : PE X e t) (i : ∀ σ H Q, t' σ H Q → t σ H Q) : PE X e t' := ⟨fun pins s σ H Q I q => h.run pins s σ H Q I (i _ _ _ q)⟩
end

/-! ### defs by their names -/
structure Cl (P : Program) (w : World) (K : PySem.W.Frag) (mg : Str → Option Value) (base : Heap) (k : Nat) (x : Str) (sp : Sp) : Prop where
  ex : ∃ (f : Addr) (fd : FuncData) (ps : List Str), FnOk P w K mg base CX0 k f fd ps sp ∧ mg x = some (.ref f) ∧ PySem.W.keepIn K (.ref f) = true ∧ Binds K fd ps []
def tCl (sp : Sp) (E : XK) (t : TA) : TE := fun σ H Q => t σ H fun vs H1 => sp vs H1 Q E
section
variable {X : Cx}
theorem pe_cl {k j : Nat} {x : Str} {sp : Sp} {p pos : Pos} {e : Expr} {es : List Expr} {t : TA} (c : Cl X.prog X.w X.K X.mg X.base k x sp) (hr : Room j X.A) (hk : k ≤ j) (hg : Gl X x) (ha : PA X (e :: es) t)
    (hdb : (x == ("__debug__" : Str)) = false := by decide) (he : starEach (e :: es) X.env = (false, eval e X.env) :: starEach es X.env := by rfl) (hpl : (backTo pos (starEach es X.env)).any (·.1) = false := by rfl) :
    PE X (.Call (.Name x p) (e :: es) [] pos) (tCl sp E0 t) := by
  obtain ⟨f, fd, ps, F, m, kp, b⟩ := c.ex
  refine peImp (pe_call F (hr.mono hk) hg m kp b .nil pass0 ha hdb he hpl) fun σ H Q q => ?_
  show t σ H fun vs H1 => sp (vs ++ []) H1 Q E0
  simp only [List.append_nil]
  exact q
theorem pe_cl0 {k j : Nat} {x : Str} {sp : Sp} {p pos : Pos} (c : Cl X.prog X.w X.K X.mg X.base k x sp) (hr : Room j X.A) (hk : k ≤ j) (hg : Gl X x) (hdb : (x == ("__debug__" : Str)) = false := by decide) :
    PE X (.Call (.Name x p) [] [] pos) (tCl sp E0 tNil) := by
  obtain ⟨f, fd, ps, F, m, kp, b⟩ := c.ex
  exact pe_call0 F (hr.mono hk) hg m kp b .nil pass0 hdb
end

/-! ### the classes of data -/
def isTy : String → Dt → Option Bool
  | "int", .int _ => some true
  | "int", .bl _ => some true
  | "int", _ => some false
  | "bool", .bl _ => some true
  | "bool", _ => some false
  | "str", .str _ => some true
  | "str", _ => some false
  | "tuple", .tup _ => some true
  | "tuple", _ => some false
  | _, _ => none
theorem SqT.ty {K : PySem.W.Frag} {H : Hp} {a : Addr} {xs : List V} (h : SqT K H a xs) : TyX K H (.ref a) (.type "tuple") := by
  rcases h with (h | ⟨o, h⟩) | ⟨o, its, n, h, c, _⟩
  · exact .base (.tup h)
  · exact .fTuple h
  · exact .kTuple h c
def rIs (K : PySem.W.Frag) : List V → Hp → VK → Prop := fun xs H Q => ∃ (x : V) (T : String) (d : Dt) (b : Bool), (xs = [x, .ty T] ∧ Rep K H x d ∧ isTy T d = some b) ∧ Q (.bl b) H
theorem isTy_kit {K : PySem.W.Frag} {H : Hp} {x : V} {d : Dt} {T : String} {b : Bool} (r : Rep K H x d) (h : isTy T d = some b) : ∃ t, TyX K H x t ∧ PySem.W.kitOne K t (.type T) = some b := by
  have cs : T = "int" ∨ T = "bool" ∨ T = "str" ∨ T = "tuple" := by
    unfold isTy at h
    split at h <;> simp_all
  rcases cs with rfl | rfl | rfl | rfl <;> cases r <;> simp [isTy] at h <;> subst h
  all_goals first
    | exact ⟨_, .base .non, kit_ty (by decide +kernel)⟩
    | exact ⟨_, .base (.bl _), kit_ty (by decide +kernel)⟩
    | exact ⟨_, .base (.int _), kit_ty (by decide +kernel)⟩
    | exact ⟨_, .base (.str _), kit_ty (by decide +kernel)⟩
    | (rename_i hs _; exact ⟨_, SqT.ty hs, kit_ty (by decide +kernel)⟩)
    | (rename_i hs; rcases hs with ⟨_, hs⟩ | ⟨_, hs⟩
       · exact ⟨_, .base (.lst hs), kit_ty (by decide +kernel)⟩
       · exact ⟨_, .base (.dK hs), kit_ty (by decide +kernel)⟩)
theorem call_Is {X : Cx} : CallR X (.builtin "isinstance") (rIs X.K) := callImp call_isi fun xs H Q ⟨x, T, d, b, ⟨e, r, h⟩, q⟩ => by
  obtain ⟨t, ty, k⟩ := isTy_kit r h
  exact ⟨x, .ty T, t, .type T, b, e, .ty T, ty, k, q⟩

/-! ### lengths -/
inductive LenX (K : PySem.W.Frag) (H : Hp) : V → Nat → Prop
  | str (z : Str) (h : z.length ≤ sizeLine) : LenX K H (.str z) z.length
  | lst {p : Addr} {xs : List V} (h : SqL K H p xs) : LenX K H (.ref p) xs.length
  | tup {p : Addr} {xs : List V} (h : SqT K H p xs) : LenX K H (.ref p) xs.length
def rLn (K : PySem.W.Frag) : List V → Hp → VK → Prop := fun xs H Q => ∃ x n, (xs = [x] ∧ LenX K H x n) ∧ Q (.int n) H
theorem call_Len {X : Cx} : CallR X (.builtin "len") (rLn X.K) := callImp call_len fun xs H Q ⟨x, n, ⟨e, l⟩, q⟩ => ⟨x, n, e, by
  cases l with
  | str z h => exact ⟨h, rfl⟩
  | lst h => exact .inl ⟨_, h, rfl⟩
  | tup h => exact .inr ⟨_, h, rfl⟩, q⟩

/-! ### operators of several kinds -/
def rAddG (K : PySem.W.Frag) : R2 := fun x y H Q =>
  (∃ i j, (x = .int i ∧ y = .int j) ∧ Q (.int (i + j)) H) ∨ (∃ i j, (x = .str i ∧ y = .str j ∧ i.length + j.length ≤ sizeLine) ∧ Q (.str (i ++ j)) H) ∨
  (∃ l b xs zs, (x = .ref l ∧ y = .ref b ∧ H l = some (.lst xs) ∧ H b = some (.lst zs) ∧ xs.length + zs.length ≤ sizeLine) ∧ ∀ p H', H p = none → H' p = some (.lst (xs ++ zs)) → Ex [] H H' → Q (.ref p) H') ∨
  (∃ l b xs zs, (x = .ref l ∧ y = .ref b ∧ SqT K H l xs ∧ SqT K H b zs ∧ xs.length + zs.length ≤ sizeLine) ∧ ∀ p H', SqT K H' p (xs ++ zs) → Ex [] H H' → Q (.ref p) H')
theorem SqT.of_new {K : PySem.W.Frag} {H : Hp} {a : Addr} {xs : List V} : SqT K (upd H a (.tup xs)) a xs := .inl (.inl upd_same)
theorem op_AddG {X : Cx} : OpR X (binaryOp .Add) (rAddG X.K) := fun pins s σ H x y v u Q I rx ry q => by
  rcases q with ⟨i, j, ⟨rfl, rfl⟩, q⟩ | ⟨i, j, ⟨rfl, rfl, hl⟩, q⟩ | ⟨l, b, xs, zs, ⟨rfl, rfl, h1, h2, hl⟩, q⟩ | ⟨l, b, xs, zs, ⟨rfl, rfl, h1, h2, hl⟩, q⟩
  · exact op_add pins s σ H _ _ v u Q I rx ry ⟨i, j, rfl, rfl, q⟩
  · exact op_add_str pins s σ H _ _ v u Q I rx ry ⟨i, j, rfl, rfl, hl, q⟩
  · exact op_cat pins s σ H _ _ v u Q I rx ry ⟨l, b, xs, zs, rfl, rfl, h1, h2, hl, fun p hp => q p _ hp upd_same (Ex.new hp)⟩
  · refine op_catA pins s σ H _ _ v u Q I rx ry ⟨l, b, xs, zs, rfl, rfl, h1, h2, hl, fun e => ?_, fun _ e => ?_, fun _ _ p hp => ?_⟩
    · exact q b H (by rw [e]; exact h2) (Ex.refl _ _)
    · exact q l H (by rw [e, List.append_nil]; exact h1) (Ex.refl _ _)
    · exact q p _ SqT.of_new (Ex.new hp)
def rEqS (a b : V) (k : Bool) : Prop := scal a b = true ∧ k = decide (a = b)
/-- an item by its place -/
def rIxG (K : PySem.W.Frag) : R2 := fun x y H Q =>
  (∃ p xs i v, (x = .ref p ∧ y = .int i ∧ SqL K H p xs ∧ atI xs i = some v) ∧ Q v H) ∨ (∃ p xs i v, (x = .ref p ∧ y = .int i ∧ SqT K H p xs ∧ atI xs i = some v) ∧ Q v H) ∨
  (∃ z i c, (x = .str z ∧ y = .int i ∧ z.length ≤ sizeLine ∧ atI z.cps.toList i = some c) ∧ Q (.str ⟨#[c]⟩) H)
theorem ix_G {X : Cx} : IxR X (rIxG X.K) := fun value slice pins s σ H x y v u Q I rx ry q hs => by
  rcases q with ⟨p, xs, i, z, ⟨a, b, c, d⟩, q⟩ | ⟨p, xs, i, z, ⟨a, b, c, d⟩, q⟩ | ⟨z, i, c, ⟨a, b, e, d⟩, q⟩
  · exact ix_list value slice pins s σ H x y v u Q I rx ry ⟨p, xs, i, z, a, b, c, d, q⟩ hs
  · exact ix_tup value slice pins s σ H x y v u Q I rx ry ⟨p, xs, i, z, a, b, c, d, q⟩ hs
  · exact ix_str value slice pins s σ H x y v u Q I rx ry ⟨z, i, c, a, b, e, d, q⟩ hs

/-! ### loops -/
theorem while_w {c : TT} {tb : TS} {D : Ends} {σ : St} {H : Hp} (W : Nat → St → Hp → Prop) (m₀ : Nat) (h0 : W m₀ σ H)
    (hs : ∀ m σ H, W m σ H → c σ H fun b H1 => if b = true then ∃ N : St → Hp → Prop, (∀ σ' H', N σ' H' → ∃ m', m' < m ∧ W m' σ' H') ∧ tb { D with nx := N, ct := N, bk := D.nx } σ H1 else D.nx σ H1) : tWhile c tb D σ H := ⟨W, ⟨m₀, h0⟩, hs⟩
/-- what holds while a list is made of others -/
structure LcP (D : Addr) (M : List Addr) (P : Hp → Prop) (R : Nat → V → Hp → Prop) (H1 : Hp) (i : Nat) (H : Hp) : Prop where
  ex : Ex M H1 H
  p : P H
  l : ∃ acc, H D = some (.lst acc) ∧ acc.length = i ∧ ∀ j y, acc[j]? = some y → R j y H
theorem LcP.start {D : Addr} {M : List Addr} {P : Hp → Prop} {R : Nat → V → Hp → Prop} {H1 : Hp} (hD : H1 D = none) (p : P H1) (pl : ∀ H o, P H → P (upd H D o)) : LcP D M P R H1 0 (upd H1 D (.lst [])) :=
  ⟨Ex.new hD, pl _ _ p, [], upd_same, rfl, fun j y e => by simp at e⟩
/-- R does not hang on what changes -/
def Stab (R : Nat → V → Hp → Prop) : Prop := ∀ i y M H H', Ex M H H' → R i y H → R i y H'
theorem LcP.step {D : Addr} {M : List Addr} {P : Hp → Prop} {R : Nat → V → Hp → Prop} {H1 H H4 : Hp} {i n : Nat} {y : V} (h : LcP D M P R H1 i H) (hD : H1 D = none) (st : Stab R) (pl : ∀ H o, P H → P (upd H D o))
    (e : Ex M H H4) (nD : Nin D M) (p : P H4) (r : R i y H4) (hi : i < n) (hn : n ≤ 1000000) : ∃ acc, H4 D = some (.lst acc) ∧ acc.length < sizeLine ∧ LcP D M P R H1 (i + 1) (upd H4 D (.lst (acc ++ [y]))) := by
  obtain ⟨e0, _, acc, h1, h2, h3⟩ := h
  have h4 : H4 D = some (.lst acc) := e.get h1 nD
  have e5 : Ex [D] H4 (upd H4 D (.lst (acc ++ [y]))) := Ex.put h4 rfl (by simp)
  have hz : (1000000 : Nat) < sizeLine := by decide
  refine ⟨acc, h4, by omega, (e0.trans e).put_new hD, pl _ _ p, acc ++ [y], upd_same, by simp [h2], fun j z hj => ?_⟩
  by_cases hlt : j < acc.length
  · rw [List.getElem?_append_left hlt] at hj
    exact st _ _ _ _ _ e5 (st _ _ _ _ _ e (h3 j z hj))
  · rw [List.getElem?_append_right (by omega)] at hj
    have hj0 : j - acc.length = 0 := by
      have := (List.getElem?_eq_some_iff.mp hj).1
      simp at this
      omega
    rw [hj0] at hj
    simp at hj
    subst hj
    have : j = i := by omega
    subst this
    exact st _ _ _ _ _ e5 r
end G

namespace G
open PySem PySem.Spec PyProof.Rows L2
theorem flat_len {α : Type} (its : List α) (m : Nat) : (List.replicate m its).flatten.length = m * its.length := PyProof.Rows.lm_len_rep_flat _ _
/-- t * 1, () * k: the very tuple -/
theorem tmul_same (l : Addr) (items : Array Value) (n : Nat) (dd : Option Addr) (sl : Array (Option Value)) (x : Int) (u : Tok)
    (c0 : (decide (x < -(2 ^ 63)) || decide (x ≥ 2 ^ 63)) = false) (c1 : (items.isEmpty || x == 1) = true) :
    Meets (Builtin.«tuple.__mul__» ⟨[.ref l, .int x u], []⟩)
      (fun _ R s => s.heap.get? l = some { cls := .type "tuple", dict := dd, data := .seq items n, slots := sl } ∧ R (.ok (.ret (Value.ref l))) s) :=
  .of_wp fun prog w A R s h => by
    obtain ⟨hp, g, d, tk, os⟩ := s
    obtain ⟨hl, h⟩ := h
    have f1 := AutoSeq1.idx_int
    wp_walk using wpAny_loadPart' hl
    repeat (first
      | (refine wpAny_ite_false (decide_eq_false (by rw [c0]; exact Bool.false_ne_true)) ?_; wp_walk using wpAny_loadPart' hl)
      | (refine wpAny_ite_true (decide_eq_true c1) ?_; wp_walk using wpAny_loadPart' hl))
    exact ⟨_, rfl, h⟩
/-- t * k, k ≤ 0: an empty one -/
theorem tmul_none (l : Addr) (items : Array Value) (n : Nat) (dd : Option Addr) (sl : Array (Option Value)) (x : Int) (u : Tok)
    (c0 : (decide (x < -(2 ^ 63)) || decide (x ≥ 2 ^ 63)) = false) (c1 : (items.isEmpty || x == 1) = false) (c2 : (decide (x ≤ 0) || items.isEmpty) = true) :
    Meets (Builtin.«tuple.__mul__» ⟨[.ref l, .int x u], []⟩)
      (fun _ R s => s.heap.get? l = some { cls := .type "tuple", dict := dd, data := .seq items n, slots := sl } ∧
        R (.ok (.ret (Value.ref s.heap.objs.size))) { s with heap := s.heap.push { cls := Value.type "tuple", data := Data.seq #[] } }) :=
  .of_wp fun prog w A R s h => by
    obtain ⟨hp, g, d, tk, os⟩ := s
    obtain ⟨hl, h⟩ := h
    have f1 := AutoSeq1.idx_int
    wp_walk using wpAny_loadPart' hl
    repeat (first
      | (refine wpAny_ite_false (decide_eq_false (by rw [c0]; exact Bool.false_ne_true)) ?_; wp_walk using wpAny_loadPart' hl)
      | (refine wpAny_ite_false (decide_eq_false (by rw [c1]; exact Bool.false_ne_true)) ?_; wp_walk using wpAny_loadPart' hl)
      | (refine wpAny_ite_true (decide_eq_true c2) ?_; wp_walk using wpAny_loadPart' hl))
    exact ⟨_, rfl, h⟩
def repS (z : Str) (k : Int) : Str := ⟨((List.replicate k.toNat z.cps.toList).flatten).toArray⟩
def rMulG (K : PySem.W.Frag) : R2 := fun x y H Q =>
  (∃ i j, (x = .int i ∧ y = .int j ∧ CMul i j) ∧ Q (.int (i * j)) H) ∨
  (∃ z k, (x = .str z ∧ y = .int k ∧ 0 ≤ k ∧ k ≤ 1000000 ∧ z.length * k.toNat ≤ 1000000) ∧ Q (.str (repS z k)) H) ∨
  (∃ l k xs, (x = .ref l ∧ y = .int k ∧ H l = some (.lst xs) ∧ 0 ≤ k ∧ k ≤ 1000000 ∧ xs.length * k.toNat ≤ 1000000) ∧ ∀ p H', H p = none → H' p = some (.lst (List.replicate k.toNat xs).flatten) → Ex [] H H' → Q (.ref p) H') ∨
  (∃ l k xs, (x = .ref l ∧ y = .int k ∧ SqT K H l xs ∧ 0 ≤ k ∧ k ≤ 1000000 ∧ xs.length * k.toNat ≤ 1000000) ∧ ∀ p H', SqT K H' p (List.replicate k.toNat xs).flatten → Ex [] H H' → Q (.ref p) H')
theorem flat_nil {α : Type} : ∀ n : Nat, (List.replicate n ([] : List α)).flatten = []
  | 0 => rfl
  | n + 1 => by rw [List.replicate_succ, List.flatten_cons, flat_nil n]; rfl
theorem vals_rep {xs : List V} {us : List Value} (r : Vals xs us) : ∀ n : Nat, Vals (List.replicate n xs).flatten (List.replicate n us).flatten
  | 0 => .nil
  | n + 1 => by
    rw [List.replicate_succ, List.flatten_cons, List.replicate_succ, List.flatten_cons]
    exact r.append (vals_rep r n)
theorem op_mulT {X : Cx} {pins : List (Addr × Obj)} {s : Shared} {σ : L2.St} {H : Hp} {l : Addr} {k : Int} {xs : List V} {v u : Value} {Q : VK} (I : L2.Inv X pins σ H s) (rx : RelV (.ref l) v) (ry : RelV (.int k) u)
    (hT : SqT X.K H l xs) (h0 : 0 ≤ k) (h1 : k ≤ 1000000) (hz : xs.length * k.toNat ≤ 1000000) (q : ∀ p H', SqT X.K H' p (List.replicate k.toNat xs).flatten → Ex [] H H' → Q (.ref p) H') :
    wpAny (model X.prog X.w) X.A (binaryOp .Mult v u) (EP X pins σ Q) X.xe s := by
  cases rx
  obtain ⟨t, rfl⟩ := ry
  obtain ⟨its, r, ⟨⟨cls, dd, data, sl⟩, ho, hc, n, hd⟩, hs⟩ := I.tuple hT
  simp only at hc hd
  subst hc hd
  have hle : its.length = xs.length := r.length.symm
  have c0 : (decide (k < -(2 ^ 63)) || decide (k ≥ 2 ^ 63)) = false := by
    rw [decide_eq_false (by omega), decide_eq_false (by omega)]
    rfl
  have run : ∀ (R : Value → Shared → Prop), (∀ (P : Prop), wpAny (model X.prog X.w) X.A (call (.builtin "tuple.__mul__") [.ref l, .int k t]) R X.xe s → P → P) → wpAny (model X.prog X.w) X.A (call (.builtin "tuple.__mul__") [.ref l, .int k t]) R X.xe s →
      wpAny (model X.prog X.w) X.A (binaryOp .Mult (.ref l) (.int k t)) R X.xe s := fun R _ h =>
    wpAny_binaryOp_repeat_ref (T := "tuple") (U := "int") (by decide) ⟨_, ho, rfl⟩ (fun s' => typeIs_int s' k t) noFill_tuple_mul F.fills_int_mul F.slot_int_rmul repeat_tuple F.slot_int_index.lookup
      (call_meets F.slot_int_rmul (typeIs_int s k t) F.entry_int_rmul (F.args_int_rmul_2 _ _) (int_rmul_tuple k t l its.toArray n dd sl) ⟨ho, rfl, ⟨_, ho, rfl⟩, h⟩)
  refine run _ (fun _ _ p => p) ?_
  cases c1 : (its.toArray.isEmpty || k == 1) with
  | true =>
    refine call_meets F.slot_tuple_mul ⟨_, ho, rfl⟩ F.entry_tuple_mul (F.args_tuple_mul_2 _ _) (tmul_same l its.toArray n dd sl k t c0 c1) ⟨ho, ?_⟩
    have e : (List.replicate k.toNat xs).flatten = xs := by
      rcases Bool.or_eq_true _ _ |>.mp c1 with z | z
      · have : its = [] := by simpa using z
        subst this
        have : xs = [] := List.eq_nil_of_length_eq_zero hle.symm
        subst this
        exact flat_nil _
      · have : k = 1 := by simpa using z
        subst this
        simp
    exact ⟨.ref l, H, I.tok _, rfl, q l H (by rw [e]; exact hT) (Ex.refl _ _)⟩
  | false =>
    have c1' := c1
    rw [Bool.or_eq_false_iff] at c1
    obtain ⟨hi, hk1⟩ := c1
    cases c2 : (decide (k ≤ 0) || its.toArray.isEmpty) with
    | true =>
      refine call_meets F.slot_tuple_mul ⟨_, ho, rfl⟩ F.entry_tuple_mul (F.args_tuple_mul_2 _ _) (tmul_none l its.toArray n dd sl k t c0 c1' c2) ⟨ho, ?_⟩
      have hk0 : k = 0 := by
        rw [hi, Bool.or_false] at c2
        have := of_decide_eq_true c2
        omega
      subst hk0
      refine ⟨.ref s.heap.objs.size, _, I.laid (t' := s.toks) (o := .tup []) (fun b ob z => Heap.get?_push_of_some _ z) (Nat.le_refl _) ?_, rfl, q _ _ (by simpa using SqT.of_new) (Ex.new (I.hok.fresh (Nat.le_refl _)))⟩
      exact ⟨Nat.zero_le _, [], .nil, IsTup.new _ _⟩
    | false =>
      have hpos : ¬ k ≤ 0 := by
        intro z
        rw [decide_eq_true z] at c2
        cases c2
      have hm : ((its.toArray.size : Nat) : Int) * k ≤ 1000000 := by
        have e1 : k = ((k.toNat : Nat) : Int) := by omega
        have a1 : ((xs.length * k.toNat : Nat) : Int) ≤ 1000000 := by omega
        rw [List.size_toArray, hle, e1]
        rw [Int.natCast_mul] at a1
        exact a1
      have c4 : Builtin.Tuple.tupleTooMany (((its.toArray.size : Nat) : Int) * k) = false := by
        unfold Builtin.Tuple.tupleTooMany
        rw [sizeLine_eq]
        exact decide_eq_false (by omega)
      have flen : (List.replicate k.toNat its).flatten.length ≤ sizeLine := by
        rw [flat_len, hle, sizeLine_eq, Nat.mul_comm]
        omega
      refine call_meets F.slot_tuple_mul ⟨_, ho, rfl⟩ F.entry_tuple_mul (F.args_tuple_mul_2 _ _) (tuple_mulW l its.toArray n dd sl k t c0 c1' c2 (by omega) c4 (by rw [size_rep, List.size_toArray]; exact flen)) ⟨ho, ?_⟩
      rw [size_rep]
      have ok : xs.length * k.toNat ≤ sizeLine := by rw [sizeLine_eq]; omega
      refine ⟨.ref s.heap.objs.size, _, I.laid (t' := s.toks) (o := .tup (List.replicate k.toNat xs).flatten) (fun b ob z => Heap.get?_push_of_some _ z) (Nat.le_refl _) ?_, rfl, q _ _ SqT.of_new (Ex.new (I.hok.fresh (Nat.le_refl _)))⟩
      exact ⟨by rw [flat_len, Nat.mul_comm]; exact ok, _, vals_rep r _, IsTup.new _ _⟩
theorem fold_app {α : Type} : ∀ (l : List (List α)) (acc : Array α), ((l.map List.toArray).foldl (· ++ ·) acc) = acc ++ l.flatten.toArray
  | [], acc => by simp
  | x :: r, acc => by
    rw [List.map_cons, List.foldl_cons, fold_app r]
    simp
theorem op_mulS {X : Cx} {pins : List (Addr × Obj)} {s : Shared} {σ : L2.St} {H : Hp} {k : Int} {z : Str} {v u : Value} {Q : VK} (I : L2.Inv X pins σ H s) (rx : RelV (.str z) v) (ry : RelV (.int k) u)
    (h0 : 0 ≤ k) (h1 : k ≤ 1000000) (hz : z.length * k.toNat ≤ 1000000) (q : Q (.str (repS z k)) H) :
    wpAny (model X.prog X.w) X.A (binaryOp .Mult v u) (EP X pins σ Q) X.xe s := by
  obtain ⟨t, rfl⟩ := rx
  obtain ⟨t', rfl⟩ := ry
  have c0 : (decide (k < -(2 ^ 63)) || decide (k ≥ 2 ^ 63)) = false := by
    rw [decide_eq_false (by omega), decide_eq_false (by omega)]
    rfl
  have hzl : z.length = z.cps.size := rfl
  refine P.mul_str c0 (fun a b => ?_) (fun a b => ?_) ?_
  · intro c
    have a2 : (z.length : Int) ≤ 1000000 := by
      have : z.length * 1 ≤ z.length * k.toNat := Nat.mul_le_mul_left _ (by omega)
      omega
    have a3 : (1000000 : Int) ≤ (2 ^ 63 - 1) / k := (Int.le_ediv_iff_mul_le (by omega)).mpr (by omega)
    omega
  · unfold PySem.Builtin.Str.tooLong
    rw [sizeLine_eq]
    exact decide_eq_false (by omega)
  · by_cases hk : k < 1
    · rw [if_pos hk]
      have : k = 0 := by omega
      subst this
      refine ⟨by decide, .str Str.empty, H, I.tok _, ⟨_, rfl⟩, ?_⟩
      exact q
    · rw [if_neg hk]
      by_cases c : (k == 1 || z.length == 0) = true
      · rw [if_pos c]
        have e : repS z k = z := by
          rcases Bool.or_eq_true _ _ |>.mp c with y | y
          · have : k = 1 := by simpa using y
            subst this
            simp [repS]
          · have y' : z.cps.size = 0 := by simpa [hzl] using y
            have : z.cps = #[] := Array.eq_empty_of_size_eq_zero y'
            obtain ⟨a⟩ := z
            simp at this
            subst this
            simp [repS]
        refine ⟨.str z, H, I.tok _, ⟨_, rfl⟩, ?_⟩
        rw [e] at q
        exact q
      · rw [if_neg c]
        have e : (⟨(List.replicate k.toNat z.cps).foldl (· ++ ·) #[]⟩ : Str) = repS z k := by
          unfold repS
          congr 1
          have := fold_app (List.replicate k.toNat z.cps.toList) (#[] : Array Nat)
          simpa using this
        rw [e]
        refine ⟨?_, .str (repS z k), H, I.tok _, ⟨_, rfl⟩, q⟩
        show (repS z k).cps.size ≤ sizeLine
        rw [sizeLine_eq]
        simp only [repS, List.size_toArray, flat_len, Array.length_toList]
        rw [Nat.mul_comm, ← hzl]
        omega
theorem op_MulG {X : Cx} : OpR X (binaryOp .Mult) (rMulG X.K) := fun pins s σ H x y v u Q I rx ry q => by
  rcases q with ⟨i, j, ⟨rfl, rfl, c⟩, q⟩ | ⟨z, k, ⟨rfl, rfl, h0, h1, hz⟩, q⟩ | ⟨l, k, xs, ⟨rfl, rfl, hl, h0, h1, hz⟩, q⟩ | ⟨l, k, xs, ⟨rfl, rfl, hT, h0, h1, hz⟩, q⟩
  · exact op_mul pins s σ H _ _ v u Q I rx ry ⟨i, j, rfl, rfl, c, q⟩
  · exact op_mulS I rx ry h0 h1 hz q
  · exact op_rep pins s σ H _ _ v u Q I rx ry ⟨l, k, xs, rfl, rfl, hl, by omega, by omega, by rw [sizeLine_eq]; omega, fun p hp => q p _ hp upd_same (Ex.new hp)⟩
  · exact op_mulT I rx ry hT h0 h1 hz q
end G

namespace G
open PySem L2
section
variable {CX : CXT} {P : Program} {w : World} {K : PySem.W.Frag} {mg : Str → Option Value} {base : Heap} {N : List Str} {qual : Str} {scope : Scope} {f : Addr} {cd : Value} {A : Around} {outer : List Env} {s : Shared} {H : Hp} {E : XK}
theorem cx_K : (cxOf CX P w K mg base N qual scope f cd A outer s H E).K = K := rfl
theorem cx_nK : (cxOf CX P w K mg base N qual scope f cd A outer s H E).nox.K = K := rfl
end
theorem cmul_r {i j : Int} (h1 : -(2 ^ 64) < j) (h2 : j < 2 ^ 64) : CMul i j := .inr ⟨h1, h2⟩
theorem cmul_l {i j : Int} (h1 : -(2 ^ 64) < i) (h2 : i < 2 ^ 64) : CMul i j := .inl ⟨h1, h2⟩
theorem cdivw {i j : Int} (h1 : 0 < j) (h2 : j < 2 ^ 64) : CDivW i j := wide_div (b := 64) h1 (by omega) (by decide) (by decide)
theorem tyL {K : PySem.W.Frag} {H : Hp} {p : Addr} {xs : List V} (h : SqL K H p xs) : tyV K "list" (.ref p) H := Or.inl ⟨rfl, xs, h⟩
theorem pop_last (ws : List V) (y : V) : (ws ++ [y])[(ws ++ [y]).length - 1]? = some y := by simp
/-! ### lists of data that a comprehension makes -/
def RepAt (K : PySem.W.Frag) (ds : List Dt) (i : Nat) (y : V) (H : Hp) : Prop := ∃ d, ds[i]? = some d ∧ Rep K H y d
theorem RepAt.stab {K : PySem.W.Frag} {ds : List Dt} : Stab (RepAt K ds) := fun _ _ _ _ _ e ⟨d, h, r⟩ => ⟨d, h, e.rep r⟩
theorem repL_of {K : PySem.W.Frag} {H : Hp} : ∀ {ys : List V} {ds : List Dt}, ys.length = ds.length → (∀ j y, ys[j]? = some y → RepAt K ds j y H) → RepL K H ys ds
  | [], [], _, _ => .nil
  | y :: ys, d :: ds, hl, h => by
    obtain ⟨d', e, r⟩ := h 0 y (by simp)
    have e' : d = d' := by simpa using e
    subst e'
    refine .cons r (repL_of (by simpa using hl) fun j z hz => ?_)
    obtain ⟨d2, e2, r2⟩ := h (j + 1) z (by simpa using hz)
    exact ⟨d2, by simpa using e2, r2⟩
theorem LcP.done {K : PySem.W.Frag} {D : Addr} {M : List Addr} {P : Hp → Prop} {ds : List Dt} {H1 H : Hp} {n : Nat} (h : LcP D M P (RepAt K ds) H1 n H) (hn : ds.length = n) : ∃ ys, H D = some (.lst ys) ∧ RepL K H ys ds := by
  obtain ⟨_, _, acc, h1, h2, h3⟩ := h
  exact ⟨acc, h1, repL_of (by omega) h3⟩
theorem RepL.bls {K : PySem.W.Frag} {H : Hp} : ∀ {ys : List V} {bs : List Bool}, RepL K H ys (bs.map Dt.bl) → ys = bs.map V.bl
  | _, [], h => by cases h; rfl
  | _, b :: bs, h => by
    rw [List.map_cons] at h
    cases h with
    | cons a t =>
      cases a
      rw [t.bls, List.map_cons]
theorem RepL.ints {K : PySem.W.Frag} {H : Hp} : ∀ {ys : List V} {bs : List Int}, RepL K H ys (bs.map Dt.int) → ys = bs.map V.int
  | _, [], h => by cases h; rfl
  | _, b :: bs, h => by
    rw [List.map_cons] at h
    cases h with
    | cons a t =>
      cases a
      rw [t.ints, List.map_cons]
theorem RepL.strs {K : PySem.W.Frag} {H : Hp} : ∀ {ys : List V} {bs : List Str}, RepL K H ys (bs.map Dt.str) → ys = bs.map V.str
  | _, [], h => by cases h; rfl
  | _, b :: bs, h => by
    rw [List.map_cons] at h
    cases h with
    | cons a t =>
      cases a
      rw [t.strs, List.map_cons]
theorem SqL.bls {K : PySem.W.Frag} {H : Hp} {D : Addr} {ys : List V} {bs : List Bool} (h : H D = some (.lst ys)) (r : RepL K H ys (bs.map Dt.bl)) : SqL K H D (bs.map V.bl) := by
  rw [← r.bls]
  exact SqL.of h
theorem true_loc : ∀ (D : Addr) (H : Hp) (o : HO), (fun _ : Hp => True) H → (fun _ : Hp => True) (upd H D o) := fun _ _ _ h => h

/-! ### signs -/
def signOk (c : Nat) : Bool := decide (32 ≤ c) && decide (c ≤ 126)
theorem lt1 (a b : Nat) : decide (([a] : List Nat) < [b]) = decide (a < b) := by
  by_cases h : a < b
  · rw [decide_eq_true h, decide_eq_true]
    exact List.Lex.rel h
  · rw [decide_eq_false h, decide_eq_false]
    intro z
    cases z with
    | rel z => exact h z
    | cons z => cases z
theorem le1 (a b : Nat) : (!decide (([a] : List Nat) < [b])) = decide (b ≤ a) := by
  rw [lt1]
  by_cases h : a < b
  · rw [decide_eq_true h, decide_eq_false (by omega)]
    rfl
  · rw [decide_eq_false h, decide_eq_true (by omega)]
    rfl
theorem wipe_set1 (σ : L2.St) (j : Nat) (x : Option V) : wipe (σ.set j x) [j] = wipe σ [j] := by
  show (σ.set j x).set j none = σ.set j none
  rw [List.set_set]
theorem wipe_set1' (σ : L2.St) (j : Nat) (x : Option V) : wipe ((wipe σ [j]).set j x) [j] = wipe σ [j] := by
  show ((σ.set j none).set j x).set j none = σ.set j none
  rw [List.set_set, List.set_set]
theorem get_set1 (σ : L2.St) {j : Nat} (x : Option V) (h : j < σ.length) : ((wipe σ [j]).set j x)[j]? = some x := by
  show ((σ.set j none).set j x)[j]? = some x
  rw [List.getElem?_set_self (by rw [List.length_set]; exact h)]
/-! ### slices -/
def rSlG (K : PySem.W.Frag) : V → Option Int → Option Int → Hp → VK → Prop := fun x lo hi H Q =>
  (∃ z, (x = .str z ∧ z.length ≤ sizeLine) ∧ Q (.str (cutS z lo hi)) H) ∨
  (∃ a xs, (x = .ref a ∧ SqL K H a xs) ∧ ∀ p H', H p = none → H' p = some (.lst (cutV xs lo hi)) → Ex [] H H' → Q (.ref p) H') ∨
  (∃ a xs, (x = .ref a ∧ SqT K H a xs) ∧ ∀ p H', SqT K H' p (cutV xs lo hi) → Ex [] H H' → Q (.ref p) H')
theorem cutV_whole {xs : List V} {lo hi : Option Int} (h : HT.sIx xs.length 0 lo = 0 ∧ HT.sIx xs.length xs.length hi = xs.length) : cutV xs lo hi = xs := by
  unfold cutV
  rw [h.1, h.2]
  simp
theorem sl_G {X : Cx} : SlR X (rSlG X.K) := fun pins s σ H x v vl vu lo hi sl Q I rx hs pl pu q => by
  rcases q with ⟨z, ⟨rfl, hz⟩, q⟩ | ⟨a, xs, ⟨rfl, hx⟩, q⟩ | ⟨a, xs, ⟨rfl, hx⟩, q⟩
  · exact sl_str pins s σ H _ v vl vu lo hi sl Q I rx hs pl pu ⟨z, rfl, hz, q⟩
  · exact sl_list pins s σ H _ v vl vu lo hi sl Q I rx hs pl pu ⟨a, xs, rfl, hx, fun p hp => q p _ hp upd_same (Ex.new hp)⟩
  · refine sl_tupA pins s σ H _ v vl vu lo hi sl Q I rx hs pl pu ⟨a, xs, rfl, hx, fun e => ?_, fun _ p hp => ?_⟩
    · exact q a H (by rw [cutV_whole e]; exact hx) (Ex.refl _ _)
    · exact q p _ SqT.of_new (Ex.new hp)
/-! ### the same with the written part named -/
section
variable {X : Cx} {K : PySem.W.Frag}
theorem oAdd (h : X.K = K) : OpR X (binaryOp .Add) (rAddG K) := by subst h; exact op_AddG
theorem oMul (h : X.K = K) : OpR X (binaryOp .Mult) (rMulG K) := by subst h; exact op_MulG
theorem ixG (h : X.K = K) : IxR X (rIxG K) := by subst h; exact ix_G
theorem slG (h : X.K = K) : SlR X (rSlG K) := by subst h; exact sl_G
theorem cIs (h : X.K = K) : CallR X (.builtin "isinstance") (rIs K) := by subst h; exact call_Is
theorem cLen (h : X.K = K) : CallR X (.builtin "len") (rLn K) := by subst h; exact call_Len
theorem cAll (h : X.K = K) (hc : X.calm = true) : CallR X (.builtin "all") (rAll K) := by subst h; exact cr_all hc
theorem cAny (h : X.K = K) (hc : X.calm = true) : CallR X (.builtin "any") (rAny K) := by subst h; exact cr_any hc
end
end G

/-! ### rules in one form: facts, then what follows, over any heap that goes on -/
namespace G
open PySem PySem.Spec PyProof.Rows L2
section
variable {X : Cx} {K : PySem.W.Frag}
def tTupA (t : TA) : TE := fun σ H Q => t σ H fun xs H1 => xs.length ≤ sizeLine ∧ ∀ p H2, H1 p = none → H2 p = some (.tup xs) → Ex [] H1 H2 → Q (.ref p) H2
def tLstA (t : TA) : TE := fun σ H Q => t σ H fun xs H1 => xs.length ≤ sizeLine ∧ ∀ p H2, H1 p = none → H2 p = some (.lst xs) → Ex [] H1 H2 → Q (.ref p) H2
theorem peTup {es : List Expr} {t : TA} {pos : Pos} {x1} (h : PA X es t) : PE X (.Tuple es x1 pos) (tTupA t) := by
  constructor
  intro pins s σ H Q I hq
  apply wpAny_Tuple_spliced
  refine thn (h.run pos pins s σ H _ I hq) ?_
  rintro us s1 ⟨xs, H1, I1, r, z, q⟩
  have new := I1.hok.fresh (Nat.le_refl s1.heap.objs.size)
  refine ⟨r.length ▸ z, .ref s1.heap.objs.size, _, I1.laid (t' := s1.toks) (o := .tup xs) (fun _ _ e => Heap.get?_push_of_some _ e) (Nat.le_refl _) ?_, rfl, q _ _ new upd_same (Ex.new new)⟩
  exact ⟨z, us, r, IsTup.new _ _⟩
theorem peLst {es : List Expr} {t : TA} {pos : Pos} (h : PA X es t) : PE X (.List es pos) (tLstA t) := by
  constructor
  intro pins s σ H Q I hq
  apply wpAny_List_spliced
  refine thn (h.run pos pins s σ H _ I hq) ?_
  rintro us s1 ⟨xs, H1, I1, r, z, q⟩
  have new := I1.hok.fresh (Nat.le_refl s1.heap.objs.size)
  refine ⟨r.length ▸ z, .ref s1.heap.objs.size, _, I1.laid (t' := s1.toks) (o := .lst xs) (fun _ _ e => Heap.get?_push_of_some _ e) (Nat.le_refl _) ?_, rfl, q _ _ new upd_same (Ex.new new)⟩
  exact ⟨z, us, 0, r, Heap.get?_push_size _ rfl⟩
def rSub : R2 := fun x y H Q => ∃ i j, (x = .int i ∧ y = .int j) ∧ Q (.int (i - j)) H
theorem oSub : OpR X (binaryOp .Sub) rSub := opImp op_sub fun _ _ _ _ ⟨i, j, ⟨a, b⟩, q⟩ => ⟨i, j, a, b, q⟩
def rMod : R2 := fun x y H Q => ∃ i j, (x = .int i ∧ y = .int j ∧ 0 < j) ∧ Q (.int (i % j)) H
theorem oMod : OpR X (binaryOp .Mod) rMod := opImp op_mod fun _ _ _ _ ⟨i, j, ⟨a, b, c⟩, q⟩ => ⟨i, j, a, b, c, q⟩
def rFdv : R2 := fun x y H Q => ∃ i j, (x = .int i ∧ y = .int j ∧ CDivW i j) ∧ Q (.int (i / j)) H
theorem oFdv : OpR X (binaryOp .FloorDiv) rFdv := opImp op_fdivW fun _ _ _ _ ⟨i, j, ⟨a, b, c⟩, q⟩ => ⟨i, j, a, b, c, q⟩
def rPow : R2 := fun x y H Q => ∃ i j, (x = .int i ∧ y = .int j ∧ CPow i j) ∧ Q (.int (i ^ j.toNat)) H
theorem oPow : OpR X (binaryOp .Pow) rPow := opImp op_pow fun _ _ _ _ ⟨i, j, ⟨a, b, c⟩, q⟩ => ⟨i, j, a, b, c, q⟩
def rNeg : V → Hp → VK → Prop := fun x H Q => ∃ i, x = .int i ∧ Q (.int (-i)) H
theorem oNeg : UnR X (unaryOp .USub) rNeg := fun pins s σ H x v Q I rx ⟨i, a, q⟩ => un_neg pins s σ H x v Q I rx ⟨i, a, q⟩
/-- two ints, two texts compared -/
def rLt : R2 := fun x y H Q => (∃ i j, (x = .int i ∧ y = .int j) ∧ Q (.bl (decide (i < j))) H) ∨ ∃ i j, (x = .str i ∧ y = .str j) ∧ Q (.bl (decide (i.cps.toList < j.cps.toList))) H
def rLe : R2 := fun x y H Q => (∃ i j, (x = .int i ∧ y = .int j) ∧ Q (.bl (decide (i ≤ j))) H) ∨ ∃ i j, (x = .str i ∧ y = .str j) ∧ Q (.bl (!decide (j.cps.toList < i.cps.toList))) H
def rGt : R2 := fun x y H Q => (∃ i j, (x = .int i ∧ y = .int j) ∧ Q (.bl (decide (j < i))) H) ∨ ∃ i j, (x = .str i ∧ y = .str j) ∧ Q (.bl (decide (j.cps.toList < i.cps.toList))) H
def rGe : R2 := fun x y H Q => (∃ i j, (x = .int i ∧ y = .int j) ∧ Q (.bl (decide (j ≤ i))) H) ∨ ∃ i j, (x = .str i ∧ y = .str j) ∧ Q (.bl (!decide (i.cps.toList < j.cps.toList))) H
theorem oLt : OpR X (compareOp .Lt) rLt := fun pins s σ H x y v u Q I rx ry q => by
  rcases q with ⟨i, j, ⟨rfl, rfl⟩, q⟩ | ⟨i, j, ⟨rfl, rfl⟩, q⟩
  · exact op_lt pins s σ H _ _ v u Q I rx ry ⟨i, j, rfl, rfl, q⟩
  · exact op_lt_str pins s σ H _ _ v u Q I rx ry ⟨i, j, rfl, rfl, q⟩
theorem oLe : OpR X (compareOp .LtE) rLe := fun pins s σ H x y v u Q I rx ry q => by
  rcases q with ⟨i, j, ⟨rfl, rfl⟩, q⟩ | ⟨i, j, ⟨rfl, rfl⟩, q⟩
  · exact op_le pins s σ H _ _ v u Q I rx ry ⟨i, j, rfl, rfl, q⟩
  · exact op_le_str pins s σ H _ _ v u Q I rx ry ⟨i, j, rfl, rfl, q⟩
theorem oGt : OpR X (compareOp .Gt) rGt := fun pins s σ H x y v u Q I rx ry q => by
  rcases q with ⟨i, j, ⟨rfl, rfl⟩, q⟩ | ⟨i, j, ⟨rfl, rfl⟩, q⟩
  · exact op_gt pins s σ H _ _ v u Q I rx ry ⟨i, j, rfl, rfl, q⟩
  · exact op_gt_str pins s σ H _ _ v u Q I rx ry ⟨i, j, rfl, rfl, q⟩
theorem oGe : OpR X (compareOp .GtE) rGe := fun pins s σ H x y v u Q I rx ry q => by
  rcases q with ⟨i, j, ⟨rfl, rfl⟩, q⟩ | ⟨i, j, ⟨rfl, rfl⟩, q⟩
  · exact op_ge pins s σ H _ _ v u Q I rx ry ⟨i, j, rfl, rfl, q⟩
  · exact op_ge_str pins s σ H _ _ v u Q I rx ry ⟨i, j, rfl, rfl, q⟩
/-- changes of lists -/
def rAppA : V → List V → Hp → VK → Prop := fun x vs H Q => ∃ l xs y, (x = .ref l ∧ vs = [y] ∧ H l = some (.lst xs) ∧ xs.length < sizeLine) ∧ ∀ H', H' l = some (.lst (xs ++ [y])) → Ex [l] H H' → Q .non H'
theorem mAppend : MtR X "list.append" rAppA := fun pins s σ H x vs v us Q I rx rv ⟨l, xs, y, ⟨a, b, c, d⟩, q⟩ => mt_append pins s σ H x vs v us Q I rx rv ⟨l, xs, y, a, b, c, d, q _ upd_same (Ex.put c rfl (by simp))⟩
def rExtA : V → List V → Hp → VK → Prop := fun x vs H Q => ∃ l b xs zs, (x = .ref l ∧ vs = [.ref b] ∧ H l = some (.lst xs) ∧ H b = some (.lst zs) ∧ xs.length + zs.length ≤ sizeLine) ∧ ∀ H', H' l = some (.lst (xs ++ zs)) → Ex [l] H H' → Q .non H'
theorem mExtend : MtR X "list.extend" rExtA := fun pins s σ H x vs v us Q I rx rv ⟨l, b, xs, zs, ⟨a, b', c, d, e⟩, q⟩ => mt_extend pins s σ H x vs v us Q I rx rv ⟨l, b, xs, zs, a, b', c, d, e, q _ upd_same (Ex.put c rfl (by simp))⟩
def rPopA : V → List V → Hp → VK → Prop := fun x vs H Q => ∃ l ws y, (x = .ref l ∧ vs = [] ∧ H l = some (.lst (ws ++ [y]))) ∧ ∀ H', H' l = some (.lst ws) → Ex [l] H H' → Q y H'
theorem mPop : MtR X "list.pop" rPopA := fun pins s σ H x vs v us Q I rx rv ⟨l, ws, y, ⟨a, b, c⟩, q⟩ => mt_pop pins s σ H x vs v us Q I rx rv ⟨l, ws ++ [y], y, a, b, c, by simp, q _ (by rw [upd_same, List.dropLast_concat]) (Ex.put c rfl (by simp))⟩
def rSetA : TSet := fun o i v H Q => ∃ p xs k j, (o = .ref p ∧ i = .int k ∧ H p = some (.lst xs) ∧ ixN xs.length k = some j) ∧ ∀ H', H' p = some (.lst (xs.set j v)) → Ex [p] H H' → Q H'
theorem setL : PSet X rSetA := fun pins s σ H o i v ov iv u Q I ro ri rv ⟨p, xs, k, j, ⟨a, b, c, d⟩, q⟩ => set_list pins s σ H o i v ov iv u Q I ro ri rv ⟨p, xs, k, j, a, b, c, d, q _ upd_same (Ex.put c rfl (by simp))⟩
def rAugAdd : TIp := fun x y H Q => ∃ i j, (x = .int i ∧ y = .int j) ∧ Q (.int (i + j)) H
def rAugSub : TIp := fun x y H Q => ∃ i j, (x = .int i ∧ y = .int j) ∧ Q (.int (i - j)) H
theorem pAdd : PIp X .Add rAugAdd := fun pins s σ H x y v u Q I rx ry ⟨i, j, ⟨a, b⟩, q⟩ => ip_add pins s σ H x y v u Q I rx ry ⟨i, j, a, b, q⟩
theorem pSub : PIp X .Sub rAugSub := fun pins s σ H x y v u Q I rx ry ⟨i, j, ⟨a, b⟩, q⟩ => ip_sub pins s σ H x y v u Q I rx ry ⟨i, j, a, b, q⟩
def rAbs : List V → Hp → VK → Prop := fun xs H Q => ∃ i, xs = [.int i] ∧ Q (.int (if i < 0 then -i else i)) H
theorem cAbs : CallR X (.builtin "abs") rAbs := call_abs
end
/-- all([lo <= sign <= hi for sign in z]) -/
theorem all_signs {K : PySem.W.Frag} {σ : L2.St} {H : Hp} {Q : VK} {i j : Nat} {z lo hi : Str} {a b : Nat} (hi' : σ[i]? = some (some (.str z))) (hj : j < σ.length) (hlo : lo.cps.toList = [a]) (hhi : hi.cps.toList = [b]) (hz : z.length ≤ 1000000)
    (k : ∀ H', Ex [] H H' → Q (.bl (z.cps.toList.all fun c => decide (a ≤ c) && decide (c ≤ b))) H') :
    tCB (rAll K) (tCons (tLc (iStr (tVar i)) (gName j) tYes (tChain rLe rLe (tC (.str lo)) (tVar j) (tC (.str hi))) [j]) tNil) σ H Q := by
  refine ⟨_, hi', z, rfl, fun D hD => ?_⟩
  refine lc_it walk_str (LcP D [] (fun _ => True) (RepAt K ((z.cps.toList.map fun c => decide (a ≤ c) && decide (c ≤ b)).map Dt.bl)) H) (LcP.start hD trivial (true_loc D)) (fun _ _ _ _ => trivial) ?_ ?_
  · rintro n x H1 H2 hn p ⟨rfl, c, hc, rfl⟩
    have fin : ∀ v, v = (decide (a ≤ c) && decide (c ≤ b)) → ∃ acc, H2 D = some (.lst acc) ∧ acc.length < sizeLine ∧ LcP D [] (fun _ => True) (RepAt K ((z.cps.toList.map fun c => decide (a ≤ c) && decide (c ≤ b)).map Dt.bl)) H (n + 1) (upd H2 D (.lst (acc ++ [V.bl v]))) := fun v hv =>
      p.step hD RepAt.stab (true_loc D) (Ex.refl _ _) trivial trivial ⟨.bl v, by rw [List.getElem?_map, List.getElem?_map, Array.getElem?_toList, hc, hv]; rfl, .bl v⟩ hn (by
        have e : z.length = z.cps.size := rfl
        omega)
    refine ⟨wipe_set1' _ _ _, ?_⟩
    show tChain rLe rLe (tC (.str lo)) (tVar j) (tC (.str hi)) _ _ _
    refine ⟨_, get_set1 _ _ hj, .inr ⟨lo, ⟨#[c]⟩, ⟨rfl, rfl⟩, _, rfl, ?_⟩⟩
    have e1 : (!decide ((⟨#[c]⟩ : Str).cps.toList < lo.cps.toList)) = decide (a ≤ c) := by
      rw [hlo, show (⟨#[c]⟩ : Str).cps.toList = [c] from rfl, le1]
    rw [e1]
    refine ite2 (fun h => ?_) (fun h => ?_)
    · refine .inr ⟨⟨#[c]⟩, hi, ⟨rfl, rfl⟩, fin _ ?_⟩
      rw [h, Bool.true_and, hhi, show (⟨#[c]⟩ : Str).cps.toList = [c] from rfl, le1]
    · refine fin _ ?_
      rw [Bool.eq_false_iff.mpr h, Bool.false_and]
  · intro H1 p
    obtain ⟨ys, h1, h2⟩ := p.done (by rw [List.length_map, List.length_map, Array.length_toList])
    refine ⟨D, _, rfl, SqL.bls h1 h2, ?_⟩
    rw [List.all_map]
    exact k _ p.ex
/-! ### tuple(..), list(..) -/
def rTupOf (K : PySem.W.Frag) : List V → Hp → VK → Prop := fun xs H Q => (∃ p ys, (xs = [.ref p] ∧ SqL K H p ys) ∧ ∀ l H', H l = none → H' l = some (.tup ys) → Ex [] H H' → Q (.ref l) H') ∨ ∃ p ys, (xs = [.ref p] ∧ SqT K H p ys) ∧ Q (.ref p) H
theorem cTuple {X : Cx} {K : PySem.W.Frag} (h : X.K = K) : CallR X (.type "tuple") (rTupOf K) := by
  subst h
  refine callImp call_tuple_of fun xs H Q q => ?_
  rcases q with ⟨p, ys, ⟨a, b⟩, q⟩ | ⟨p, ys, ⟨a, b⟩, q⟩
  · exact ⟨p, ys, a, .inl ⟨b, fun l hl => q l _ hl upd_same (Ex.new hl)⟩⟩
  · exact ⟨p, ys, a, .inr ⟨b, q⟩⟩
def rLstOf (K : PySem.W.Frag) : List V → Hp → VK → Prop := fun xs H Q => (∃ p ys, (xs = [.ref p] ∧ SqL K H p ys) ∧ ∀ l H', H l = none → H' l = some (.lst ys) → Ex [] H H' → Q (.ref l) H') ∨ ∃ p ys, (xs = [.ref p] ∧ SqT K H p ys) ∧ ∀ l H', H l = none → H' l = some (.lst ys) → Ex [] H H' → Q (.ref l) H'
theorem cList {X : Cx} {K : PySem.W.Frag} (h : X.K = K) : CallR X (.type "list") (rLstOf K) := by
  subst h
  refine callImp call_list_of fun xs H Q q => ?_
  rcases q with ⟨p, ys, ⟨a, b⟩, q⟩ | ⟨p, ys, ⟨a, b⟩, q⟩
  · exact ⟨p, ys, a, .inl b, fun l hl => q l _ hl upd_same (Ex.new hl)⟩
  · exact ⟨p, ys, a, .inr b, fun l hl => q l _ hl upd_same (Ex.new hl)⟩
theorem cutV_to (xs : List V) (n : Nat) : cutV xs none (some (n : Int)) = xs.take n := by
  unfold cutV
  rw [HT.sIx_none, HT.sIx_nat, List.drop_zero, Nat.sub_zero]
  by_cases h : n ≤ xs.length
  · rw [Nat.min_eq_left h]
  · rw [Nat.min_eq_right (by omega), List.take_length, List.take_of_length_le (by omega)]
theorem cutV_from (xs : List V) (n : Nat) : cutV xs (some (n : Int)) none = xs.drop n := by
  unfold cutV
  rw [HT.sIx_none, HT.sIx_nat]
  by_cases h : n ≤ xs.length
  · rw [Nat.min_eq_left h, List.take_of_length_le (by rw [List.length_drop]; omega)]
  · rw [Nat.min_eq_right (by omega), List.drop_of_length_le (by omega), List.drop_of_length_le (by omega)]
    simp
theorem RepL.take {K : PySem.W.Frag} {H : Hp} : ∀ {vs : List V} {l : List Dt} (n : Nat), RepL K H vs l → RepL K H (vs.take n) (l.take n)
  | _, _, 0, _ => by rw [List.take_zero, List.take_zero]; exact .nil
  | _, _, n + 1, .nil => .nil
  | _, _, n + 1, .cons h t => .cons h (RepL.take n t)
theorem RepL.drop {K : PySem.W.Frag} {H : Hp} : ∀ {vs : List V} {l : List Dt} (n : Nat), RepL K H vs l → RepL K H (vs.drop n) (l.drop n)
  | _, _, 0, h => h
  | _, _, n + 1, .nil => .nil
  | _, _, n + 1, .cons _ t => RepL.drop n t
theorem repS_len (z : Str) (k : Int) : (repS z k).length = z.length * k.toNat := by
  show (repS z k).cps.size = z.cps.size * k.toNat
  simp only [repS, List.size_toArray, flat_len, Array.length_toList]
  rw [Nat.mul_comm]
theorem RepL.rep {K : PySem.W.Frag} {H : Hp} {vs : List V} {l : List Dt} (h : RepL K H vs l) : ∀ n : Nat, RepL K H (List.replicate n vs).flatten (List.replicate n l).flatten
  | 0 => .nil
  | n + 1 => by
    rw [List.replicate_succ, List.flatten_cons, List.replicate_succ, List.flatten_cons]
    exact h.append (RepL.rep h n)
def rDictOf (K : PySem.W.Frag) : List V → Hp → VK → Prop := fun xs H Q => ∃ (a : Addr) (ps : List Addr) (kvs : List (Key × V)), (xs = [.ref a] ∧ SqL K H a (ps.map V.ref) ∧ Paired (fun p kv => SqT K H p [kV kv.1, kv.2]) ps kvs) ∧
  ∀ p H', H p = none → H' p = some (.dK (mergeK [] kvs)) → Ex [] H H' → Q (.ref p) H'
theorem cDict {X : Cx} {K : PySem.W.Frag} (h : X.K = K) (hc : X.calm = true) : CallR X (.type "dict") (rDictOf K) := by
  subst h
  exact callImp (call_dictP hc) fun xs H Q ⟨a, ps, kvs, ⟨h1, h2, h3⟩, q⟩ => ⟨a, ps, kvs, h1, h2, h3, fun p hp => q p _ hp upd_same (Ex.new hp)⟩
/-- a list of pairs (an int, a thing), as dict(..) takes it -/
theorem pairs_of {K : PySem.W.Frag} {H : Hp} : ∀ {ys : List V} {ds : List Dt}, RepL K H ys ds → (∀ d ∈ ds, ∃ (i : Int) (e : Dt), d = .tup [.int i, e]) → ∃ (ps : List Addr) (kvs : List (Key × V)), ys = ps.map V.ref ∧ Paired (fun p kv => SqT K H p [kV kv.1, kv.2]) ps kvs
  | _, _, .nil, _ => ⟨[], [], rfl, .nil⟩
  | _, _, .cons (v := v) h t, hd => by
    obtain ⟨ps, kvs, e, q⟩ := pairs_of t fun d m => hd d (List.mem_cons_of_mem _ m)
    obtain ⟨i, e1, rfl⟩ := hd _ List.mem_cons_self
    cases h with
    | tup hs hl =>
      rename_i a xs
      cases hl with
      | cons h1 t1 =>
        cases t1 with
        | cons h2 t2 =>
          cases t2
          cases h1
          rename_i v2
          exact ⟨a :: ps, (Sum.inl i, v2) :: kvs, by rw [e]; rfl, .cons hs q⟩
theorem Ex.stepPut {M : List Addr} {H H1 : Hp} {p : Addr} {o o' : HO} (h : H1 p = some o) (k : norm o = norm o') (s : p ∈ M ∨ H p = Option.none) (a : Ex M H H1) : Ex M H (upd H1 p o') :=
  Ex.step (Ex.put (M := [p]) h k List.mem_cons_self) (side1 s) a
theorem Dom.upd {H H1 : Hp} {p : Addr} {o : HO} (a : Dom H H1) : Dom H (upd H1 p o) := fun _ h => a _ (upd_none h).2
theorem kvs_nil : ([] : List (V × V)) = List.map (fun kv => (kV kv.1, kv.2)) ([] : List (Key × V)) := rfl
theorem kvs_ci {i : Int} {v : V} {ps : List (V × V)} {kvs : List (Key × V)} (h : ps = List.map (fun kv => (kV kv.1, kv.2)) kvs) : (V.int i, v) :: ps = List.map (fun kv => (kV kv.1, kv.2)) ((Sum.inl i, v) :: kvs) := by rw [h]; rfl
theorem kvs_cs {z : Str} {v : V} {ps : List (V × V)} {kvs : List (Key × V)} (h : ps = List.map (fun kv => (kV kv.1, kv.2)) kvs) : (V.str z, v) :: ps = List.map (fun kv => (kV kv.1, kv.2)) ((Sum.inr z, v) :: kvs) := by rw [h]; rfl
section
variable {X : Cx}
def tDNewA : TE := fun _ H Q => ∀ p H', H p = none → H' p = some (.dK []) → Ex [] H H' → Q (.ref p) H'
theorem peDict0 {pos : Pos} : PE X (.Dict [] [] pos) tDNewA := peImp pe_dnewK fun _ _ _ q => fun p hp => q p _ hp upd_same (Ex.new hp)
end
theorem strapp_len (x y : Str) : (x ++ y).length = x.length + y.length := by
  show (x.cps ++ y.cps).size = _
  rw [Array.size_append]
  rfl
end G
namespace G
open PySem PySem.Spec PyProof.Rows L2
/-! ### repr, where nothing is being shown already -/
def rRepr (K : PySem.W.Frag) : List V → Hp → VK → Prop := fun xs H Q => (∃ b, (xs = [.bl b]) ∧ Q (.str (if b then "True" else "False")) H) ∨
  ∃ a d, (xs = [.ref a] ∧ Dp K H (.ref a) d ∧ d.showable = true ∧ d.hasDict = false ∧ d.depth ≤ 32 ∧ d.shown.length ≤ sizeLine) ∧ Q (.str d.shown) H
theorem cRepr {X : Cx} {K : PySem.W.Frag} (h : X.K = K) (hg : X.A.guards = some []) (hu : X.A.units + 64 < cLine) : CallR X (.builtin "repr") (rRepr K) := by
  subst h
  intro pins s σ H xs us Q I r h
  rcases h with ⟨b, rfl, q⟩ | ⟨a, d, ⟨rfl, hd, hs, hn, hdp, hz⟩, q⟩
  · obtain ⟨u, rfl, rfl⟩ := vals1 r
    exact PySem.P.repr_of_bool ⟨.str _, H, I.tok _, ⟨_, rfl⟩, q⟩
  · obtain ⟨u, rfl, rv⟩ := vals1 r
    obtain ⟨as, rd⟩ := Dp.reads I d _ _ hd rv
    obtain rfl : u = .ref a := rv
    exact repr_of_reads' rd hs (PyData.noDict_hsm hn) hg (by omega) (fun _ _ e => e) (fun h' u tk hk => ⟨.str _, H, I.kept hk, ⟨_, rfl⟩, q⟩) hz
/-! ### == and != of nested lists and tuples -/
def rEqP (K : PySem.W.Frag) : R2 := fun x y H Q => ∃ d e, (Dp K H x d ∧ Dp K H y e ∧ SeqAt.shaped d = true ∧ SeqAt.shaped e = true) ∧ Q (.bl (PyData.eqv d e)) H
def rNeP (K : PySem.W.Frag) : R2 := fun x y H Q => ∃ d e, (Dp K H x d ∧ Dp K H y e ∧ SeqAt.shaped d = true ∧ SeqAt.shaped e = true) ∧ Q (.bl (!PyData.eqv d e)) H
theorem oEqP {X : Cx} {K : PySem.W.Frag} (h : X.K = K) (hu : X.A.units + 64 < cLine) : OpR X (compareOp .Eq) (rEqP K) := by
  subst h
  exact opImp (op_eqD hu) fun x y H Q ⟨d, e, ⟨a, b, c, z⟩, q⟩ => ⟨d, e, a, b, c, z, q⟩
theorem oNeP {X : Cx} {K : PySem.W.Frag} (h : X.K = K) (hu : X.A.units + 64 < cLine) : OpR X (compareOp .NotEq) (rNeP K) := by
  subst h
  exact opImp (op_neD hu) fun x y H Q ⟨d, e, ⟨a, b, c, z⟩, q⟩ => ⟨d, e, a, b, c, z, q⟩
theorem dpBlsAll {K : PySem.W.Frag} {H : Hp} : ∀ bs : List Bool, DpAll K H (bs.map V.bl) (bs.map PyData.bool)
  | [] => .nil
  | b :: bs => .cons (.bl b) (dpBlsAll bs)
theorem dpBls {K : PySem.W.Frag} {H : Hp} {a : Addr} {bs : List Bool} (h : SqL K H a (bs.map V.bl)) : Dp K H (.ref a) (.list (bs.map PyData.bool)) := .lst h (dpBlsAll bs)
end G
namespace G
open PySem PySem.Spec PyProof.Rows L2
/-! ### defs that may raise -/
structure ClX (P : Program) (w : World) (K : PySem.W.Frag) (mg : Str → Option Value) (base : Heap) (k : Nat) (x : Str) (sp : Sp) : Prop where
  ex : ∃ (f : Addr) (fd : FuncData) (ps : List Str), FnOk P w K mg base (L2.CX P w) k f fd ps sp ∧ mg x = some (.ref f) ∧ PySem.W.keepIn K (.ref f) = true ∧ Binds K fd ps []
/-- a method of the class at C -/
structure Mt (P : Program) (w : World) (K : PySem.W.Frag) (mg : Str → Option Value) (base : Heap) (CX : CXT) (k : Nat) (C : Addr) (m : Str) (sp : Sp) : Prop where
  ex : ∃ (f : Addr) (fd : FuncData) (ps : List Str), Meth K C m f ∧ FnOk P w K mg base CX k f fd ps sp ∧ Binds K fd ps []
/-- the making of an instance of C -/
structure Mkr (P : Program) (w : World) (K : PySem.W.Frag) (mg : Str → Option Value) (base : Heap) (CX : CXT) (k : Nat) (x : Str) (C : Addr) (sp : Sp) : Prop where
  ex : ∃ (f : Addr) (fd : FuncData) (ps : List Str), Mk K C f ∧ FnOk P w K mg base CX k f fd ps sp ∧ Binds K fd ps [] ∧ mg x = some (.ref C)
def tClW (sp : Sp) (W : WX) (t : TA) : TE := fun σ H Q => t σ H fun vs H1 => sp vs H1 Q fun cls d H' => W cls d σ H'
def tMtW (C : Addr) (m : Str) (sp : Sp) (W : WX) (ta : TE) (t : TA) : TE := fun σ H Q => ta σ H fun x H1 => ∃ a dx fs, (x = .ref a ∧ H1 a = some (.ins C dx fs) ∧ fs.lookup m = none) ∧ t σ H1 fun vs H2 => sp (x :: vs) H2 Q fun cls d H' => W cls d σ H'
def tMt (C : Addr) (m : Str) (sp : Sp) (ta : TE) (t : TA) : TE := fun σ H Q => ta σ H fun x H1 => ∃ a dx fs, (x = .ref a ∧ H1 a = some (.ins C dx fs) ∧ fs.lookup m = none) ∧ t σ H1 fun vs H2 => sp (x :: vs) H2 Q E0
def tMkr (C : Addr) (sp : Sp) (t : TA) : TE := fun σ H Q => t σ H fun vs H1 => ∀ x dx H2, H1 x = none → H2 x = some (.ins C dx []) → Ex [] H1 H2 → sp (.ref x :: vs) H2 (fun v H3 => v = .non ∧ Q (.ref x) H3) E0
theorem Ex.made {H : Hp} {x dx C : Addr} (nx : H x = Option.none) (nd : H dx = Option.none) : Ex [] H (upd (upd H dx (.own x)) x (.ins C dx [])) := by
  have e1 : Ex [] H (upd H dx (.own x)) := Ex.new nd
  exact e1.put_new nx
section
variable {X : Cx} {k j : Nat} {x m : Str} {sp : Sp} {C : Addr} {p pos apos : Pos} {e o : Expr} {es : List Expr} {t : TA} {ta : TE} {W : WX}
theorem pe_clX (c : ClX X.prog X.w X.K X.mg X.base k x sp) (tk : Takes X W) (hr : Room j X.A) (hk : k ≤ j) (hg : Gl X x) (ha : PA X (e :: es) t)
    (hdb : (x == ("__debug__" : Str)) = false := by decide) (he : starEach (e :: es) X.env = (false, eval e X.env) :: starEach es X.env := by rfl) (hpl : (backTo pos (starEach es X.env)).any (·.1) = false := by rfl) :
    PE X (.Call (.Name x p) (e :: es) [] pos) (tClW sp W t) := by
  obtain ⟨f, fd, ps, F, m, kp, b⟩ := c.ex
  exact pe_callS F (hr.mono hk) hg m kp b (fun σ => passAt tk σ) ha hdb he hpl
theorem pe_clX0 (c : ClX X.prog X.w X.K X.mg X.base k x sp) (tk : Takes X W) (hr : Room j X.A) (hk : k ≤ j) (hg : Gl X x) (hdb : (x == ("__debug__" : Str)) = false := by decide) :
    PE X (.Call (.Name x p) [] [] pos) (tClW sp W tNil) := by
  obtain ⟨f, fd, ps, F, m, kp, b⟩ := c.ex
  refine ⟨fun pins s σ H Q I h => ?_⟩
  refine wpAny_Call_Name_kw (ld_glob I hg m ?_ hdb)
  exact PySem.W.callWith_K0 I.kIn kp (run_fnS (us := []) (vs := []) F (hr.mono hk) b (passAt tk σ) I .nil h)
theorem pe_mtX {pl : Sem Bool} (c : Mt X.prog X.w X.K X.mg X.base (L2.CX X.prog X.w) k C m sp) (cl : Cls X.K C) (tk : Takes X W) (he : PE X o ta) (hr : Room j X.A) (hk : k ≤ j) (ha : PA X (e :: es) t)
    (hst : starEach (e :: es) X.env = (false, eval e X.env) :: starEach es X.env := by rfl) (hpl : (backTo pos (starEach es X.env)).any (·.1) = false := by rfl)
    (ht : eval (.Call (.Attribute o m apos) (e :: es) [] pos) X.env = (do
      let ov ← eval o X.env
      standAt apos.atName
      let (f, first) ← holding [ov] (getMethod ov m pl)
      callWith pos f first (backTo pos (starEach (e :: es) X.env)) (backToKw pos (keywordEach [] X.env))) := by rfl) :
    PE X (.Call (.Attribute o m apos) (e :: es) [] pos) (tMtW C m sp W ta t) := by
  obtain ⟨f, fd, ps, hm, F, b⟩ := c.ex
  refine ⟨fun pins s σ H Q I h => ?_⟩
  refine PySem.W.methodCall_KW (pl := pl) (thn (he.run pins s σ H _ I h) fun u s1 ⟨x, H1, I1, rx, a, dx, fs, ⟨ex, ea, l⟩, q⟩ => ?_) ht
  subst ex
  obtain rfl : u = Value.ref a := rx
  refine getmeth_ok I1 ea cl hm l ?_
  refine PySem.W.callWith_K (first := [.ref a]) (h₀ := X.base) I.ok.mod.kin hm.kp (thn (ha.run pos pins s1 σ H1 _ I1 q) fun us s2 ⟨vs, H2, I2, r, q2⟩ => ⟨I2.kIn, ?_⟩) hst hpl
  exact run_fnS (us := .ref a :: us) (vs := .ref a :: vs) F (hr.mono hk) b (passAt tk σ) I2 (.cons rfl r) q2
theorem pe_mtX0 {pl : Sem Bool} (c : Mt X.prog X.w X.K X.mg X.base (L2.CX X.prog X.w) k C m sp) (cl : Cls X.K C) (tk : Takes X W) (he : PE X o ta) (hr : Room j X.A) (hk : k ≤ j)
    (ht : eval (.Call (.Attribute o m apos) [] [] pos) X.env = (do
      let ov ← eval o X.env
      standAt apos.atName
      let (f, first) ← holding [ov] (getMethod ov m pl)
      callWith pos f first (backTo pos (starEach [] X.env)) (backToKw pos (keywordEach [] X.env))) := by rfl) :
    PE X (.Call (.Attribute o m apos) [] [] pos) (tMtW C m sp W ta tNil) := by
  obtain ⟨f, fd, ps, hm, F, b⟩ := c.ex
  refine ⟨fun pins s σ H Q I h => ?_⟩
  refine PySem.W.methodCall_KW (pl := pl) (thn (he.run pins s σ H _ I h) fun u s1 ⟨x, H1, I1, rx, a, dx, fs, ⟨ex, ea, l⟩, q⟩ => ?_) ht
  subst ex
  obtain rfl : u = Value.ref a := rx
  refine getmeth_ok I1 ea cl hm l ?_
  exact PySem.W.callWith_K0 (first := [.ref a]) I1.kIn hm.kp (run_fnS (us := [.ref a]) (vs := [.ref a]) F (hr.mono hk) b (passAt tk σ) I1 (.cons rfl .nil) q)
theorem pe_mt {pl : Sem Bool} (c : Mt X.prog X.w X.K X.mg X.base CX0 k C m sp) (cl : Cls X.K C) (he : PE X o ta) (hr : Room j X.A) (hk : k ≤ j) (ha : PA X (e :: es) t)
    (hst : starEach (e :: es) X.env = (false, eval e X.env) :: starEach es X.env := by rfl) (hpl : (backTo pos (starEach es X.env)).any (·.1) = false := by rfl)
    (ht : eval (.Call (.Attribute o m apos) (e :: es) [] pos) X.env = (do
      let ov ← eval o X.env
      standAt apos.atName
      let (f, first) ← holding [ov] (getMethod ov m pl)
      callWith pos f first (backTo pos (starEach (e :: es) X.env)) (backToKw pos (keywordEach [] X.env))) := by rfl) :
    PE X (.Call (.Attribute o m apos) (e :: es) [] pos) (tMt C m sp ta t) := by
  obtain ⟨f, fd, ps, hm, F, b⟩ := c.ex
  refine peImp (pe_meth he cl hm F (hr.mono hk) b .nil pass0 ha hst hpl ht) fun σ H Q q => ?_
  show ta σ H _
  have : (fun x H1 => ∃ a dx fs, (x = V.ref a ∧ H1 a = some (HO.ins C dx fs) ∧ fs.lookup m = none) ∧ t σ H1 fun vs H2 => sp (x :: vs) H2 Q E0) = fun x H1 => ∃ a dx fs, x = V.ref a ∧ H1 a = some (HO.ins C dx fs) ∧ fs.lookup m = none ∧ t σ H1 fun vs H2 => sp (x :: (vs ++ [])) H2 Q E0 := by
    funext x H1
    simp only [List.append_nil, and_assoc]
  rw [← this]
  exact q
theorem pe_mt0 {pl : Sem Bool} (c : Mt X.prog X.w X.K X.mg X.base CX0 k C m sp) (cl : Cls X.K C) (he : PE X o ta) (hr : Room j X.A) (hk : k ≤ j)
    (ht : eval (.Call (.Attribute o m apos) [] [] pos) X.env = (do
      let ov ← eval o X.env
      standAt apos.atName
      let (f, first) ← holding [ov] (getMethod ov m pl)
      callWith pos f first (backTo pos (starEach [] X.env)) (backToKw pos (keywordEach [] X.env))) := by rfl) :
    PE X (.Call (.Attribute o m apos) [] [] pos) (tMt C m sp ta tNil) := by
  obtain ⟨f, fd, ps, hm, F, b⟩ := c.ex
  refine peImp (pe_meth0 he cl hm F (hr.mono hk) b .nil pass0 ht) fun σ H Q q => ?_
  show ta σ H _
  have : (fun x H1 => ∃ a dx fs, (x = V.ref a ∧ H1 a = some (HO.ins C dx fs) ∧ fs.lookup m = none) ∧ tNil σ H1 fun vs H2 => sp (x :: vs) H2 Q E0) = fun x H1 => ∃ a dx fs, x = V.ref a ∧ H1 a = some (HO.ins C dx fs) ∧ fs.lookup m = none ∧ tNil σ H1 fun vs H2 => sp (x :: (vs ++ [])) H2 Q E0 := by
    funext x H1
    simp only [List.append_nil, and_assoc]
  rw [← this]
  exact q
theorem pe_mkr (c : Mkr X.prog X.w X.K X.mg X.base CX0 k x C sp) (hr : Room j X.A) (hk : k + 1 ≤ j) (hg : Gl X x) (ha : PA X (e :: es) t)
    (hdb : (x == ("__debug__" : Str)) = false := by decide) (he : starEach (e :: es) X.env = (false, eval e X.env) :: starEach es X.env := by rfl) (hpl : (backTo pos (starEach es X.env)).any (·.1) = false := by rfl) :
    PE X (.Call (.Name x p) (e :: es) [] pos) (tMkr C sp t) := by
  obtain ⟨f, fd, ps, M, F, b, gC⟩ := c.ex
  refine ⟨fun pins s σ H Q I h => ?_⟩
  refine wpAny_Call_Name_kw (ld_glob I hg gC ?_ hdb)
  refine PySem.W.callWith_K (h₀ := X.base) I.ok.mod.kin M.kp (thn (ha.run pos pins s σ H _ I h) fun us s1 ⟨vs, H1, I1, r, q⟩ => ⟨I1.kIn, ?_⟩) he hpl
  exact run_make (dvs := []) M F (hr.mono hk) b .nil pass0 I1 r fun x dx nx nd _ => by rw [List.append_nil]; exact q x dx _ nx upd_same (Ex.made nx nd)
theorem pe_mkr0 (c : Mkr X.prog X.w X.K X.mg X.base CX0 k x C sp) (hr : Room j X.A) (hk : k + 1 ≤ j) (hg : Gl X x) (hdb : (x == ("__debug__" : Str)) = false := by decide) :
    PE X (.Call (.Name x p) [] [] pos) (tMkr C sp tNil) := by
  obtain ⟨f, fd, ps, M, F, b, gC⟩ := c.ex
  refine peImp (pe_make0 M F (hr.mono hk) hg gC b .nil pass0 hdb) fun σ H Q q => ?_
  show ∀ x dx, H x = none → H dx = none → dx ≠ x → sp (.ref x :: ([] ++ [])) _ _ E0
  intro x dx nx nd _
  exact q x dx _ nx upd_same (Ex.made nx nd)
end
/-! ### fields -/
theorem lk_hd {f : Str} {v : V} {r : List (Str × V)} : List.lookup f ((f, v) :: r) = some v := by simp
theorem lk_tl {f g : Str} {u : V} {v : Option V} {r : List (Str × V)} (n : (f == g) = false) (h : List.lookup f r = v) : List.lookup f ((g, u) :: r) = v := by rw [List.lookup_cons, n]; exact h
theorem lk_nil {f : Str} : List.lookup f ([] : List (Str × V)) = none := rfl
theorem pf_nil {f : Str} {v : V} : putF f v [] = [(f, v)] := rfl
theorem pf_hd {f : Str} {v u : V} {r : List (Str × V)} : putF f v ((f, u) :: r) = (f, v) :: r := by simp [putF]
theorem pf_tl {f g : Str} {v u : V} {r q : List (Str × V)} (n : (g == f) = false) (h : putF f v r = q) : putF f v ((g, u) :: r) = (g, u) :: q := by
  have n' : g ≠ f := fun z => by rw [z] at n; simp at n
  rw [putF, if_neg n', h]
def tFldA (C : Addr) (ta : TE) (f : Str) : TE := fun σ H Q => ta σ H fun x H1 => ∃ a dx fs v, (x = .ref a ∧ H1 a = some (.ins C dx fs) ∧ fs.lookup f = some v) ∧ Q v H1
def sFldA (C : Addr) (ta tv : TE) (f : Str) : TS := fun D σ H => tv σ H fun y H1 => ta σ H1 fun x H2 => ∃ a dx fs fs', (x = .ref a ∧ H2 a = some (.ins C dx fs) ∧ putF f y fs = fs' ∧ fs.length ≤ 900) ∧
  ∀ H3, H3 a = some (.ins C dx fs') → Ex [a] H2 H3 → D.nx σ H3
def sFldAugA (C : Addr) (ta tv : TE) (rd : V → V → Hp → VK → Prop) (f : Str) : TS := fun D σ H => ta σ H fun x H1 => ∃ a dx fs v, (x = .ref a ∧ H1 a = some (.ins C dx fs) ∧ fs.lookup f = some v) ∧
  tv σ H1 fun y H2 => rd v y H2 fun z H3 => ∃ dx' fs' fs'', (H3 a = some (.ins C dx' fs') ∧ putF f z fs' = fs'' ∧ fs'.length ≤ 900) ∧ ∀ H4, H4 a = some (.ins C dx' fs'') → Ex [a] H3 H4 → D.nx σ H4
section
variable {X : Cx} {o e value : Expr} {f : Str} {pos pos' tpos : Pos} {ta tv : TE} {C : Addr}
theorem Ex.ins {H : Hp} {a C dx : Addr} {fs fs' : List (Str × V)} (h : H a = some (.ins C dx fs)) : Ex [a] H (upd H a (.ins C dx fs')) := Ex.put h rfl (by simp)
theorem pe_fldA (c : Cls X.K C) (n : NoAttr X.K C f) (he : PE X e ta) (hb : attributeBase e f X.env (eval e X.env) = eval e X.env) : PE X (.Attribute e f pos) (tFldA C ta f) := by
  refine ⟨fun pins s σ H Q I h => ?_⟩
  refine attr_of hb (thn (he.run pins s σ H _ I h) fun u s1 ⟨x, H1, I1, rx, a, dx, fs, v, ⟨ex, ea, l⟩, q⟩ => ?_)
  subst ex
  obtain rfl : u = Value.ref a := rx
  exact getattr_ok I1 ea c n l fun u' s2 I2 ru => ⟨v, H1, I2, ru, q⟩
theorem ps_fldA (c : Cls X.K C) (n : NoAttr X.K C f) (ha : PE X o ta) (hv : PE X value tv) (hs : swapsWith value (some (.Attribute o f pos')) pos.line X.env = pure false) : PS X (.Assign [.Attribute o f pos'] value pos) (sFldA C ta tv f) := by
  refine ⟨fun pins s σ H D I h => ?_⟩
  refine plainObj_wpAny_Assign_Attribute (thn (hv.run pins s σ H _ I h) fun u s1 ⟨y, H1, I1, ry, q⟩ => thn (ha.run pins s1 σ H1 _ I1 q) fun ov s2 ⟨x, H2, I2, rx, a, dx, fs, fs', ⟨ex, ea, ef, l⟩, q2⟩ => ?_) hs
  subst ex ef
  obtain rfl : ov = Value.ref a := rx
  exact setattr_ok I2 ea c n (by omega) ry fun s3 I3 => ⟨σ, _, I3, q2 _ upd_same (Ex.ins ea)⟩
theorem ps_fldaugA {op : Operator} {rd : V → V → Hp → VK → Prop} (c : Cls X.K C) (n : NoAttr X.K C f) (ha : PE X o ta) (hv : PE X value tv) (hop : InOp X op rd) : PS X (.AugAssign (.Attribute o f tpos) op value pos) (sFldAugA C ta tv rd f) := by
  refine ⟨fun pins s σ H D I h => ?_⟩
  refine wpAny_AugAssign_AttributeAny (thn (ha.run pins s σ H _ I h) fun ov s1 ⟨x, H1, I1, rx, a, dx, fs, v, ⟨ex, ea, l⟩, q⟩ => ?_)
  subst ex
  obtain rfl : ov = Value.ref a := rx
  refine getattr_ok I1 ea c n l fun u s2 I2 ru => thn (hv.run pins s2 σ H1 _ I2 q) fun w3 s3 ⟨y, H2, I3, ry, q3⟩ => thn (hop pins s3 σ H2 v y u w3 _ I3 ru ry q3) fun w4 s4 ⟨z, H3, I4, rz, dx', fs', fs'', ⟨ea', ef, l'⟩, q4⟩ => ?_
  subst ef
  exact setattr_ok I4 ea' c n (by omega) rz fun s5 I5 => ⟨σ, _, I5, q4 _ upd_same (Ex.ins ea')⟩
def iAdd : V → V → Hp → VK → Prop := fun x y H Q => (∃ i j, (x = .int i ∧ y = .int j) ∧ Q (.int (i + j)) H) ∨ ∃ i j, (x = .str i ∧ y = .str j ∧ i.length + j.length ≤ sizeLine) ∧ Q (.str (i ++ j)) H
theorem inAdd : InOp X .Add iAdd := fun pins s σ H x y u v Q I rx ry q => by
  rcases q with ⟨i, j, ⟨rfl, rfl⟩, q⟩ | ⟨i, j, ⟨rfl, rfl, hl⟩, q⟩
  · exact in_add pins s σ H _ _ u v Q I rx ry ⟨i, j, rfl, rfl, q⟩
  · exact in_addS pins s σ H _ _ u v Q I rx ry ⟨i, j, rfl, rfl, hl, q⟩
def iSub : V → V → Hp → VK → Prop := fun x y H Q => ∃ i j, (x = .int i ∧ y = .int j) ∧ Q (.int (i - j)) H
theorem inSub : InOp X .Sub iSub := fun pins s σ H x y u v Q I rx ry ⟨i, j, ⟨a, b⟩, q⟩ => in_sub pins s σ H x y u v Q I rx ry ⟨i, j, a, b, q⟩
end
/-! ### xs[i] op= e -/
def rGetL (K : PySem.W.Frag) : V → V → Hp → VK → Prop := fun x y H Q => ∃ p xs i v, (x = .ref p ∧ y = .int i ∧ SqL K H p xs ∧ 0 ≤ i ∧ atI xs i = some v) ∧ Q v H
theorem getL {X : Cx} {K : PySem.W.Frag} (h : X.K = K) : PGet X (rGetL K) := by
  subst h
  intro pins s σ H x y v u Q I rx ry h
  obtain ⟨p, xs, i, z, ⟨rfl, rfl, hq, h0, he⟩, q⟩ := h
  cases rx
  obtain ⟨t, rfl⟩ := ry
  obtain ⟨its, r, pl, hz⟩ := I.list hq
  obtain ⟨j, h1, h2, h3, h4, h5⟩ := atI_get he
  obtain ⟨w, ew, rw'⟩ := r.get h2
  have hl := r.length
  have hn := line63
  have fin : EP X pins σ Q w s := ⟨z, H, I, rw', q⟩
  have hj : i.toNat = j := by
    rw [seqIndex_of h0 h5] at h1
    exact Option.some.inj h1
  exact wpAny_getItem_list pl.isList h0 (by omega) (by rw [hj]; simpa using ew) fin
/-! ### exceptions of one's own -/
def excBm : List Value := [.type "ValueError", .type "Exception", .type "BaseException", .type "object"]
structure ExcF (K : PySem.W.Frag) (mg : Str → Option Value) (x : Str) (C : Addr) : Prop where
  g : mg x = some (.ref C)
  q : PySem.W.excIn K C excBm "ValueError.__new__" = true
  k : PySem.W.keepIn K (.ref C) = true
  b : PySem.W.subIn K (.ref C) (.type "BaseException") = some true
  t : PySem.W.typeIn K (.ref C) = some (.type "type")
theorem ExcF.names {X : Cx} {x : Str} {C : Addr} (F : ExcF X.K X.mg x C) (hg : Gl X x) (hdb : (x == ("__debug__" : Str)) = false := by decide) : Names X x (.ref C) := ⟨hg, hdb, .inl F.g⟩
/-- X() -/
theorem pmk0 {X : Cx} {x : Str} {C : Addr} {p pos : Pos} (E : ExcF X.K X.mg x C) (hg : Gl X x) (hdb : (x == ("__debug__" : Str)) = false := by decide) : PMk X (.Call (.Name x p) [] [] pos) (fun _ H Q => Q (.ref C) none H) := by
  intro pins s σ H Q I h
  refine wpAny_Call_Name_kw (ld_glob I hg E.g ?_ hdb)
  refine PySem.W.callWith_K0 I.kIn E.k ?_
  show wpAny _ _ (call (.ref C) []) _ _ _
  obtain ⟨bm, N, nm, qn, bs, hdct, sn, sub, ab, col, dd, k0, k1, k2, k3, k5, mN, hC, hN, hni, T⟩ := exc_obj I.kIn E.q
  refine wpAny_call_exc_subT PySem.F.excBase_ValueError T hC hN hni (fun h' e hm => ?_) (Nat.zero_le _)
  exact mk_of I hm (raises_own E.b E.t) h (I.hok.gone hm.new)
end G
namespace G
open PySem PySem.Spec PyProof.Rows L2 LamX
/-! ### dicts with texts as keys -/
theorem vs_hd {k : Key} {v : V} {r : List (Key × V)} : valV ((k, v) :: r) k = some v := valV_pos rfl
theorem vs_tl {k g : Key} {u : V} {v : Option V} {r : List (Key × V)} (n : decide (g = k) = false) (h : valV r k = v) : valV ((g, u) :: r) k = v := by rw [valV_neg (of_decide_eq_false n), h]
def NoKey (k : Key) (r : List (Key × V)) : Prop := ∀ p ∈ r, p.1 ≠ k
theorem nk_nil {k : Key} : NoKey k [] := fun _ h => nomatch h
theorem nk_tl {k g : Key} {u : V} {r : List (Key × V)} (n : decide (g = k) = false) (h : NoKey k r) : NoKey k ((g, u) :: r) := fun p hp => (List.mem_cons.mp hp).elim (fun e => by rw [e]; exact of_decide_eq_false n) (h p)
def HasKey (k : Key) (r : List (Key × V)) : Prop := (r.any fun kv => decide (kv.1 = k)) = true
theorem hk_hd {k : Key} {u : V} {r : List (Key × V)} : HasKey k ((k, u) :: r) := by simp [HasKey]
theorem hk_tl {k g : Key} {u : V} {r : List (Key × V)} (h : HasKey k r) : HasKey k ((g, u) :: r) := by unfold HasKey at *; rw [List.any_cons, h, Bool.or_true]
theorem map_nokey {k : Key} {v : V} : ∀ {r : List (Key × V)}, NoKey k r → r.map (fun kv => if kv.1 = k then (kv.1, v) else kv) = r
  | [], _ => rfl
  | p :: r, h => by
    rw [List.map_cons, if_neg (h p List.mem_cons_self), map_nokey fun q hq => h q (List.mem_cons_of_mem _ hq)]
theorem pk_nil' {k : Key} {v : V} : putK ([] : List (Key × V)) k v = [(k, v)] := rfl
theorem pk_hd {k : Key} {v u : V} {r : List (Key × V)} (n : NoKey k r) : putK ((k, u) :: r) k v = (k, v) :: r := by
  unfold putK
  rw [if_pos (by simp), List.map_cons, if_pos rfl, map_nokey n]
theorem pk_tl {k g : Key} {v u : V} {r q : List (Key × V)} (n : decide (g = k) = false) (h : putK r k v = q) : putK ((g, u) :: r) k v = (g, u) :: q := by
  have n' := of_decide_eq_false n
  subst h
  unfold putK
  rw [List.any_cons, n, Bool.false_or]
  by_cases c : (r.any fun kv => decide (kv.1 = k)) = true
  · rw [if_pos c, if_pos c, List.map_cons, if_neg n']
  · rw [if_neg c, if_neg c]
    rfl
def tDGA (td ty : TE) : TE := fun σ H Q => td σ H fun x H1 => ty σ H1 fun y H2 => ∃ a kvs z v, (x = .ref a ∧ H2 a = some (.dK kvs) ∧ y = .str z ∧ valV kvs (Sum.inr z) = some v) ∧ Q v H2
theorem pe_dgA {X : Cx} {o i : Expr} {pos : Pos} {td ty : TE} (hu : X.A.units + 1 < cLine) (ho : PE X o td) (hi : PE X i ty) (hs : NoSl i) : PE X (.Subscript o i pos) (tDGA td ty) := by
  refine ⟨fun pins s σ H Q I h => subD_of PySem.F.slot_dict_getitem.lookup hs (thn (ho.run pins s σ H _ I h) fun u s1 ⟨x, H1, I1, rx, q1⟩ => thn (hi.run pins s1 σ H1 _ I1 q1) fun iv s2 ⟨y, H2, I2, ry, a, kvs, z, v, ⟨ex, hd, ey, hv⟩, q2⟩ => ?_)⟩
  subst ex ey
  cases (show u = Value.ref a from rx)
  have g : DGet H2 a (.str z) (some v) := .inl ⟨kvs, Sum.inr z, .inl hd, rfl, hv.symm⟩
  exact ⟨dict_typeIs I2 g, d_getItem hu I2 g ry fun w' s3 I3 rw' => ⟨v, H2, I3, rw', q2⟩⟩
def rSetS : TSet := fun o i v H Q => ∃ a kvs z kvs', (o = .ref a ∧ i = .str z ∧ H a = some (.dK kvs) ∧ putK kvs (Sum.inr z) v = kvs' ∧ kvs.length ≤ 900) ∧ ∀ H', H' a = some (.dK kvs') → Ex [a] H H' → Q H'
theorem setS {X : Cx} (hu : X.A.units + 1 < cLine) : PSet X rSetS := by
  intro pins s σ H o i v ov iv u Q I ro ri rv q0
  obtain ⟨a, kvs, z, kvs', ⟨rfl, rfl, h, e, hl⟩, q⟩ := q0
  have hz : (900 : Nat) < sizeLine := by decide
  refine set_dict hu pins s σ H _ _ v ov iv u Q I ro ri rv ⟨a, _, rfl, DPut.k (k := Sum.inr z) h (by omega), ?_⟩
  rw [e]
  exact q _ upd_same (Ex.put h rfl (by simp))
/-! ### a lambda handed to a def -/
theorem takes_len {X : Cx} {W : WX} (t : Takes X W) : Takes X (fun cls d σ H => σ.length = X.N.length → W cls d σ H) := fun u s' ⟨a, B, sI, pins, σ, H, cls, d, e, I, nb, up, sky, na, os, ag, w⟩ =>
  t u s' ⟨a, B, sI, pins, σ, H, cls, d, e, I, nb, up, sky, na, os, ag, w I.len⟩
/-- f(lambda: body), f a def of one parameter -/
theorem pe_lamF {X : Cx} {T : List (Addr × Str)} {TT : (XK → Hp → VK → Prop) → Hp → VK → Prop} {x a : Str} {g c P : Addr} {k j : Nat} {st : Stmt} {fd : FuncData} {Ng : List Str} {params : Arguments} {body : Expr} {scope : Scope} {t : XK → TE} {p lpos pos : Pos}
    (F : Fun X.K x x st g fd) (hm : X.mg x = some (.ref g)) (b : Binds X.K fd [a] []) (Sg : FnScope Ng [a] (defScope st)) (hg : Gl X x) (hNg : Ng[0]? = some a) (hva : Vis (defScope st) a)
    (hG : ∀ cdv, GivesTo X Ng x (defScope st) g cdv (defBody st) a (X.env.qual ++ "<lambda>") TT)
    (TB : TabB X.base X.mg c P) (hcode : X.env.code = .ref c) (hmT : (P, X.env.qual ++ "<lambda>") ∈ T) (hu : ∀ p ∈ T, p.1 = P → p.2 = X.env.qual ++ "<lambda>") (hr : Room j X.A) (hk : k + 2 ≤ j) (L : LamS X.env.scope scope) (hdef : defaultsOf params X.env = ([], []))
    (hbind : ∀ (q : Str) (cl : List (Str × Addr)) (pm cv ctv : Value), bindArgs (PySem.W.kla_fn "<lambda>" q params body scope cl pm cv ctv) ⟨[], []⟩ = pure [])
    (hbody : ∀ (A : Around) (outer : List Env) (s : Shared) (H : Hp) (E : XK) (f c' : Addr), Room k (A.deeper (lamEnv X scope s.heap.objs.size f c')) → PE (lamCx X A outer s H E scope f c') body (t E))
    (hdb : (x == ("__debug__" : Str)) = false := by decide) (hd : (a == ("__debug__" : Str)) = false := by decide) (hcd : (a == ("__classdict__" : Str)) = false := by decide) :
    PE X (.Call (.Name x p) [.Lambda params body scope lpos] [] pos) (tLam T TT t) := by
  obtain ⟨oc, od, kV, doc, pm, an, cdv, ct, osl, rfl, lk, hcd'⟩ := F.ex
  exact pe_lamcall hg hm F.kp lk hcd' b Sg hNg hva (hG cdv) TB hcode hmT hu (hr.mono hk) L hdef hbind hbody hdb hd hcd
/-- as Fun, its code object told -/
structure FunC (K : PySem.W.Frag) (x qual : Str) (st : Stmt) (f : Addr) (fd : FuncData) (c : Addr) : Prop where
  ex : ∃ (oc : Value) (od : Option Addr) (kV doc pm : Value) (an : Option Addr) (ct : Value) (osl : Array (Option Value)),
    fd = PySem.W.fnOf x qual (defArgs st) (defBody st) (defScope st) .none kV doc pm an (.ref c) ct ∧ K.lookup f = some ⟨oc, od, .func fd, osl⟩ ∧ PySem.W.codeIn K (.ref c) qual = true
theorem FunC.ok {P : Program} {w : World} {K : PySem.W.Frag} {mg : Str → Option Value} {base : Heap} {x qual : Str} {st : Stmt} {f c : Addr} {fd : FuncData} {N ps : List Str} {k : Nat} {sp : Sp} (F : FunC K x qual st f fd c) (S : FnScope N ps (defScope st))
    (len : ∀ vs H Q E, sp vs H Q E → vs.length = ps.length)
    (hb : ∀ (A : Around) (outer : List Env) (s : Shared) (H : Hp) (vs : List V) (Q : VK) (E : XK), Room k (A.deeper (envOfC qual (defScope st) s.heap.objs.size f (.ref c))) → sp vs H Q E →
      ∃ t, PSs (cxOf CX0 P w K mg base N qual (defScope st) f (.ref c) A outer s H E).nox (defBody st) t ∧ t { nx := fun _ H' => Q .non H', rt := Q } (start N vs) H) : FnOk P w K mg base CX0 (k + 1) f fd ps sp := by
  obtain ⟨oc, od, kV, doc, pm, an, ct, osl, rfl, lk, hcd⟩ := F.ex
  refine fn_of lk hcd S len fun A outer s H vs Q E hr h => ?_
  obtain ⟨t, h, q⟩ := hb A outer s H vs Q E hr h
  exact ⟨t, h.nox, q⟩
end G
namespace G
open PySem PySem.Spec PyProof.Rows L2
/-! ### the law's def, called by the claim alone: nothing is being shown there -/
/-- the def runs as promised where the claim calls it -/
def RunG (P : Program) (w : World) (K : PySem.W.Frag) (mg : Str → Option Value) (base : Heap) (fa : Addr) (sp : Sp) : Prop :=
  ∀ (s : Shared) (H : Hp) (u : Value) (v : V) (Q : VK) (E : XK), Env0 P w K mg base callerA [] s H → RelV v u → sp [v] H Q E →
    codeAny (model P w) callerA (.call (.ref fa) ⟨[u], []⟩) (CR CX0 [] P w H s Q E) s
section
variable {P : Program} {w : World} {K : PySem.W.Frag} {mg mb : Str → Option Value} {fa a : Addr} {sp : Sp} {t : Shared} {vs : List Value} {ns : List Int}
/-- the script, and nothing else, is followed; and that only where it is no part of the module -/
noncomputable def scriptHp (K : PySem.W.Frag) (a : Addr) (vs : List Value) (ns : List Int) : Hp := fun b =>
  open Classical in if b = a ∧ K.lookup a = none then some (.frz { cls := .type "list", data := .seq vs.toArray } (.lst (ns.map V.int))) else none
theorem scriptHp_of (b : Addr) : scriptHp K a vs ns b = none ∨ (b = a ∧ K.lookup a = none ∧ scriptHp K a vs ns b = some (.frz { cls := .type "list", data := .seq vs.toArray } (.lst (ns.map V.int)))) := by
  unfold scriptHp
  by_cases h : b = a ∧ K.lookup a = none
  · exact .inr ⟨h.1, h.2, if_pos h⟩
  · exact .inl (if_neg h)
theorem script_run (KX : K.In t.heap) (gn : t.heap.Ns mainGlobals mg) (gb : t.heap.Ns builtinsNs mb) (bb : ∀ x : Str, x ≠ "__name__" → mb x = bootBuiltins x) (nl : t.heap.NoLimit) (ge : t.gens = #[])
    (la : t.heap.get? a = some { cls := .type "list", data := .seq vs.toArray }) (iv : IntsAre vs ns) (sz : ns.length ≤ sizeLine)
    (F : ∀ base : Heap, K.In base → base.Ns mainGlobals mg → RunG P w K mg base fa sp)
    (hsp : ∀ H : Hp, SqL K H a (ns.map V.int) → sp [.ref a] H (fun v _ => v = .bl true) fun _ _ _ => False) :
    codeAny (model P w) callerA (.call (.ref fa) ⟨[.ref a], []⟩) (fun r t' => r = .ok (.ret (.bool true)) ∧ OldK t.heap t'.heap ∧ t'.os = t.os ∧ AllBare t'.gens) t := by
  have rv := vals_ints iv
  have ln := iv.length
  generalize hH : scriptHp K a vs ns = H
  have cs : ∀ b, H b = none ∨ (b = a ∧ K.lookup a = none ∧ H b = some (.frz { cls := .type "list", data := .seq vs.toArray } (.lst (ns.map V.int)))) := fun b => by
    rw [← hH]
    exact scriptHp_of b
  have hq : SqL K H a (ns.map V.int) := by
    cases hk : K.lookup a with
    | none =>
      refine .inl (.inr ⟨{ cls := .type "list", data := .seq vs.toArray }, ?_⟩)
      rw [← hH]
      exact if_pos ⟨rfl, hk⟩
    | some o =>
      have e := (KX a o hk).symm.trans la
      cases e
      exact .inr ⟨_, vs.toArray, _, hk, rfl, rfl, rfl, by rw [List.size_toArray, ln]; exact sz, by simpa using rv⟩
  have ok : HOk P w H t.heap := fun b o e => by
    rcases cs b with z | ⟨rfl, _, z⟩
    · rw [z] at e
      cases e
    · rw [z] at e
      cases e
      exact ⟨la, by rw [List.length_map]; exact sz, vs, _, rv, la⟩
  have keep : ∀ {b : Addr} {o : Obj}, t.heap.get? b = some o → (∀ xs n, o.data ≠ .seq xs n) → (hidT t.heap H).get? b = some o := fun {b o} e nd => by
    refine hidT_get e ?_
    rcases cs b with z | ⟨rfl, _, _⟩
    · exact z
    · rw [la] at e
      cases e
      exact absurd rfl (nd _ _)
  have ns' : ∀ {b : Addr} {m : Str → Option Value}, t.heap.Ns b m → (hidT t.heap H).Ns b m := fun {b m} ⟨o, es, ep, e, d, r⟩ =>
    ⟨o, es, ep, keep e (fun xs n z => by rw [d] at z; cases z), d, r⟩
  have KB : K.In (hidT t.heap H) := fun b o e => hidT_get (KX b o e) (by
    rcases cs b with z | ⟨rfl, z, _⟩
    · exact z
    · rw [z] at e
      cases e)
  have hM : Mod K mg (hidT t.heap H) := ⟨KB, ns' gn, ⟨mb, ns' gb, bb⟩, let ⟨mc, h1, h2⟩ := nl; ⟨mc, ns' h1, h2⟩⟩
  have e0 : Env0 P w K mg (hidT t.heap H) callerA [] t H :=
    { frames := rfl, mod := hM, bs := fun b o e => of_hidT e, bsz := Nat.le_of_eq (hidT_size _ _), funs := trivial, frf := fun b hb => absurd (show b ∈ ([] : List Addr) from hb) (by simp), hok := ok, bare := .of_eq ge }
  refine codeAny_mono (F _ KB (ns' gn) t H (.ref a) (.ref a) _ _ e0 rfl (hsp H hq)) fun r t' h => ?_
  cases r with
  | error e => exact False.elim h
  | ok fl =>
    cases fl with
    | ret u =>
      obtain ⟨v, H', os, bare, un, ok', r', q⟩ := h
      obtain rfl : v = .bl true := q
      obtain rfl : u = Value.bool true := r'
      refine ⟨rfl, OldK.of_keep fun b o e => ?_, os, bare⟩
      rcases cs b with z | ⟨rfl, _, z⟩
      · exact un.keep b o e z (by intro hb; exact absurd (show b ∈ ([] : List Addr) from hb) (by simp)) (by simp)
      · have z2 := un.frzs b _ _ z
        obtain ⟨e1, _⟩ := ok b _ z
        obtain ⟨e2, _⟩ := ok' b _ z2
        rw [e] at e1
        cases e1
        exact e2
    | next => exact False.elim h
    | brk => exact False.elim h
    | cont => exact False.elim h
/-- the law's def by its body, where the claim calls it -/
theorem claim_run {base : Heap} {x qual an : Str} {st : Stmt} {f : Addr} {fd : FuncData} {N : List Str} {k : Nat} (F : Fun K x qual st f fd) (S : FnScope N [an] (defScope st)) (hr : Room (k + 1) callerA)
    (bd : ∀ (s : Shared) (u : Value), BindsTo s fd ⟨[u], []⟩ [(an, u)])
    (body : ∀ (cdv : Value) (s : Shared) (H : Hp) (v : V) (Q : VK) (E : XK), Room k (callerA.deeper (envOfC qual (defScope st) s.heap.objs.size f cdv)) → sp [v] H Q E →
      ∃ r, PSs (cxOf CX0 P w K mg base N qual (defScope st) f cdv callerA [] s H E).nox (defBody st) r ∧ r { nx := fun _ H' => Q .non H', rt := Q } (start N [v]) H) :
    RunG P w K mg base f sp := by
  intro s H u v Q E e0 rv h
  obtain ⟨oc, od, kV, doc, pm, an, cdv, ct, osl, rfl, lk, hcd⟩ := F.ex
  have old : ∀ b o, base.get? b = some o → s.heap.get? b = some o := fun b o e => (e0.bs b o e).1
  have KX : K.In s.heap := e0.mod.kin.keeps old
  have nl : s.heap.NoLimit := e0.mod.nolimit.keeps old
  refine codeAny_call_function hr.depth (KX _ _ lk) rfl S.co S.gen rfl (PySem.W.codeRec_of KX hcd) (bd s u _ _ _ _ ?_)
  refine wpAny_newFunctionEnv_cells S.kind (fun y hy => ?_) fun env he s1 e => ?_
  · rcases List.mem_singleton.mp hy with rfl
    rcases S.par _ List.mem_cons_self with q | q
    · exact .inl q
    · exact .inr ⟨q, PySem.W.cellsFrom_some _ _ _ (.inl q)⟩
  · subst he
    refine ⟨nl.keeps e.toInCall.keep, codeAny_func ?_⟩
    obtain ⟨r, hp, hq⟩ := body cdv s H v Q E (hr.deeper _) h
    have I : Inv (cxOf CX0 P w K mg base N qual (defScope st) f cdv callerA [] s H E) [] (start N [v]) H s1 := inv_start S hr.hd e0 rfl (.cons rv .nil) e
    refine wpAny_mono (hp.nox.run [] s1 (start N [v]) H _ I hq) (fun fl s' o => ?_) fun _ _ o => o
    cases fl with
    | ret z =>
      obtain ⟨y, _, H', J, ry, qy⟩ := o
      exact ⟨y, H', J.os, J.bare, J.base, J.hok, ry, qy⟩
    | next =>
      obtain ⟨_, H', J, qy⟩ := o
      exact ⟨V.non, H', J.os, J.bare, J.base, J.hok, rfl, qy⟩
    | brk =>
      obtain ⟨_, _, _, qy⟩ := o
      exact False.elim qy
    | cont =>
      obtain ⟨_, _, _, qy⟩ := o
      exact False.elim qy
end
/-- the goal that k_head leaves, from the law's promise where the claim calls it -/
theorem walk_claim {l : PySem.W.OpenLaw} {n : Nat} {q : Program} {loose : List Str} {XP : (Str → Option Value) → Heap → Prop} {YP : World → Heap → Prop} {d : DefRec} {K : Params → PySem.W.Frag} {sp : World → Sp}
    (hn : l.most = some n) (big : n ≤ sizeLine) (hdf : d.params.defaults = []) (hY : ∀ (w : World) (h : Heap), YP w h → (K w.params).In h)
    (F : ∀ (w : World) (mg : Str → Option Value) (fa : Addr) (h : Heap), (K w.params).In h → h.Ns mainGlobals mg → mg d.name = some (.ref fa) →
      ∀ base : Heap, (K w.params).In base → base.Ns mainGlobals mg → RunG l.prog w (K w.params) mg base fa (sp w))
    (hsp : ∀ (w : World) (H : Hp) (a : Addr) (ns : List Int), ns.length ≤ n → SqL (K w.params) H a (ns.map V.int) → sp w [.ref a] H (fun v _ => v = .bl true) fun _ _ _ => False) :
    PySem.W.WalkO q loose XP YP l.row.toRowW d [] (fun f vs => PySem.call f vs) := by
  refine Att.attach_call hn hdf fun w _ s₁ mg mb fa _ _ _ _ a vs ns G Y _ _ _ hm ha hi hl hg => ?_
  have KX := hY w _ Y
  exact script_run KX G.T.g G.T.b G.T.builtins G.T.nolimit hg ha hi (Nat.le_trans hl big) (F w mg fa _ KX G.T.g hm) fun H hS => hsp w H a ns hl hS
end G
namespace G
open PySem PySem.Spec PyProof.Rows L2
/-! ### a def that is promised only where nothing is being shown -/
structure FnG (P : Program) (w : World) (K : PySem.W.Frag) (mg : Str → Option Value) (base : Heap) (k : Nat) (f : Addr) (fd : FuncData) (ps : List Str) (sp : Sp) : Prop where
  len : ∀ vs H Q E, sp vs H Q E → vs.length = ps.length
  run : ∀ (A : Around) (outer : List Env) (s : Shared) (H : Hp) (us : List Value) (vs : List V) (Q : VK) (E : XK), A.guards = some [] → Room k A → Env0 P w K mg base A outer s H → BindsTo s fd ⟨us, []⟩ (ps.zip us) → Vals vs us → sp vs H Q E →
    codeAny (model P w) A (.call (.ref f) ⟨us, []⟩) (CR CX0 outer P w H s Q E) s
structure ClG (P : Program) (w : World) (K : PySem.W.Frag) (mg : Str → Option Value) (base : Heap) (k : Nat) (x : Str) (sp : Sp) : Prop where
  ex : ∃ (f : Addr) (fd : FuncData) (ps : List Str), FnG P w K mg base k f fd ps sp ∧ mg x = some (.ref f) ∧ PySem.W.keepIn K (.ref f) = true ∧ Binds K fd ps []
section
variable {P : Program} {w : World} {K : PySem.W.Frag} {mg : Str → Option Value} {base : Heap}
/-- such a def, by its body -/
theorem fnG_ok {x qual : Str} {st : Stmt} {f : Addr} {fd : FuncData} {N ps : List Str} {k : Nat} {sp : Sp} (F : Fun K x qual st f fd) (S : FnScope N ps (defScope st)) (len : ∀ vs H Q E, sp vs H Q E → vs.length = ps.length)
    (hbody : ∀ (cdv : Value) (A : Around) (outer : List Env) (s : Shared) (H : Hp) (vs : List V) (Q : VK) (E : XK), A.guards = some [] → Room k (A.deeper (envOfC qual (defScope st) s.heap.objs.size f cdv)) → sp vs H Q E →
      ∃ t, PSs (cxOf CX0 P w K mg base N qual (defScope st) f cdv A outer s H E).nox (defBody st) t ∧ t { nx := fun _ H' => Q .non H', rt := Q } (start N vs) H) : FnG P w K mg base (k + 1) f fd ps sp := by
  obtain ⟨oc, od, kV, doc, pm, an, cdv, ct, osl, rfl, lk, hcd⟩ := F.ex
  refine ⟨len, fun A outer s H us vs Q E hgd hr e0 hb rv hsp => ?_⟩
  have hl := len _ _ _ _ hsp
  have old : ∀ b o, base.get? b = some o → s.heap.get? b = some o := fun b o e => (e0.bs b o e).1
  have KX : K.In s.heap := e0.mod.kin.keeps old
  have nl : s.heap.NoLimit := e0.mod.nolimit.keeps old
  refine codeAny_call_function hr.depth (KX _ _ lk) rfl S.co S.gen rfl (PySem.W.codeRec_of KX hcd) (hb _ _ _ _ ?_)
  refine wpAny_newFunctionEnv_cells S.kind (fun y hy => ?_) fun env he s1 e => ?_
  · rcases S.par y.1 (List.of_mem_zip (show (y.1, y.2) ∈ ps.zip us from hy)).1 with q | q
    · exact .inl q
    · exact .inr ⟨q, PySem.W.cellsFrom_some _ _ _ (.inl q)⟩
  · subst he
    refine ⟨nl.keeps e.toInCall.keep, codeAny_func ?_⟩
    obtain ⟨r, hp, hq⟩ := hbody cdv A outer s H vs Q E hgd (hr.deeper _) hsp
    have I : Inv (cxOf CX0 P w K mg base N qual (defScope st) f cdv A outer s H E) [] (start N vs) H s1 := inv_start S hr.hd e0 hl rv e
    refine wpAny_mono (hp.nox.run [] s1 (start N vs) H _ I hq) (fun fl s' o => ?_) fun _ _ o => o
    cases fl with
    | ret z =>
      obtain ⟨y, _, H', J, ry, qy⟩ := o
      exact ⟨y, H', J.os, J.bare, J.base, J.hok, ry, qy⟩
    | next =>
      obtain ⟨_, H', J, qy⟩ := o
      exact ⟨V.non, H', J.os, J.bare, J.base, J.hok, rfl, qy⟩
    | brk =>
      obtain ⟨_, _, _, qy⟩ := o
      exact False.elim qy
    | cont =>
      obtain ⟨_, _, _, qy⟩ := o
      exact False.elim qy
end
section
variable {X : Cx}
/-- a call of such a def -/
theorem pe_clG {k j : Nat} {x : Str} {sp : Sp} {p pos : Pos} {e : Expr} {es : List Expr} {t : TA} (c : ClG X.prog X.w X.K X.mg X.base k x sp) (hgd : X.A.guards = some []) (hr : Room j X.A) (hk : k ≤ j) (hg : Gl X x) (ha : PA X (e :: es) t)
    (hdb : (x == ("__debug__" : Str)) = false := by decide) (he : starEach (e :: es) X.env = (false, eval e X.env) :: starEach es X.env := by rfl) (hpl : (backTo pos (starEach es X.env)).any (·.1) = false := by rfl) :
    PE X (.Call (.Name x p) (e :: es) [] pos) (tCl sp E0 t) := by
  obtain ⟨f, fd, ps, F, m, kp, b⟩ := c.ex
  refine ⟨fun pins s σ H Q I h => ?_⟩
  refine wpAny_Call_Name_kw (ld_glob I hg m ?_ hdb)
  refine PySem.W.callWith_K (h₀ := X.base) I.ok.mod.kin kp (thn (ha.run pos pins s σ H _ I h) fun us s1 ⟨vs, H1, I1, r, q⟩ => ⟨I1.kIn, ?_⟩) he hpl
  have hl : us.length = ps.length := by rw [← r.length]; exact F.len _ _ _ _ q
  have hb := b s1 us I1.kIn (by rw [List.append_nil]; exact hl)
  rw [List.append_nil] at hb
  refine wpAny_call (codeAny_mono (F.run X.A X.stack s1 H1 us vs Q E0 hgd (hr.mono hk) I1.env0 hb r q) fun r s' hq => ?_)
  cases r with
  | error e => exact pass0 pins σ H1 s1 e s' I1 hq
  | ok fl =>
    cases fl with
    | ret u => exact I1.after hq
    | next => exact False.elim hq
    | brk => exact False.elim hq
    | cont => exact False.elim hq
end
end G

namespace G
open PySem L2
def top (i : Nat) : Stmt := PySem.Challenge.pw_keptviews_k72_whole_things_there_and_bac.main.body.getD i (.Pass ⟨0, 0, 0, 0⟩)
abbrev s_is_integer : Stmt := top 5
abbrev n_is_integer : List Str := ["thing"]
theorem sc_is_integer : FnScope n_is_integer ["thing"] (defScope s_is_integer) := ⟨rfl, rfl, rfl, by decide +kernel, rfl, by decide +kernel, by decide +kernel⟩
abbrev s_is_plain_thing : Stmt := top 10
abbrev n_is_plain_thing : List Str := ["thing", "sign"]
theorem sc_is_plain_thing : FnScope n_is_plain_thing ["thing"] (defScope s_is_plain_thing) := ⟨rfl, rfl, rfl, by decide +kernel, rfl, by decide +kernel, by decide +kernel⟩
abbrev s_plain_text : Stmt := top 11
abbrev n_plain_text : List Str := ["thing"]
theorem sc_plain_text : FnScope n_plain_text ["thing"] (defScope s_plain_text) := ⟨rfl, rfl, rfl, by decide +kernel, rfl, by decide +kernel, by decide +kernel⟩
abbrev s_pieces : Stmt := top 12
abbrev n_pieces : List Str := ["items", "deep", "found", "at"]
theorem sc_pieces : FnScope n_pieces ["items", "deep"] (defScope s_pieces) := ⟨rfl, rfl, rfl, by decide +kernel, rfl, by decide +kernel, by decide +kernel⟩
abbrev s_text_of : Stmt := top 13
abbrev n_text_of : List Str := ["thing", "told", "waiting", "is_text", "one", "deep"]
theorem sc_text_of : FnScope n_text_of ["thing"] (defScope s_text_of) := ⟨rfl, rfl, rfl, by decide +kernel, rfl, by decide +kernel, by decide +kernel⟩
abbrev s_raw_integer : Stmt := top 14
abbrev n_raw_integer : List Str := ["text", "at", "begin", "end", "number"]
theorem sc_raw_integer : FnScope n_raw_integer ["text", "at"] (defScope s_raw_integer) := ⟨rfl, rfl, rfl, by decide +kernel, rfl, by decide +kernel, by decide +kernel⟩
abbrev s_raw_string : Stmt := top 15
abbrev n_raw_string : List Str := ["text", "at", "signs"]
theorem sc_raw_string : FnScope n_raw_string ["text", "at"] (defScope s_raw_string) := ⟨rfl, rfl, rfl, by decide +kernel, rfl, by decide +kernel, by decide +kernel⟩
abbrev s_raw_plain : Stmt := top 16
abbrev n_raw_plain : List Str := ["text", "at"]
theorem sc_raw_plain : FnScope n_raw_plain ["text", "at"] (defScope s_raw_plain) := ⟨rfl, rfl, rfl, by decide +kernel, rfl, by decide +kernel, by decide +kernel⟩
abbrev s_behind : Stmt := top 17
abbrev n_behind : List Str := ["rows", "text", "at", "row"]
theorem sc_behind : FnScope n_behind ["rows", "text", "at"] (defScope s_behind) := ⟨rfl, rfl, rfl, by decide +kernel, rfl, by decide +kernel, by decide +kernel⟩
abbrev s_raw_thing : Stmt := top 18
abbrev n_raw_thing : List Str := ["text", "begin", "rows", "at", "told"]
theorem sc_raw_thing : FnScope n_raw_thing ["text", "begin"] (defScope s_raw_thing) := ⟨rfl, rfl, rfl, by decide +kernel, rfl, by decide +kernel, by decide +kernel⟩
abbrev s_thing_of : Stmt := top 19
abbrev n_thing_of : List Str := ["text", "told"]
theorem sc_thing_of : FnScope n_thing_of ["text"] (defScope s_thing_of) := ⟨rfl, rfl, rfl, by decide +kernel, rfl, by decide +kernel, by decide +kernel⟩
abbrev s_law_flow : Stmt := top 21
abbrev n_law_flow : List Str := ["script"]
theorem sc_law_flow : FnScope n_law_flow ["script"] (defScope s_law_flow) := ⟨rfl, rfl, rfl, by decide +kernel, rfl, by decide +kernel, by decide +kernel⟩
abbrev s_law_draw : Stmt := top 22
abbrev n_law_draw : List Str := ["flow", "many", "left", "cell"]
theorem sc_law_draw : FnScope n_law_draw ["flow", "many"] (defScope s_law_draw) := ⟨rfl, rfl, rfl, by decide +kernel, rfl, by decide +kernel, by decide +kernel⟩
abbrev s_law_some : Stmt := top 23
abbrev n_law_some : List Str := ["flow", "things"]
theorem sc_law_some : FnScope n_law_some ["flow", "things"] (defScope s_law_some) := ⟨rfl, rfl, rfl, by decide +kernel, rfl, by decide +kernel, by decide +kernel⟩
abbrev s_law_word_of : Stmt := top 24
abbrev n_law_word_of : List Str := ["flow", "signs", "sign"]
theorem sc_law_word_of : FnScope n_law_word_of ["flow"] (defScope s_law_word_of) := ⟨rfl, rfl, rfl, by decide +kernel, rfl, by decide +kernel, by decide +kernel⟩
abbrev s_law_thing : Stmt := top 25
abbrev n_law_thing : List Str := ["flow", "deep", "kind", "item"]
theorem sc_law_thing : FnScope n_law_thing ["flow", "deep"] (defScope s_law_thing) := ⟨rfl, rfl, rfl, by decide +kernel, rfl, by decide +kernel, by decide +kernel⟩
abbrev s_law_text_of : Stmt := top 26
abbrev n_law_text_of : List Str := ["thing", "item", "sign"]
theorem sc_law_text_of : FnScope n_law_text_of ["thing"] (defScope s_law_text_of) := ⟨rfl, rfl, rfl, by decide +kernel, rfl, by decide +kernel, by decide +kernel⟩
abbrev s_law_figures : Stmt := top 27
abbrev n_law_figures : List Str := ["number", "found"]
theorem sc_law_figures : FnScope n_law_figures ["number"] (defScope s_law_figures) := ⟨rfl, rfl, rfl, by decide +kernel, rfl, by decide +kernel, by decide +kernel⟩
abbrev s_law_told : Stmt := top 28
abbrev n_law_told : List Str := ["thing", "found"]
theorem sc_law_told : FnScope n_law_told ["thing"] (defScope s_law_told) := ⟨rfl, rfl, rfl, by decide +kernel, rfl, by decide +kernel, by decide +kernel⟩
abbrev s_law_wrapped : Stmt := top 29
abbrev n_law_wrapped : List Str := ["thing", "deep", "turn"]
theorem sc_law_wrapped : FnScope n_law_wrapped ["thing", "deep"] (defScope s_law_wrapped) := ⟨rfl, rfl, rfl, by decide +kernel, rfl, by decide +kernel, by decide +kernel⟩
abbrev s_law_is_back : Stmt := top 30
abbrev n_law_is_back : List Str := ["thing", "text"]
theorem sc_law_is_back : FnScope n_law_is_back ["thing"] (defScope s_law_is_back) := ⟨rfl, rfl, rfl, by decide +kernel, rfl, by decide +kernel, by decide +kernel⟩
abbrev s_law : Stmt := top 31
abbrev n_law : List Str := ["script", "flow", "shown_there", "turn", "thing", "other", "odd", "bad", "wrapped"]
theorem sc_law : FnScope n_law ["script"] (defScope s_law) := ⟨rfl, rfl, rfl, by decide +kernel, rfl, by decide +kernel, by decide +kernel⟩
/-- where the classes stand -/
structure Ad where
  NoText : Addr
  NoThing : Addr
/-- what the top has left -/
structure Txt (K : PySem.W.Frag) (mg : Str → Option Value) (A : Ad) : Prop where
  e_NoText : ExcF K mg "NoText" A.NoText
  e_NoThing : ExcF K mg "NoThing" A.NoThing
  x_NoText_NoText : PySem.W.exmOne K (.ref A.NoText) (.ref A.NoText) = some true
  x_NoText_NoThing : PySem.W.exmOne K (.ref A.NoText) (.ref A.NoThing) = some false
  x_NoThing_NoText : PySem.W.exmOne K (.ref A.NoThing) (.ref A.NoText) = some false
  x_NoThing_NoThing : PySem.W.exmOne K (.ref A.NoThing) (.ref A.NoThing) = some true
  b_abs : mg "abs" = none
  b_all : mg "all" = none
  b_bool : mg "bool" = none
  b_int : mg "int" = none
  b_isinstance : mg "isinstance" = none
  b_len : mg "len" = none
  b_list : mg "list" = none
  b_range : mg "range" = none
  b_repr : mg "repr" = none
  b_str : mg "str" = none
  b_tuple : mg "tuple" = none
  c_BEYOND : ∃ u, mg "BEYOND" = some u ∧ RelV (.int 10000000000000000000000000000000000000000) u
  c_MOST_DEEP : ∃ u, mg "MOST_DEEP" = some u ∧ RelV (.int 60) u
  c_MOST_FIGURES : ∃ u, mg "MOST_FIGURES" = some u ∧ RelV (.int 40) u
theorem bt_isinstance : bootBuiltins "isinstance" = some (.builtin "isinstance") := by decide +kernel
theorem bt_int : bootBuiltins "int" = some (.type "int") := by decide +kernel
theorem bt_bool : bootBuiltins "bool" = some (.type "bool") := by decide +kernel
theorem bt_str : bootBuiltins "str" = some (.type "str") := by decide +kernel
theorem bt_tuple : bootBuiltins "tuple" = some (.type "tuple") := by decide +kernel
theorem bt_len : bootBuiltins "len" = some (.builtin "len") := by decide +kernel
theorem bt_all : bootBuiltins "all" = some (.builtin "all") := by decide +kernel
theorem bt_abs : bootBuiltins "abs" = some (.builtin "abs") := by decide +kernel
theorem bt_list : bootBuiltins "list" = some (.type "list") := by decide +kernel
theorem bt_repr : bootBuiltins "repr" = some (.builtin "repr") := by decide +kernel
theorem bt_range : bootBuiltins "range" = some (.type "range") := by decide +kernel
/-! ### the text of a thing, by signs -/
def intL (i : Int) : List Nat := if i < 0 then 45 :: TL.numL i.natAbs else TL.numL i.natAbs
def escL (l : List Nat) : List Nat := l.flatMap fun c => if c = 34 ∨ c = 92 then [92, c] else [c]
mutual
def tx : Dt → List Nat
  | .non => [110, 111, 110, 101]
  | .int i => intL i
  | .str s => 34 :: (escL s.cps.toList ++ [34])
  | .tup l => 40 :: (txs l ++ [41])
  | .bl _ => []
  | .oth => []
def txs : List Dt → List Nat
  | [] => []
  | d :: l => tx d ++ txr l
def txr : List Dt → List Nat
  | [] => []
  | d :: l => 32 :: (tx d ++ txr l)
end
def plainT : Dt → Bool
  | .non => true
  | .int i => decide (-(10 ^ 40) < i) && decide (i < 10 ^ 40)
  | .str s => s.cps.toList.all signOk
  | _ => false
mutual
/-- a thing at this depth has a text -/
def okAt : Nat → Dt → Bool
  | k, .tup l => decide (k ≤ 60) && okAll (k + 1) l
  | k, .non => decide (k ≤ 60)
  | k, .int i => decide (k ≤ 60) && plainT (.int i)
  | k, .str s => decide (k ≤ 60) && plainT (.str s)
  | _, .bl _ => false
  | _, .oth => false
def okAll : Nat → List Dt → Bool
  | _, [] => true
  | k, d :: l => okAt k d && okAll k l
end
mutual
/-- how many steps, how many signs -/
def dsz : Dt → Nat
  | .non => 4
  | .int i => (intL i).length
  | .str s => 3 + 2 * s.length
  | .tup l => 3 + dszs l
  | .bl _ => 1
  | .oth => 1
def dszs : List Dt → Nat
  | [] => 0
  | d :: l => 2 + dsz d + dszs l
end
theorem okAll_all (k : Nat) : ∀ l : List Dt, okAll k l = l.all (okAt k)
  | [] => by rw [okAll]; rfl
  | d :: l => by rw [okAll, okAll_all k l]; rfl
theorem okAt_deep {k : Nat} {d : Dt} (h : 60 < k) : okAt k d = false := by
  cases d <;> simp [okAt, Nat.not_le.mpr h]
theorem okAt_plain {k : Nat} {d : Dt} (h : k ≤ 60) (n : ∀ l, d ≠ .tup l) : okAt k d = plainT d := by
  cases d with
  | tup l => exact absurd rfl (n l)
  | _ => simp [okAt, plainT, h]
theorem okAt_tup {k : Nat} {l : List Dt} (h : k ≤ 60) : okAt k (.tup l) = l.all (okAt (k + 1)) := by rw [okAt, decide_eq_true h, Bool.true_and, okAll_all]
theorem intL_ne (i : Int) : intL i ≠ [] := by
  unfold intL
  split
  · exact fun z => nomatch z
  · exact TL.numL_ne _
theorem escL_cons (c : Nat) (l : List Nat) : escL (c :: l) = (if c = 34 ∨ c = 92 then [92, c] else [c]) ++ escL l := rfl
theorem escL_len : ∀ l : List Nat, (escL l).length ≤ 2 * l.length
  | [] => Nat.le_refl _
  | c :: l => by
    rw [escL_cons, List.length_append, List.length_cons]
    have := escL_len l
    split <;> simp <;> omega
mutual
theorem tx_len : ∀ d : Dt, (tx d).length ≤ dsz d
  | .non => Nat.le_refl _
  | .int i => Nat.le_refl _
  | .str s => by
    rw [tx, dsz, List.length_cons, List.length_append, List.length_singleton]
    have h1 := escL_len s.cps.toList
    have h2 : s.cps.toList.length = s.length := Array.length_toList
    omega
  | .tup l => by
    rw [tx, dsz, List.length_cons, List.length_append, List.length_singleton]
    have := txs_len l
    omega
  | .bl _ => Nat.zero_le _
  | .oth => Nat.zero_le _
theorem txs_len : ∀ l : List Dt, (txs l).length ≤ dszs l
  | [] => Nat.le_refl _
  | d :: l => by
    rw [txs, dszs, List.length_append]
    have h1 := tx_len d
    have h2 := txr_len l
    omega
theorem txr_len : ∀ l : List Dt, (txr l).length ≤ dszs l
  | [] => Nat.le_refl _
  | d :: l => by
    rw [txr, dszs, List.length_cons, List.length_append]
    have h1 := tx_len d
    have h2 := txr_len l
    omega
end
/-! ### what waits -/
inductive Pc where
  | t (s : Str) (k : Nat)
  | d (d : Dt) (k : Nat)
def Pc.dt : Pc → Dt
  | .t s k => .tup [.bl true, .str s, .int k]
  | .d x k => .tup [.bl false, x, .int k]
def Pc.ok : Pc → Bool
  | .t _ k => decide (k ≤ 60)
  | .d x k => okAt k x
def Pc.tx : Pc → List Nat
  | .t s _ => s.cps.toList
  | .d x _ => G.tx x
def Pc.sz : Pc → Nat
  | .t _ _ => 1
  | .d x _ => dsz x + 1
/-- a tuple's pieces, the first one first -/
def pcs (k : Nat) : List Dt → List Pc
  | [] => []
  | d :: l => .d d (k + 1) :: pcr k l
where pcr (k : Nat) : List Dt → List Pc
  | [] => []
  | d :: l => .t " " k :: .d d (k + 1) :: pcr k l
def pcAll (k : Nat) (l : List Dt) : List Pc := .t "(" k :: (pcs k l ++ [.t ")" k])
theorem pcr_ok {k : Nat} (h : k ≤ 60) : ∀ l : List Dt, (pcs.pcr k l).all Pc.ok = l.all (okAt (k + 1))
  | [] => rfl
  | d :: l => by
    rw [pcs.pcr, List.all_cons, List.all_cons, List.all_cons, pcr_ok h l]
    simp [Pc.ok, h]
theorem pcs_ok {k : Nat} (h : k ≤ 60) : ∀ l : List Dt, (pcs k l).all Pc.ok = l.all (okAt (k + 1))
  | [] => rfl
  | d :: l => by
    rw [pcs, List.all_cons, List.all_cons, pcr_ok h l]
    rfl
theorem pcAll_ok {k : Nat} (h : k ≤ 60) (l : List Dt) : (pcAll k l).all Pc.ok = okAt k (.tup l) := by
  rw [pcAll, List.all_cons, List.all_append, pcs_ok h, okAt_tup h]
  simp [Pc.ok, h]
theorem pcr_tx (k : Nat) : ∀ l : List Dt, (pcs.pcr k l).flatMap Pc.tx = txr l
  | [] => by rw [txr]; rfl
  | d :: l => by
    rw [pcs.pcr, List.flatMap_cons, List.flatMap_cons, pcr_tx k l, txr]
    rfl
theorem pcs_tx (k : Nat) : ∀ l : List Dt, (pcs k l).flatMap Pc.tx = txs l
  | [] => by rw [txs]; rfl
  | d :: l => by
    rw [pcs, List.flatMap_cons, pcr_tx k l, txs]
    rfl
theorem pcAll_tx (k : Nat) (l : List Dt) : (pcAll k l).flatMap Pc.tx = tx (.tup l) := by
  rw [pcAll, List.flatMap_cons, List.flatMap_append, pcs_tx, tx]
  have h1 : Pc.tx (.t "(" k) = [40] := by show ("(" : Str).cps.toList = _; decide +kernel
  have h2 : [Pc.t ")" k].flatMap Pc.tx = [41] := by show (")" : Str).cps.toList ++ [] = _; decide +kernel
  rw [h1, h2]
  rfl
theorem pcr_sz (k : Nat) : ∀ l : List Dt, ((pcs.pcr k l).map Pc.sz).sum = dszs l
  | [] => by rw [dszs]; rfl
  | d :: l => by
    rw [pcs.pcr, List.map_cons, List.map_cons, List.sum_cons, List.sum_cons, pcr_sz k l, dszs]
    show 1 + (dsz d + 1 + dszs l) = _
    omega
theorem pcs_sz (k : Nat) : ∀ l : List Dt, ((pcs k l).map Pc.sz).sum ≤ dszs l
  | [] => Nat.zero_le _
  | d :: l => by
    rw [pcs, List.map_cons, List.sum_cons, pcr_sz k l, dszs]
    show dsz d + 1 + dszs l ≤ _
    omega
theorem pcAll_sz (k : Nat) (l : List Dt) : ((pcAll k l).map Pc.sz).sum + 1 ≤ dsz (.tup l) + 1 - 0 := by
  rw [pcAll, List.map_cons, List.sum_cons, List.map_append, List.sum_append, dsz]
  have := pcs_sz k l
  show 1 + (_ + (1 + 0)) + 1 ≤ _
  omega
theorem pcs_len (k : Nat) : ∀ l : List Dt, (pcs k l).length ≤ dszs l := fun l => by
  have h : ∀ ps : List Pc, ps.length ≤ (ps.map Pc.sz).sum := fun ps => by
    induction ps with
    | nil => exact Nat.le_refl _
    | cons p ps ih =>
      rw [List.map_cons, List.sum_cons, List.length_cons]
      have : 1 ≤ p.sz := by cases p <;> simp [Pc.sz]
      omega
  exact Nat.le_trans (h _) (pcs_sz k l)
open PySem L2 CwR
local macro_rules | `(tactic| walk_at "ne") => `(tactic| first
  | assumption
  | (apply Ne.symm; assumption)
  | (with_reducible apply ne_new; (focus with_reducible assumption); walk_at "hp")
  | (apply Ne.symm; with_reducible apply ne_new; (focus with_reducible assumption); walk_at "hp")
  | walk_at "ne2")
local macro_rules | `(tactic| walk_at "nin") => `(tactic| with_unfolding_all first | exact True.intro | (apply And.intro; (focus walk_at "ne"); walk_at "nin"))
local macro_rules | `(tactic| walk_at "hp") => `(tactic| with_reducible first
  | assumption
  | exact upd_same
  | (apply Ex.get; (focus with_reducible assumption); (focus walk_at "hp"); walk_at "nin")
  | (apply upd_oth2; (focus walk_at "hp"); walk_at "ne"))
local macro_rules | `(tactic| walk_at "sqt") => `(tactic| with_reducible first
  | assumption
  | (apply SqT.of; assumption)
  | (apply Ex.sqT; (focus with_reducible assumption); walk_at "sqt")
  | exact SqT.of_new
  | (apply sqt_new; (focus with_reducible assumption); walk_at "sqt")
  | (apply sqt_put; (focus walk_at "hp"); (focus with_unfolding_all exact rfl); walk_at "sqt"))
local macro_rules | `(tactic| walk_at "sql") => `(tactic| with_reducible first
  | assumption
  | (apply SqL.of; walk_at "hp"))
local macro_rules | `(tactic| walk_at "rep") => `(tactic| with_reducible first
  | assumption
  | exact Rep.non
  | exact Rep.bl _
  | exact Rep.int _
  | (apply Rep.str; walk_at "sz")
  | (apply Rep.tup; (focus walk_at "sqt"); walk_at "repl")
  | (apply Ex.rep; (focus with_reducible assumption); walk_at "rep")
  | (apply rep_new; (focus with_reducible assumption); walk_at "rep")
  | (apply rep_put; (focus walk_at "hp"); (focus with_unfolding_all exact rfl); walk_at "rep")
  | (apply Rep.oth_l; walk_at "hp")
  | (apply Rep.oth_d; walk_at "hp"))
local macro_rules | `(tactic| walk_at "repl") => `(tactic| with_reducible first
  | assumption
  | exact RepL.nil
  | (apply RepL.cons; (focus walk_at "rep"); walk_at "repl")
  | (apply RepL.rep; walk_at "repl")
  | (apply RepL.append; (focus walk_at "repl"); walk_at "repl")
  | (apply Ex.repL; (focus with_reducible assumption); walk_at "repl")
  | (apply repl_new; (focus with_reducible assumption); walk_at "repl")
  | (apply repl_put; (focus walk_at "hp"); (focus with_unfolding_all exact rfl); walk_at "repl"))
/-- what is new is new ahead -/
local macro_rules | `(tactic| walk_at "dom") => `(tactic| with_reducible first
  | exact Dom.refl _
  | (apply Dom.step; (focus with_reducible assumption); walk_at "dom")
  | (apply Dom.upd; walk_at "dom"))
local macro_rules | `(tactic| walk_at "nn") => `(tactic| with_reducible first
  | assumption
  | (apply Dom.none; (focus with_reducible assumption); walk_at "dom"))
local macro_rules | `(tactic| walk_at "side") => `(tactic| first
  | exact side0
  | (apply side1; first | (apply Or.inl; simp; done) | (apply Or.inr; walk_at "nn")))
/-- one heap behind another -/
local macro_rules | `(tactic| walk_at "ex") => `(tactic| first
  | (with_reducible exact Ex.refl _ _)
  | assumption
  | (with_reducible apply Ex.step; (focus with_reducible assumption); (focus walk_at "side"); walk_at "ex")
  | (with_reducible apply Ex.stepNew; (focus with_reducible assumption); walk_at "ex")
  | (with_reducible apply Ex.stepPut; (focus walk_at "hp"); (focus with_unfolding_all exact rfl); (focus first | (apply Or.inl; simp; done) | (apply Or.inr; walk_at "nn")); walk_at "ex"))
local macro_rules | `(tactic| walk_at "lenx") => `(tactic| first
  | (apply LenX.lst; walk_at "sql")
  | (apply LenX.tup; walk_at "sqt")
  | (apply LenX.str; walk_at "sz"))
local macro_rules | `(tactic| walk_at "sz") => `(tactic| first
  | exact Nat.le_of_ble_eq_true rfl
  | assumption
  | omega
  | (show _ ≤ 16777216; omega)
  | (show _ < 16777216; omega)
  | (show _ ≤ 16777216; simp only [List.length_append, List.length_cons, List.length_nil, List.length_map, flat_len, repS_len, strapp_len]; omega)
  | (show _ ≤ 16777216; decide)
  | (simp only [repS_len, strapp_len]; first | exact Nat.le_of_ble_eq_true rfl | omega | (simp (config := { decide := true }) only []; omega)))
local macro_rules | `(tactic| walk_at "kvs") => `(tactic| with_reducible first
  | exact kvs_nil
  | (apply kvs_ci; walk_at "kvs")
  | (apply kvs_cs; walk_at "kvs"))
/-- one of the facts that a reading asks -/
local macro_rules | `(tactic| walk_at "fact") => `(tactic| first
  | rfl
  | with_reducible assumption
  | walk_at "hp"
  | walk_at "sqt"
  | walk_at "sql"
  | walk_at "rep"
  | walk_at "repl"
  | walk_at "lenx"
  | walk_at "kvs"
  | (apply tyL; walk_at "sql")
  | (apply Exists.intro; walk_at "sqt")
  | (apply Exists.intro; walk_at "sql")
  | (apply cmul_r; (focus decide); decide)
  | (apply cmul_l; (focus omega); omega)
  | (apply cdivw; (focus first | decide | omega); first | decide | omega)
  | decide
  | omega
  | (show (0 : Int) < _; omega)
  | walk_at "sz"
  | walk_at "fact2")
local macro_rules | `(tactic| walk_at "facts") => `(tactic| first
  | (apply And.intro; (focus walk_at "fact"); walk_at "facts")
  | walk_at "fact")
local macro_rules | `(tactic| walk_at "exs") => `(tactic| repeat (apply Exists.intro))
/-- one part of a reading -/
local macro_rules | `(tactic| walk_at "rd1") => `(tactic| first
  | (apply Exists.intro; walk_at "exs"; (apply And.intro; focus walk_at "facts"))
  | (apply And.intro; focus walk_at "facts")
  | (apply Or.inl; walk_at "exs"; (apply And.intro; focus walk_at "facts"))
  | (apply Or.inr; walk_at "rd1"))
local macro_rules | `(tactic| walk_at "rd") => `(tactic| repeat (walk_at "rd1"))
local macro_rules | `(tactic| walk_at "rdi") => `(tactic| repeat (first | walk_at "rd1" | intro _))
/-- the written part by its name -/
local macro_rules | `(tactic| walk_at "nm") => `(tactic| try dsimp only [cx_nK, cx_K, List.map_cons, List.map_nil])
local macro_rules | `(tactic| walk_at "lkf") => `(tactic| with_reducible first
  | exact lk_hd
  | exact lk_nil
  | (apply lk_tl; (focus decide +kernel); walk_at "lkf"))
local macro_rules | `(tactic| walk_at "pff") => `(tactic| with_reducible first
  | exact pf_hd
  | exact pf_nil
  | (apply pf_tl; (focus decide +kernel); walk_at "pff"))
local macro_rules | `(tactic| walk_at "vsf") => `(tactic| with_reducible first
  | exact vs_hd
  | (apply vs_tl; (focus decide +kernel); walk_at "vsf"))
local macro_rules | `(tactic| walk_at "nkf") => `(tactic| with_reducible first
  | exact nk_nil
  | (apply nk_tl; (focus decide +kernel); walk_at "nkf"))
local macro_rules | `(tactic| walk_at "pkf") => `(tactic| with_reducible first
  | exact pk_nil'
  | (apply pk_hd; walk_at "nkf")
  | (apply pk_tl; (focus decide +kernel); walk_at "pkf"))
local macro_rules | `(tactic| walk_at "fact") => `(tactic| with_reducible first
  | walk_at "lkf"
  | walk_at "pff"
  | walk_at "vsf"
  | walk_at "pkf"
  | exact ⟨_, rfl⟩)
-- @SP is_integer (spIsInt K)
-- @SP is_plain_thing (spPlainT K)
-- @SP plain_text (spPT K A)
-- @SP pieces (spPieces K)
-- @SP text_of (spTextOf K A)
-- @SP raw_integer (spRawInt K)
-- @SP raw_string (spRawStr K)
-- @SP raw_plain (spRawPlain K)
-- @SP behind (spBehind K)
-- @SP raw_thing (spRawThing K)
-- @SP thing_of (spThingOf K A)
def isInt : Dt → Bool
  | .int _ => true
  | _ => false
def spIsInt (K : PySem.W.Frag) : Sp := fun vs H Q _ => ∃ v d, (vs = [v] ∧ Rep K H v d) ∧ Q (.bl (isInt d)) H
def spPlainT (K : PySem.W.Frag) : Sp := fun vs H Q _ => ∃ v d, (vs = [v] ∧ Rep K H v d) ∧ ∀ H', Ex [] H H' → Q (.bl (plainT d)) H'
def spPT (K : PySem.W.Frag) (A : Ad) : Sp := fun vs H Q E => ∃ v d, (vs = [v] ∧ Rep K H v d) ∧
  if plainT d = true then ∀ z H', z.cps.toList = tx d → Ex [] H H' → Q (.str z) H' else ∀ H', Ex [] H H' → E (.ref A.NoThing) none H'
theorem repl1 (c0 : Nat) (z : List Nat) : ∀ l : List Nat, PySem.StrLaws.replL [c0] z l = l.flatMap fun c => if c = c0 then z else [c]
  | [] => PySem.StrLaws.replL_nil
  | c :: r => by
    by_cases h : c = c0
    · subst h
      rw [PySem.StrLaws.replL_hit (by simp) (by simp)]
      show z ++ PySem.StrLaws.replL [c] z r = _
      rw [repl1 c z r, List.flatMap_cons, if_pos rfl]
    · rw [PySem.StrLaws.replL_miss (by simpa using h), repl1 c0 z r, List.flatMap_cons, if_neg h]
      rfl
theorem esc_repl : ∀ l : List Nat, PySem.StrLaws.replL [34] [92, 34] (PySem.StrLaws.replL [92] [92, 92] l) = escL l := by
  intro l
  rw [repl1, repl1]
  induction l with
  | nil => rfl
  | cons c l ih =>
    rw [List.flatMap_cons, List.flatMap_append, ih, escL_cons]
    by_cases h1 : c = 92
    · subst h1
      rfl
    · rw [if_neg h1]
      by_cases h2 : c = 34
      · subst h2
        rfl
      · rw [if_neg (by simp [h1, h2])]
        simp [h2]
theorem tl_int (i : Int) : (Str.ofString (toString i)).cps.toList = intL i := by
  unfold intL
  by_cases h : i < 0
  · rw [if_pos h, PyProof.Rows.toString_neg h]
    obtain ⟨n, hn⟩ : ∃ n : Nat, 0 - i = (n : Int) := ⟨(0 - i).toNat, by omega⟩
    have e : i.natAbs = n := by omega
    rw [hn, e, ← TL.tl_num n]
    show (Str.ofString ("-" ++ toString (n : Int))).cps.toList = 45 :: (Str.ofString (toString (n : Int))).cps.toList
    rw [Str.ofString_eq_toList, Str.ofString_eq_toList, String.toList_append, List.map_append]
    rfl
  · rw [if_neg h]
    obtain ⟨n, rfl⟩ : ∃ n : Nat, i = (n : Int) := ⟨i.toNat, by omega⟩
    exact TL.tl_num n
theorem lenT (s : Str) : s.length = s.cps.toList.length := (Array.length_toList).symm
theorem esc_str (z : Str) : (Txt.replace z "\\" "\\\\").length ≤ 2 * z.length ∧ (Txt.replace (Txt.replace z "\\" "\\\\") "\"" "\\\"").length ≤ 2 * z.length ∧
    (Txt.replace (Txt.replace z "\\" "\\\\") "\"" "\\\"").cps.toList = escL z.cps.toList := by
  have e1 : (Txt.replace z "\\" "\\\\").cps.toList = PySem.StrLaws.replL [92] [92, 92] z.cps.toList := PySem.StrLaws.replace_list (by decide +kernel)
  have e2 : (Txt.replace (Txt.replace z "\\" "\\\\") "\"" "\\\"").cps.toList = escL z.cps.toList := by
    rw [← esc_repl, ← e1]
    exact PySem.StrLaws.replace_list (by decide +kernel)
  refine ⟨?_, ?_, e2⟩
  · rw [lenT, lenT, e1, repl1]
    generalize z.cps.toList = l
    induction l with
    | nil => exact Nat.le_refl _
    | cons c l ih =>
      rw [List.flatMap_cons, List.length_append, List.length_cons]
      split
      · simp only [List.length_cons, List.length_nil]
        omega
      · simp only [List.length_cons, List.length_nil]
        omega
  · rw [lenT, lenT, e2]
    exact escL_len z.cps.toList
section
variable {P : Program} {w : World} {K : PySem.W.Frag} {mg : Str → Option Value} {base : Heap} {A : Ad}
theorem ok_is_integer {f : Addr} {fd : FuncData} (F : Fun K "is_integer" "is_integer" s_is_integer f fd) (T : Txt K mg A)  : FnOk P w K mg base CX0 1 f fd ["thing"] (spIsInt K) := by
  refine F.ok sc_is_integer (fun vs H Q E h => ?_) (fun cdv Ar outer s H vs Q E hr h => ?_)
  · obtain ⟨v, d, ⟨rfl, _⟩, _⟩ := h
    rfl
  · obtain ⟨v, d, ⟨rfl, r⟩, k⟩ := h
    refine ⟨_, (pss_one (ps_ret (pe_and (pe_callB (cIs (K := K) rfl) (by rfl) T.b_isinstance bt_isinstance (pa_cons (pv 0) (pa_cons (pe_bltn (v := .ty "int") (by rfl) T.b_int bt_int rfl) pa_nil))) (pe_one (pe_not (pe_callB (cIs (K := K) rfl) (by rfl) T.b_isinstance bt_isinstance (pa_cons (pv 0) (pa_cons (pe_bltn (v := .ty "bool") (by rfl) T.b_bool bt_bool rfl) pa_nil)))))))), ?_⟩
    walk_at "nm"
    have r0 := r
    cases r <;> walk_at "rd"
    all_goals exact k
theorem ok_is_plain_thing {f : Addr} {fd : FuncData} (F : Fun K "is_plain_thing" "is_plain_thing" s_is_plain_thing f fd) (T : Txt K mg A) (C_is_integer : Cl P w K mg base 1 "is_integer" (spIsInt K)) : FnOk P w K mg base CX0 2 f fd ["thing"] (spPlainT K) := by
  refine F.ok sc_is_plain_thing (fun vs H Q E h => ?_) (fun cdv Ar outer s H vs Q E hr h => ?_)
  · obtain ⟨v, d, ⟨rfl, _⟩, _⟩ := h
    rfl
  · obtain ⟨v, d, ⟨rfl, r⟩, k⟩ := h
    refine ⟨_, (pss_cons (ps_if (pt_cmpR op_isN (pv 0) pe_non (nomark _)) (pss_one (ps_ret pe_bl)) pss_nil) (pss_cons (ps_if (pt_val (pe_cl C_is_integer hr (by decide) (by rfl) (pa_cons (pv 0) pa_nil))) (pss_one (ps_ret (pe_chain oLt oLt (pe_un oNeg (C8.pe_gc (by rfl) T.c_BEYOND)) (pv 0) (C8.pe_gc (by rfl) T.c_BEYOND)))) pss_nil) (pss_one (ps_ret (pe_and (pe_callB (cIs (K := K) rfl) (by rfl) T.b_isinstance bt_isinstance (pa_cons (pv 0) (pa_cons (pe_bltn (v := .ty "str") (by rfl) T.b_str bt_str rfl) pa_nil))) (pe_one (pe_callB (cAll (K := K) rfl rfl) (by rfl) T.b_all bt_all (pa_cons (pe_lc (own := [("sign", 1)]) (g := gName 1) (tt := tYes) rfl sc_is_plain_thing.nd (pi_str (pv 0)) (blkOk_by (N := n_is_plain_thing) (sc := defScope s_is_plain_thing) (by decide +kernel)) (fun _ _ _ _ _ => (pg_name (i := 1) sc_is_plain_thing.nd rfl (Or.inl rfl))) (fun _ _ _ _ _ => pts_nil) (fun _ _ _ _ _ => (pe_chain oLe oLe pe_str (pv 1) pe_str))) pa_nil)))))))), ?_⟩
    walk_at "nm"
    have r0 := r
    cases r with
    | non => walk_at "rd"; exact k _ (Ex.refl _ _)
    | bl b => walk_at "rd"; exact k _ (Ex.refl _ _)
    | tup h1 h2 => walk_at "rd"; exact k _ (Ex.refl _ _)
    | oth h1 => walk_at "rd"; exact k _ (Ex.refl _ _)
    | int i =>
      walk_at "rd"
      refine ite2 (fun h1 => ?_) (fun h1 => ?_)
      · walk_at "rd"
        have e : plainT (.int i) = decide (i < 10 ^ 40) := by
          show (decide (-(10 ^ 40) < i) && _) = _
          rw [show decide (-(10 ^ 40 : Int) < i) = true from h1, Bool.true_and]
        rw [e] at k
        exact k _ (Ex.refl _ _)
      · have e : plainT (.int i) = false := by
          show (decide (-(10 ^ 40) < i) && _) = _
          rw [show decide (-(10 ^ 40 : Int) < i) = false from Bool.eq_false_iff.mpr h1, Bool.false_and]
        rw [e] at k
        exact k _ (Ex.refl _ _)
    | str z hz =>
      have fin : ∀ σ : L2.St, σ = [some (.str z), none] → tCB (rAll K) (tCons (tLc (iStr (tVar 0)) (gName 1) tYes (tChain rLe rLe (tC (.str " ")) (tVar 1) (tC (.str "~"))) [1]) tNil) σ H Q := fun σ hσ => by
        subst hσ
        exact all_signs (z := z) (a := 32) (b := 126) rfl (by show 1 < 2; decide) (by decide +kernel) (by decide +kernel) (by omega) k
      repeat (first | (exact fin _ rfl) | walk_at "rd1")
theorem ok_plain_text {f : Addr} {fd : FuncData} (F : Fun K "plain_text" "plain_text" s_plain_text f fd) (T : Txt K mg A) (C_is_plain_thing : Cl P w K mg base 2 "is_plain_thing" (spPlainT K)) : FnOk P w K mg base (L2.CX P w) 3 f fd ["thing"] (spPT K A) := by
  obtain ⟨oc, od, kV, doc, pm, an, cdv, ct, osl, rfl, lk, hcd⟩ := F.ex
  refine fn_ofT lk hcd sc_plain_text (by decide +kernel) (by decide) (fun vs H Q E h => ?_) (fun Ar outer s H vs Q E hr h => ?_)
  · obtain ⟨v, d, ⟨rfl, _⟩, _⟩ := h
    rfl
  · obtain ⟨v, d, ⟨rfl, r⟩, k⟩ := h
    refine ⟨_, (psst_cons (PST.of (ps_if (pt_not (pt_val (pe_cl C_is_plain_thing hr (by decide) (by rfl) (pa_cons (pv 0) pa_nil)))) (pss_one (ps_raise rfl (takes_of rfl rfl rfl rfl) (pmk0 T.e_NoThing (by rfl)))) pss_nil)) (psst_cons (PST.of (ps_if (pt_cmpR op_isN (pv 0) pe_non (nomark _)) (pss_one (ps_ret pe_str)) pss_nil)) (psst_cons (pst_if (pt_val (pe_callB (cIs (K := K) rfl) (by rfl) T.b_isinstance bt_isinstance (pa_cons (pv 0) (pa_cons (pe_bltn (v := .ty "str") (by rfl) T.b_str bt_str rfl) pa_nil)))) (psst_cons (pst_ret (pet_op (oAdd (K := K) rfl) (pet_op (oAdd (K := K) rfl) (PET.of pe_str) (pet_replT (pet_replC (pv 0) (by decide +kernel)) (by decide +kernel))) (PET.of pe_str))) psst_nil) psst_nil) (psst_cons (PST.of (ps_ret (pe_callTy call_str_int (by rfl) T.b_str bt_str (pa_cons (pv 0) pa_nil)))) psst_nil)))), ?_⟩
    walk_at "nm"
    walk_at "rd"
    intro H1 e1
    cases e : plainT d with
    | false =>
      rw [e, if_neg (by decide)] at k
      walk_at "rd"
      exact k _ e1
    | true =>
      rw [e, if_pos rfl] at k
      have r1 := e1.rep r
      cases r with
      | non =>
        walk_at "rd"
        exact k _ _ (by decide +kernel) e1
      | int i =>
        have hb : i.natAbs.log2 < 1920 := by
          have e' : (decide (-(10 ^ 40 : Int) < i) && decide (i < 10 ^ 40)) = true := e
          rw [Bool.and_eq_true] at e'
          have h1 := of_decide_eq_true e'.1
          have h2 := of_decide_eq_true e'.2
          have h3 : i.natAbs < 2 ^ 1920 := by
            have h4 : (10 : Nat) ^ 40 < 2 ^ 1920 := by decide +kernel
            omega
          by_cases h0 : i.natAbs = 0
          · rw [h0]
            decide +kernel
          · exact (Nat.log2_lt h0).mpr h3
        walk_at "rd"
        exact k _ _ (tl_int i) e1
      | str z hz =>
        have y1 : ("\\\\" : Str).length = 2 := by decide +kernel
        have y2 : ("\\\"" : Str).length = 2 := by decide +kernel
        have y3 : ("\"" : Str).length = 1 := by decide +kernel
        obtain ⟨q1, q2, q3⟩ := esc_str z
        generalize hz1 : Txt.replace z "\\" "\\\\" = z1 at *
        generalize hz2 : Txt.replace z1 "\"" "\\\"" = z2 at *
        have x1 : z.length + (z.length + 1) * ("\\\\" : Str).length ≤ 16777216 := by rw [y1]; omega
        have x2 : z1.length + (z1.length + 1) * ("\\\"" : Str).length ≤ 16777216 := by rw [y2]; omega
        have x3 : ("\"" : Str).length + z2.length ≤ sizeLine := by rw [y3]; show _ ≤ 16777216; omega
        have x4 : ("\"" ++ z2 : Str).length + ("\"" : Str).length ≤ sizeLine := by rw [strapp_len, y3]; show _ ≤ 16777216; omega
        walk_at "rd"
        rw [hz1]
        walk_at "rd"
        rw [hz2]
        walk_at "rd"
        refine k _ _ ?_ e1
        have y4 : ("\"" : Str).cps.toList = [34] := by decide +kernel
        show ((("\"" : Str).cps ++ z2.cps) ++ ("\"" : Str).cps).toList = 34 :: (escL z.cps.toList ++ [34])
        rw [Array.toList_append, Array.toList_append, y4, q3]
        rfl
      | _ => exact nomatch e
end
open PySem L2 CwR


-- @SP is_integer (spIsInt K)
-- @SP is_plain_thing (spPlainT K)
-- @SP plain_text (spPT K A)
-- @SP pieces (spPieces K)
-- @SP text_of (spTextOf K A)
-- @SP raw_integer (spRawInt K)
-- @SP raw_string (spRawStr K)
-- @SP raw_plain (spRawPlain K)
-- @SP behind (spBehind K)
-- @SP raw_thing (spRawThing K)
-- @SP thing_of (spThingOf K A)
def spPieces (K : PySem.W.Frag) : Sp := fun vs H Q _ => ∃ (a : Addr) (xs : List V) (l : List Dt) (k : Nat), (vs = [.ref a, .int (k : Nat)] ∧ SqT K H a xs ∧ RepL K H xs l ∧ l.length ≤ 400000) ∧
  ∀ q ys H', H q = none → H' q = some (.lst ys) → RepL K H' ys ((pcAll k l).map Pc.dt).reverse → Ex [] H H' → Q (.ref q) H'
def spTextOf (K : PySem.W.Frag) (A : Ad) : Sp := fun vs H Q E => ∃ v d, (vs = [v] ∧ Rep K H v d ∧ dsz d ≤ 400000) ∧
  if okAt 1 d = true then ∀ z H', z.cps.toList = tx d → Ex [] H H' → Q (.str z) H' else ∀ H', Ex [] H H' → E (.ref A.NoThing) none H'
/-- what stands in the list that pieces makes, the last one first, behind j turns -/
def pcW (k : Nat) (l : List Dt) (j : Nat) : List Pc := (if j = l.length then pcs k l else pcs.pcr k (l.drop (l.length - j))) ++ [.t ")" k]
theorem pcW_zero (k : Nat) (l : List Dt) : pcW k l 0 = [.t ")" k] := by
  unfold pcW
  cases l with
  | nil => rfl
  | cons d l =>
    rw [if_neg (by simp), Nat.sub_zero, List.drop_length]
    rfl
theorem pcs_len2 (k : Nat) (l : List Dt) : (pcs k l).length ≤ 2 * l.length ∧ ∀ m : List Dt, (pcs.pcr k m).length = 2 * m.length := by
  have h : ∀ m : List Dt, (pcs.pcr k m).length = 2 * m.length := fun m => by
    induction m with
    | nil => rfl
    | cons d m ih =>
      rw [pcs.pcr, List.length_cons, List.length_cons, ih, List.length_cons]
      omega
  refine ⟨?_, h⟩
  cases l with
  | nil => exact Nat.le_refl _
  | cons d l =>
    rw [pcs, List.length_cons, h, List.length_cons]
    omega
theorem pcW_len (k : Nat) (l : List Dt) (j : Nat) (hj : j ≤ l.length) : (pcW k l j).length ≤ 2 * l.length + 1 := by
  unfold pcW
  rw [List.length_append, List.length_singleton]
  split
  · have := (pcs_len2 k l).1
    omega
  · rw [(pcs_len2 k l).2, List.length_drop]
    omega
/-- one turn -/
theorem pcW_step (k : Nat) {l : List Dt} {j : Nat} {d : Dt} (hj : j < l.length) (hd : l[l.length - 1 - j]? = some d) :
    (l.length - 1 - j = 0 → pcW k l (j + 1) = .d d (k + 1) :: pcW k l j) ∧ (l.length - 1 - j ≠ 0 → pcW k l (j + 1) = .t " " k :: .d d (k + 1) :: pcW k l j) := by
  have hdr : l.drop (l.length - 1 - j) = d :: l.drop (l.length - j) := by
    have h1 : l.length - 1 - j < l.length := by omega
    rw [List.drop_eq_getElem_cons h1]
    have h2 : l[l.length - 1 - j] = d := by
      rw [List.getElem?_eq_getElem h1] at hd
      exact Option.some.inj hd
    rw [h2, show l.length - 1 - j + 1 = l.length - j by omega]
  have e0 : pcW k l j = pcs.pcr k (l.drop (l.length - j)) ++ [.t ")" k] := by
    unfold pcW
    rw [if_neg (by omega)]
  constructor
  · intro h
    rw [e0]
    unfold pcW
    rw [if_pos (by omega)]
    rw [h, List.drop_zero] at hdr
    generalize l.drop (l.length - j) = m at hdr
    subst hdr
    rfl
  · intro h
    rw [e0]
    unfold pcW
    rw [if_neg (by omega), show l.length - (j + 1) = l.length - 1 - j by omega, hdr]
    rfl
section
variable {P : Program} {w : World} {K : PySem.W.Frag} {mg : Str → Option Value} {base : Heap} {A : Ad}
theorem ok_pieces {f : Addr} {fd : FuncData} (F : Fun K "pieces" "pieces" s_pieces f fd) (T : Txt K mg A)  : FnOk P w K mg base CX0 1 f fd ["items", "deep"] (spPieces K) := by
  refine F.ok sc_pieces (fun vs H Q E h => ?_) (fun cdv Ar outer s H vs Q E hr h => ?_)
  · obtain ⟨a, xs, l, k, ⟨rfl, _⟩, _⟩ := h
    rfl
  · obtain ⟨a, xs, l, kk, ⟨rfl, ha, hl, hz⟩, k⟩ := h
    refine ⟨_, (pss_cons (ps_set (i := 2) sc_pieces.nd rfl (Or.inl rfl) (peLst (pa_cons (peTup (pa_cons pe_bl (pa_cons pe_str (pa_cons (pv 1) pa_nil)))) pa_nil))) (pss_cons (ps_for PassesOwn.never rfl (pi_range3 (by rfl) T.b_range (pa_cons (pe_op oSub (pe_callB (cLen (K := K) rfl) (by rfl) T.b_len bt_len (pa_cons (pv 0) pa_nil)) pe_int) (pa_cons (pe_un oNeg pe_int) (pa_cons (pe_un oNeg pe_int) pa_nil)))) (pg_name (i := 3) sc_pieces.nd rfl (Or.inl rfl)) (pss_cons (ps_expr (pe_bm PySem.F.plainAttrs_list PySem.F.slot_list_append PySem.F.type_list_append mAppend (pv 2) (pa_cons (peTup (pa_cons pe_bl (pa_cons (pe_ix (ixG (K := K) rfl) (pv 0) (pv 3) (fun _ _ => rfl)) (pa_cons (pe_op (oAdd (K := K) rfl) (pv 1) pe_int) pa_nil)))) pa_nil))) (pss_one (ps_if (pt_cmpR oGt (pv 3) pe_int (nomark _)) (pss_one (ps_expr (pe_bm PySem.F.plainAttrs_list PySem.F.slot_list_append PySem.F.type_list_append mAppend (pv 2) (pa_cons (peTup (pa_cons pe_bl (pa_cons pe_str (pa_cons (pv 1) pa_nil)))) pa_nil)))) pss_nil)))) (pss_cons (ps_expr (pe_bm PySem.F.plainAttrs_list PySem.F.slot_list_append PySem.F.type_list_append mAppend (pv 2) (pa_cons (peTup (pa_cons pe_bl (pa_cons pe_str (pa_cons (pv 1) pa_nil)))) pa_nil))) (pss_one (ps_ret (pv 2)))))), ?_⟩
    walk_at "nm"
    walk_at "rd"
    intro t0 H1 n0 h0 e0
    walk_at "rd"
    intro q H2 nq hq e2
    have nqH : H q = none := e0.none nq
    have hrep : RepL K H2 [.ref t0] ((pcW kk l 0).map Pc.dt).reverse := by
      rw [pcW_zero]
      show RepL K H2 [.ref t0] [.tup [.bl true, .str ")", .int kk]]
      walk_at "repl"
    have e02 : Ex [] H H2 := e0.trans e2
    have hxl := hl.length
    have hg : RgC ((xs.length : Int) - 1) (-1) (-1) xs.length := by
      have g := RgC.neg (i := (xs.length : Int) - 1) (j := -1) (by omega) (by omega) (by omega) (by omega)
      rw [show (((xs.length : Int) - 1) - (-1)).toNat = xs.length by omega] at g
      exact g
    walk_at "rd"
    refine for_it (walk_rangeC (lo := (xs.length : Int) - 1) (c := -1) (n := xs.length)) (fun i σ H' => ∃ ys o3, σ = [some (.ref a), some (.int kk), some (.ref q), o3] ∧ H' q = some (.lst ys) ∧ RepL K H' ys ((pcW kk l i).map Pc.dt).reverse ∧ Ex [] H H')
      ⟨_, none, rfl, hq, hrep, e02⟩ (fun _ _ _ _ _ => trivial) ?_ ?_
    · clear hrep hq e02 n0 h0 e0 nq e2 hg
      rintro j y σ H3 H3' hj ⟨ys, o3, rfl, hq, hrep, ex⟩ ⟨rfl, rfl⟩
      obtain ⟨at_, hat⟩ : ∃ at_ : Nat, ((xs.length : Int) - 1) + (j : Int) * (-1) = (at_ : Int) := ⟨xs.length - 1 - j, by omega⟩
      have hat2 : at_ = l.length - 1 - j := by omega
      show gName 3 (V.int (((xs.length : Int) - 1) + (j : Int) * (-1))) _ _ _
      rw [hat]
      have hx1 : at_ < xs.length := by omega
      obtain ⟨d, hd, rd⟩ := hl.get (List.getElem?_eq_getElem hx1)
      have hix : atI xs (at_ : Int) = some xs[at_] := atI_nat (List.getElem?_eq_getElem hx1)
      generalize xs[at_] = x at hix rd
      have ha3 := ex.sqT ha
      have hyl := hrep.length
      rw [List.length_reverse, List.length_map] at hyl
      have hwl := pcW_len kk l j (by omega)
      have hys : ys.length < sizeLine := by show _ < 16777216; omega
      obtain ⟨st0, st1⟩ := pcW_step kk (l := l) (j := j) (d := d) (by omega) (by rw [← hat2]; exact hd)
      walk_at "rd"
      intro t H4 nt ht e4
      have hq4 := e4.get0 hq
      walk_at "rd"
      intro H5 hq5 e5
      have rp : RepL K H5 (ys ++ [.ref t]) ((((Pc.d d (kk + 1)) :: pcW kk l j).map Pc.dt).reverse) := by
        rw [List.map_cons, List.reverse_cons]
        refine (e5.repL (e4.repL hrep)).append (.cons (e5.rep ?_) .nil)
        show Rep K H4 (.ref t) (.tup [.bl false, d, .int ((kk : Int) + 1)])
        have rd4 := e4.rep (ex.rep rd)
        walk_at "rep"
      have ex5 : Ex [] H H5 := by walk_at "ex"
      walk_at "rd"
      refine @ite2 _ _ _ _ (fun c1 => ?_) (fun c1 => ?_)
      · replace c1 : (0 : Int) < at_ := of_decide_eq_true c1
        have hys5 : (ys ++ [V.ref t]).length < sizeLine := by rw [List.length_append, List.length_singleton]; show _ < 16777216; omega
        walk_at "rd"
        intro t2 H6 nt2 ht2 e6
        have hq6 := e6.get0 hq5
        walk_at "rd"
        intro H7 hq7 e7
        refine ⟨_, _, rfl, hq7, ?_, by walk_at "ex"⟩
        rw [st1 (by omega), List.map_cons, List.reverse_cons]
        refine (e7.repL (e6.repL rp)).append (.cons (e7.rep ?_) .nil)
        show Rep K H6 (.ref t2) (.tup [.bl true, .str " ", .int (kk : Int)])
        walk_at "rep"
      · have c2 : ¬ (0 : Int) < at_ := fun z => c1 (decide_eq_true z)
        refine ⟨_, _, rfl, hq5, ?_, ex5⟩
        rw [st0 (by omega)]
        exact rp
    · rintro σ H3 ⟨ys, o3, rfl, hq, hrep, ex⟩
      have hyl := hrep.length
      rw [List.length_reverse, List.length_map] at hyl
      have hwl := pcW_len kk l xs.length (by omega)
      have hys : ys.length < sizeLine := by show _ < 16777216; omega
      walk_at "rd"
      intro t H4 nt ht e4
      have hq4 := e4.get0 hq
      walk_at "rd"
      intro H5 hq5 e5
      walk_at "rd"
      refine k q _ H5 nqH hq5 ?_ (by walk_at "ex")
      have e9 : pcAll kk l = .t "(" kk :: pcW kk l xs.length := by
        unfold pcAll pcW
        rw [if_pos hxl]
      rw [e9, List.map_cons, List.reverse_cons]
      refine (e5.repL (e4.repL hrep)).append (.cons (e5.rep ?_) .nil)
      show Rep K H4 (.ref t) (.tup [.bl true, .str "(", .int (kk : Int)])
      walk_at "rep"
end
open PySem L2 CwR


-- @SP is_integer (spIsInt K)
-- @SP is_plain_thing (spPlainT K)
-- @SP plain_text (spPT K A)
-- @SP pieces (spPieces K)
-- @SP text_of (spTextOf K A)
-- @SP raw_integer (spRawInt K)
-- @SP raw_string (spRawStr K)
-- @SP raw_plain (spRawPlain K)
-- @SP behind (spBehind K)
-- @SP raw_thing (spRawThing K)
-- @SP thing_of (spThingOf K A)
def tInv (K : PySem.W.Frag) (v : V) (d : Dt) (D W : Addr) (H0 : Hp) (m : Nat) (σ : L2.St) (H' : Hp) : Prop :=
  ∃ (st : List Pc) (ts : List Str) (vs : List V) (o3 o4 o5 : Option V), σ = [some v, some (.ref D), some (.ref W), o3, o4, o5] ∧ Ex [] H0 H' ∧ H' W = some (.lst vs) ∧ RepL K H' vs (st.map Pc.dt).reverse ∧
    H' D = some (.lst (ts.map V.str)) ∧ m = (st.map Pc.sz).sum ∧ okAt 1 d = st.all Pc.ok ∧ tx d = (ts.map (·.cps.toList)).flatten ++ st.flatMap Pc.tx ∧ ts.length + m ≤ dsz d + 1
theorem st_len (st : List Pc) : st.length ≤ (st.map Pc.sz).sum := by
  induction st with
  | nil => exact Nat.le_refl _
  | cons p ps ih =>
    rw [List.map_cons, List.sum_cons, List.length_cons]
    have : 1 ≤ p.sz := by cases p <;> simp [Pc.sz]
    omega
theorem rep_pc {K : PySem.W.Frag} {H : Hp} {y : V} {p : Pc} (r : Rep K H y p.dt) : ∃ a b x k, y = .ref a ∧ SqT K H a [.bl b, x, .int (k : Nat)] ∧ (match p with | .t s k' => b = true ∧ x = .str s ∧ s.length ≤ 1000000 ∧ k = k' | .d e k' => b = false ∧ Rep K H x e ∧ k = k') := by
  cases p with
  | t s k =>
    have r' : Rep K H y (.tup [.bl true, .str s, .int k]) := r
    cases r' with
    | tup h hl =>
      cases hl with
      | cons h1 t =>
        cases t with
        | cons h2 t =>
          cases t with
          | cons h3 t =>
            cases t
            cases h1
            cases h2 with
            | str _ hz =>
            cases h3
            exact ⟨_, _, _, _, rfl, h, rfl, rfl, hz, rfl⟩
  | d e k =>
    have r' : Rep K H y (.tup [.bl false, e, .int k]) := r
    cases r' with
    | tup h hl =>
      cases hl with
      | cons h1 t =>
        cases t with
        | cons h2 t =>
          cases t with
          | cons h3 t =>
            cases t
            cases h1
            cases h3
            exact ⟨_, _, _, _, rfl, h, rfl, h2, rfl⟩
theorem joinL_nil : ∀ l : List (List Nat), TL.joinL [] l = l.flatten
  | [] => rfl
  | [p] => by simp [TL.joinL]
  | p :: q :: r => by rw [TL.joinL, joinL_nil (q :: r)]; simp
theorem join_nil (ts : List Str) : (Txt.join "" ts).cps.toList = (ts.map (·.cps.toList)).flatten := by
  have h := TL.tl_join "" ts
  have e : TL.tl ("" : Str) = [] := by decide +kernel
  rw [e, joinL_nil, ← TL.join_eq] at h
  exact h
section
variable {P : Program} {w : World} {K : PySem.W.Frag} {mg : Str → Option Value} {base : Heap} {A : Ad}
theorem ok_text_of {f : Addr} {fd : FuncData} (F : Fun K "text_of" "text_of" s_text_of f fd) (T : Txt K mg A) (C_plain_text : ClX P w K mg base 3 "plain_text" (spPT K A)) (C_pieces : Cl P w K mg base 1 "pieces" (spPieces K)) : FnOk P w K mg base (L2.CX P w) 4 f fd ["thing"] (spTextOf K A) := by
  refine F.okX sc_text_of (fun vs H Q E h => ?_) (fun cdv Ar outer s H vs Q E hr h => ?_)
  · obtain ⟨v, d, ⟨rfl, _⟩, _⟩ := h
    rfl
  · obtain ⟨v, d, ⟨rfl, r, hz⟩, k⟩ := h
    refine ⟨_, (pss_cons (ps_par (i := 1) (j := 2) rfl sc_text_of.nd rfl rfl (by decide) rfl rfl (pa_cons (peLst pa_nil) (pa_cons (peLst (pa_cons (peTup (pa_cons pe_bl (pa_cons (pv 0) (pa_cons pe_int pa_nil)))) pa_nil)) pa_nil)) (by rfl)) (pss_cons (ps_while (passes_of rfl) (pt_cmpR oGt (pe_callB (cLen (K := K) rfl) (by rfl) T.b_len bt_len (pa_cons (pv 2) pa_nil)) pe_int (nomark _)) (pss_cons (ps_asg (pe_bm0 PySem.F.plainAttrs_list PySem.F.slot_list_pop PySem.F.type_list_pop mPop (pv 2)) (pg_tup (by rfl) (pgs_cons (pg_name (i := 3) sc_text_of.nd rfl (Or.inl rfl)) (pgs_cons (pg_name (i := 4) sc_text_of.nd rfl (Or.inl rfl)) (pgs_cons (pg_name (i := 5) sc_text_of.nd rfl (Or.inl rfl)) pgs_nil))))) (pss_cons (ps_if (pt_cmpR oGt (pv 5) (C8.pe_gc (by rfl) T.c_MOST_DEEP) (nomark _)) (pss_one (ps_raise rfl (takes_of rfl rfl rfl rfl) (pmk0 T.e_NoThing (by rfl)))) pss_nil) (pss_one (ps_if (pt_val (pv 3)) (pss_one (ps_expr (pe_bm PySem.F.plainAttrs_list PySem.F.slot_list_append PySem.F.type_list_append mAppend (pv 1) (pa_cons (pv 4) pa_nil)))) (pss_one (ps_if (pt_val (pe_callB (cIs (K := K) rfl) (by rfl) T.b_isinstance bt_isinstance (pa_cons (pv 4) (pa_cons (pe_bltn (v := .ty "tuple") (by rfl) T.b_tuple bt_tuple rfl) pa_nil)))) (pss_one (ps_expr (pe_bm PySem.F.plainAttrs_list PySem.F.slot_list_extend PySem.F.type_list_extend mExtend (pv 2) (pa_cons (pe_cl C_pieces hr (by decide) (by rfl) (pa_cons (pv 4) (pa_cons (pv 5) pa_nil))) pa_nil)))) (pss_one (ps_expr (pe_bm PySem.F.plainAttrs_list PySem.F.slot_list_append PySem.F.type_list_append mAppend (pv 1) (pa_cons (pe_clX C_plain_text (takes_of rfl rfl rfl rfl) hr (by decide) (by rfl) (pa_cons (pv 4) pa_nil)) pa_nil))))))))))) (pss_one (ps_ret (pe_join pe_str (pv 1)))))), ?_⟩
    walk_at "nm"
    have bad : okAt 1 d = false → ∀ H', Ex [] H H' → E (.ref A.NoThing) none H' := fun e => by rw [e, if_neg (by decide)] at k; exact k
    have good : okAt 1 d = true → ∀ z H', z.cps.toList = tx d → Ex [] H H' → Q (.str z) H' := fun e => by rw [e, if_pos rfl] at k; exact k
    clear k
    walk_at "rd"
    intro D H1 nD hD e1
    walk_at "rd"
    intro t0 H2 n0 h0 e2
    walk_at "rd"
    intro W H3 nW hW e3
    have nDH : H D = none := nD
    have nWH : H W = none := by walk_at "nn"
    have hD3 := e3.get0 (e2.get0 hD)
    have nDW : W ≠ D := fun z => by rw [z, e2.get0 hD] at nW; cases nW
    have rs : RepL K H3 [.ref t0] ([Pc.d d 1].map Pc.dt).reverse := by
      show RepL K H3 [.ref t0] [.tup [.bl false, d, .int 1]]
      walk_at "repl"
    have ex3 : Ex [] H H3 := by walk_at "ex"
    walk_at "rd"
    refine while_w (tInv K v d D W H) ((([Pc.d d 1] : List Pc).map Pc.sz).sum) ⟨[.d d 1], [], _, none, none, none, rfl, ex3, hW, rs, hD3, rfl, by simp [Pc.ok], by simp [Pc.tx], by simp [Pc.sz]⟩ ?_
    clear hD h0 hW rs hD3 ex3 n0 nD nW e1 e2 e3
    rintro m σ H4 ⟨st, ts, vs, o3, o4, o5, rfl, ex, hW, hs, hD, hm, hok, htx, hts⟩
    have hlen : vs.length = st.length := by rw [hs.length, List.length_reverse, List.length_map]
    walk_at "rd"
    refine @ite2 _ _ _ _ (fun c1 => ?_) (fun c1 => ?_)
    · refine ⟨_, fun _ _ z => z, ?_⟩
      cases st with
      | nil =>
        rw [hlen] at c1
        simp at c1
      | cons p st =>
        rw [List.map_cons, List.reverse_cons] at hs
        obtain ⟨ws, y, rfl, hs1, hy⟩ := hs.snoc
        obtain ⟨a, b, x, kk, rfl, ha, hp⟩ := rep_pc hy
        walk_at "rd"
        intro H5 hW5 e5
        have hD5 : H5 D = some (.lst (ts.map V.str)) := e5.get hD ⟨nDW.symm, trivial⟩
        have e05 : Ex [] H H5 := by walk_at "ex"
        have hs5 : RepL K H5 ws (st.map Pc.dt).reverse := e5.repL hs1
        have ha5 := e5.sqT ha
        rw [List.map_cons, List.sum_cons] at hm
        rw [List.all_cons] at hok
        rw [List.flatMap_cons] at htx
        have hwl := hs5.length
        rw [List.length_reverse, List.length_map] at hwl
        have hsl := st_len st
        walk_at "rd"
        refine @ite2 _ _ _ _ (fun c2 => ?_) (fun c2 => ?_)
        · replace c2 : (60 : Int) < kk := of_decide_eq_true c2
          refine bad ?_ H5 e05
          rw [hok]
          cases p with
          | t s k' =>
            obtain ⟨_, _, _, rfl⟩ := hp
            show (decide (kk ≤ 60) && _) = false
            rw [decide_eq_false (by omega), Bool.false_and]
          | d e k' =>
            obtain ⟨_, _, rfl⟩ := hp
            show (okAt kk e && _) = false
            rw [okAt_deep (by omega), Bool.false_and]
        · replace c2 : kk ≤ 60 := Nat.le_of_not_lt fun z => c2 (decide_eq_true (by omega))
          have htl : (ts.map V.str).length < sizeLine := by rw [List.length_map]; show _ < 16777216; omega
          cases p with
          | t s k' =>
            obtain ⟨rfl, rfl, hsz, rfl⟩ := hp
            walk_at "rd"
            intro H6 hD6 e6
            have hW6 : H6 W = some (.lst ws) := e6.get hW5 ⟨nDW, trivial⟩
            have hok' : okAt 1 d = st.all Pc.ok := by
              rw [hok]
              show (decide (kk ≤ 60) && _) = _
              rw [decide_eq_true c2, Bool.true_and]
            refine ⟨(st.map Pc.sz).sum, by rw [hm]; show _ < 1 + _; omega, st, ts ++ [s], ws, _, _, _, rfl, by walk_at "ex", hW6, e6.repL hs5, by rw [List.map_append]; exact hD6, rfl, hok', ?_, ?_⟩
            · rw [htx, List.map_append, List.flatten_append, List.append_assoc]
              show _ = _ ++ ([s.cps.toList].flatten ++ _)
              simp [Pc.tx]
            · rw [List.length_append, List.length_singleton]
              have : Pc.sz (.t s kk) = 1 := rfl
              omega
          | d e k' =>
            obtain ⟨rfl, re, rfl⟩ := hp
            have re5 := e5.rep re
            have hok' : okAt 1 d = (okAt kk e && st.all Pc.ok) := hok
            have hm' : m = dsz e + 1 + (st.map Pc.sz).sum := hm
            have htx' : tx d = (ts.map (·.cps.toList)).flatten ++ (tx e ++ st.flatMap Pc.tx) := htx
            have fin : (∀ l, e ≠ .tup l) → plainT e = true → ∀ (z : Str) H7, z.cps.toList = tx e → Ex [] H5 H7 → ∀ H8, H8 D = some (.lst (ts.map V.str ++ [V.str z])) → Ex [D] H7 H8 → ∃ m', m' < m ∧ tInv K v d D W H m' [some v, some (.ref D), some (.ref W), some (.bl false), some x, some (.int kk)] H8 := fun hne hpl z H7 hz7 e7 H8 hD8 e8 => by
              have hW7 : H7 W = some (.lst ws) := e7.get0 hW5
              have hW8 : H8 W = some (.lst ws) := e8.get hW7 ⟨nDW, trivial⟩
              refine ⟨(st.map Pc.sz).sum, by omega, st, ts ++ [z], ws, _, _, _, rfl, ?_, hW8, e8.repL (e7.repL hs5), by rw [List.map_append]; exact hD8, rfl, ?_, ?_, ?_⟩
              · clear htx' htx hok hok' hs1 hs hy
                walk_at "ex"
              · rw [hok', okAt_plain c2 hne, hpl, Bool.true_and]
              · rw [htx', List.map_append, List.flatten_append, List.append_assoc, ← hz7]
                simp
              · rw [List.length_append, List.length_singleton]
                omega
            have fail : (∀ l, e ≠ .tup l) → plainT e = false → okAt 1 d = false := fun hne hpl => by rw [hok', okAt_plain c2 hne, hpl, Bool.false_and]
            have re6 := re5
            cases re5 with
            | tup h1 h2 =>
              rename_i a2 xs2 l2
              have hl2 : l2.length ≤ 400000 := by
                have h3 : ∀ l : List Dt, l.length ≤ dszs l := fun l => by
                  induction l with
                  | nil => exact Nat.zero_le _
                  | cons d l ih => rw [dszs, List.length_cons]; omega
                have h4 := h3 l2
                have h5 : dsz (.tup l2) = 3 + dszs l2 := by rw [dsz]
                omega
              walk_at "rd"
              intro q ys H6 nq hq hys e6
              have hW6 := e6.get0 hW5
              have hyl := hys.length
              rw [List.length_reverse, List.length_map] at hyl
              have hsum := pcAll_sz kk l2
              have hpl := st_len (pcAll kk l2)
              have hzz : ws.length + ys.length ≤ sizeLine := by show _ ≤ 16777216; omega
              walk_at "rd"
              intro H7 hW7 e7
              have hD7 : H7 D = some (.lst (ts.map V.str)) := e7.get (e6.get0 hD5) ⟨nDW.symm, trivial⟩
              refine ⟨((pcAll kk l2 ++ st).map Pc.sz).sum, ?_, pcAll kk l2 ++ st, ts, _, _, _, _, rfl, by walk_at "ex", hW7, ?_, hD7, rfl, ?_, ?_, ?_⟩
              · rw [List.map_append, List.sum_append]
                omega
              · rw [List.map_append, List.reverse_append]
                exact e7.repL ((e6.repL hs5).append hys)
              · rw [List.all_append, pcAll_ok c2, hok']
              · rw [List.flatMap_append, pcAll_tx, htx']
              · rw [List.map_append, List.sum_append]
                omega
            | non =>
              walk_at "rd"
              cases hpl : plainT (.non) with
              | false =>
                rw [if_neg (by decide)]
                intro H6 e6
                exact bad (fail (fun _ z => nomatch z) hpl) H6 (by walk_at "ex")
              | true =>
                rw [if_pos rfl]
                intro z H6 hz6 e6
                have hD6 := e6.get0 hD5
                walk_at "rd"
                intro H7 hD7 e7
                exact fin (fun _ z => nomatch z) hpl z H6 hz6 e6 H7 hD7 e7
            | bl b =>
              walk_at "rd"
              cases hpl : plainT (.bl b) with
              | false =>
                rw [if_neg (by decide)]
                intro H6 e6
                exact bad (fail (fun _ z => nomatch z) hpl) H6 (by walk_at "ex")
              | true =>
                rw [if_pos rfl]
                intro z H6 hz6 e6
                have hD6 := e6.get0 hD5
                walk_at "rd"
                intro H7 hD7 e7
                exact fin (fun _ z => nomatch z) hpl z H6 hz6 e6 H7 hD7 e7
            | int i =>
              walk_at "rd"
              cases hpl : plainT (.int i) with
              | false =>
                rw [if_neg (by decide)]
                intro H6 e6
                exact bad (fail (fun _ z => nomatch z) hpl) H6 (by walk_at "ex")
              | true =>
                rw [if_pos rfl]
                intro z H6 hz6 e6
                have hD6 := e6.get0 hD5
                walk_at "rd"
                intro H7 hD7 e7
                exact fin (fun _ z => nomatch z) hpl z H6 hz6 e6 H7 hD7 e7
            | str zz hzz =>
              walk_at "rd"
              cases hpl : plainT (.str zz) with
              | false =>
                rw [if_neg (by decide)]
                intro H6 e6
                exact bad (fail (fun _ z => nomatch z) hpl) H6 (by walk_at "ex")
              | true =>
                rw [if_pos rfl]
                intro z H6 hz6 e6
                have hD6 := e6.get0 hD5
                walk_at "rd"
                intro H7 hD7 e7
                exact fin (fun _ z => nomatch z) hpl z H6 hz6 e6 H7 hD7 e7
            | oth ho =>
              walk_at "rd"
              cases hpl : plainT (.oth) with
              | false =>
                rw [if_neg (by decide)]
                intro H6 e6
                exact bad (fail (fun _ z => nomatch z) hpl) H6 (by walk_at "ex")
              | true =>
                rw [if_pos rfl]
                intro z H6 hz6 e6
                have hD6 := e6.get0 hD5
                walk_at "rd"
                intro H7 hD7 e7
                exact fin (fun _ z => nomatch z) hpl z H6 hz6 e6 H7 hD7 e7
    · have hst : st = [] := by
        cases st with
        | nil => rfl
        | cons p st => exact absurd (decide_eq_true (by rw [hlen, List.length_cons]; omega)) c1
      subst hst
      have htx' : tx d = (ts.map (·.cps.toList)).flatten := by rw [htx]; simp
      have hsum : (ts.map (·.length)).sum = (tx d).length := by
        rw [htx', List.length_flatten, List.map_map]
        exact congrArg List.sum (List.map_congr_left fun s _ => lenT s)
      have htl := tx_len d
      have e0 : ("" : Str).length = 0 := by decide +kernel
      refine ⟨⟨_, rfl⟩, _, rfl, _, _, ts, rfl, rfl, .inl (SqL.of hD), by rw [hsum, e0]; omega, ?_⟩
      refine good hok _ H4 ?_ ex
      rw [htx', join_nil]
end
/-! ### the parser, by signs -/
def isDig (c : Nat) : Bool := decide (48 ≤ c) && decide (c ≤ 57)
/-- the signs of an integer, its digits -/
def intPart (l : List Nat) : List Nat × List Nat :=
  match l with
  | 45 :: r => ([45], r.takeWhile isDig)
  | l => ([], l.takeWhile isDig)
def valOf (p : List Nat × List Nat) : Int := if p.1 = [] then (NumText.digitsVal p.2 : Nat) else -((NumText.digitsVal p.2 : Nat) : Int)
def rawInt (l : List Nat) : Option (Dt × Nat) :=
  let p := intPart l
  if 1 ≤ p.2.length ∧ p.2.length ≤ 40 then (if intL (valOf p) = p.1 ++ p.2 then some (.int (valOf p), p.1.length + p.2.length) else none) else none
def rawStr : List Nat → Option (List Nat × Nat)
  | [] => none
  | c :: r => if c = 34 then some ([], 1) else if c = 92 then (match r with
      | [] => none
      | e :: r' => if e = 34 ∨ e = 92 then (rawStr r').map fun x => (e :: x.1, x.2 + 2) else none)
    else if signOk c = true then (rawStr r).map fun x => (c :: x.1, x.2 + 1) else none
def rawPlain (l : List Nat) : Option (Dt × Nat) :=
  if l.take 4 = [110, 111, 110, 101] then some (.non, 4)
  else match l with
    | 34 :: r => (rawStr r).map fun x => (.str ⟨x.1.toArray⟩, x.2 + 1)
    | l => rawInt l
/-- closes what closes here: the top one, those below it, what is left -/
def beh : List Dt → List (List Dt) → List Nat → List Dt × List (List Dt) × List Nat
  | T, S :: rest, 41 :: l => beh (S ++ [.tup T]) rest l
  | T, rest, l => (T, rest, l)
mutual
def loopF : Nat → List Dt → List (List Dt) → List Nat → Option (Dt × List Nat)
  | 0, _, _, _ => none
  | f + 1, T, rest, l => if 60 < rest.length + 1 then none else match l with
    | 40 :: l' => if l'.head? = some 41 then aftF f (beh [] (T :: rest) l') else loopF f [] (T :: rest) l'
    | l => match rawPlain l with
      | none => none
      | some (d, n) => aftF f (beh (T ++ [d]) rest (l.drop n))
def aftF : Nat → List Dt × List (List Dt) × List Nat → Option (Dt × List Nat)
  | _, (T, [], l) => T.head?.map fun d => (d, l)
  | 0, (_, _ :: _, _) => none
  | f + 1, (T, S :: rest, l) => match l with
    | 32 :: l' => loopF f T (S :: rest) l'
    | _ => none
end
theorem beh_close (T S : List Dt) (rest : List (List Dt)) (l : List Nat) : beh T (S :: rest) (41 :: l) = beh (S ++ [.tup T]) rest l := by rw [beh]
theorem beh_stay {T : List Dt} {rest : List (List Dt)} {l : List Nat} (h : rest = [] ∨ l.head? ≠ some 41) : beh T rest l = (T, rest, l) := by
  rw [beh]
  intro S r l' h1 h2
  subst h1 h2
  rcases h with h | h
  · cases h
  · exact h rfl
theorem valOf_int (i : Int) (post : List Nat) (hp : ∀ c, post.head? = some c → isDig c = false) : intPart (intL i ++ post) = (if i < 0 then [45] else [], TL.numL i.natAbs) ∧ valOf (if i < 0 then [45] else [], TL.numL i.natAbs) = i := by
  have tw : ∀ n : Nat, (TL.numL n ++ post).takeWhile isDig = TL.numL n := fun n => by
    have ad : ∀ c ∈ TL.numL n, isDig c = true := fun c hc => by
      have := TL.numL_digits n c hc
      simp [isDig, this.1, this.2]
    rw [List.takeWhile_append_of_pos ad]
    cases post with
    | nil => simp
    | cons c r => rw [List.takeWhile_cons, hp c rfl]; simp
  by_cases h : i < 0
  · rw [if_pos h]
    constructor
    · unfold intL
      rw [if_pos h]
      show (([45] : List Nat), (TL.numL i.natAbs ++ post).takeWhile isDig) = _
      rw [tw]
    · unfold valOf
      rw [if_neg (by simp), TL.numL_val]
      omega
  · rw [if_neg h]
    constructor
    · unfold intL
      rw [if_neg h]
      have hne := TL.numL_ne i.natAbs
      unfold intPart
      split
      · rename_i r e
        cases hn : TL.numL i.natAbs with
        | nil => exact absurd hn hne
        | cons c cs =>
          rw [hn] at e
          have hc := TL.numL_digits i.natAbs c (by rw [hn]; exact List.mem_cons_self)
          simp only [List.cons_append, List.cons.injEq] at e
          have := hc.1
          omega
      · rw [tw]
    · unfold valOf
      rw [if_pos rfl, TL.numL_val]
      omega
theorem rawInt_ok {i : Int} {post : List Nat} (h : plainT (.int i) = true) (hp : ∀ c, post.head? = some c → isDig c = false) : rawInt (intL i ++ post) = some (.int i, (intL i).length) := by
  obtain ⟨e1, e2⟩ := valOf_int i post hp
  have h' : (decide (-(10 ^ 40 : Int) < i) && decide (i < 10 ^ 40)) = true := h
  rw [Bool.and_eq_true] at h'
  have h1 := of_decide_eq_true h'.1
  have h2 := of_decide_eq_true h'.2
  have hl : (TL.numL i.natAbs).length ≤ 40 := TL.numL_len (by decide) (by omega)
  have hl1 : 1 ≤ (TL.numL i.natAbs).length := by
    have := TL.numL_ne i.natAbs
    cases hn : TL.numL i.natAbs with
    | nil => exact absurd hn this
    | cons c cs => simp
  have e3 : intL i = (if i < 0 then [45] else []) ++ TL.numL i.natAbs := by
    unfold intL
    split <;> rfl
  unfold rawInt
  simp only
  rw [e1, e2, if_pos ⟨hl1, hl⟩, if_pos e3, e3, List.length_append]
theorem rawStr_ok (post : List Nat) : ∀ s : List Nat, s.all signOk = true → rawStr (escL s ++ 34 :: post) = some (s, (escL s).length + 1)
  | [], _ => by
    show rawStr (34 :: post) = _
    rw [rawStr.eq_def]
    simp only [if_true]
    rfl
  | c :: s, h => by
    rw [List.all_cons, Bool.and_eq_true] at h
    have ih := rawStr_ok post s h.2
    rw [escL_cons]
    by_cases hc : c = 34 ∨ c = 92
    · rw [if_pos hc]
      show rawStr (92 :: c :: (escL s ++ 34 :: post)) = _
      rw [rawStr.eq_def]
      simp only [show ¬ (92 : Nat) = 34 by decide, if_false, if_true]
      rw [if_pos hc, ih]
      simp
    · rw [if_neg hc]
      show rawStr (c :: (escL s ++ 34 :: post)) = _
      rw [rawStr.eq_def]
      simp only [show ¬ c = 34 from fun z => hc (.inl z), show ¬ c = 92 from fun z => hc (.inr z), if_false]
      rw [if_pos h.1, ih]
      simp
theorem head_tx : ∀ d : Dt, okAt 1 d = true ∨ (∃ k, okAt k d = true) → ∃ c r, tx d = c :: r ∧ c ≠ 41 ∧ c ≠ 32 := by
  intro d h
  have h : ∃ k, okAt k d = true := h.elim (fun z => ⟨1, z⟩) id
  cases d with
  | non => exact ⟨110, _, by rw [tx], by decide, by decide⟩
  | int i =>
    rw [tx]
    unfold intL
    split
    · exact ⟨45, _, rfl, by decide, by decide⟩
    · cases hn : TL.numL i.natAbs with
      | nil => exact absurd hn (TL.numL_ne _)
      | cons c cs =>
        have hc := TL.numL_digits i.natAbs c (by rw [hn]; exact List.mem_cons_self)
        exact ⟨c, cs, rfl, by omega, by omega⟩
  | str s => exact ⟨34, _, by rw [tx], by decide, by decide⟩
  | tup l => exact ⟨40, _, by rw [tx], by decide, by decide⟩
  | bl b => obtain ⟨k, h⟩ := h; rw [okAt] at h; cases h
  | oth => obtain ⟨k, h⟩ := h; rw [okAt] at h; cases h
/-- a plain thing's text is read back -/
theorem rawPlain_ok {d : Dt} {post : List Nat} (h : plainT d = true) (hp : ∀ c, post.head? = some c → isDig c = false) : rawPlain (tx d ++ post) = some (d, (tx d).length) ∧ (tx d ++ post).head? ≠ some 40 := by
  cases d with
  | non =>
    rw [tx]
    exact ⟨rfl, by simp⟩
  | int i =>
    have hne : ∃ c r, intL i = c :: r ∧ (c = 45 ∨ (48 ≤ c ∧ c ≤ 57)) := by
      unfold intL
      split
      · exact ⟨45, _, rfl, .inl rfl⟩
      · cases hn : TL.numL i.natAbs with
        | nil => exact absurd hn (TL.numL_ne _)
        | cons c cs =>
          have hc := TL.numL_digits i.natAbs c (by rw [hn]; exact List.mem_cons_self)
          exact ⟨c, cs, rfl, .inr ⟨hc.1, hc.2⟩⟩
    obtain ⟨c, r, e, hc⟩ := hne
    rw [tx]
    constructor
    · have hr := rawInt_ok h hp
      unfold rawPlain
      rw [if_neg ?_]
      · split
        · rename_i r' e'
          rw [e] at e'
          simp only [List.cons_append, List.cons.injEq] at e'
          omega
        · exact hr
      · rw [e]
        simp only [List.cons_append, List.take_succ_cons, List.cons.injEq]
        intro z
        omega
    · rw [e]
      simp only [List.cons_append, List.head?_cons, ne_eq, Option.some.injEq]
      omega
  | str s =>
    rw [tx]
    have hr := rawStr_ok post s.cps.toList h
    constructor
    · unfold rawPlain
      rw [if_neg (by simp)]
      show (rawStr ((escL s.cps.toList ++ [34]) ++ post)).map _ = _
      rw [List.append_assoc]
      show (rawStr (escL s.cps.toList ++ 34 :: post)).map _ = _
      rw [hr]
      simp
    · simp
  | _ => exact nomatch h
theorem tx_pos {d : Dt} {k : Nat} (h : okAt k d = true) : 1 ≤ (tx d).length := by
  obtain ⟨c, r, e, _⟩ := head_tx d (.inr ⟨k, h⟩)
  rw [e]
  simp
theorem loopF_plain {f : Nat} {T : List Dt} {rest : List (List Dt)} {l : List Nat} {d : Dt} {n : Nat} (h : ¬ 60 < rest.length + 1) (h40 : l.head? ≠ some 40) (hp : rawPlain l = some (d, n)) : loopF (f + 1) T rest l = aftF f (beh (T ++ [d]) rest (l.drop n)) := by
  rw [loopF.eq_def]
  simp only [if_neg h]
  cases l with
  | nil => simp only [hp]
  | cons c r =>
    have hc : c ≠ 40 := fun z => h40 (by rw [z]; rfl)
    split
    · rename_i l' e
      cases e
      exact absurd rfl hc
    · simp only [hp]
theorem loopF_open {f : Nat} {T : List Dt} {rest : List (List Dt)} {l : List Nat} (h : ¬ 60 < rest.length + 1) : loopF (f + 1) T rest (40 :: l) = if l.head? = some 41 then aftF f (beh [] (T :: rest) l) else loopF f [] (T :: rest) l := by
  rw [loopF.eq_def]
  simp only [if_neg h]
theorem aftF_more {f : Nat} {T S : List Dt} {rest : List (List Dt)} {l : List Nat} : aftF (f + 1) (T, S :: rest, 32 :: l) = loopF f T (S :: rest) l := by
  rw [aftF.eq_def]
  rfl
mutual
theorem loop_ok : ∀ (d : Dt) (T : List Dt) (rest : List (List Dt)) (post : List Nat) (f : Nat), okAt (rest.length + 1) d = true → (∀ c, post.head? = some c → isDig c = false) → (tx d).length + post.length < f →
    ∃ f', post.length < f' ∧ loopF f T rest (tx d ++ post) = aftF f' (beh (T ++ [d]) rest post)
  | .tup l, T, rest, post, f, h, hp, hf => by
    rw [okAt, Bool.and_eq_true] at h
    have hd := of_decide_eq_true h.1
    obtain ⟨f, rfl⟩ : ∃ g, f = g + 1 := ⟨f - 1, by omega⟩
    rw [tx] at hf ⊢
    rw [List.length_cons, List.length_append, List.length_singleton] at hf
    show ∃ f', post.length < f' ∧ loopF (f + 1) T rest (40 :: ((txs l ++ [41]) ++ post)) = _
    rw [loopF_open (by omega), List.append_assoc]
    cases l with
    | nil =>
      rw [txs]
      refine ⟨f, by omega, ?_⟩
      show (if (41 :: post).head? = some 41 then aftF f (beh [] (T :: rest) (41 :: post)) else _) = _
      rw [if_pos (show (41 :: post).head? = some 41 from rfl), beh_close]
    | cons x xs =>
      rw [okAll, Bool.and_eq_true] at h
      rw [txs] at hf ⊢
      rw [List.length_append] at hf
      rw [List.append_assoc]
      obtain ⟨c, r, e, hc, _⟩ := head_tx x (.inr ⟨_, h.2.1⟩)
      rw [if_neg (by rw [e]; simp [hc])]
      have hpost : ∀ c, (txr xs ++ ([41] ++ post)).head? = some c → isDig c = false := fun c hc => by
        cases xs with
        | nil =>
          rw [txr] at hc
          simp at hc
          subst hc
          decide
        | cons y ys =>
          rw [txr] at hc
          simp at hc
          subst hc
          decide
      have hlen : (txr xs ++ ([41] ++ post)).length = (txr xs).length + (1 + post.length) := by simp; omega
      obtain ⟨f1, h1, e1⟩ := loop_ok x [] (T :: rest) (txr xs ++ ([41] ++ post)) f h.2.1 hpost (by rw [hlen]; omega)
      rw [hlen] at h1
      obtain ⟨f2, h2, e2⟩ := aft_ok xs [x] T rest post f1 h.2.2 hp (by omega)
      exact ⟨f2, h2, e1.trans e2⟩
  | .non, T, rest, post, f, h, hp, hf => by
    obtain ⟨f, rfl⟩ : ∃ g, f = g + 1 := ⟨f - 1, by omega⟩
    have hk : rest.length + 1 ≤ 60 := Nat.le_of_not_lt fun z => by rw [okAt_deep z] at h; cases h
    rw [okAt_plain (d := .non) hk (fun _ z => nomatch z)] at h
    obtain ⟨h1, h2⟩ := rawPlain_ok h hp
    refine ⟨f, ?_, ?_⟩
    · rw [tx] at hf; simp at hf; omega
    · rw [loopF_plain (by omega) h2 h1, List.drop_left]
  | .int i, T, rest, post, f, h, hp, hf => by
    obtain ⟨f, rfl⟩ : ∃ g, f = g + 1 := ⟨f - 1, by omega⟩
    have hpos := tx_pos h
    have hk : rest.length + 1 ≤ 60 := Nat.le_of_not_lt fun z => by rw [okAt_deep z] at h; cases h
    rw [okAt_plain (d := .int i) hk (fun _ z => nomatch z)] at h
    obtain ⟨h1, h2⟩ := rawPlain_ok h hp
    exact ⟨f, by omega, by rw [loopF_plain (by omega) h2 h1, List.drop_left]⟩
  | .str s, T, rest, post, f, h, hp, hf => by
    obtain ⟨f, rfl⟩ : ∃ g, f = g + 1 := ⟨f - 1, by omega⟩
    have hpos := tx_pos h
    have hk : rest.length + 1 ≤ 60 := Nat.le_of_not_lt fun z => by rw [okAt_deep z] at h; cases h
    rw [okAt_plain (d := .str s) hk (fun _ z => nomatch z)] at h
    obtain ⟨h1, h2⟩ := rawPlain_ok h hp
    exact ⟨f, by omega, by rw [loopF_plain (by omega) h2 h1, List.drop_left]⟩
  | .bl _, _, _, _, _, h, _, _ => by rw [okAt] at h; cases h
  | .oth, _, _, _, _, h, _, _ => by rw [okAt] at h; cases h
theorem aft_ok : ∀ (xs : List Dt) (U S : List Dt) (rest : List (List Dt)) (post : List Nat) (f : Nat), okAll (rest.length + 2) xs = true → (∀ c, post.head? = some c → isDig c = false) → (txr xs).length + 1 + post.length < f →
    ∃ f', post.length < f' ∧ aftF f (beh U (S :: rest) (txr xs ++ ([41] ++ post))) = aftF f' (beh (S ++ [.tup (U ++ xs)]) rest post)
  | [], U, S, rest, post, f, _, _, hf => by
    rw [txr, List.append_nil]
    rw [txr] at hf
    refine ⟨f, by simp at hf; omega, ?_⟩
    show aftF f (beh U (S :: rest) (41 :: post)) = _
    rw [beh_close]
  | x :: xs, U, S, rest, post, f, h, hp, hf => by
    rw [okAll, Bool.and_eq_true] at h
    rw [txr] at hf ⊢
    rw [List.length_cons, List.length_append] at hf
    obtain ⟨f, rfl⟩ : ∃ g, f = g + 1 := ⟨f - 1, by omega⟩
    show ∃ f', post.length < f' ∧ aftF (f + 1) (beh U (S :: rest) (32 :: ((tx x ++ txr xs) ++ ([41] ++ post)))) = _
    rw [beh_stay (.inr (by simp)), aftF_more, List.append_assoc]
    have hpost : ∀ c, (txr xs ++ ([41] ++ post)).head? = some c → isDig c = false := fun c hc => by
      cases xs with
      | nil =>
        rw [txr] at hc
        simp at hc
        subst hc
        decide
      | cons y ys =>
        rw [txr] at hc
        simp at hc
        subst hc
        decide
    have hlen : (txr xs ++ ([41] ++ post)).length = (txr xs).length + (1 + post.length) := by simp; omega
    obtain ⟨f1, h1, e1⟩ := loop_ok x U (S :: rest) (txr xs ++ ([41] ++ post)) f h.1 hpost (by rw [hlen]; omega)
    rw [hlen] at h1
    obtain ⟨f2, h2, e2⟩ := aft_ok xs (U ++ [x]) S rest post f1 h.2 hp (by omega)
    refine ⟨f2, h2, e1.trans (e2.trans ?_)⟩
    rw [List.append_assoc]
    rfl
end
/-- what a text is read as -/
def readF (l : List Nat) : Option (Dt × List Nat) := loopF (l.length + 1) [] [] l
theorem read_tx {d : Dt} (h : okAt 1 d = true) : readF (tx d) = some (d, []) := by
  obtain ⟨f, _, e⟩ := loop_ok d [] [] [] ((tx d).length + 1) h (fun _ z => nomatch z) (by simp)
  rw [List.append_nil] at e
  unfold readF
  rw [e, beh_stay (.inl rfl), aftF.eq_def]
  rfl
open PySem L2 CwR


-- @SP is_integer (spIsInt K)
-- @SP is_plain_thing (spPlainT K)
-- @SP plain_text (spPT K A)
-- @SP pieces (spPieces K)
-- @SP text_of (spTextOf K A)
-- @SP raw_integer (spRawInt K)
-- @SP raw_string (spRawStr K)
-- @SP raw_plain (spRawPlain K)
-- @SP behind (spBehind K)
-- @SP raw_thing (spRawThing K)
-- @SP thing_of (spThingOf K A)
theorem cutL (t : Str) (a b : Nat) (h : a ≤ b) : (cutS t (some (a : Int)) (some (b : Int))).cps.toList = (t.cps.toList.drop a).take (b - a) := by
  have hl : t.length = t.cps.toList.length := lenT t
  unfold cutS
  rw [HT.sIx_nat, HT.sIx_nat]
  show (t.cps.toList.drop (min a t.length)).take (min b t.length - min a t.length) = _
  rw [hl]
  generalize t.cps.toList = l
  by_cases h1 : a ≤ l.length
  · rw [Nat.min_eq_left h1]
    by_cases h2 : b ≤ l.length
    · rw [Nat.min_eq_left h2]
    · rw [Nat.min_eq_right (by omega), List.take_of_length_le (by rw [List.length_drop]; omega), List.take_of_length_le (by rw [List.length_drop]; omega)]
  · have e1 : min a l.length = l.length := by omega
    rw [e1, List.drop_of_length_le (Nat.le_refl _), List.drop_of_length_le (by omega)]
    simp
theorem str_inj {a b : Str} (h : a.cps.toList = b.cps.toList) : a = b := by
  obtain ⟨⟨a⟩⟩ := a
  obtain ⟨⟨b⟩⟩ := b
  have h' : a = b := h
  rw [h']
theorem vstr (a b : Str) : decide (V.str a = V.str b) = decide (a.cps.toList = b.cps.toList) := by
  by_cases h : a.cps.toList = b.cps.toList
  · rw [str_inj h, decide_eq_true rfl, decide_eq_true rfl]
  · rw [decide_eq_false h, decide_eq_false fun z => h (by rw [V.str.inj z])]
theorem cut_len (t : Str) (a b : Nat) (h : a ≤ b) : (cutS t (some (a : Int)) (some (b : Int))).length ≤ b - a := by
  rw [lenT, cutL t a b h, List.length_take]
  omega
theorem take1 (l : List Nat) : l.take 1 = match l with | [] => [] | c :: _ => [c] := by cases l <;> rfl
/-- what a step behind a value of the reading tells -/
def ResAt (K : PySem.W.Frag) (at_ : Nat) (r : Option (Dt × Nat)) (H : Hp) (Q : VK) : Prop := match r with
  | none => ∀ H', Ex [] H H' → Q .non H'
  | some (d, n) => ∀ a x H', SqT K H' a [x, .int ((at_ + n : Nat) : Int)] → Rep K H' x d → Ex [] H H' → Q (.ref a) H'
def spRawInt (K : PySem.W.Frag) : Sp := fun vs H Q _ => ∃ (t : Str) (at_ : Nat), (vs = [.str t, .int (at_ : Int)] ∧ t.length ≤ 1000000 ∧ at_ ≤ t.length) ∧ ResAt K at_ (rawInt (t.cps.toList.drop at_)) H Q
def spRawStr (K : PySem.W.Frag) : Sp := fun vs H Q _ => ∃ (t : Str) (at_ : Nat), (vs = [.str t, .int (at_ : Int)] ∧ t.length ≤ 1000000 ∧ at_ ≤ t.length) ∧ ResAt K at_ ((rawStr (t.cps.toList.drop at_)).map fun x => (.str ⟨x.1.toArray⟩, x.2)) H Q
def spRawPlain (K : PySem.W.Frag) : Sp := fun vs H Q _ => ∃ (t : Str) (at_ : Nat), (vs = [.str t, .int (at_ : Int)] ∧ t.length ≤ 1000000 ∧ at_ ≤ t.length) ∧ ResAt K at_ (rawPlain (t.cps.toList.drop at_)) H Q
theorem intPart_split (l : List Nat) : intPart l = (if l.take 1 = [45] then [45] else [], (l.drop (if l.take 1 = [45] then 1 else 0)).takeWhile isDig) := by
  unfold intPart
  split
  · rfl
  · rename_i h
    have : ¬ l.take 1 = [45] := fun z => by
      cases l with
      | nil => cases z
      | cons c r =>
        simp at z
        subst z
        exact h r rfl
    rw [if_neg this, if_neg this]
    rfl
theorem digv_lt : ∀ (l : List Nat), NumText.AllDigits l → NumText.digitsVal l < 10 ^ l.length := by
  have key : ∀ (l : List Nat) (a : Nat), NumText.AllDigits l → l.foldl (fun acc c => acc * 10 + (c - 48)) a < (a + 1) * 10 ^ l.length := by
    intro l
    induction l with
    | nil => intro a _; simp
    | cons c l ih =>
      intro a h
      rw [List.foldl_cons, List.length_cons]
      have hc := h c List.mem_cons_self
      have h1 := ih (a * 10 + (c - 48)) fun x hx => h x (List.mem_cons_of_mem _ hx)
      have h2 : (a * 10 + (c - 48) + 1) * 10 ^ l.length ≤ ((a + 1) * 10) * 10 ^ l.length := Nat.mul_le_mul_right _ (by omega)
      rw [Nat.mul_assoc, Nat.mul_comm 10, ← Nat.pow_succ] at h2
      exact Nat.lt_of_lt_of_le h1 h2
  intro l h
  have := key l 0 h
  rw [Nat.zero_add, Nat.one_mul] at this
  exact this
section
variable {P : Program} {w : World} {K : PySem.W.Frag} {mg : Str → Option Value} {base : Heap} {A : Ad}
theorem ok_raw_integer {f : Addr} {fd : FuncData} (F : Fun K "raw_integer" "raw_integer" s_raw_integer f fd) (T : Txt K mg A)  : FnOk P w K mg base CX0 1 f fd ["text", "at"] (spRawInt K) := by
  refine F.ok sc_raw_integer (fun vs H Q E h => ?_) (fun cdv Ar outer s H vs Q E hr h => ?_)
  · obtain ⟨t, at_, ⟨rfl, _⟩, _⟩ := h
    rfl
  · obtain ⟨t, at_, ⟨rfl, hz, ha⟩, k⟩ := h
    refine ⟨_, (pss_cons (ps_set (i := 2) sc_raw_integer.nd rfl (Or.inl rfl) (pe_op (oAdd (K := K) rfl) (pv 1) (pe_callTy call_int1 (by rfl) T.b_int bt_int (pa_cons (pe_cmpR op_eq (pe_slice (slG (K := K) rfl) (pv 0) (po_some (pv 1)) (po_some (pe_op (oAdd (K := K) rfl) (pv 1) pe_int))) pe_str (nomark _)) pa_nil)))) (pss_cons (ps_set (i := 3) sc_raw_integer.nd rfl (Or.inl rfl) (pv 2)) (pss_cons (ps_while PassesOwn.never (pt_chain oLe oLe pe_str (pe_slice (slG (K := K) rfl) (pv 0) (po_some (pv 3)) (po_some (pe_op (oAdd (K := K) rfl) (pv 3) pe_int))) pe_str) (pss_one (ps_aug (i := 3) sc_raw_integer.nd rfl (Or.inl rfl) pe_int pAdd))) (pss_cons (ps_if (pt_not (pt_chain oLe oLe pe_int (pe_op oSub (pv 3) (pv 2)) (C8.pe_gc (by rfl) T.c_MOST_FIGURES))) (pss_one (ps_ret pe_non)) pss_nil) (pss_cons (ps_set (i := 4) sc_raw_integer.nd rfl (Or.inl rfl) (pe_callTy call_int_str (by rfl) T.b_int bt_int (pa_cons (pe_slice (slG (K := K) rfl) (pv 0) (po_some (pv 1)) (po_some (pv 3))) pa_nil))) (pss_one (ps_ret (pe_ifExp (pt_cmpR op_eq (pe_callTy call_str_int (by rfl) T.b_str bt_str (pa_cons (pv 4) pa_nil)) (pe_slice (slG (K := K) rfl) (pv 0) (po_some (pv 1)) (po_some (pv 3))) (nomark _)) (peTup (pa_cons (pv 4) (pa_cons (pv 3) pa_nil))) pe_non)))))))), ?_⟩
    walk_at "nm"
    have hz2 : t.length ≤ sizeLine := by show _ ≤ 16777216; omega
    have m1 : ("-" : Str).cps.toList = [45] := by decide +kernel
    have m2 : ("0" : Str).cps.toList = [48] := by decide +kernel
    have m3 : ("9" : Str).cps.toList = [57] := by decide +kernel
    have hL : t.length = t.cps.toList.length := lenT t
    walk_at "rd"
    have e1 : decide (V.str (cutS t (some (at_ : Int)) (some ((at_ : Int) + 1))) = V.str "-") = decide ((t.cps.toList.drop at_).take 1 = [45]) := by
      rw [vstr, m1]
      have := cutL t at_ (at_ + 1) (by omega)
      rw [show at_ + 1 - at_ = 1 by omega] at this
      exact congrArg (fun z => decide (z = [45])) this
    rw [e1]
    obtain ⟨bg, hbg, hbg2⟩ : ∃ bg : Nat, ((at_ : Int) + if decide ((t.cps.toList.drop at_).take 1 = [45]) = true then 1 else 0) = (bg : Int) ∧ bg = at_ + (if (t.cps.toList.drop at_).take 1 = [45] then 1 else 0) := by
      by_cases c : (t.cps.toList.drop at_).take 1 = [45]
      · exact ⟨at_ + 1, by rw [if_pos (decide_eq_true c)]; omega, by rw [if_pos c]⟩
      · exact ⟨at_, by rw [if_neg (by rw [decide_eq_false c]; decide)]; omega, by rw [if_neg c]; omega⟩
    rw [hbg]
    clear e1 hbg
    have hbgl : bg ≤ t.length := by
      rw [hbg2]
      split
      · rename_i c
        rw [hL]
        by_cases z : at_ < t.cps.toList.length
        · omega
        · rw [List.drop_of_length_le (by omega)] at c
          cases c
      · omega
    walk_at "rd"
    generalize hr0 : t.cps.toList.drop bg = r0
    refine while_w (fun m σ H' => ∃ j, σ = [some (.str t), some (.int at_), some (.int bg), some (.int ((bg + j : Nat) : Int)), none] ∧ H' = H ∧ bg + j ≤ t.length ∧ m = t.length - (bg + j) ∧ r0.takeWhile isDig = r0.take j ++ (r0.drop j).takeWhile isDig) (t.length - (bg + 0)) ⟨0, rfl, rfl, hbgl, rfl, by simp⟩ ?_
    rintro m σ H1 ⟨j, rfl, rfl, hjl, rfl, htw⟩
    have hdj : t.cps.toList.drop (bg + j) = r0.drop j := by rw [← hr0, List.drop_drop]
    have e2 : (cutS t (some ((bg + j : Nat) : Int)) (some (((bg + j : Nat) : Int) + 1))).cps.toList = (r0.drop j).take 1 := by
      have e2 := cutL t (bg + j) (bg + j + 1) (by omega)
      rw [show bg + j + 1 - (bg + j) = 1 by omega, hdj] at e2
      exact e2
    walk_at "rd"
    generalize cutS t (some ((bg + j : Nat) : Int)) (some (((bg + j : Nat) : Int) + 1)) = sx at e2 ⊢
    rw [e2, m2]
    have nxt : ∀ c r, r0.drop j = c :: r → isDig c = true → bg + (j + 1) ≤ t.length ∧ r0.takeWhile isDig = r0.take (j + 1) ++ (r0.drop (j + 1)).takeWhile isDig := fun c r hc hd => by
      have hlt : j < r0.length := Nat.lt_of_not_le fun z => by rw [List.drop_of_length_le z] at hc; cases hc
      have hlr : r0.length = t.length - bg := by rw [← hr0, List.length_drop, hL]
      refine ⟨by omega, ?_⟩
      have hc1 : r0[j]? = some c := by
        have := congrArg List.head? hc
        rw [List.head?_drop] at this
        exact this
      have hc2 : r0.drop (j + 1) = r := by
        rw [← List.drop_drop, hc]
        rfl
      rw [htw, hc, List.takeWhile_cons, hd, if_pos rfl, hc2, List.take_add_one, hc1]
      simp
    have hp : intPart (t.cps.toList.drop at_) = (if (t.cps.toList.drop at_).take 1 = [45] then [45] else [], r0.takeWhile isDig) := by
      rw [intPart_split, List.drop_drop, ← hbg2, hr0]
    have hlr : r0.length = t.length - bg := by rw [← hr0, List.length_drop, hL]
    have hlj : (r0.take j).length = j := by rw [List.length_take]; omega
    refine @ite2 _ _ _ _ (fun c1 => ?gA) (fun c1 => ?gB)
    case' gB =>
      have hend : (r0.drop j).takeWhile isDig = [] := by
        cases hc : r0.drop j with
        | nil => rfl
        | cons c r =>
          rw [hc, take1, lt1] at c1
          have : c < 48 := Classical.byContradiction fun z : ¬ c < 48 => c1 (by rw [decide_eq_false z]; rfl)
          rw [List.takeWhile_cons, show isDig c = false by simp [isDig]; omega]
          rfl
      clear c1
    case' gA =>
      walk_at "rd"
      rw [e2, m3]
      refine @ite2 _ _ _ _ (fun c2 => ?gC) (fun c2 => ?gD)
    case' gD =>
      have hend : (r0.drop j).takeWhile isDig = [] := by
        cases hc : r0.drop j with
        | nil => rfl
        | cons c r =>
          rw [hc, take1, lt1] at c2
          have : 57 < c := Classical.byContradiction fun z : ¬ 57 < c => c2 (by rw [decide_eq_false z]; rfl)
          rw [List.takeWhile_cons, show isDig c = false by simp [isDig]; omega]
          rfl
      clear c1 c2
    case gC =>
      cases hc : r0.drop j with
      | nil =>
        rw [hc] at c1
        exact absurd c1 (by decide)
      | cons c r =>
        rw [hc, take1, lt1] at c1 c2
        have hd : isDig c = true := by
          have h1 : ¬ c < 48 := fun z => by rw [decide_eq_true z] at c1; cases c1
          have h2 : ¬ 57 < c := fun z => by rw [decide_eq_true z] at c2; cases c2
          simp [isDig]
          omega
        obtain ⟨x1, x2⟩ := nxt c r hc hd
        refine ⟨_, fun _ _ z => z, ?_⟩
        walk_at "rd"
        exact ⟨t.length - (bg + (j + 1)), by omega, j + 1, rfl, rfl, x1, rfl, x2⟩
    all_goals
      rw [hend, List.append_nil] at htw
      rw [htw] at hp
      have htw0 := htw
      clear hend nxt e2 htw hdj
      have kn : ¬ (1 ≤ j ∧ j ≤ 40) → ∀ H', Ex [] H1 H' → Q .non H' := fun hj => by
        have e : rawInt (t.cps.toList.drop at_) = none := by
          unfold rawInt
          simp only
          rw [hp]
          simp only [hlj]
          rw [if_neg hj]
        rw [e] at k
        exact k
      walk_at "rd"
      refine @ite2 _ _ _ _ (fun c3 => ?_) (fun c3 => ?_)
      rotate_left
      · walk_at "rd"
        refine kn (fun z => c3 (decide_eq_true ?_)) _ (Ex.refl _ _)
        omega
      replace c3 := of_decide_eq_true c3
      walk_at "rd"
      refine @ite2 _ _ _ _ (fun c4 => ?_) (fun c4 => ?_)
      · refine kn (fun z => ?_) _ (Ex.refl _ _)
        rw [decide_eq_true (show ((bg + j : Nat) : Int) - (bg : Int) ≤ 40 by omega)] at c4
        cases c4
      · replace c4 : ((bg + j : Nat) : Int) - (bg : Int) ≤ 40 := Classical.byContradiction fun z => c4 (by rw [decide_eq_false z]; rfl)
        obtain ⟨sg, hsg, hsg2⟩ : ∃ sg, sg = (if (t.cps.toList.drop at_).take 1 = [45] then [45] else [] : List Nat) ∧ (sg = [] ∨ sg = [45]) := ⟨_, rfl, by split <;> simp⟩
        rw [← hsg] at hp
        have hsl : (cutS t (some (at_ : Int)) (some ((bg + j : Nat) : Int))).cps.toList = sg ++ r0.take j := by
          rw [cutL t at_ (bg + j) (by omega)]
          have h1 : (t.cps.toList.drop at_) = sg ++ r0 := by
            rw [← hr0, hbg2, ← List.drop_drop, hsg]
            split
            · rename_i c
              rw [← c]
              exact (List.take_append_drop 1 _).symm
            · rfl
          have h2 : bg + j - at_ = sg.length + j := by
            rw [hbg2, hsg]
            split
            · show _ = 1 + j
              omega
            · show _ = 0 + j
              omega
          rw [h1, h2, List.take_length_add_append]
        have hdg : NumText.AllDigits (r0.take j) := fun c hc => by
          have h3 : ∀ l : List Nat, ∀ c ∈ l.takeWhile isDig, isDig c = true := fun l => by
            induction l with
            | nil => exact fun c hc => nomatch hc
            | cons x l ih =>
              intro c hc
              rw [List.takeWhile_cons] at hc
              split at hc
              · rename_i hx
                rcases List.mem_cons.mp hc with e | e
                · rw [e]; exact hx
                · exact ih c e
              · cases hc
          have h4 := h3 r0 c (by rw [htw0]; exact hc)
          simpa [isDig] using h4
        have hj : 1 ≤ j ∧ j ≤ 40 := by omega
        have hne : r0.take j ≠ [] := fun z => by rw [z] at hlj; simp at hlj; omega
        generalize hsy : cutS t (some (at_ : Int)) (some ((bg + j : Nat) : Int)) = sy at hsl
        generalize r0.take j = dg at *
        have hsyl : sy.length ≤ 640 := by
          rw [lenT, hsl, List.length_append, hlj]
          rcases hsg2 with z | z <;> rw [z] <;> simp <;> omega
        have hit : intText? sy = some (valOf (sg, dg)) := by
          rcases hsg2 with z | z
          · rw [z] at hsl ⊢
            have := PySem.intText_digits (x := sy) (by rw [hsl]; exact hdg) (by rw [hsl]; exact hne) (by omega)
            rw [this, hsl]
            rfl
          · rw [z] at hsl ⊢
            have := PySem.intText_neg (x := sy) (cs := dg) hsl hdg hne (by omega)
            rw [this]
            rfl
        have hv : (valOf (sg, dg)).natAbs.log2 < 1920 := by
          have h5 := digv_lt dg hdg
          rw [hlj] at h5
          have h6 : (valOf (sg, dg)).natAbs = NumText.digitsVal dg := by
            unfold valOf
            split <;> simp
          have h7 : (10 : Nat) ^ j ≤ 10 ^ 40 := Nat.pow_le_pow_right (by decide) hj.2
          have h8 : (10 : Nat) ^ 40 < 2 ^ 1920 := by decide +kernel
          rw [h6]
          by_cases h0 : NumText.digitsVal dg = 0
          · rw [h0]
            decide +kernel
          · exact (Nat.log2_lt h0).mpr (by omega)
        have ks : rawInt (t.cps.toList.drop at_) = if intL (valOf (sg, dg)) = sg ++ dg then some (.int (valOf (sg, dg)), sg.length + dg.length) else none := by
          unfold rawInt
          simp only
          rw [hp]
          simp only [hlj]
          rw [if_pos hj]
        have hend : bg + j = at_ + (sg.length + dg.length) := by
          rw [hlj, hbg2, hsg]
          split
          · show _ = at_ + (1 + j)
            omega
          · show _ = at_ + (0 + j)
            omega
        walk_at "rd"
        rw [hsy]
        walk_at "rd"
        rw [hsy]
        walk_at "rd"
        rw [vstr, tl_int, hsl]
        refine @ite2 _ _ _ _ (fun c5 => ?_) (fun c5 => ?_)
        · rw [ks, if_pos (of_decide_eq_true c5)] at k
          walk_at "rd"
          intro q H2 nq hq e5
          refine k q _ H2 (SqT.of ?_) (.int _) e5
          rw [← hend]
          exact hq
        · rw [ks, if_neg fun z => c5 (decide_eq_true z)] at k
          exact k _ (Ex.refl _ _)
end
open PySem L2 CwR


-- @SP is_integer (spIsInt K)
-- @SP is_plain_thing (spPlainT K)
-- @SP plain_text (spPT K A)
-- @SP pieces (spPieces K)
-- @SP text_of (spTextOf K A)
-- @SP raw_integer (spRawInt K)
-- @SP raw_string (spRawStr K)
-- @SP raw_plain (spRawPlain K)
-- @SP behind (spBehind K)
-- @SP raw_thing (spRawThing K)
-- @SP thing_of (spThingOf K A)
def rNotInT (K : PySem.W.Frag) : R2 := fun x y H Q => ∃ p xs, (y = .ref p ∧ SqT K H p xs ∧ flatV x = true ∧ xs.all flatV = true) ∧ Q (.bl (!inV x xs)) H
theorem oNotInT {X : Cx} {K : PySem.W.Frag} (h : X.K = K) : OpR X (compareOp .NotIn) (rNotInT K) := by
  subst h
  exact opImp op_notIn_seq fun x y H Q ⟨p, xs, ⟨a, b, c, d⟩, q⟩ => ⟨p, xs, a, .inr b, c, d, q⟩
/-- one sign of a text -/
theorem sign_at {t : Str} {n c : Nat} {r : List Nat} (h : t.cps.toList.drop n = c :: r) : atI t.cps.toList (n : Int) = some c ∧ n < t.length := by
  have h1 : t.cps.toList[n]? = some c := by
    have := congrArg List.head? h
    rw [List.head?_drop] at this
    exact this
  refine ⟨atI_nat h1, ?_⟩
  rw [lenT]
  exact (List.getElem?_eq_some_iff.mp h1).1
theorem drop_nil {t : Str} {n : Nat} (h : t.cps.toList.drop n = []) : t.length ≤ n := by
  rw [lenT]
  exact List.drop_eq_nil_iff.mp h
theorem drop_next {l r : List Nat} {n c : Nat} (h : l.drop n = c :: r) : l.drop (n + 1) = r := by
  rw [← List.drop_drop, h]
  rfl
theorem signs_sum : ∀ cs : List Nat, ((cs.map fun ch => (⟨#[ch]⟩ : Str)).map (·.length)).sum = cs.length
  | [] => rfl
  | c :: cs => by
    have h := signs_sum cs
    simp only [List.map_cons, List.sum_cons, List.length_cons, h]
    show 1 + cs.length = _
    omega
theorem joinL_nil' : ∀ l : List (List Nat), TL.joinL [] l = l.flatten
  | [] => rfl
  | [p] => by simp [TL.joinL]
  | p :: q :: r => by rw [TL.joinL, joinL_nil' (q :: r)]; simp
theorem join_nil' (ts : List Str) : (Txt.join "" ts).cps.toList = (ts.map (·.cps.toList)).flatten := by
  have h := TL.tl_join "" ts
  have e : TL.tl ("" : Str) = [] := by decide +kernel
  rw [e, joinL_nil', ← TL.join_eq] at h
  exact h
theorem eqS (a b : Str) : (a == b) = decide (b.cps.toList = a.cps.toList) := by
  by_cases h : b.cps.toList = a.cps.toList
  · rw [decide_eq_true h, str_inj h, beq_iff_eq]
  · rw [decide_eq_false h, beq_eq_false_iff_ne]
    exact fun z => h (by rw [z])
theorem in2 (sx : Str) : inV (.str sx) [.str "\"", .str "\\"] = (decide (sx.cps.toList = [34]) || decide (sx.cps.toList = [92])) := by
  have m1 : ("\"" : Str).cps.toList = [34] := by decide +kernel
  have m2 : ("\\" : Str).cps.toList = [92] := by decide +kernel
  show ((("\"" : Str) == sx) || ((("\\" : Str) == sx) || false)) = _
  rw [eqS, eqS, m1, m2, Bool.or_false]
theorem signs_flat : ∀ cs : List Nat, ((cs.map fun ch => (⟨#[ch]⟩ : Str)).map (·.cps.toList)).flatten = cs
  | [] => rfl
  | c :: cs => by
    rw [List.map_cons, List.map_cons, List.flatten_cons, signs_flat cs]
    rfl
section
variable {P : Program} {w : World} {K : PySem.W.Frag} {mg : Str → Option Value} {base : Heap} {A : Ad}
theorem ok_raw_string {f : Addr} {fd : FuncData} (F : Fun K "raw_string" "raw_string" s_raw_string f fd) (T : Txt K mg A)  : FnOk P w K mg base CX0 1 f fd ["text", "at"] (spRawStr K) := by
  refine F.ok sc_raw_string (fun vs H Q E h => ?_) (fun cdv Ar outer s H vs Q E hr h => ?_)
  · obtain ⟨t, at_, ⟨rfl, _⟩, _⟩ := h
    rfl
  · obtain ⟨t, at_, ⟨rfl, hz, ha⟩, k⟩ := h
    refine ⟨_, (pss_cons (ps_set (i := 2) sc_raw_string.nd rfl (Or.inl rfl) (peLst pa_nil)) (pss_cons (ps_while PassesOwn.never (PW.pt (pw_and (pt_cmpR oLt (pv 1) (pe_callB (cLen (K := K) rfl) (by rfl) T.b_len bt_len (pa_cons (pv 0) pa_nil)) (nomark _)) (pw_and1 (pt_cmpR op_ne (pe_ix (ixG (K := K) rfl) (pv 0) (pv 1) (fun _ _ => rfl)) pe_str (nomark _))))) (pss_cons (ps_if (pt_cmpR op_eq (pe_ix (ixG (K := K) rfl) (pv 0) (pv 1) (fun _ _ => rfl)) pe_str (nomark _)) (pss_cons (ps_aug (i := 1) sc_raw_string.nd rfl (Or.inl rfl) pe_int pAdd) (pss_one (ps_if (pt_cmpR (oNotInT (K := K) rfl) (pe_slice (slG (K := K) rfl) (pv 0) (po_some (pv 1)) (po_some (pe_op (oAdd (K := K) rfl) (pv 1) pe_int))) (peTup (pa_cons pe_str (pa_cons pe_str pa_nil))) (by rfl)) (pss_one (ps_ret pe_non)) pss_nil))) pss_nil) (pss_cons (ps_if (pt_not (pt_chain oLe oLe pe_str (pe_ix (ixG (K := K) rfl) (pv 0) (pv 1) (fun _ _ => rfl)) pe_str)) (pss_one (ps_ret pe_non)) pss_nil) (pss_cons (ps_expr (pe_bm PySem.F.plainAttrs_list PySem.F.slot_list_append PySem.F.type_list_append mAppend (pv 2) (pa_cons (pe_ix (ixG (K := K) rfl) (pv 0) (pv 1) (fun _ _ => rfl)) pa_nil))) (pss_one (ps_aug (i := 1) sc_raw_string.nd rfl (Or.inl rfl) pe_int pAdd)))))) (pss_one (ps_ret (pe_ifExp (pt_cmpR oLt (pv 1) (pe_callB (cLen (K := K) rfl) (by rfl) T.b_len bt_len (pa_cons (pv 0) pa_nil)) (nomark _)) (peTup (pa_cons (pe_join pe_str (pv 2)) (pa_cons (pe_op (oAdd (K := K) rfl) (pv 1) pe_int) pa_nil))) pe_non))))), ?_⟩
    walk_at "nm"
    have hz2 : t.length ≤ sizeLine := by show _ ≤ 16777216; omega
    have m1 : ("\"" : Str).cps.toList = [34] := by decide +kernel
    have m2 : ("\\" : Str).cps.toList = [92] := by decide +kernel
    have m3 : (" " : Str).cps.toList = [32] := by decide +kernel
    have m4 : ("~" : Str).cps.toList = [126] := by decide +kernel
    walk_at "rd"
    intro D H1 nD hD e1
    walk_at "rd"
    refine while_w (fun m σ H' => ∃ (n : Nat) (acc : List Nat), σ = [some (.str t), some (.int ((n : Nat) : Int)), some (.ref D)] ∧ Ex [] H H' ∧ H' D = some (.lst ((acc.map fun c => (⟨#[c]⟩ : Str)).map V.str)) ∧ n ≤ t.length ∧ at_ ≤ n ∧ acc.length ≤ n ∧ m = t.length - n ∧
      rawStr (t.cps.toList.drop at_) = (rawStr (t.cps.toList.drop n)).map fun x => (acc ++ x.1, x.2 + (n - at_))) (t.length - at_)
      ⟨at_, [], rfl, e1, hD, ha, Nat.le_refl _, Nat.zero_le _, rfl, by cases rawStr (t.cps.toList.drop at_) <;> simp⟩ ?_
    clear hD e1
    rintro m σ H2 ⟨n, acc, rfl, ex, hD, hn, han, hacc, rfl, hraw⟩
    rw [hraw] at k
    cases hc : t.cps.toList.drop n with
    | nil =>
      have h1 := drop_nil hc
      have h2 : n = t.length := by omega
      rw [hc] at k
      walk_at "rd"
      rw [decide_eq_false (show ¬ ((n : Nat) : Int) < ((t.length : Nat) : Int) by omega)]
      walk_at "rd"
      rw [decide_eq_false (show ¬ ((n : Nat) : Int) < ((t.length : Nat) : Int) by omega)]
      walk_at "rd"
      exact k _ ex
    | cons c r =>
      obtain ⟨hat, hlt⟩ := sign_at hc
      have hat2 : atI t.cps.toList ((n : Nat) : Int) = some c := hat
      walk_at "rd"
      rw [decide_eq_true (show ((n : Nat) : Int) < ((t.length : Nat) : Int) by omega)]
      walk_at "rd"
      rw [vstr, m1]
      show if (!decide ([c] = [34])) = true then _ else _
      refine @ite2 _ _ _ _ (fun c1 => ?_) (fun c1 => ?_)
      rotate_left
      · -- the end of the string
        have hc34 : c = 34 := Classical.byContradiction fun z => c1 (by rw [decide_eq_false (by simpa using z)]; rfl)
        subst hc34
        have hr : rawStr (34 :: r) = some ([], 1) := by rw [rawStr.eq_def]; simp
        rw [hc, hr] at k
        walk_at "rd"
        rw [decide_eq_true (show ((n : Nat) : Int) < ((t.length : Nat) : Int) by omega)]
        have e0 : ("" : Str).length = 0 := by decide +kernel
        have hsz : ((acc.map fun c => (⟨#[c]⟩ : Str)).map (·.length)).sum + (acc.map fun c => (⟨#[c]⟩ : Str)).length * ("" : Str).length ≤ 16777216 := by
          rw [signs_sum, e0]
          omega
        refine ⟨⟨_, rfl⟩, _, rfl, _, _, _, rfl, rfl, .inl (SqL.of hD), hsz, ?_⟩
        walk_at "rd"
        intro q H3 nq hq e3
        have e4 : Txt.join "" (acc.map fun c => (⟨#[c]⟩ : Str)) = ⟨acc.toArray⟩ := str_inj (by
          rw [join_nil', signs_flat])
        rw [e4] at hq
        refine k q (.str ⟨acc.toArray⟩) H3 (SqT.of ?_) ?_ (by walk_at "ex")
        · rw [hq, show at_ + (1 + (n - at_)) = n + 1 by omega]
          rfl
        · show Rep K H3 _ (.str ⟨(acc ++ []).toArray⟩)
          rw [List.append_nil]
          refine .str _ ?_
          show acc.toArray.size ≤ 1000000
          rw [List.size_toArray]
          omega
      · have hc34 : c ≠ 34 := fun z => by subst z; exact absurd c1 (by decide)
        clear c1
        refine ⟨_, fun _ _ z => z, ?_⟩
        walk_at "rd"
        rw [vstr, m2]
        show if decide ([c] = [92]) = true then _ else _
        refine @ite2 _ _ _ _ (fun c2 => ?_) (fun c2 => ?_)
        · have hc92 : c = 92 := by simpa using of_decide_eq_true c2
          subst hc92
          have e2 : (cutS t (some (((n : Nat) : Int) + 1)) (some ((((n : Nat) : Int) + 1) + 1))).cps.toList = r.take 1 := by
            have e2 := cutL t (n + 1) (n + 1 + 1) (by omega)
            rw [show n + 1 + 1 - (n + 1) = 1 by omega, drop_next hc] at e2
            exact e2
          walk_at "rd"
          generalize cutS t (some (((n : Nat) : Int) + 1)) (some ((((n : Nat) : Int) + 1) + 1)) = sx at e2 ⊢
          intro q H3 nq hq e3
          walk_at "rd"
          rw [in2 sx, e2]
          show if (!(decide (r.take 1 = [34]) || decide (r.take 1 = [92]))) = true then _ else _
          refine @ite2 _ _ _ _ (fun c3 => ?_) (fun c3 => ?_)
          · walk_at "rd"
            have hr : rawStr (92 :: r) = none := by
              rw [rawStr.eq_def]
              simp only [show ¬ (92 : Nat) = 34 by decide, if_false, if_true]
              cases r with
              | nil => rfl
              | cons e r' =>
                simp only
                rw [if_neg]
                intro z
                rcases z with z | z <;> (subst z; simp at c3)
            rw [hc, hr] at k
            exact k _ (by walk_at "ex")
          · cases r with
            | nil => exact absurd c3 (by decide)
            | cons e r' =>
              have he : e = 34 ∨ e = 92 := by
                have : (decide (e = 34) || decide (e = 92)) = true := by
                  cases h : (decide (e = 34) || decide (e = 92)) with
                  | true => rfl
                  | false =>
                    exfalso
                    refine c3 ?_
                    show (!(decide ([e] = [34]) || decide ([e] = [92]))) = true
                    rw [show decide ([e] = [34]) = decide (e = 34) by simp, show decide ([e] = [92]) = decide (e = 92) by simp, h]
                    rfl
                simpa using this
              have hr : rawStr (92 :: e :: r') = (rawStr r').map fun x => (e :: x.1, x.2 + 2) := by
                rw [rawStr.eq_def]
                simp only [show ¬ (92 : Nat) = 34 by decide, if_false, if_true]
                rw [if_pos he]
              have hdr := drop_next hc
              obtain ⟨hat3, hlt3⟩ := sign_at hdr
              have hat4 : atI t.cps.toList (((n : Nat) : Int) + 1) = some e := hat3
              have hlen : ((acc.map fun c => (⟨#[c]⟩ : Str)).map V.str).length < sizeLine := by rw [List.length_map, List.length_map]; show _ < 16777216; omega
              have h32 : 32 ≤ e ∧ e ≤ 126 := by rcases he with z | z <;> subst z <;> decide
              have hD3 := e3.get0 hD
              walk_at "rd"
              show if (!decide (([e] : List Nat) < (" " : Str).cps.toList)) = true then _ else _
              rw [m3, le1, decide_eq_true h32.1]
              walk_at "rd"
              show if (!(!decide ((("~" : Str).cps.toList : List Nat) < [e]))) = true then _ else _
              rw [m4, le1, decide_eq_true h32.2]
              walk_at "rd"
              intro H4 hD4 e4
              walk_at "rd"
              refine ⟨t.length - (n + 2), by omega, n + 2, acc ++ [e], rfl, by walk_at "ex", by rw [List.map_append, List.map_append]; exact hD4, by omega, by omega, by rw [List.length_append, List.length_singleton]; omega, rfl, ?_⟩
              rw [hraw, hc, drop_next hdr, hr]
              cases rawStr r' with
              | none => rfl
              | some x => simp; omega
        · have hc92 : c ≠ 92 := fun z => c2 (by rw [z]; decide)
          have bad : signOk c = false → ∀ H', Ex [] H H' → Q .non H' := fun e => by
            have hr : rawStr (c :: r) = none := by rw [rawStr.eq_def]; simp [hc34, hc92, e]
            rw [hc, hr] at k
            exact k
          walk_at "rd"
          show if (!decide (([c] : List Nat) < (" " : Str).cps.toList)) = true then _ else _
          rw [m3, le1]
          refine @ite2 _ _ _ _ (fun c3 => ?_) (fun c3 => ?_)
          · walk_at "rd"
            show if (!(!decide ((("~" : Str).cps.toList : List Nat) < [c]))) = true then _ else _
            rw [m4, le1]
            refine @ite2 _ _ _ _ (fun c4 => ?_) (fun c4 => ?_)
            · refine bad ?_ _ ex
              show (decide (32 ≤ c) && decide (c ≤ 126)) = false
              rw [show decide (c ≤ 126) = false by simpa using c4, Bool.and_false]
            · have hok : signOk c = true := by
                show (decide (32 ≤ c) && decide (c ≤ 126)) = true
                rw [c3, show decide (c ≤ 126) = true by simpa using c4]
                rfl
              have hr : rawStr (c :: r) = (rawStr r).map fun x => (c :: x.1, x.2 + 1) := by rw [rawStr.eq_def]; simp [hc34, hc92, hok]
              have hlen : ((acc.map fun c => (⟨#[c]⟩ : Str)).map V.str).length < sizeLine := by rw [List.length_map, List.length_map]; show _ < 16777216; omega
              walk_at "rd"
              intro H3 hD3 e3
              walk_at "rd"
              refine ⟨t.length - (n + 1), by omega, n + 1, acc ++ [c], rfl, by walk_at "ex", by rw [List.map_append, List.map_append]; exact hD3, by omega, by omega, by rw [List.length_append, List.length_singleton]; omega, rfl, ?_⟩
              rw [hraw, hc, drop_next hc, hr]
              cases rawStr r with
              | none => rfl
              | some x => simp; omega
          · walk_at "rd"
            refine bad ?_ _ ex
            show (decide (32 ≤ c) && _) = false
            rw [Bool.eq_false_iff.mpr c3, Bool.false_and]
end
section
variable {P : Program} {w : World} {K : PySem.W.Frag} {mg : Str → Option Value} {base : Heap} {A : Ad}
theorem ok_raw_plain {f : Addr} {fd : FuncData} (F : Fun K "raw_plain" "raw_plain" s_raw_plain f fd) (T : Txt K mg A) (C_raw_integer : Cl P w K mg base 1 "raw_integer" (spRawInt K)) (C_raw_string : Cl P w K mg base 1 "raw_string" (spRawStr K)) : FnOk P w K mg base CX0 2 f fd ["text", "at"] (spRawPlain K) := by
  refine F.ok sc_raw_plain (fun vs H Q E h => ?_) (fun cdv Ar outer s H vs Q E hr h => ?_)
  · obtain ⟨t, at_, ⟨rfl, _⟩, _⟩ := h
    rfl
  · obtain ⟨t, at_, ⟨rfl, hz, ha⟩, k⟩ := h
    refine ⟨_, (pss_cons (ps_if (pt_cmpR op_eq (pe_slice (slG (K := K) rfl) (pv 0) (po_some (pv 1)) (po_some (pe_op (oAdd (K := K) rfl) (pv 1) pe_int))) pe_str (nomark _)) (pss_one (ps_ret (peTup (pa_cons pe_non (pa_cons (pe_op (oAdd (K := K) rfl) (pv 1) pe_int) pa_nil))))) pss_nil) (pss_cons (ps_if (pt_cmpR op_eq (pe_slice (slG (K := K) rfl) (pv 0) (po_some (pv 1)) (po_some (pe_op (oAdd (K := K) rfl) (pv 1) pe_int))) pe_str (nomark _)) (pss_one (ps_ret (pe_cl C_raw_string hr (by decide) (by rfl) (pa_cons (pv 0) (pa_cons (pe_op (oAdd (K := K) rfl) (pv 1) pe_int) pa_nil))))) pss_nil) (pss_one (ps_ret (pe_cl C_raw_integer hr (by decide) (by rfl) (pa_cons (pv 0) (pa_cons (pv 1) pa_nil))))))), ?_⟩
    walk_at "nm"
    have hz2 : t.length ≤ sizeLine := by show _ ≤ 16777216; omega
    have m1 : ("\"" : Str).cps.toList = [34] := by decide +kernel
    have m5 : ("none" : Str).cps.toList = [110, 111, 110, 101] := by decide +kernel
    have e4 : (cutS t (some (at_ : Int)) (some ((at_ : Int) + 4))).cps.toList = (t.cps.toList.drop at_).take 4 := by
      have := cutL t at_ (at_ + 4) (by omega)
      rw [show at_ + 4 - at_ = 4 by omega] at this
      exact this
    have e1 : (cutS t (some (at_ : Int)) (some ((at_ : Int) + 1))).cps.toList = (t.cps.toList.drop at_).take 1 := by
      have := cutL t at_ (at_ + 1) (by omega)
      rw [show at_ + 1 - at_ = 1 by omega] at this
      exact this
    walk_at "rd"
    rw [vstr, e4, m5]
    refine @ite2 _ _ _ _ (fun c1 => ?_) (fun c1 => ?_)
    · have hr : rawPlain (t.cps.toList.drop at_) = some (.non, 4) := by
        unfold rawPlain
        rw [if_pos (of_decide_eq_true c1)]
      rw [hr] at k
      walk_at "rd"
      intro q H3 nq hq e3
      exact k q .non H3 (SqT.of hq) .non e3
    · have c1' : ¬ (t.cps.toList.drop at_).take 4 = [110, 111, 110, 101] := fun z => c1 (decide_eq_true z)
      walk_at "rd"
      rw [vstr, e1, m1]
      refine @ite2 _ _ _ _ (fun c2 => ?_) (fun c2 => ?_)
      · have c2' := of_decide_eq_true c2
        cases hc : t.cps.toList.drop at_ with
        | nil => rw [hc] at c2'; cases c2'
        | cons c r =>
          rw [hc] at c2'
          have hc34 : c = 34 := by simpa using c2'
          subst hc34
          obtain ⟨_, hlt⟩ := sign_at hc
          have hr : rawPlain (t.cps.toList.drop at_) = (rawStr r).map fun x => (.str ⟨x.1.toArray⟩, x.2 + 1) := by
            rw [hc] at c1' ⊢
            unfold rawPlain
            rw [if_neg c1']
            rfl
          have hdn : t.cps.toList.drop (at_ + 1) = r := drop_next hc
          rw [hr, ← hdn] at k
          walk_at "rd"
          cases hs : rawStr (t.cps.toList.drop (at_ + 1)) with
          | none =>
            rw [hs] at k
            intro H' h3
            exact k H' h3
          | some x =>
            rw [hs] at k
            intro a y H' h1 h2 h3
            refine k a y H' ?_ h2 h3
            rw [show at_ + (x.2 + 1) = at_ + 1 + x.2 by omega]
            exact h1
      · have hr : rawPlain (t.cps.toList.drop at_) = rawInt (t.cps.toList.drop at_) := by
          unfold rawPlain
          rw [if_neg c1']
          split
          · rename_i r e
            rw [e] at c2
            exact absurd c2 (by simp)
          · rfl
        rw [hr] at k
        walk_at "rd"
        exact k
end
open PySem L2 CwR


-- @SP is_integer (spIsInt K)
-- @SP is_plain_thing (spPlainT K)
-- @SP plain_text (spPT K A)
-- @SP pieces (spPieces K)
-- @SP text_of (spTextOf K A)
-- @SP raw_integer (spRawInt K)
-- @SP raw_string (spRawStr K)
-- @SP raw_plain (spRawPlain K)
-- @SP behind (spBehind K)
-- @SP raw_thing (spRawThing K)
-- @SP thing_of (spThingOf K A)
/-- rows lie at their addresses, the top one first -/
def RowsL (K : PySem.W.Frag) (H : Hp) : List Addr → List (List Dt) → Prop
  | [], [] => True
  | a :: as, L :: Ls => (∃ xs, H a = some (.lst xs) ∧ RepL K H xs L) ∧ a ∉ as ∧ RowsL K H as Ls
  | _, _ => False
theorem RowsL.ex {K : PySem.W.Frag} {H H' : Hp} {M : List Addr} (e : Ex M H H') : ∀ {as : List Addr} {Ls : List (List Dt)}, (∀ a ∈ as, Nin a M) → RowsL K H as Ls → RowsL K H' as Ls
  | [], [], _, h => h
  | a :: as, L :: Ls, n, ⟨⟨xs, h1, h2⟩, h3, h4⟩ => ⟨⟨xs, e.get h1 (n a List.mem_cons_self), e.repL h2⟩, h3, RowsL.ex e (fun b hb => n b (List.mem_cons_of_mem _ hb)) h4⟩
theorem RowsL.length {K : PySem.W.Frag} {H : Hp} : ∀ {as : List Addr} {Ls : List (List Dt)}, RowsL K H as Ls → as.length = Ls.length
  | [], [], _ => rfl
  | _ :: as, _ :: Ls, ⟨_, _, h⟩ => by rw [List.length_cons, List.length_cons, RowsL.length h]
theorem RowsL.not_new {K : PySem.W.Frag} {H : Hp} {p : Addr} (n : H p = none) : ∀ {as : List Addr} {Ls : List (List Dt)}, RowsL K H as Ls → p ∉ as
  | [], [], _ => by simp
  | a :: as, L :: Ls, ⟨⟨xs, h1, _⟩, _, h⟩ => fun hm => (List.mem_cons.mp hm).elim (fun e => by rw [e, h1] at n; cases n) (RowsL.not_new n h)
/-- the bottom row -/
theorem RowsL.bot {K : PySem.W.Frag} {H : Hp} {B : List Dt} : ∀ {as : List Addr} {Ls : List (List Dt)}, RowsL K H as Ls → Ls.getLast? = some B → ∃ b xs, as.getLast? = some b ∧ b ∈ as ∧ H b = some (.lst xs) ∧ RepL K H xs B
  | [], [], _, e => by cases e
  | [a], [L], ⟨⟨xs, h1, h2⟩, _, _⟩, e => by
    have e' : L = B := by simpa using e
    subst e'
    exact ⟨a, xs, rfl, List.mem_cons_self, h1, h2⟩
  | a :: b :: as, L :: M :: Ls, ⟨_, _, h⟩, e => by
    rw [List.getLast?_cons_cons] at e ⊢
    obtain ⟨c, xs, h1, h2, h3⟩ := RowsL.bot h e
    exact ⟨c, xs, h1, List.mem_cons_of_mem _ h2, h3⟩
  | [_], _ :: _ :: _, ⟨_, _, h⟩, _ => h.elim
  | _ :: _ :: _, [_], ⟨_, _, h⟩, _ => h.elim
structure StkAt (K : PySem.W.Frag) (H : Hp) (R : Addr) (as : List Addr) (Ls : List (List Dt)) : Prop where
  r : H R = some (.lst (as.reverse.map V.ref))
  n : R ∉ as
  l : RowsL K H as Ls
def rowsum (Ls : List (List Dt)) : Nat := (Ls.map List.length).sum
theorem nin_all {M : List Addr} {a : Addr} (h : a ∉ M) : Nin a M := nin_of h
/-- what closing tells -/
def BehRes (K : PySem.W.Frag) (R : Addr) (t : Str) (as : List Addr) (at_ : Nat) (r : List Dt × List (List Dt) × List Nat) (H : Hp) (Q : VK) : Prop :=
  ∀ H' as2 T2 rest2 at2, r = (T2, rest2, t.cps.toList.drop at2) → StkAt K H' R as2 (T2 :: rest2) → Ex (R :: as) H H' → at_ ≤ at2 → at2 ≤ t.length → rowsum (T2 :: rest2) ≤ at2 → (∀ a ∈ as2, a ∈ as) →
    if rest2 = [] then Q (.int (at2 : Nat)) H' else if (t.cps.toList.drop at2).take 1 = [32] then Q (.int ((at2 + 1 : Nat) : Int)) H' else Q .non H'
def spBehind (K : PySem.W.Frag) : Sp := fun vs H Q _ => ∃ (R : Addr) (t : Str) (at_ : Nat) (as : List Addr) (T : List Dt) (rest : List (List Dt)), (vs = [.ref R, .str t, .int (at_ : Int)] ∧ t.length ≤ 1000000 ∧ at_ ≤ t.length ∧ StkAt K H R as (T :: rest) ∧ rowsum (T :: rest) ≤ at_ ∧ as.length ≤ 100) ∧
  BehRes K R t as at_ (beh T rest (t.cps.toList.drop at_)) H Q
theorem atI_top (as : List Addr) (a : Addr) : atI ((a :: as).reverse.map V.ref) (-1) = some (.ref a) := by
  rw [List.reverse_cons, List.map_append]
  exact atI_last _ _
section
variable {P : Program} {w : World} {K : PySem.W.Frag} {mg : Str → Option Value} {base : Heap} {A : Ad}
theorem ok_behind {f : Addr} {fd : FuncData} (F : Fun K "behind" "behind" s_behind f fd) (T : Txt K mg A)  : FnOk P w K mg base CX0 1 f fd ["rows", "text", "at"] (spBehind K) := by
  refine F.ok sc_behind (fun vs H Q E h => ?_) (fun cdv Ar outer s H vs Q E hr h => ?_)
  · obtain ⟨R, t, at_, as, U0, rest, ⟨rfl, _⟩, _⟩ := h
    rfl
  · obtain ⟨R, t, at_, as, U0, rest, ⟨rfl, hz, ha, hS, hsum, hasl⟩, k⟩ := h
    refine ⟨_, (pss_cons (ps_while PassesOwn.never (PW.pt (pw_and (pt_cmpR oGt (pe_callB (cLen (K := K) rfl) (by rfl) T.b_len bt_len (pa_cons (pv 0) pa_nil)) pe_int (nomark _)) (pw_and1 (pt_cmpR op_eq (pe_slice (slG (K := K) rfl) (pv 1) (po_some (pv 2)) (po_some (pe_op (oAdd (K := K) rfl) (pv 2) pe_int))) pe_str (nomark _))))) (pss_cons (ps_set (i := 3) sc_behind.nd rfl (Or.inl rfl) (pe_bm0 PySem.F.plainAttrs_list PySem.F.slot_list_pop PySem.F.type_list_pop mPop (pv 0))) (pss_cons (ps_expr (pe_bm PySem.F.plainAttrs_list PySem.F.slot_list_append PySem.F.type_list_append mAppend (pe_ix (ixG (K := K) rfl) (pv 0) (pe_un oNeg pe_int) (fun _ _ => rfl)) (pa_cons (pe_callTy (cTuple (K := K) rfl) (by rfl) T.b_tuple bt_tuple (pa_cons (pv 3) pa_nil)) pa_nil))) (pss_one (ps_aug (i := 2) sc_behind.nd rfl (Or.inl rfl) pe_int pAdd))))) (pss_cons (ps_if (pt_cmpR op_eq (pe_callB (cLen (K := K) rfl) (by rfl) T.b_len bt_len (pa_cons (pv 0) pa_nil)) pe_int (nomark _)) (pss_one (ps_ret (pv 2))) pss_nil) (pss_one (ps_ret (pe_ifExp (pt_cmpR op_eq (pe_slice (slG (K := K) rfl) (pv 1) (po_some (pv 2)) (po_some (pe_op (oAdd (K := K) rfl) (pv 2) pe_int))) pe_str (nomark _)) (pe_op (oAdd (K := K) rfl) (pv 2) pe_int) pe_non))))), ?_⟩
    walk_at "nm"
    have hz2 : t.length ≤ sizeLine := by show _ ≤ 16777216; omega
    have m6 : (")" : Str).cps.toList = [41] := by decide +kernel
    have m7 : (" " : Str).cps.toList = [32] := by decide +kernel
    walk_at "rd"
    refine while_w (fun m σ H' => ∃ (n : Nat) (as2 : List Addr) (T2 : List Dt) (rest2 : List (List Dt)) (o3 : Option V), σ = [some (.ref R), some (.str t), some (.int ((n : Nat) : Int)), o3] ∧ Ex (R :: as) H H' ∧ StkAt K H' R as2 (T2 :: rest2) ∧ n ≤ t.length ∧ at_ ≤ n ∧
      rowsum (T2 :: rest2) ≤ n ∧ (∀ a ∈ as2, a ∈ as) ∧ m = t.length - n ∧ beh U0 rest (t.cps.toList.drop at_) = beh T2 rest2 (t.cps.toList.drop n)) (t.length - at_)
      ⟨at_, as, U0, rest, none, rfl, Ex.refl _ _, hS, ha, Nat.le_refl _, hsum, fun _ h => h, rfl, rfl⟩ ?_
    clear hS hsum
    rintro m σ H2 ⟨n, as2, T2, rest2, o3, rfl, ex, hS, hn, han, hsum, hsub, rfl, hbeh⟩
    rw [hbeh] at k
    have e1 : (cutS t (some (n : Int)) (some ((n : Int) + 1))).cps.toList = (t.cps.toList.drop n).take 1 := by
      have := cutL t n (n + 1) (by omega)
      rw [show n + 1 - n = 1 by omega] at this
      exact this
    have hRlen : ((as2.reverse.map V.ref).length : Nat) = rest2.length + 1 := by
      rw [List.length_map, List.length_reverse, hS.l.length]
      rfl
    have hR := hS.r
    have stay : rest2 = [] ∨ ¬ (t.cps.toList.drop n).take 1 = [41] → beh T2 rest2 (t.cps.toList.drop n) = (T2, rest2, t.cps.toList.drop n) := fun z => beh_stay (z.imp id fun z e => z (by
      cases hd : t.cps.toList.drop n with
      | nil => rw [hd] at e; cases e
      | cons c r => rw [hd] at e; cases e; rfl))
    cases rest2 with
    | nil =>
      walk_at "rd"
      rw [hRlen]
      walk_at "rd"
      rw [hRlen]
      walk_at "rd"
      have := k H2 as2 T2 [] n (stay (.inl rfl)) hS ex han hn hsum hsub
      rw [if_pos rfl] at this
      exact this
    | cons S r3 =>
      walk_at "rd"
      rw [hRlen, List.length_cons]
      rw [decide_eq_true (show (1 : Int) < ((r3.length + 1 + 1 : Nat) : Int) by omega)]
      walk_at "rd"
      rw [vstr, e1, m6]
      refine @ite2 _ _ _ _ (fun c1 => ?_) (fun c1 => ?_)
      · refine ⟨_, fun _ _ z => z, ?_⟩
        have c1' := of_decide_eq_true c1
        cases hc : t.cps.toList.drop n with
        | nil => rw [hc] at c1'; cases c1'
        | cons c r =>
        rw [hc] at c1'
        have hc41 : c = 41 := by simpa using c1'
        subst hc41
        obtain ⟨_, hlt⟩ := sign_at hc
        match as2, hS.l with
        | a :: b :: as3, ⟨⟨xs, hxa, hxr⟩, na, ⟨ys, hyb, hyr⟩, nb, hl3⟩ =>
        have hR2 : H2 R = some (.lst (((b :: as3).reverse.map V.ref) ++ [V.ref a])) := by
          rw [hR, List.reverse_cons, List.map_append]
          rfl
        have hnR := hS.n
        have nRa : R ≠ a := fun z => hnR (by rw [z]; exact List.mem_cons_self)
        have nRb : R ≠ b := fun z => hnR (by rw [z]; exact List.mem_cons_of_mem _ List.mem_cons_self)
        have nab : a ≠ b := fun z => na (by rw [z]; exact List.mem_cons_self)
        have nR3 : R ∉ as3 := fun z => hnR (List.mem_cons_of_mem _ (List.mem_cons_of_mem _ z))
        walk_at "rd"
        intro H3 hR3 e3
        have hxa3 := e3.get hxa ⟨nRa.symm, trivial⟩
        have hyb3 := e3.get hyb ⟨nRb.symm, trivial⟩
        have hix := atI_top as3 b
        have hrs : rowsum (T2 :: S :: r3) = T2.length + (S.length + rowsum r3) := by simp [rowsum]
        have hyl := hyr.length
        have hys : ys.length < sizeLine := by show _ < 16777216; omega
        walk_at "rd"
        intro p H4 np hp e4
        have hyb4 := e4.get0 hyb3
        have hR4 := e4.get0 hR3
        walk_at "rd"
        intro H5 hyb5 e5
        have hR5 := e5.get hR4 ⟨nRb, trivial⟩
        have hb_as : b ∈ as := hsub b (List.mem_cons_of_mem _ List.mem_cons_self)
        have ex5 : Ex (R :: as) H H5 := by
          refine Ex.trans (Ex.trans (Ex.trans ex (e3.mono fun x hx => ?_)) (e4.mono fun x hx => nomatch hx)) (e5.mono fun x hx => ?_)
          · rw [List.mem_singleton.mp hx]; exact List.mem_cons_self
          · rw [List.mem_singleton.mp hx]; exact List.mem_cons_of_mem _ hb_as
        walk_at "rd"
        have hS5 : StkAt K H5 R (b :: as3) ((S ++ [.tup T2]) :: r3) := by
          refine ⟨hR5, fun z => hnR (List.mem_cons_of_mem _ z), ⟨ys ++ [.ref p], hyb5, ?_⟩, nb, ?_⟩
          · have h1 := e5.repL (e4.repL (e3.repL hyr))
            refine h1.append (.cons ?_ .nil)
            refine e5.rep (.tup (SqT.of hp) (e4.repL (e3.repL hxr)))
          · refine RowsL.ex e5 (fun x hx => ⟨fun z => nb (z ▸ hx), trivial⟩) (RowsL.ex e4 (fun _ _ => trivial) (RowsL.ex e3 (fun x hx => ⟨fun z => nR3 (z ▸ hx), trivial⟩) hl3))
        refine ⟨t.length - (n + 1), by omega, n + 1, b :: as3, S ++ [.tup T2], r3, _, rfl, ex5, hS5, by omega, by omega, ?_, fun x hx => hsub x (List.mem_cons_of_mem _ hx), rfl, ?_⟩
        · have h2 : rowsum ((S ++ [.tup T2]) :: r3) = S.length + 1 + rowsum r3 := by simp [rowsum]
          omega
        · rw [hbeh, hc, beh_close, drop_next hc]
      · have hne : ¬ (t.cps.toList.drop n).take 1 = [41] := fun z => c1 (decide_eq_true z)
        have := k H2 as2 T2 (S :: r3) n (stay (.inr hne)) hS ex han hn hsum hsub
        rw [if_neg (fun z => nomatch z)] at this
        walk_at "rd"
        rw [hRlen, List.length_cons]
        walk_at "rd"
        rw [vstr, e1, m7]
        refine @ite2 _ _ _ _ (fun c3 => ?_) (fun c3 => ?_)
        · rw [if_pos (of_decide_eq_true c3)] at this
          walk_at "rd"
          exact this
        · rw [if_neg fun z => c3 (decide_eq_true z)] at this
          exact this
end
open PySem L2 CwR


-- @SP is_integer (spIsInt K)
-- @SP is_plain_thing (spPlainT K)
-- @SP plain_text (spPT K A)
-- @SP pieces (spPieces K)
-- @SP text_of (spTextOf K A)
-- @SP raw_integer (spRawInt K)
-- @SP raw_string (spRawStr K)
-- @SP raw_plain (spRawPlain K)
-- @SP behind (spBehind K)
-- @SP raw_thing (spRawThing K)
-- @SP thing_of (spThingOf K A)
theorem rawStr_len : ∀ (l : List Nat) {x : List Nat × Nat}, rawStr l = some x → 1 ≤ x.2 ∧ x.2 ≤ l.length ∧ x.1.length < x.2
  | [], x, h => by rw [rawStr.eq_def] at h; cases h
  | c :: r, x, h => by
    rw [rawStr.eq_def] at h
    simp only at h
    split at h
    · cases h
      simp
    · split at h
      · cases r with
        | nil => cases h
        | cons e r' =>
          simp only at h
          split at h
          · cases hr : rawStr r' with
            | none => rw [hr] at h; cases h
            | some y =>
              rw [hr] at h
              cases h
              have := rawStr_len r' hr
              simp only [List.length_cons]
              omega
          · cases h
      · split at h
        · cases hr : rawStr r with
          | none => rw [hr] at h; cases h
          | some y =>
            rw [hr] at h
            cases h
            have := rawStr_len r hr
            simp only [List.length_cons]
            omega
        · cases h
theorem takeWhile_le (p : Nat → Bool) : ∀ l : List Nat, (l.takeWhile p).length ≤ l.length
  | [] => Nat.le_refl _
  | c :: l => by
    rw [List.takeWhile_cons]
    split
    · rw [List.length_cons, List.length_cons]
      have := takeWhile_le p l
      omega
    · exact Nat.zero_le _
theorem rawPlain_len {l : List Nat} {d : Dt} {n : Nat} (h : rawPlain l = some (d, n)) : 1 ≤ n ∧ n ≤ l.length := by
  unfold rawPlain at h
  split at h
  · cases h
    rename_i e
    have := congrArg List.length e
    rw [List.length_take] at this
    simp at this
    omega
  · split at h
    · rename_i r _
      cases hr : rawStr r with
      | none => rw [hr] at h; cases h
      | some x =>
        rw [hr] at h
        cases h
        have := rawStr_len r hr
        simp only [List.length_cons]
        omega
    · unfold rawInt at h
      simp only at h
      split at h
      · rename_i hj
        split at h
        · cases h
          refine ⟨by omega, ?_⟩
          rw [intPart_split]
          simp only
          have h2 := takeWhile_le isDig (l.drop (if l.take 1 = [45] then 1 else 0))
          rw [List.length_drop] at h2
          split
          · rename_i c
            rw [if_pos c] at h2
            have h3 : 1 ≤ l.length := by
              cases l with
              | nil => cases c
              | cons c r => simp
            show 1 + _ ≤ _
            omega
          · rename_i c
            rw [if_neg c] at h2
            show 0 + _ ≤ _
            omega
        · cases h
      · cases h
theorem beh_last : ∀ (rest : List (List Dt)) (U : List Dt) (l : List Nat) {T2 : List Dt} {rest2 : List (List Dt)} {l2 : List Nat}, beh U rest l = (T2, rest2, l2) → (rest2 ≠ [] → rest2.getLast? = rest.getLast?) ∧ (U ≠ [] ∨ (rest ≠ [] ∧ l.head? = some 41) → T2 ≠ [])
  | [], U, l, T2, rest2, l2, h => by
    rw [beh_stay (.inl rfl)] at h
    cases h
    exact ⟨fun z => absurd rfl z, fun z => z.elim id fun z => absurd rfl z.1⟩
  | S :: rest, U, l, T2, rest2, l2, h => by
    by_cases hc : l.head? = some 41
    · cases l with
      | nil => cases hc
      | cons c r =>
        cases hc
        rw [beh_close] at h
        obtain ⟨h1, h2⟩ := beh_last rest _ _ h
        refine ⟨fun z => ?_, fun _ => h2 (.inl (by simp))⟩
        rw [h1 z]
        cases rest with
        | nil =>
          rw [beh_stay (.inl rfl)] at h
          cases h
          exact absurd rfl z
        | cons a b => rw [List.getLast?_cons_cons]
    · rw [beh_stay (.inr hc)] at h
      cases h
      exact ⟨fun _ => rfl, fun z => z.elim id fun z => absurd z.2 hc⟩
theorem beh_len : ∀ (rest : List (List Dt)) (U : List Dt) (l : List Nat) {T2 : List Dt} {rest2 : List (List Dt)} {l2 : List Nat}, beh U rest l = (T2, rest2, l2) → rest2.length ≤ rest.length
  | [], U, l, T2, rest2, l2, h => by
    rw [beh_stay (.inl rfl)] at h
    cases h
    exact Nat.le_refl _
  | S :: rest, U, l, T2, rest2, l2, h => by
    by_cases hc : l.head? = some 41
    · cases l with
      | nil => cases hc
      | cons c r =>
        cases hc
        rw [beh_close] at h
        have := beh_len rest _ _ h
        rw [List.length_cons]
        omega
    · rw [beh_stay (.inr hc)] at h
      cases h
      exact Nat.le_refl _
def ResT (K : PySem.W.Frag) (t : Str) (r : Option (Dt × List Nat)) (H : Hp) (Q : VK) : Prop := match r with
  | none => ∀ H', Ex [] H H' → Q .non H'
  | some (d, l) => ∀ a x at2 H', l = t.cps.toList.drop at2 → at2 ≤ t.length → SqT K H' a [x, .int ((at2 : Nat) : Int)] → Rep K H' x d → Ex [] H H' → Q (.ref a) H'
def spRawThing (K : PySem.W.Frag) : Sp := fun vs H Q _ => ∃ (t : Str) (bg : Nat), (vs = [.str t, .int (bg : Int)] ∧ t.length ≤ 900000 ∧ bg ≤ t.length) ∧ ResT K t (readF (t.cps.toList.drop bg)) H Q
/-- what holds at the reader's loop -/
def rInv (K : PySem.W.Frag) (t : Str) (bg : Nat) (R : Addr) (H : Hp) (F : Option (Dt × List Nat)) (m : Nat) (σ : L2.St) (H' : Hp) : Prop :=
  ∃ (as : List Addr) (U : List Dt) (rest : List (List Dt)) (n : Nat) (o4 : Option V), σ = [some (.str t), some (.int (bg : Int)), some (.ref R), some (.int (n : Int)), o4] ∧ StkAt K H' R as (U :: rest) ∧ Ex [] H H' ∧ (∀ a ∈ as, H a = none) ∧
    n ≤ t.length ∧ rowsum (U :: rest) ≤ n ∧ as.length ≤ 70 ∧
    ((∃ f, m = f + 1 ∧ (U :: rest).getLast? = some [] ∧ loopF f U rest (t.cps.toList.drop n) = F ∧ t.length - n < f) ∨ (m = 0 ∧ rest = [] ∧ ∃ d T', U = d :: T' ∧ F = some (d, t.cps.toList.drop n)))
theorem at0 (v : V) (xs : List V) : atI (v :: xs) 0 = some v := atI_nat (j := 0) (by simp)
/-- behind a thing: what closes here closes -/
theorem aft_walk {K : PySem.W.Frag} {t : Str} {bg : Nat} {R : Addr} {H H5 : Hp} {F : Option (Dt × List Nat)} {Q : VK} {D : Ends} {E0 : XK} {as : List Addr} {U : List Dt} {rest : List (List Dt)} {n f m : Nat} {o4 : Option V} (hz : t.length ≤ 900000) (k : ResT K t F H Q)
    (hS : StkAt K H5 R as (U :: rest)) (ex : Ex [] H H5) (hnew : ∀ a ∈ as, H a = none) (nR : H R = none) (hn : n ≤ t.length) (hsum : rowsum (U :: rest) ≤ n) (hasl : as.length ≤ 70) (hF : aftF f (beh U rest (t.cps.toList.drop n)) = F) (hf : t.length - n < f) (hm : f + 1 < m)
    (hne : U ≠ [] ∨ (rest ≠ [] ∧ (t.cps.toList.drop n).head? = some 41)) (hl : rest ≠ [] → rest.getLast? = some []) (h1 : ∀ σ H', (∃ m', m' < m ∧ rInv K t bg R H F m' σ H') → D.nx σ H') (h2 : ∀ v H', Q v H' → D.rt v H') :
    tSeq (tAsg (tCl (spBehind K) E0 (tCons (tVar 2) (tCons (tVar 0) (tCons (tVar 3) tNil)))) (gName 3)) (tIfS (tTest (tOp (fun x y H Q => y = V.non ∧ Q (V.bl (decide (x = V.non))) H) (tVar 3) (tC V.non))) (tRet (tC V.non)) tNext) D
      [some (.str t), some (.int (bg : Int)), some (.ref R), some (.int (n : Int)), o4] H5 := by
  have hz2 : t.length ≤ 1000000 := by omega
  have hasl2 : as.length ≤ 100 := by omega
  walk_at "rd"
  intro H6 as2 T2 rest2 at2 hr hS2 ex2 han2 hat2 hs2 hsub2
  have hbl := beh_last rest U _ hr
  have T2ne := hbl.2 hne
  rw [hr] at hF
  have ex6 : Ex [] H H6 := Ex.step ex2 (fun x hx => .inr ((List.mem_cons.mp hx).elim (fun e => e ▸ nR) (hnew x))) ex
  have hnew2 : ∀ a ∈ as2, H a = none := fun a ha => hnew a (hsub2 a ha)
  have hlen2 := hS2.l.length
  cases rest2 with
  | nil =>
    rw [if_pos rfl]
    walk_at "rd"
    cases T2 with
    | nil => exact absurd rfl T2ne
    | cons d T' =>
      refine h1 _ _ ⟨0, by omega, as2, d :: T', [], at2, _, rfl, hS2, ex6, hnew2, hat2, hs2, by rw [hlen2]; simp, .inr ⟨rfl, rfl, d, T', rfl, ?_⟩⟩
      rw [← hF, aftF.eq_def]
      rfl
  | cons S r3 =>
    have hlst := hbl.1 (List.cons_ne_nil _ _)
    have hrne : rest ≠ [] := fun z => by rw [z] at hlst; cases r3 <;> simp at hlst
    rw [hl hrne] at hlst
    have hl2 : as2.length ≤ 70 := by
      have h3 := beh_len rest U _ hr
      have h4 := hS.l.length
      rw [List.length_cons] at h4 hlen2
      omega
    rw [if_neg (List.cons_ne_nil _ _)]
    obtain ⟨f, rfl⟩ : ∃ g, f = g + 1 := ⟨f - 1, by omega⟩
    by_cases c : (t.cps.toList.drop at2).take 1 = [32]
    · rw [if_pos c]
      walk_at "rd"
      obtain ⟨r, hc⟩ : ∃ r, t.cps.toList.drop at2 = 32 :: r := by
        cases hc : t.cps.toList.drop at2 with
        | nil => rw [hc] at c; cases c
        | cons e r =>
          rw [hc] at c
          exact ⟨r, by rw [show e = 32 by simpa using c]⟩
      obtain ⟨_, hlt⟩ := sign_at hc
      have hdn := drop_next hc
      rw [hc, aftF_more] at hF
      refine h1 _ _ ⟨f + 1, by omega, as2, T2, S :: r3, at2 + 1, _, rfl, hS2, ex6, hnew2, hlt, by omega, hl2, .inl ⟨f, rfl, by rw [List.getLast?_cons_cons]; exact hlst, by rw [hdn]; exact hF, by omega⟩⟩
    · rw [if_neg c]
      walk_at "rd"
      have hnone : F = none := by
        rw [← hF, aftF.eq_def]
        simp only
        split
        · rename_i l' e
          rw [e] at c
          exact absurd rfl c
        · rfl
      rw [hnone] at k
      exact h2 _ _ (k _ ex6)
section
variable {P : Program} {w : World} {K : PySem.W.Frag} {mg : Str → Option Value} {base : Heap} {A : Ad}
theorem ok_raw_thing {f : Addr} {fd : FuncData} (F : Fun K "raw_thing" "raw_thing" s_raw_thing f fd) (T : Txt K mg A) (C_raw_plain : Cl P w K mg base 2 "raw_plain" (spRawPlain K)) (C_behind : Cl P w K mg base 1 "behind" (spBehind K)) : FnOk P w K mg base CX0 3 f fd ["text", "begin"] (spRawThing K) := by
  refine F.ok sc_raw_thing (fun vs H Q E h => ?_) (fun cdv Ar outer s H vs Q E hr h => ?_)
  · obtain ⟨t, bg, ⟨rfl, _⟩, _⟩ := h
    rfl
  · obtain ⟨t, bg, ⟨rfl, hz, ha⟩, k⟩ := h
    refine ⟨_, (pss_cons (ps_par (i := 2) (j := 3) rfl sc_raw_thing.nd rfl rfl (by decide) rfl rfl (pa_cons (peLst (pa_cons (peLst pa_nil) pa_nil)) (pa_cons (pv 1) pa_nil)) (by rfl)) (pss_cons (ps_while PassesOwn.never (pt_cmpR op_eq (pe_callB (cLen (K := K) rfl) (by rfl) T.b_len bt_len (pa_cons (pe_ix (ixG (K := K) rfl) (pv 2) pe_int (fun _ _ => rfl)) pa_nil)) pe_int (nomark _)) (pss_cons (ps_if (pt_cmpR oGt (pe_callB (cLen (K := K) rfl) (by rfl) T.b_len bt_len (pa_cons (pv 2) pa_nil)) (C8.pe_gc (by rfl) T.c_MOST_DEEP) (nomark _)) (pss_one (ps_ret pe_non)) pss_nil) (pss_cons (ps_if (pt_cmpR op_eq (pe_slice (slG (K := K) rfl) (pv 0) (po_some (pv 3)) (po_some (pe_op (oAdd (K := K) rfl) (pv 3) pe_int))) pe_str (nomark _)) (pss_cons (ps_expr (pe_bm PySem.F.plainAttrs_list PySem.F.slot_list_append PySem.F.type_list_append mAppend (pv 2) (pa_cons (peLst pa_nil) pa_nil))) (pss_one (ps_aug (i := 3) sc_raw_thing.nd rfl (Or.inl rfl) pe_int pAdd))) (pss_cons (ps_set (i := 4) sc_raw_thing.nd rfl (Or.inl rfl) (pe_cl C_raw_plain hr (by decide) (by rfl) (pa_cons (pv 0) (pa_cons (pv 3) pa_nil)))) (pss_cons (ps_if (pt_cmpR op_isN (pv 4) pe_non (nomark _)) (pss_one (ps_ret pe_non)) pss_nil) (pss_cons (ps_expr (pe_bm PySem.F.plainAttrs_list PySem.F.slot_list_append PySem.F.type_list_append mAppend (pe_ix (ixG (K := K) rfl) (pv 2) (pe_un oNeg pe_int) (fun _ _ => rfl)) (pa_cons (pe_ix (ixG (K := K) rfl) (pv 4) pe_int (fun _ _ => rfl)) pa_nil))) (pss_one (ps_set (i := 3) sc_raw_thing.nd rfl (Or.inl rfl) (pe_ix (ixG (K := K) rfl) (pv 4) pe_int (fun _ _ => rfl)))))))) (pss_one (ps_if (PW.pt (pw_or (pt_cmpR oGt (pe_callB (cLen (K := K) rfl) (by rfl) T.b_len bt_len (pa_cons (pe_ix (ixG (K := K) rfl) (pv 2) (pe_un oNeg pe_int) (fun _ _ => rfl)) pa_nil)) pe_int (nomark _)) (pw_or1 (pt_cmpR op_eq (pe_slice (slG (K := K) rfl) (pv 0) (po_some (pv 3)) (po_some (pe_op (oAdd (K := K) rfl) (pv 3) pe_int))) pe_str (nomark _))))) (pss_cons (ps_set (i := 3) sc_raw_thing.nd rfl (Or.inl rfl) (pe_cl C_behind hr (by decide) (by rfl) (pa_cons (pv 2) (pa_cons (pv 0) (pa_cons (pv 3) pa_nil))))) (pss_one (ps_if (pt_cmpR op_isN (pv 3) pe_non (nomark _)) (pss_one (ps_ret pe_non)) pss_nil))) pss_nil))))) (pss_one (ps_ret (peTup (pa_cons (pe_ix (ixG (K := K) rfl) (pe_ix (ixG (K := K) rfl) (pv 2) pe_int (fun _ _ => rfl)) pe_int (fun _ _ => rfl)) (pa_cons (pv 3) pa_nil))))))), ?_⟩
    walk_at "nm"
    have hz2 : t.length ≤ sizeLine := by show _ ≤ 16777216; omega
    have m8 : ("(" : Str).cps.toList = [40] := by decide +kernel
    have m6 : (")" : Str).cps.toList = [41] := by decide +kernel
    generalize hF : readF (t.cps.toList.drop bg) = F at k
    walk_at "rd"
    intro b0 H1 nb hb e1
    walk_at "rd"
    intro R H2 nR hR e2
    have nRH : H R = none := e1.none nR
    have hlen : (t.cps.toList.drop bg).length = t.length - bg := by rw [List.length_drop, lenT t]
    have hbR : R ≠ b0 := fun z => by rw [z, hb] at nR; cases nR
    have st0 : StkAt K H2 R [b0] [[]] := ⟨hR, by simpa using hbR, ⟨[], e2.get0 hb, .nil⟩, by simp, trivial⟩
    have ex2 : Ex [] H H2 := e1.trans e2
    walk_at "rd"
    refine while_w (rInv K t bg R H F) (t.length - bg + 1 + 1) ⟨[b0], [], [], bg, none, rfl, st0, ex2, fun a h => by rw [List.mem_singleton.mp h]; exact nb, ha, Nat.zero_le _, by simp, .inl ⟨t.length - bg + 1, rfl, rfl, by rw [← hF]; unfold readF; rw [hlen], by omega⟩⟩ ?_
    clear hb e1 hR e2 st0 ex2 nR nb hlen hbR
    rintro m σ H3 ⟨as, U, rest, n, o4, rfl, hS, ex, hnew, hn, hsum, hasl, hcase⟩
    obtain ⟨B, hB⟩ : ∃ B, (U :: rest).getLast? = some B := by
      cases h : (U :: rest).getLast? with
      | none => simp at h
      | some B => exact ⟨B, rfl⟩
    obtain ⟨b, xs, hb1, hb2, hb3, hb4⟩ := hS.l.bot hB
    have hix : atI (as.reverse.map V.ref) 0 = some (.ref b) := atI_nat (j := 0) (by rw [List.getElem?_map, ← List.head?_eq_getElem?, List.head?_reverse, hb1]; rfl)
    have hR := hS.r
    have hxl := hb4.length
    walk_at "rd"
    rcases hcase with ⟨f, rfl, hlast, hF2, hfu⟩ | ⟨rfl, rfl, d, T', rfl, hF2⟩
    · rw [hlast] at hB
      cases hB
      rw [hxl, List.length_nil]
      walk_at "rd"
      refine ⟨_, fun _ _ z => z, ?_⟩
      clear hb4 hxl hb1 hb2 hb3 hix
      have hRlen : ((as.reverse.map V.ref).length : Nat) = rest.length + 1 := by
        rw [List.length_map, List.length_reverse, hS.l.length]
        rfl
      obtain ⟨f, rfl⟩ : ∃ g, f = g + 1 := ⟨f - 1, by omega⟩
      have e1 : (cutS t (some (n : Int)) (some ((n : Int) + 1))).cps.toList = (t.cps.toList.drop n).take 1 := by
        have := cutL t n (n + 1) (by omega)
        rw [show n + 1 - n = 1 by omega] at this
        exact this
      walk_at "rd"
      rw [hRlen]
      refine @ite2 _ _ _ _ (fun c1 => ?_) (fun c1 => ?_)
      · have c1' : (60 : Int) < ((rest.length + 1 : Nat) : Int) := of_decide_eq_true c1
        rw [loopF.eq_def] at hF2
        simp only at hF2
        rw [if_pos (by omega)] at hF2
        rw [← hF2] at k
        walk_at "rd"
        exact k _ ex
      · have c1' : ¬ (60 : Int) < ((rest.length + 1 : Nat) : Int) := fun z => c1 (decide_eq_true z)
        have c60 : ¬ 60 < rest.length + 1 := by omega
        have hasn : as.length = rest.length + 1 := by rw [hS.l.length]; rfl
        walk_at "rd"
        rw [vstr, e1, m8]
        refine @ite2 _ _ _ _ (fun c2 => ?gA) (fun c2 => ?gB)
        case' gA =>
          obtain ⟨r, hc⟩ : ∃ r, t.cps.toList.drop n = 40 :: r := by
            have c2' := of_decide_eq_true c2
            cases hc : t.cps.toList.drop n with
            | nil => rw [hc] at c2'; cases c2'
            | cons c r =>
              rw [hc] at c2'
              exact ⟨r, by rw [show c = 40 by simpa using c2']⟩
          obtain ⟨_, hlt⟩ := sign_at hc
          have hdn := drop_next hc
          rw [hc, loopF_open c60] at hF2
          walk_at "rd"
          intro q H4 nq hq e4
          have hR4 := e4.get0 hR
          have hasl2 : (as.reverse.map V.ref).length < sizeLine := by rw [hRlen]; show _ < 16777216; omega
          have nqR : q ≠ R := fun z => by rw [z, hR] at nq; cases nq
          have nqH : H q = none := ex.none nq
          have nqas : q ∉ as := RowsL.not_new nq hS.l
          walk_at "rd"
          intro H5 hR5 e5
          have hq5 : H5 q = some (.lst []) := e5.get hq ⟨nqR, trivial⟩
          have hR5' : H5 R = some (.lst ((q :: as).reverse.map V.ref)) := by
            rw [hR5, List.reverse_cons, List.map_append]
            rfl
          have hS5 : StkAt K H5 R (q :: as) ([] :: U :: rest) := ⟨hR5', by
            intro z
            rcases List.mem_cons.mp z with z | z
            · exact nqR z.symm
            · exact hS.n z, ⟨[], hq5, .nil⟩, nqas, RowsL.ex e5 (fun x hx => ⟨fun z => hS.n (z ▸ hx), trivial⟩) (RowsL.ex e4 (fun _ _ => trivial) hS.l)⟩
          have ex5 : Ex [] H H5 := Ex.step e5 (side1 (.inr nRH)) (ex.trans e4)
          have hnew5 : ∀ a ∈ q :: as, H a = none := fun a hm => (List.mem_cons.mp hm).elim (fun e => e ▸ nqH) (hnew a)
          have hat5 := atI_top as q
          have e6 : (cutS t (some ((n : Int) + 1)) (some (((n : Int) + 1) + 1))).cps.toList = r.take 1 := by
            have := cutL t (n + 1) (n + 1 + 1) (by omega)
            rw [show n + 1 + 1 - (n + 1) = 1 by omega, hdn] at this
            exact this
          have hsum5 : rowsum ([] :: U :: rest) ≤ n + 1 := by
            have : rowsum ([] :: U :: rest) = rowsum (U :: rest) := by simp [rowsum]
            omega
          walk_at "rd"
          rw [vstr, e6, m6]
          refine @ite2 _ _ _ _ (fun c3 => ?gC) (fun c3 => ?gD)
        case gD =>
          have hne : ¬ r.head? = some 41 := fun z => by
            cases r with
            | nil => cases z
            | cons c r => cases z; exact c3 rfl
          rw [if_neg hne] at hF2
          exact ⟨f + 1, by omega, q :: as, [], U :: rest, n + 1, _, rfl, hS5, ex5, hnew5, hlt, hsum5, by rw [List.length_cons]; omega, .inl ⟨f, rfl, by rw [List.getLast?_cons_cons]; exact hlast, by rw [hdn]; exact hF2, by omega⟩⟩
        case gC =>
          have hhd : r.head? = some 41 := by
            have c3' := of_decide_eq_true c3
            cases r with
            | nil => cases c3'
            | cons c r => rw [show c = 41 by simpa using c3']; rfl
          rw [if_pos hhd] at hF2
          have hne5 : ([] : List Dt) ≠ [] ∨ (U :: rest ≠ [] ∧ (t.cps.toList.drop (n + 1)).head? = some 41) := .inr ⟨List.cons_ne_nil _ _, by rw [hdn]; exact hhd⟩
          have hF5 : aftF f (beh [] (U :: rest) (t.cps.toList.drop (n + 1))) = F := by rw [hdn]; exact hF2
          have hl5 : (q :: as).length ≤ 70 := by rw [List.length_cons]; omega
          have hf5 : t.length - (n + 1) < f := by omega
          have hm5 : f + 1 < f + 1 + 1 := by omega
          exact aft_walk hz k hS5 ex5 hnew5 nRH hlt hsum5 hl5 hF5 hf5 hm5 hne5 (fun _ => hlast) (fun _ _ h => h) (fun _ _ h => h)
        case gB =>
          have hz1 : t.length ≤ 1000000 := by omega
          walk_at "rd"
          have h40 : (t.cps.toList.drop n).head? ≠ some 40 := fun z => c2 (decide_eq_true (by
            cases hc : t.cps.toList.drop n with
            | nil => rw [hc] at z; cases z
            | cons c r => rw [hc] at z; cases z; rfl))
          cases hrp : rawPlain (t.cps.toList.drop n) with
          | none =>
            have hnone : F = none := by
              rw [← hF2, loopF.eq_def]
              simp only [if_neg c60]
              split
              · rename_i l' e
                rw [e] at h40
                exact absurd rfl h40
              · simp only [hrp]
            rw [hnone] at k
            intro H4 e4
            walk_at "rd"
            exact k _ (by walk_at "ex")
          | some x =>
            obtain ⟨d, cnt⟩ := x
            obtain ⟨hc1, hc2⟩ := rawPlain_len hrp
            rw [List.length_drop, ← lenT t] at hc2
            rw [loopF_plain c60 h40 hrp, List.drop_drop] at hF2
            intro q y H4 hq hy e4
            match as, hS.l with
            | a :: as3, ⟨⟨xs, hxa, hxr⟩, na, hl3⟩ =>
            have hR4 := e4.get0 hR
            have hat := atI_top as3 a
            have hxa4 := e4.get0 hxa
            have hq0 : atI [y, .int ((n + cnt : Nat) : Int)] 0 = some y := rfl
            have hq1 : atI [y, .int ((n + cnt : Nat) : Int)] 1 = some (.int ((n + cnt : Nat) : Int)) := rfl
            have hnR := hS.n
            have nRa : R ≠ a := fun z => hnR (by rw [z]; exact List.mem_cons_self)
            have hxl2 := hxr.length
            have hrs : rowsum (U :: rest) = U.length + rowsum rest := by simp [rowsum]
            have hxs : xs.length < sizeLine := by show _ < 16777216; omega
            walk_at "rd"
            intro H5 hxa5 e5
            have hR5 := e5.get hR4 ⟨nRa, trivial⟩
            have hq5 := e5.sqT hq
            have hxl5 : ((xs ++ [y]).length : Nat) = xs.length + 1 := by simp
            walk_at "rd"
            rw [hxl5, decide_eq_true (show (0 : Int) < ((xs.length + 1 : Nat) : Int) by omega)]
            refine iteT ?_
            have haH : H a = none := hnew a List.mem_cons_self
            have ex5 : Ex [] H H5 := Ex.step e5 (side1 (.inr haH)) (ex.trans e4)
            have hS5 : StkAt K H5 R (a :: as3) ((U ++ [d]) :: rest) := ⟨hR5, hnR, ⟨xs ++ [y], hxa5, (e5.repL (e4.repL hxr)).append (.cons (e5.rep hy) .nil)⟩, na,
              RowsL.ex e5 (fun x hx => ⟨fun z => na (z ▸ hx), trivial⟩) (RowsL.ex e4 (fun _ _ => trivial) hl3)⟩
            have hs5 : rowsum ((U ++ [d]) :: rest) ≤ n + cnt := by
              have h2 : rowsum ((U ++ [d]) :: rest) = U.length + 1 + rowsum rest := by simp [rowsum]
              omega
            have hl5 : rest ≠ [] → rest.getLast? = some [] := fun z => by
              cases rest with
              | nil => exact absurd rfl z
              | cons S r => rw [List.getLast?_cons_cons] at hlast; exact hlast
            have hn5 : n + cnt ≤ t.length := by omega
            have hf5 : t.length - (n + cnt) < f := by omega
            have hm5 : f + 1 < f + 1 + 1 := by omega
            have hU : U ++ [d] ≠ [] ∨ (rest ≠ [] ∧ (t.cps.toList.drop (n + cnt)).head? = some 41) := .inl (by simp)
            refine aft_walk hz k hS5 ex5 hnew nRH hn5 hs5 hasl hF2 hf5 hm5 hU hl5 ?_ ?_
            · exact fun _ _ h => h
            · exact fun _ _ h => h
    · have hB' : B = d :: T' := by simpa using hB.symm
      subst hB'
      rw [hxl, List.length_cons]
      rw [decide_eq_false (fun z => by rw [V.int.injEq] at z; omega)]
      have hxs : ∃ y ys, xs = y :: ys ∧ Rep K H3 y d := by
        cases hb4 with
        | cons h1 h2 => exact ⟨_, _, rfl, h1⟩
      obtain ⟨y, ys, rfl, hy⟩ := hxs
      have hat0 := at0 y ys
      rw [hF2] at k
      walk_at "rd"
      intro q H4 nq hq e4
      exact k q y n H4 rfl hn (SqT.of hq) (e4.rep hy) (by walk_at "ex")
end
def thingL (l : List Nat) : Option Dt := match readF l with
  | some (e, []) => some e
  | _ => none
def thingOf : Dt → Option Dt
  | .str s => thingL s.cps.toList
  | _ => none
def spThingOf (K : PySem.W.Frag) (A : Ad) : Sp := fun vs H Q E => ∃ v d, (vs = [v] ∧ Rep K H v d ∧ ∀ s, d = .str s → s.length ≤ 900000) ∧
  match thingOf d with
  | some e => ∀ x H', Rep K H' x e → Ex [] H H' → Q x H'
  | none => ∀ H', Ex [] H H' → E (.ref A.NoText) none H'
theorem thing_back {d : Dt} {s : Str} (h : okAt 1 d = true) (hs : s.cps.toList = tx d) : thingOf (.str s) = some d := by
  show thingL s.cps.toList = _
  unfold thingL
  rw [hs, read_tx h]
section
variable {P : Program} {w : World} {K : PySem.W.Frag} {mg : Str → Option Value} {base : Heap} {A : Ad}
theorem ok_thing_of {f : Addr} {fd : FuncData} (F : Fun K "thing_of" "thing_of" s_thing_of f fd) (T : Txt K mg A) (C_raw_thing : Cl P w K mg base 3 "raw_thing" (spRawThing K)) : FnOk P w K mg base (L2.CX P w) 4 f fd ["text"] (spThingOf K A) := by
  refine F.okX sc_thing_of (fun vs H Q E h => ?_) (fun cdv Ar outer s H vs Q E hr h => ?_)
  · obtain ⟨v, d, ⟨rfl, _⟩, _⟩ := h
    rfl
  · obtain ⟨v, d, ⟨rfl, r, hz⟩, k⟩ := h
    refine ⟨_, (pss_cons (ps_set (i := 1) sc_thing_of.nd rfl (Or.inl rfl) (pe_ifExp (pt_val (pe_callB (cIs (K := K) rfl) (by rfl) T.b_isinstance bt_isinstance (pa_cons (pv 0) (pa_cons (pe_bltn (v := .ty "str") (by rfl) T.b_str bt_str rfl) pa_nil)))) (pe_cl C_raw_thing hr (by decide) (by rfl) (pa_cons (pv 0) (pa_cons pe_int pa_nil))) pe_non)) (pss_cons (ps_if (PW.pt (pw_or (pt_cmpR op_isN (pv 1) pe_non (nomark _)) (pw_or1 (pt_cmpR op_ne (pe_ix (ixG (K := K) rfl) (pv 1) pe_int (fun _ _ => rfl)) (pe_callB (cLen (K := K) rfl) (by rfl) T.b_len bt_len (pa_cons (pv 0) pa_nil)) (nomark _))))) (pss_one (ps_raise rfl (takes_of rfl rfl rfl rfl) (pmk0 T.e_NoText (by rfl)))) pss_nil) (pss_one (ps_ret (pe_ix (ixG (K := K) rfl) (pv 1) pe_int (fun _ _ => rfl)))))), ?_⟩
    walk_at "nm"
    have r0 := r
    cases r with
    | str t ht =>
      have hz1 := hz t rfl
      have hz2 : t.length ≤ sizeLine := by show _ ≤ 16777216; omega
      have h0 : 0 ≤ t.length := Nat.zero_le _
      walk_at "rd"
      show ResT K t (readF (t.cps.toList.drop 0)) H _
      rw [List.drop_zero]
      cases hrf : readF t.cps.toList with
      | none =>
        have hth : thingOf (.str t) = none := by show thingL t.cps.toList = _; unfold thingL; rw [hrf]
        rw [hth] at k
        intro H1 e1
        walk_at "rd"
        exact k _ e1
      | some x =>
        obtain ⟨e, l⟩ := x
        intro a x at2 H1 hl hat ha hx e1
        have q0 : atI [x, .int ((at2 : Nat) : Int)] 0 = some x := rfl
        have q1 : atI [x, .int ((at2 : Nat) : Int)] 1 = some (.int ((at2 : Nat) : Int)) := rfl
        walk_at "rd"
        by_cases c : at2 = t.length
        · have hth : thingOf (.str t) = some e := by
            show thingL t.cps.toList = _
            unfold thingL
            rw [hrf, hl, c, lenT t, List.drop_length]
          rw [hth] at k
          rw [c]
          rw [decide_eq_true rfl]
          walk_at "rd"
          exact k x H1 hx e1
        · have hne : l ≠ [] := fun z => by
            rw [z] at hl
            have := drop_nil hl.symm
            omega
          have hth : thingOf (.str t) = none := by
            show thingL t.cps.toList = _
            unfold thingL
            rw [hrf]
            cases l with
            | nil => exact absurd rfl hne
            | cons c l => rfl
          rw [hth] at k
          rw [decide_eq_false (fun z => by rw [V.int.injEq] at z; omega)]
          walk_at "rd"
          exact k _ e1
    | _ => 
      walk_at "rd"
      exact k _ (Ex.refl _ _)
end
open PySem L2 LamX


/-! ### the flow that is drawn from -/
/-- a flow lies at p: its cells at c -/
def FlowAt (H : Hp) (p c : Addr) : Prop := ∃ (cells : List Int) (i s r : Int), H p = some (.lst [.ref c, .int i, .int s, .int r]) ∧ H c = some (.lst (cells.map V.int)) ∧ c ≠ p ∧ 0 ≤ i ∧ 0 ≤ r ∧ cells.length ≤ 63
theorem FlowAt.new {H : Hp} {p c q : Addr} {o : HO} (h : H q = none) (t : FlowAt H p c) : FlowAt (upd H q o) p c := by
  obtain ⟨cells, i, r, s, h1, h2, h3⟩ := t
  exact ⟨cells, i, r, s, upd_new h h1, upd_new h h2, h3⟩
theorem FlowAt.oth' {H : Hp} {p c q : Addr} {o : HO} (t : FlowAt H p c) (h : q ≠ p) (h' : q ≠ c) : FlowAt (upd H q o) p c := by
  obtain ⟨cells, i, r, s, h1, h2, h3⟩ := t
  exact ⟨cells, i, r, s, upd_oth h.symm h1, upd_oth h'.symm h2, h3⟩
theorem FlowAt.ex {M : List Addr} {H H' : Hp} {p c : Addr} (e : Ex M H H') (hp : Nin p M) (hc : Nin c M) (t : FlowAt H p c) : FlowAt H' p c := by
  obtain ⟨cells, i, r, s, h1, h2, h3⟩ := t
  exact ⟨cells, i, r, s, e.get h1 hp, e.get h2 hc, h3⟩
theorem FlowAt.ex0 {H H' : Hp} {p c : Addr} (e : Ex [] H H') (t : FlowAt H p c) : FlowAt H' p c := t.ex e trivial trivial
theorem FlowAt.ne {H : Hp} {p c q : Addr} (t : FlowAt H p c) (h : H q = none) : q ≠ p := by
  obtain ⟨_, _, _, _, h1, _⟩ := t
  exact (ne_of_none h1 h).symm
theorem FlowAt.nec {H : Hp} {p c q : Addr} (t : FlowAt H p c) (h : H q = none) : q ≠ c := by
  obtain ⟨_, _, _, _, _, h1, _⟩ := t
  exact (ne_of_none h1 h).symm
theorem FlowAt.ne' {H : Hp} {p c q : Addr} (h : H q = none) (t : FlowAt H p c) : q ≠ p := t.ne h
theorem FlowAt.nec' {H : Hp} {p c q : Addr} (h : H q = none) (t : FlowAt H p c) : q ≠ c := t.nec h
/-- an object that is none of the flow's lists -/
theorem FlowAt.neO {H : Hp} {p c q : Addr} {o : HO} (t : FlowAt H p c) (h : H q = some o) (n : ∀ xs, o ≠ .lst xs) : q ≠ p ∧ q ≠ c := by
  obtain ⟨_, _, _, _, h1, h2, _⟩ := t
  constructor
  · intro z
    rw [z, h1] at h
    cases h
    exact n _ rfl
  · intro z
    rw [z, h2] at h
    cases h
    exact n _ rfl
local macro_rules | `(tactic| walk_at "pot") => `(tactic| with_reducible first
  | assumption
  | (apply FlowAt.new; (focus with_reducible assumption); walk_at "pot")
  | (apply FlowAt.ex0; (focus with_reducible assumption); walk_at "pot")
  | (apply FlowAt.oth'; (focus walk_at "pot"); (focus walk_at "fact2"); walk_at "fact2"))
local macro_rules | `(tactic| walk_at "ne2") => `(tactic| first
  | (with_reducible apply FlowAt.ne'; (focus with_reducible assumption); walk_at "pot")
  | (with_reducible apply FlowAt.nec'; (focus with_reducible assumption); walk_at "pot"))
local macro_rules | `(tactic| walk_at "fact2") => `(tactic| first
  | walk_at "pot"
  | (with_reducible apply FlowAt.ne'; (focus with_reducible assumption); walk_at "pot")
  | (with_reducible apply FlowAt.nec'; (focus with_reducible assumption); walk_at "pot"))
def spFlow (K : PySem.W.Frag) : Sp := fun vs H Q _ => ∃ (a : Addr) (ns : List Int), (vs = [.ref a] ∧ SqL K H a (ns.map V.int) ∧ ns.length ≤ 63) ∧ ∀ p c H', FlowAt H' p c → Ex [] H H' → H p = none → H c = none → Q (.ref p) H'
def spFDraw : Sp := fun vs H Q _ => ∃ p c many, (vs = [.ref p, .int many] ∧ FlowAt H p c ∧ 0 < many ∧ many < 1000000) ∧ ∀ r H', 0 ≤ r → r < many → FlowAt H' p c → Ex [p] H H' → Q (.int r) H'
def spFSome : Sp := fun vs H Q _ => ∃ (p c a : Addr) (xs : List V), (vs = [.ref p, .ref a] ∧ FlowAt H p c ∧ H a = some (.lst xs) ∧ a ≠ p ∧ 0 < xs.length ∧ xs.length < 1000000) ∧ ∀ x H', x ∈ xs → FlowAt H' p c → Ex [p] H H' → Q x H'
-- @SP _law_flow (spFlow K)
-- @SP _law_draw spFDraw
-- @SP _law_some spFSome
section
variable {P : Program} {w : World} {K : PySem.W.Frag} {mg : Str → Option Value} {base : Heap} {A : Ad}
theorem ok_law_flow {f : Addr} {fd : FuncData} (F : Fun K "_law_flow" "_law_flow" s_law_flow f fd) (T : Txt K mg A)  : FnOk P w K mg base CX0 1 f fd ["script"] (spFlow K) := by
  refine F.ok sc_law_flow (fun vs H Q E h => ?_) (fun cdv Ar outer s H vs Q E hr h => ?_)
  · obtain ⟨a, ns, ⟨rfl, _⟩, _⟩ := h
    rfl
  · obtain ⟨a, ns, ⟨rfl, ha, hn⟩, k⟩ := h
    refine ⟨_, (pss_one (ps_ret (peLst (pa_cons (pe_callTy (cList (K := K) rfl) (by rfl) T.b_list bt_list (pa_cons (pv 0) pa_nil)) (pa_cons pe_int (pa_cons pe_int (pa_cons pe_int pa_nil))))))), ?_⟩
    walk_at "nm"
    walk_at "rdi"
    rename_i c H1 n1 h1 e1 p H2 n2 h2 e2
    exact k p c H2 ⟨ns, 0, 17, 0, h2, e2.get0 h1, ne_of_none h1 n2, by decide, by decide, hn⟩ (by walk_at "ex") (e1.none n2) n1
theorem ok_law_draw {f : Addr} {fd : FuncData} (F : Fun K "_law_draw" "_law_draw" s_law_draw f fd) (T : Txt K mg A)  : FnOk P w K mg base CX0 1 f fd ["flow", "many"] spFDraw := by
  refine F.ok sc_law_draw (fun vs H Q E h => ?_) (fun cdv Ar outer s H vs Q E hr h => ?_)
  · obtain ⟨p, c, many, ⟨rfl, _⟩, _⟩ := h
    rfl
  · obtain ⟨p, c, many, ⟨rfl, ⟨cells, i, sd, r, hp, hc, ncp, hi0, hr0, hcl⟩, hm0, hm1⟩, k⟩ := h
    refine ⟨_, (pss_cons (ps_if (pt_cmpR oGt (pe_ix (ixG (K := K) rfl) (pv 0) pe_int (fun _ _ => rfl)) pe_int (nomark _)) (pss_cons (ps_asg (peTup (pa_cons (pe_op oFdv (pe_ix (ixG (K := K) rfl) (pv 0) pe_int (fun _ _ => rfl)) (pv 1)) (pa_cons (pe_ix (ixG (K := K) rfl) (pv 0) pe_int (fun _ _ => rfl)) pa_nil))) (pg_tup (by rfl) (pgs_cons (pg_sub (pv 0) pe_int setL) (pgs_cons (pg_name (i := 2) sc_law_draw.nd rfl (Or.inl rfl)) pgs_nil)))) (pss_one (ps_ret (pe_op oMod (pe_callTy call_int1 (by rfl) T.b_int bt_int (pa_cons (pv 2) pa_nil)) (pv 1))))) pss_nil) (pss_cons (ps_set (i := 3) sc_law_draw.nd rfl (Or.inl rfl) (pe_op oMod (pe_ix (ixG (K := K) rfl) (pv 0) pe_int (fun _ _ => rfl)) pe_int)) (C8.pss_cut (ps_if (pt_cmpR oLt (pe_ix (ixG (K := K) rfl) (pv 0) pe_int (fun _ _ => rfl)) (pe_callB (cLen (K := K) rfl) (by rfl) T.b_len bt_len (pa_cons (pe_ix (ixG (K := K) rfl) (pv 0) pe_int (fun _ _ => rfl)) pa_nil)) (nomark _)) (pss_one (ps_set (i := 3) sc_law_draw.nd rfl (Or.inl rfl) (pe_ix (ixG (K := K) rfl) (pe_ix (ixG (K := K) rfl) (pv 0) pe_int (fun _ _ => rfl)) (pe_ix (ixG (K := K) rfl) (pv 0) pe_int (fun _ _ => rfl)) (fun _ _ => rfl)))) pss_nil) (pss_cons (ps_augS (pv 0) pe_int (getL (K := K) rfl) pe_int pAdd setL) (pss_cons (ps_if (pt_cmpR oGe (pv 3) (pe_op oPow pe_int pe_int) (nomark _)) (pss_cons (ps_asg (pe_op oFdv (pv 3) (pv 1)) (pg_sub (pv 0) pe_int setL)) (pss_one (ps_ret (pe_op oMod (pe_callTy call_int1 (by rfl) T.b_int bt_int (pa_cons (pv 3) pa_nil)) (pv 1))))) pss_nil) (pss_cons (ps_asg (pe_op oMod (pe_callTy call_int1 (by rfl) T.b_int bt_int (pa_cons (pe_op (oAdd (K := K) rfl) (pe_op (oAdd (K := K) rfl) (pe_op (oMul (K := K) rfl) (pe_ix (ixG (K := K) rfl) (pv 0) pe_int (fun _ _ => rfl)) pe_int) (pe_op oMod (pe_callTy call_int1 (by rfl) T.b_int bt_int (pa_cons (pv 3) pa_nil)) pe_int)) (pe_ix (ixG (K := K) rfl) (pv 0) pe_int (fun _ _ => rfl))) pa_nil)) pe_int) (pg_sub (pv 0) pe_int setL)) (pss_one (ps_ret (pe_op oMod (pe_callTy call_int1 (by rfl) T.b_int bt_int (pa_cons (pe_op oFdv (pe_ix (ixG (K := K) rfl) (pv 0) pe_int (fun _ _ => rfl)) pe_int) pa_nil)) (pv 1)))))))))), ?_⟩
    walk_at "nm"
    walk_at "rd"
    refine @ite2 _ _ _ _ (fun c1 => ?_) (fun c1 => ?_)
    · replace c1 : 0 < r := of_decide_eq_true c1
      walk_at "rdi"
      exact k _ _ (Int.emod_nonneg _ (by omega)) (Int.emod_lt_of_pos _ hm0) ⟨cells, _, _, _, by assumption, by walk_at "hp", ncp, by omega, Int.ediv_nonneg hr0 (by omega), hcl⟩ (by walk_at "ex")
    · walk_at "rd"
      refine ⟨fun σ H' => ∃ cell, σ = [some (.ref p), some (.int many), none, some (.int cell)] ∧ H' = H, ?_, ?_⟩
      · walk_at "rd"
        refine @ite2 _ _ _ _ (fun c2 => ?_) (fun c2 => ?_)
        · replace c2 : i < ((cells.map V.int).length : Nat) := of_decide_eq_true c2
          rw [List.length_map] at c2
          obtain ⟨j, rfl⟩ : ∃ j : Nat, i = (j : Int) := ⟨i.toNat, by omega⟩
          have hj : j < cells.length := by omega
          have hat : atI (cells.map V.int) (j : Int) = some (.int cells[j]) := atI_nat (by rw [List.getElem?_map, List.getElem?_eq_getElem hj]; rfl)
          generalize cells[j] = cell at hat
          walk_at "rd"
          rfl
        · walk_at "rd"
          rfl
      · rintro σ H1 ⟨cell, rfl, rfl⟩
        walk_at "rd"
        intro H2 h2 e2
        walk_at "rd"
        refine @ite2 _ _ _ _ (fun c3 => ?_) (fun c3 => ?_)
        · replace c3 : (10 : Int) ^ 18 ≤ cell := of_decide_eq_true c3
          walk_at "rdi"
          exact k _ _ (Int.emod_nonneg _ (by omega)) (Int.emod_lt_of_pos _ hm0) ⟨cells, _, _, _, by assumption, by walk_at "hp", ncp, by omega, Int.ediv_nonneg (by omega) (by omega), hcl⟩ (by walk_at "ex")
        · walk_at "rdi"
          exact k _ _ (Int.emod_nonneg _ (by omega)) (Int.emod_lt_of_pos _ hm0) ⟨cells, _, _, _, by assumption, by walk_at "hp", ncp, by omega, hr0, hcl⟩ (by walk_at "ex")
theorem ok_law_some {f : Addr} {fd : FuncData} (F : Fun K "_law_some" "_law_some" s_law_some f fd) (T : Txt K mg A) (C_law_draw : Cl P w K mg base 1 "_law_draw" spFDraw) : FnOk P w K mg base CX0 2 f fd ["flow", "things"] spFSome := by
  refine F.ok sc_law_some (fun vs H Q E h => ?_) (fun cdv Ar outer s H vs Q E hr h => ?_)
  · obtain ⟨p, c, a, xs, ⟨rfl, _⟩, _⟩ := h
    rfl
  · obtain ⟨p, c, a, xs, ⟨rfl, hp, ha, nap, h0, h1⟩, k⟩ := h
    refine ⟨_, (pss_one (ps_ret (pe_ix (ixG (K := K) rfl) (pv 1) (pe_cl C_law_draw hr (by decide) (by rfl) (pa_cons (pv 0) (pa_cons (pe_callB (cLen (K := K) rfl) (by rfl) T.b_len bt_len (pa_cons (pv 1) pa_nil)) pa_nil))) (fun _ _ => rfl)))), ?_⟩
    walk_at "nm"
    walk_at "rd"
    intro r H1 hr0 hr1 hp1 e1
    obtain ⟨j, rfl⟩ : ∃ j : Nat, r = (j : Int) := ⟨r.toNat, by omega⟩
    have hj : j < xs.length := by omega
    have hat : atI xs (j : Int) = some xs[j] := atI_nat (List.getElem?_eq_getElem hj)
    walk_at "rd"
    exact k _ _ (List.getElem_mem hj) hp1 e1
end
/-! ### what repr shows of a thing -/
def repE (q : Nat) (l : List Nat) : List Nat := l.flatMap fun c => if c = q ∨ c = 92 then [92, c] else [c]
def quoteL (l : List Nat) : Nat := if l.contains 39 && !l.contains 34 then 34 else 39
mutual
def shL : Dt → List Nat
  | .non => [78, 111, 110, 101]
  | .int i => intL i
  | .str s => quoteL s.cps.toList :: (repE (quoteL s.cps.toList) s.cps.toList ++ [quoteL s.cps.toList])
  | .tup l => 40 :: (shs l ++ (if l.length = 1 then [44, 41] else [41]))
  | .bl _ => []
  | .oth => []
def shs : List Dt → List Nat
  | [] => []
  | d :: l => shL d ++ shr l
def shr : List Dt → List Nat
  | [] => []
  | d :: l => 44 :: 32 :: (shL d ++ shr l)
end
mutual
def toPy : Dt → PyData
  | .non => .none
  | .int i => .int i
  | .str s => .str s
  | .tup l => .tuple (toPys l)
  | .bl b => .bool b
  | .oth => .none
def toPys : List Dt → List PyData
  | [] => []
  | d :: l => toPy d :: toPys l
end
mutual
/-- built of none, integers, texts, tuples -/
def plainD : Dt → Bool
  | .non => true
  | .int i => plainT (.int i)
  | .str s => plainT (.str s)
  | .tup l => plainDs l
  | .bl _ => false
  | .oth => false
def plainDs : List Dt → Bool
  | [] => true
  | d :: l => plainD d && plainDs l
end
def kindC (c : Nat) : Nat := if c = 78 then 0 else if c = 45 ∨ (48 ≤ c ∧ c ≤ 57) then 1 else if c = 34 ∨ c = 39 then 2 else if c = 40 then 3 else 4
def kindD : Dt → Nat
  | .non => 0
  | .int _ => 1
  | .str _ => 2
  | .tup _ => 3
  | _ => 5
theorem quote_or (l : List Nat) : quoteL l = 34 ∨ quoteL l = 39 := by
  unfold quoteL
  split <;> simp
theorem head_sh : ∀ d : Dt, plainD d = true → ∃ c r, shL d = c :: r ∧ kindC c = kindD d
  | .non, _ => ⟨78, _, by rw [shL], rfl⟩
  | .int i, _ => by
    rw [shL]
    unfold intL
    split
    · exact ⟨45, _, rfl, rfl⟩
    · cases hn : TL.numL i.natAbs with
      | nil => exact absurd hn (TL.numL_ne _)
      | cons c cs =>
        have hc := TL.numL_digits i.natAbs c (by rw [hn]; exact List.mem_cons_self)
        refine ⟨c, cs, rfl, ?_⟩
        unfold kindC
        rw [if_neg (by omega), if_pos (.inr ⟨hc.1, hc.2⟩)]
        rfl
  | .str s, _ => by
    refine ⟨_, _, by rw [shL], ?_⟩
    rcases quote_or s.cps.toList with h | h <;> rw [h] <;> rfl
  | .tup l, _ => ⟨40, _, by rw [shL], rfl⟩
  | .bl b, h => by rw [plainD] at h; cases h
  | .oth, h => by rw [plainD] at h; cases h
def Sep (r : List Nat) : Prop := ∀ c, r.head? = some c → c = 44 ∨ c = 41
theorem Sep.dig {r : List Nat} (h : Sep r) : ∀ c, r.head? = some c → isDig c = false := fun c hc => by
  rcases h c hc with e | e <;> subst e <;> decide
theorem repE_inj (q : Nat) (hq : q ≠ 92) : ∀ (s s' r r' : List Nat), repE q s ++ q :: r = repE q s' ++ q :: r' → s = s' ∧ r = r'
  | [], [], r, r', h => ⟨rfl, by simpa [repE] using h⟩
  | [], c :: s', r, r', h => by
    exfalso
    unfold repE at h
    rw [List.flatMap_cons] at h
    split at h
    · simp at h
      exact hq h.1
    · rename_i hc
      simp at h
      exact hc (.inl h.1.symm)
  | c :: s, [], r, r', h => by
    exfalso
    unfold repE at h
    rw [List.flatMap_cons] at h
    split at h
    · simp at h
      exact hq h.1.symm
    · rename_i hc
      simp at h
      exact hc (.inl h.1)
  | c :: s, c' :: s', r, r', h => by
    have h0 := h
    unfold repE at h
    rw [List.flatMap_cons, List.flatMap_cons] at h
    have fin : ∀ x y : List Nat, c = c' → repE q s ++ q :: r = repE q s' ++ q :: r' → c :: s = c' :: s' ∧ r = r' := fun _ _ e z => by
      obtain ⟨a, b⟩ := repE_inj q hq s s' r r' z
      exact ⟨by rw [e, a], b⟩
    split at h <;> split at h
    · simp only [List.cons_append, List.nil_append, List.cons.injEq, true_and] at h
      exact fin [] [] h.1 h.2
    · rename_i h1 h2
      simp only [List.cons_append, List.nil_append, List.cons.injEq] at h
      exact absurd (.inr h.1.symm) h2
    · rename_i h1 h2
      simp only [List.cons_append, List.nil_append, List.cons.injEq] at h
      exact absurd (.inr h.1) h1
    · simp only [List.cons_append, List.nil_append, List.cons.injEq] at h
      exact fin [] [] h.1 h.2
theorem sep_tail (l : List Dt) (r : List Nat) : Sep (shr l ++ 41 :: r) := fun c hc => by
  cases l with
  | nil =>
    rw [shr] at hc
    simp at hc
    exact .inr hc.symm
  | cons d l =>
    rw [shr] at hc
    simp at hc
    exact .inl hc.symm
mutual
theorem sh_inj : ∀ (d d' : Dt) (r r' : List Nat), plainD d = true → plainD d' = true → Sep r → Sep r' → shL d ++ r = shL d' ++ r' → d = d' ∧ r = r'
  | d, d', r, r', h, h', s, s', e => by
    obtain ⟨c, x, e1, k1⟩ := head_sh d h
    obtain ⟨c', x', e2, k2⟩ := head_sh d' h'
    have hk : kindD d = kindD d' := by
      have e' := e
      rw [e1, e2] at e'
      simp only [List.cons_append, List.cons.injEq] at e'
      rw [← k1, ← k2, e'.1]
    match d, d', hk with
    | .non, .non, _ =>
      rw [shL] at e
      exact ⟨rfl, by simpa using e⟩
    | .int i, .int j, _ =>
      rw [shL, shL] at e
      obtain ⟨a1, a2⟩ := valOf_int i r s.dig
      obtain ⟨b1, b2⟩ := valOf_int j r' s'.dig
      rw [e, b1] at a1
      have : i = j := by rw [← a2, ← b2, a1]
      subst this
      exact ⟨rfl, List.append_cancel_left e⟩
    | .str z, .str z', _ =>
      rw [shL, shL] at e
      simp only [List.cons_append, List.append_assoc, List.nil_append, List.cons.injEq] at e
      obtain ⟨hq, e⟩ := e
      rw [← hq] at e
      have hq92 : quoteL z.cps.toList ≠ 92 := by rcases quote_or z.cps.toList with q | q <;> rw [q] <;> decide
      obtain ⟨a, b⟩ := repE_inj _ hq92 _ _ _ _ e
      refine ⟨?_, b⟩
      obtain ⟨⟨z⟩⟩ := z
      obtain ⟨⟨z'⟩⟩ := z'
      have a' : z = z' := a
      rw [a']
    | .tup l, .tup l', _ =>
      rw [shL, shL] at e
      rw [plainD] at h h'
      simp only [List.cons_append, List.append_assoc, List.cons.injEq, true_and] at e
      match l, l' with
      | [], [] =>
        rw [shs] at e
        exact ⟨rfl, by simpa using e⟩
      | [], y :: l' =>
        exfalso
        rw [plainDs, Bool.and_eq_true] at h'
        obtain ⟨c, x, e1, k1⟩ := head_sh y h'.1
        rw [shs, shs, e1] at e
        simp at e
        rw [← e.1] at k1
        cases y <;> simp [kindC, kindD] at k1
      | y :: l, [] =>
        exfalso
        rw [plainDs, Bool.and_eq_true] at h
        obtain ⟨c, x, e1, k1⟩ := head_sh y h.1
        rw [shs, shs, e1] at e
        simp at e
        rw [e.1] at k1
        cases y <;> simp [kindC, kindD] at k1
      | y :: l, y' :: l' =>
        rw [plainDs, Bool.and_eq_true] at h h'
        rw [shs, shs, List.append_assoc, List.append_assoc] at e
        have sp : ∀ (m : List Dt) (r : List Nat), Sep (shr m ++ ((if (y :: m).length = 1 then [44, 41] else [41]) ++ r)) := fun m r c hc => by
          cases m with
          | nil =>
            rw [shr] at hc
            simp at hc
            exact .inl hc.symm
          | cons a b =>
            rw [shr] at hc
            simp at hc
            exact .inl hc.symm
        obtain ⟨a1, a2⟩ := sh_inj y y' _ _ h.1 h'.1 (sp l r) (sp l' r') e
        subst a1
        match l, l' with
        | [], [] =>
          rw [shr] at a2
          exact ⟨rfl, by simpa using a2⟩
        | [], z :: l' =>
          rw [shr, shr] at a2
          simp at a2
        | z :: l, [] =>
          rw [shr, shr] at a2
          simp at a2
        | z :: l, z' :: l' =>
          rw [if_neg (by simp), if_neg (by simp)] at a2
          obtain ⟨b1, b2⟩ := shr_inj (z :: l) (z' :: l') r r' h.2 h'.2 a2
          exact ⟨by rw [b1], b2⟩
theorem shr_inj : ∀ (l l' : List Dt) (r r' : List Nat), plainDs l = true → plainDs l' = true → shr l ++ ([41] ++ r) = shr l' ++ ([41] ++ r') → l = l' ∧ r = r'
  | [], [], r, r', _, _, e => by
    rw [shr] at e
    exact ⟨rfl, by simpa using e⟩
  | [], _ :: _, r, r', _, _, e => by
    rw [shr, shr] at e
    simp at e
  | _ :: _, [], r, r', _, _, e => by
    rw [shr, shr] at e
    simp at e
  | y :: l, y' :: l', r, r', h, h', e => by
    rw [plainDs, Bool.and_eq_true] at h h'
    rw [shr, shr] at e
    simp only [List.cons_append, List.append_assoc, List.cons.injEq, true_and] at e
    obtain ⟨a1, a2⟩ := sh_inj y y' _ _ h.1 h'.1 (sep_tail l r) (sep_tail l' r') e
    obtain ⟨b1, b2⟩ := shr_inj l l' r r' h.2 h'.2 a2
    exact ⟨by rw [a1, b1], b2⟩
end
theorem shL_inj {d d' : Dt} (h : plainD d = true) (h' : plainD d' = true) (e : shL d = shL d') : d = d' :=
  (sh_inj d d' [] [] h h' (fun _ z => nomatch z) (fun _ z => nomatch z) (by rw [e])).1
open PySem L2 LamX



def prevSp (sp : Nat → Sp) : Nat → Sp
  | 0 => fun _ _ _ _ => False
  | n + 1 => sp n
theorem rec_ok {P : Program} {w : World} {K : PySem.W.Frag} {mg : Str → Option Value} {base : Heap} {f : Addr} {fd : FuncData} {ps : List Str} {x : Str} {M : Nat} {sp : Nat → Sp}
    (step : ∀ n, Cl P w K mg base (n + M) x (prevSp sp n) → FnOk P w K mg base CX0 (n + M + 1) f fd ps (sp n)) (m : mg x = some (.ref f)) (kp : PySem.W.keepIn K (.ref f) = true) (b : Binds K fd ps []) :
    ∀ n, FnOk P w K mg base CX0 (n + M + 1) f fd ps (sp n)
  | 0 => step 0 ⟨f, fd, ps, ⟨fun _ _ _ _ h => h.elim, fun _ _ _ _ _ _ _ _ _ _ _ _ _ h => h.elim⟩, m, kp, b⟩
  | n + 1 => step (n + 1) ⟨f, fd, ps, by
      have h := rec_ok step m kp b n
      rw [show n + 1 + M = n + M + 1 by omega]
      exact h, m, kp, b⟩

/-! ### what the law draws, and what it writes itself -/
def bnd : Nat → Nat
  | 0 => 60
  | n + 1 => 9 + 3 * bnd n
/-- a thing no deeper than n -/
structure Good (n : Nat) (d : Dt) : Prop where
  ok : ∀ k, k + n ≤ 60 → okAt k d = true
  sz : dsz d ≤ bnd n
  pl : plainD d = true
theorem bnd_le (n : Nat) : 60 ≤ bnd n := by
  induction n with
  | zero => exact Nat.le_refl _
  | succ n ih => show 60 ≤ 9 + 3 * bnd n; omega
theorem good_non (n : Nat) : Good n .non := ⟨fun k h => by rw [okAt_plain (d := .non) (by omega) (fun _ z => nomatch z)]; rfl, by have := bnd_le n; show 4 ≤ _; omega, by rw [plainD]⟩
theorem good_int {n : Nat} {i : Int} (h : plainT (.int i) = true) (h2 : (intL i).length ≤ 60) : Good n (.int i) := ⟨fun k hk => by rw [okAt_plain (d := .int i) (by omega) (fun _ z => nomatch z)]; exact h, by have := bnd_le n; rw [dsz]; omega, by rw [plainD]; exact h⟩
theorem intL_len {i : Int} (h : plainT (.int i) = true) : (intL i).length ≤ 60 := by
  have h' : (decide (-(10 ^ 40) < i) && decide (i < 10 ^ 40)) = true := h
  rw [Bool.and_eq_true] at h'
  have h1 := of_decide_eq_true h'.1
  have h2 := of_decide_eq_true h'.2
  have hl : (TL.numL i.natAbs).length ≤ 40 := TL.numL_len (by decide) (by omega)
  unfold intL
  split
  · rw [List.length_cons]; omega
  · omega
theorem good_str {n : Nat} {s : Str} (h : plainT (.str s) = true) (h2 : s.length ≤ 7) : Good n (.str s) := ⟨fun k hk => by rw [okAt_plain (d := .str s) (by omega) (fun _ z => nomatch z)]; exact h, by have := bnd_le n; rw [dsz]; omega, by rw [plainD]; exact h⟩
theorem plainDs_of : ∀ {l : List Dt}, (∀ d ∈ l, plainD d = true) → plainDs l = true
  | [], _ => by rw [plainDs]
  | d :: l, h => by rw [plainDs, h d List.mem_cons_self, plainDs_of fun e he => h e (List.mem_cons_of_mem _ he)]; rfl
theorem dszs_le {b : Nat} : ∀ {l : List Dt}, (∀ d ∈ l, dsz d ≤ b) → dszs l ≤ l.length * (2 + b)
  | [], _ => by rw [dszs]; exact Nat.zero_le _
  | d :: l, h => by
    have h1 := h d List.mem_cons_self
    have h2 := dszs_le (b := b) (l := l) fun e he => h e (List.mem_cons_of_mem _ he)
    rw [dszs, List.length_cons, Nat.succ_mul]
    omega
theorem good_tup {n : Nat} {l : List Dt} (h : ∀ d ∈ l, Good n d) (hl : l.length ≤ 3) : Good (n + 1) (.tup l) := ⟨fun k hk => by
    rw [okAt_tup (by omega), List.all_eq_true]
    exact fun d hd => (h d hd).ok (k + 1) (by omega), by
    have h1 := dszs_le (b := bnd n) (l := l) fun d hd => (h d hd).sz
    have h2 : l.length * (2 + bnd n) ≤ 3 * (2 + bnd n) := Nat.mul_le_mul_right _ hl
    rw [dsz]
    show _ ≤ 9 + 3 * bnd n
    omega, by rw [plainD]; exact plainDs_of fun d hd => (h d hd).pl⟩
theorem signs_of {P : Nat → Prop} : ∀ {acc : List V}, (∀ (j : Nat) (y : V), acc[j]? = some y → ∃ ch, y = .str ⟨#[ch]⟩ ∧ P ch) → ∃ cs : List Nat, acc = (cs.map fun ch => (⟨#[ch]⟩ : Str)).map V.str ∧ cs.length = acc.length ∧ ∀ c ∈ cs, P c
  | [], _ => ⟨[], rfl, rfl, fun _ h => nomatch h⟩
  | y :: r, h => by
    obtain ⟨ch, rfl, hc⟩ := h 0 y (by simp)
    obtain ⟨cs, e, hl, ho⟩ := signs_of (acc := r) fun j y hj => h (j + 1) y (by simpa using hj)
    exact ⟨ch :: cs, by rw [e]; rfl, by simp [hl], fun c hm => (List.mem_cons.mp hm).elim (fun z => z ▸ hc) (ho c)⟩
theorem signs_sum2 : ∀ cs : List Nat, ((cs.map fun ch => (⟨#[ch]⟩ : Str)).map (·.length)).sum = cs.length
  | [] => rfl
  | c :: cs => by
    have h := signs_sum2 cs
    simp only [List.map_cons, List.sum_cons, List.length_cons, h]
    show 1 + cs.length = _
    omega
theorem join_signs2 (cs : List Nat) : (Txt.join "" (cs.map fun ch => (⟨#[ch]⟩ : Str))).cps.toList = cs := by
  rw [join_nil, List.map_map]
  induction cs with
  | nil => rfl
  | cons c cs ih =>
    rw [List.map_cons, List.flatten_cons, ih]
    rfl
/-- things that are shown in a row -/
theorem goods_of {K : PySem.W.Frag} {H : Hp} {n : Nat} : ∀ {acc : List V}, (∀ (j : Nat) (y : V), acc[j]? = some y → ∃ d, Rep K H y d ∧ Good n d) → ∃ l : List Dt, RepL K H acc l ∧ l.length = acc.length ∧ ∀ d ∈ l, Good n d
  | [], _ => ⟨[], .nil, rfl, fun _ h => nomatch h⟩
  | y :: r, h => by
    obtain ⟨d, hr, hg⟩ := h 0 y (by simp)
    obtain ⟨l, e, hl, ho⟩ := goods_of (acc := r) fun j y hj => h (j + 1) y (by simpa using hj)
    exact ⟨d :: l, .cons hr e, by simp [hl], fun c hm => (List.mem_cons.mp hm).elim (fun z => z ▸ hg) (ho c)⟩
def spWordOf : Sp := fun vs H Q _ => ∃ p c, (vs = [.ref p] ∧ FlowAt H p c) ∧ ∀ t H', t.length ≤ 7 → plainT (.str t) = true → FlowAt H' p c → Ex [p] H H' → Q (.str t) H'
def spThing (K : PySem.W.Frag) (n : Nat) : Sp := fun vs H Q _ => ∃ p c z, (vs = [.ref p, .int z] ∧ z = (n : Int) ∧ FlowAt H p c) ∧ ∀ x d H', Rep K H' x d → Good n d → FlowAt H' p c → Ex [p] H H' → Q x H'
def spFigures : Sp := fun vs H Q _ => ∃ n : Nat, (vs = [.int n] ∧ n < 10 ^ 40) ∧ ∀ z H', z.cps.toList = TL.numL n → Ex [] H H' → Q (.str z) H'
def spLText (K : PySem.W.Frag) (n : Nat) : Sp := fun vs H Q _ => ∃ v d, (vs = [v] ∧ Rep K H v d ∧ n ≤ 59 ∧ okAt (60 - n) d = true ∧ dsz d ≤ 100000) ∧ ∀ z H', z.cps.toList = tx d → Ex [] H H' → Q (.str z) H'
-- @SP _law_word_of spWordOf
-- @SP _law_thing (spThing K 5)
-- @SPR _law_thing (spThing K)
-- @SP _law_figures spFigures
-- @SP _law_text_of (spLText K 59)
-- @SPR _law_text_of (spLText K)
-- @SP _law_flow (spFlow K)
-- @SP _law_draw spFDraw
-- @SP _law_some spFSome
section
variable {P : Program} {w : World} {K : PySem.W.Frag} {mg : Str → Option Value} {base : Heap} {A : Ad}
theorem ok_law_word_of {f : Addr} {fd : FuncData} (F : Fun K "_law_word_of" "_law_word_of" s_law_word_of f fd) (T : Txt K mg A) (C_law_draw : Cl P w K mg base 1 "_law_draw" spFDraw) : FnOk P w K mg base CX0 2 f fd ["flow"] spWordOf := by
  refine F.ok sc_law_word_of (fun vs H Q E h => ?_) (fun cdv Ar outer s H vs Q E hr h => ?_)
  · obtain ⟨p, c, ⟨rfl, _⟩, _⟩ := h
    rfl
  · obtain ⟨p, c, ⟨rfl, hp⟩, k⟩ := h
    refine ⟨_, (pss_cons (ps_set (i := 1) sc_law_word_of.nd rfl (Or.inr rfl) pe_str) (pss_one (ps_ret (pe_join pe_str (pe_lc (own := [("sign", 2)]) (g := gName 2) (tt := tYes) rfl sc_law_word_of.nd (pi_range1 (by rfl) T.b_range (pa_cons (pe_cl C_law_draw hr (by decide) (by rfl) (pa_cons (pv 0) (pa_cons pe_int pa_nil))) pa_nil)) (blkOk_by (N := n_law_word_of) (sc := defScope s_law_word_of) (by decide +kernel)) (fun _ _ _ _ _ => (pg_name (i := 2) sc_law_word_of.nd rfl (Or.inl rfl))) (fun _ _ _ _ _ => pts_nil) (fun _ _ _ _ _ => (pe_ix (ixG (K := K) rfl) (pv 1) (pe_cl C_law_draw hr (by decide) (by rfl) (pa_cons (pv 0) (pa_cons (pe_callB (cLen (K := K) rfl) (by rfl) T.b_len bt_len (pa_cons (pv 1) pa_nil)) pa_nil))) (fun _ _ => rfl)))))))), ?_⟩
    walk_at "nm"
    walk_at "rd"
    generalize hS : ("abz09 AZ~!()\"\\'.," : Str) = S
    have hs : S.length = 17 := by rw [← hS]; decide +kernel
    have hok : ∀ c ∈ S.cps.toList, signOk c = true := by rw [← hS]; decide +kernel
    walk_at "rd"
    intro r H1 hr0 hr1 hp1 e1
    obtain ⟨n, rfl⟩ : ∃ n : Nat, r = (n : Int) := ⟨r.toNat, by omega⟩
    walk_at "rd"
    intro D hD
    refine lc_it (walk_range (lo := 0) (n := ((n : Nat) : Int).toNat)) (LcP D [p] (fun H => FlowAt H p c) (fun _ y _ => ∃ ch, y = .str ⟨#[ch]⟩ ∧ signOk ch = true) H1) (LcP.start hD hp1 fun H o h => h.oth' (hp1.ne hD) (hp1.nec hD)) (fun _ _ _ _ => trivial) ?_ ?_
    · rintro j y H3 H3' hj q ⟨rfl, rfl⟩
      have hp3 := q.p
      have z1 : (0 : Int) < (S.length : Int) := by rw [hs]; decide
      have z2 : (S.length : Int) < 1000000 := by rw [hs]; decide
      walk_at "rd"
      intro r H4 r0 r1 hp4 e4
      rw [hs] at r1
      obtain ⟨m, rfl⟩ : ∃ m : Nat, r = (m : Int) := ⟨r.toNat, by omega⟩
      have hm : m < S.cps.toList.length := by
        rw [Array.length_toList]
        have : S.cps.size = 17 := hs
        omega
      have hat : atI S.cps.toList (m : Int) = some (S.cps.toList[m]) := atI_nat (List.getElem?_eq_getElem hm)
      have hch := hok _ (List.getElem_mem hm)
      generalize (S.cps.toList[m]) = ch at hat hch
      have z3 : S.length ≤ sizeLine := by rw [hs]; decide
      walk_at "rd"
      exact q.step hD (fun _ _ _ _ _ _ h => h) (fun H o h => h.oth' (hp1.ne hD) (hp1.nec hD)) e4 ⟨hp1.ne hD, trivial⟩ hp4 ⟨ch, rfl, hch⟩ hj (by omega)
    · intro H3 q
      obtain ⟨e3, hp3, acc, h5, h6, h7⟩ := q
      obtain ⟨cs, hcs, hl, h7'⟩ := signs_of h7
      subst hcs
      refine ⟨_, _, _, rfl, rfl, .inl (SqL.of h5), ?_, ?_⟩
      · rw [signs_sum2]
        have : ("" : Str).length = 0 := by decide +kernel
        rw [this, List.length_map]
        omega
      · refine k _ H3 ?_ ?_ hp3 (by walk_at "ex")
        · rw [lenT, join_signs2]
          rw [List.length_map, List.length_map] at h6
          omega
        · show List.all _ _ = true
          rw [join_signs2, List.all_eq_true]
          exact h7'
theorem ok_law_thing {f : Addr} {fd : FuncData} (F : Fun K "_law_thing" "_law_thing" s_law_thing f fd) (T : Txt K mg A) (C_law_draw : Cl P w K mg base 1 "_law_draw" spFDraw) (C_law_some : Cl P w K mg base 2 "_law_some" spFSome) (C_law_word_of : Cl P w K mg base 2 "_law_word_of" spWordOf) (n : Nat) (C_law_thing : Cl P w K mg base (n + 2) "_law_thing" (prevSp (spThing K) n)) : FnOk P w K mg base CX0 (n + 2 + 1) f fd ["flow", "deep"] ((spThing K) n) := by
  refine F.ok sc_law_thing (fun vs H Q E h => ?_) (fun cdv Ar outer s H vs Q E hr h => ?_)
  · obtain ⟨p, c, z, ⟨rfl, _⟩, _⟩ := h
    rfl
  · obtain ⟨p, c, z, ⟨rfl, hzn, hp⟩, k⟩ := h
    refine ⟨_, (pss_cons (ps_set (i := 2) sc_law_thing.nd rfl (Or.inl rfl) (pe_cl C_law_draw hr (by omega) (by rfl) (pa_cons (pv 0) (pa_cons pe_int pa_nil)))) (pss_cons (ps_if (pt_cmpR op_eq (pv 2) pe_int (nomark _)) (pss_one (ps_ret pe_non)) pss_nil) (pss_cons (ps_if (pt_cmpR op_eq (pv 2) pe_int (nomark _)) (pss_one (ps_ret (pe_cl C_law_some hr (by omega) (by rfl) (pa_cons (pv 0) (pa_cons (peLst (pa_cons pe_int (pa_cons pe_int (pa_cons (pe_un oNeg pe_int) (pa_cons pe_int (pa_cons pe_int (pa_cons (pe_un oNeg pe_int) (pa_cons (pe_op oPow pe_int pe_int) (pa_cons (pe_op (oAdd (K := K) rfl) (pe_un oNeg (pe_op oPow pe_int pe_int)) pe_int) (pa_cons (pe_op oSub (pe_op oPow pe_int pe_int) pe_int) pa_nil)))))))))) pa_nil))))) pss_nil) (pss_cons (ps_if (PW.pt (pw_or (pt_cmpR op_eq (pv 2) pe_int (nomark _)) (pw_or1 (pt_cmpR op_eq (pv 1) pe_int (nomark _))))) (pss_one (ps_ret (pe_cl C_law_word_of hr (by omega) (by rfl) (pa_cons (pv 0) pa_nil)))) pss_nil) (pss_one (ps_ret (pe_callTy (cTuple (K := K) rfl) (by rfl) T.b_tuple bt_tuple (pa_cons (pe_lc (own := [("item", 3)]) (g := gName 3) (tt := tYes) rfl sc_law_thing.nd (pi_range1 (by rfl) T.b_range (pa_cons (pe_cl C_law_draw hr (by omega) (by rfl) (pa_cons (pv 0) (pa_cons pe_int pa_nil))) pa_nil)) (blkOk_by (N := n_law_thing) (sc := defScope s_law_thing) (by decide +kernel)) (fun _ _ _ _ _ => (pg_name (i := 3) sc_law_thing.nd rfl (Or.inl rfl))) (fun _ _ _ _ _ => pts_nil) (fun _ _ _ _ _ => (pe_cl C_law_thing hr (by omega) (by rfl) (pa_cons (pv 0) (pa_cons (pe_op oSub (pv 1) pe_int) pa_nil))))) pa_nil)))))))), ?_⟩
    walk_at "nm"
    walk_at "rd"
    intro way H1 w0 w1 hp1 e1
    walk_at "rd"
    refine @ite2 _ _ _ _ (fun c1 => ?_) (fun c1 => ?_)
    · walk_at "rd"
      exact k _ .non _ .non (good_non n) hp1 e1
    walk_at "rd"
    refine @ite2 _ _ _ _ (fun c2 => ?_) (fun c2 => ?_)
    · walk_at "rdi"
      rename_i q1 H2 n2 h2 e2 x H3 hx hp3 e3
      have hxi : x ∈ ([0, 1, -1, 7, 10, -305, 10 ^ (30 : Nat), -10 ^ (40 : Nat) + 1, 10 ^ (40 : Nat) - 1] : List Int).map V.int := hx
      obtain ⟨i, hi, rfl⟩ := List.mem_map.mp hxi
      have pi := (by decide +kernel : ∀ i ∈ ([0, 1, -1, 7, 10, -305, 10 ^ (30 : Nat), -10 ^ (40 : Nat) + 1, 10 ^ (40 : Nat) - 1] : List Int), plainT (.int i) = true) i hi
      exact k _ (.int i) _ (.int _) (good_int pi (intL_len pi)) hp3 (by walk_at "ex")
    have word : ∀ (t : Str) (H' : Hp), t.length ≤ 7 → plainT (.str t) = true → FlowAt H' p c → Ex [p] H1 H' → Q (.str t) H' := fun t H' h1 h2 h3 h4 =>
      k _ (.str t) _ (.str _ (by omega)) (good_str h2 h1) h3 (by walk_at "ex")
    walk_at "rd"
    refine @ite2 _ _ _ _ (fun c3 => ?_) (fun c3 => ?_)
    · walk_at "rd"
      exact word
    walk_at "rd"
    refine @ite2 _ _ _ _ (fun c4 => ?_) (fun c4 => ?_)
    · walk_at "rd"
      exact word
    cases n with
    | zero => exact absurd (decide_eq_true (by rw [hzn]; rfl)) c4
    | succ n =>
    have hz' : z - 1 = (n : Int) := by omega
    walk_at "rd"
    intro r H2 r0 r1 hp2 e2
    obtain ⟨m, rfl⟩ : ∃ m : Nat, r = (m : Int) := ⟨r.toNat, by omega⟩
    walk_at "rd"
    intro D hD
    refine lc_it (walk_range (lo := 0) (n := ((m : Nat) : Int).toNat)) (LcP D [p] (fun H => FlowAt H p c) (fun _ y H => ∃ d, Rep K H y d ∧ Good n d) H2) (LcP.start hD hp2 fun H o h => h.oth' (hp2.ne hD) (hp2.nec hD)) (fun _ _ _ _ => trivial) ?_ ?_
    · rintro j y H3 H3' hj q ⟨rfl, rfl⟩
      have hp3 := q.p
      walk_at "rd"
      intro x d H4 rx gx hp4 e4
      walk_at "rd"
      exact q.step hD (fun _ _ _ _ _ e ⟨d, r, g⟩ => ⟨d, e.rep r, g⟩) (fun H o h => h.oth' (hp2.ne hD) (hp2.nec hD)) e4 ⟨hp2.ne hD, trivial⟩ hp4 ⟨d, rx, gx⟩ hj (by omega)
    · intro H3 q
      obtain ⟨e3, hp3, acc, h5, h6, h7⟩ := q
      obtain ⟨l, hl, hll, hg⟩ := goods_of h7
      have hl3 : l.length ≤ 3 := by omega
      have hlz : acc.length ≤ sizeLine := by show _ ≤ 16777216; omega
      walk_at "rd"
      intro q1 H4 nq hq e4
      exact k _ (.tup l) _ (.tup (SqT.of hq) (e4.repL hl)) (good_tup hg hl3) (hp3.ex0 e4) (by walk_at "ex")
end
open PySem L2 LamX



-- @SP _law_figures spFigures
-- @SP _law_text_of (spLText K 59)
-- @SPR _law_text_of (spLText K)
/-! ### what is written sign by sign, item by item -/
def esc1 (c : Nat) : Str := ⟨(if c = 34 ∨ c = 92 then [92, c] else [c]).toArray⟩
theorem esc_acc : ∀ {l : List Nat} {acc : List V}, acc.length = l.length → (∀ (j : Nat) (y : V), acc[j]? = some y → ∃ c, l[j]? = some c ∧ y = .str (esc1 c)) → acc = (l.map esc1).map V.str
  | [], [], _, _ => rfl
  | [], _ :: _, h, _ => nomatch h
  | _ :: _, [], h, _ => nomatch h
  | c :: l, y :: acc, h, q => by
    obtain ⟨c', h1, rfl⟩ := q 0 y rfl
    obtain rfl : c = c' := by simpa using h1
    have ih := esc_acc (l := l) (acc := acc) (by simpa using h) fun j z hz => q (j + 1) z (by simpa using hz)
    rw [ih]
    rfl
theorem esc_join (l : List Nat) : (Txt.join "" (l.map esc1)).cps.toList = escL l := by
  rw [join_nil, List.map_map]
  induction l with
  | nil => rfl
  | cons c l ih =>
    rw [List.map_cons, List.flatten_cons, ih, escL_cons]
    rfl
theorem esc_sum : ∀ l : List Nat, ((l.map esc1).map (·.length)).sum ≤ 2 * l.length
  | [] => Nat.le_refl _
  | c :: l => by
    have h := esc_sum l
    have h1 : (esc1 c).length ≤ 2 := by
      rw [lenT]
      show (if c = 34 ∨ c = 92 then [92, c] else [c]).length ≤ 2
      split <;> simp
    simp only [List.map_cons, List.sum_cons, List.length_cons]
    omega
theorem tx_acc : ∀ {l : List Dt} {acc : List V}, acc.length = l.length → (∀ (j : Nat) (y : V), acc[j]? = some y → ∃ d z, l[j]? = some d ∧ y = .str z ∧ z.cps.toList = tx d) → ∃ ts : List Str, acc = ts.map V.str ∧ ts.map (·.cps.toList) = l.map tx
  | [], [], _, _ => ⟨[], rfl, rfl⟩
  | [], _ :: _, h, _ => nomatch h
  | _ :: _, [], h, _ => nomatch h
  | d :: l, y :: acc, h, q => by
    obtain ⟨d', z, h1, rfl, h2⟩ := q 0 y rfl
    obtain rfl : d = d' := by simpa using h1
    obtain ⟨ts, e1, e2⟩ := tx_acc (l := l) (acc := acc) (by simpa using h) fun j z hz => q (j + 1) z (by simpa using hz)
    exact ⟨z :: ts, by rw [e1]; rfl, by rw [List.map_cons, List.map_cons, e2, h2]⟩
theorem join_tx : ∀ l : List Dt, TL.joinL [32] (l.map tx) = txs l
  | [] => by rw [txs]; rfl
  | d :: l => by
    rw [txs]
    induction l generalizing d with
    | nil => rw [txr]; simp [TL.joinL]
    | cons e l ih =>
      rw [List.map_cons, List.map_cons, TL.joinL, txr]
      have := ih e
      rw [List.map_cons] at this
      rw [this]
      rfl
theorem tx_sum : ∀ (l : List Dt) (ts : List Str), ts.map (·.cps.toList) = l.map tx → (ts.map (·.length)).sum + ts.length ≤ dszs l
  | [], [], _ => by rw [dszs]; exact Nat.le_refl _
  | [], _ :: _, h => nomatch h
  | _ :: _, [], h => nomatch h
  | d :: l, t :: ts, h => by
    rw [List.map_cons, List.map_cons, List.cons.injEq] at h
    have h1 := tx_sum l ts h.2
    have h2 := tx_len d
    rw [← h.1, ← lenT] at h2
    rw [dszs, List.map_cons, List.sum_cons, List.length_cons]
    omega
theorem dsz_mem {d : Dt} : ∀ {l : List Dt}, d ∈ l → dsz d ≤ dszs l
  | e :: l, h => by
    rw [dszs]
    rcases List.mem_cons.mp h with rfl | h
    · omega
    · have := dsz_mem h
      omega
section
variable {P : Program} {w : World} {K : PySem.W.Frag} {mg : Str → Option Value} {base : Heap} {A : Ad}
theorem ok_law_figures {f : Addr} {fd : FuncData} (F : Fun K "_law_figures" "_law_figures" s_law_figures f fd) (T : Txt K mg A)  : FnOk P w K mg base CX0 1 f fd ["number"] spFigures := by
  refine F.ok sc_law_figures (fun vs H Q E h => ?_) (fun cdv Ar outer s H vs Q E hr h => ?_)
  · obtain ⟨n, ⟨rfl, _⟩, _⟩ := h
    rfl
  · obtain ⟨n, ⟨rfl, hn⟩, k⟩ := h
    refine ⟨_, (pss_cons (ps_set (i := 1) sc_law_figures.nd rfl (Or.inl rfl) (pe_ix (ixG (K := K) rfl) pe_str (pe_op oMod (pe_callTy call_int1 (by rfl) T.b_int bt_int (pa_cons (pv 0) pa_nil)) pe_int) (fun _ _ => rfl))) (pss_cons (ps_while PassesOwn.never (pt_cmpR oGt (pv 0) pe_int (nomark _)) (pss_cons (ps_set (i := 0) sc_law_figures.nd rfl (Or.inl rfl) (pe_op oFdv (pv 0) pe_int)) (pss_one (ps_set (i := 1) sc_law_figures.nd rfl (Or.inl rfl) (pe_op (oAdd (K := K) rfl) (pe_ix (ixG (K := K) rfl) pe_str (pe_op oMod (pe_callTy call_int1 (by rfl) T.b_int bt_int (pa_cons (pv 0) pa_nil)) pe_int) (fun _ _ => rfl)) (pv 1)))))) (pss_one (ps_ret (pv 1))))), ?_⟩
    walk_at "nm"
    generalize hS : ("0123456789" : Str) = S
    have hs : S.length = 10 := by rw [← hS]; decide +kernel
    have hat : ∀ m : Nat, atI S.cps.toList (((m : Nat) : Int) % 10) = some (48 + m % 10) := fun m => by
      have h1 : ((m : Nat) : Int) % 10 = ((m % 10 : Nat) : Int) := by omega
      have h2 : m % 10 < 10 := Nat.mod_lt _ (by decide)
      rw [h1, ← hS]
      generalize m % 10 = j at h2
      refine atI_nat ?_
      exact (by decide +kernel : ∀ j, j < 10 → ("0123456789" : Str).cps.toList[j]? = some (48 + j)) j h2
    have hat0 := hat n
    walk_at "rd"
    have hlen : (TL.numL n).length ≤ 40 := TL.numL_len (by decide) hn
    have stp : ∀ m : Nat, TL.numL m = (if 10 ≤ m then TL.numL (m / 10) else []) ++ [48 + m % 10] := fun m => by
      by_cases c : 10 ≤ m
      · rw [if_pos c, TL.numL_step c]
      · rw [if_neg c, TL.numL_lt (by omega), Nat.mod_eq_of_lt (by omega)]
        rfl
    refine while_w (fun m σ H' => ∃ (a : Nat) (z : Str), σ = [some (.int ((a : Nat) : Int)), some (.str z)] ∧ H' = H ∧ m = a ∧ TL.numL n = (if 10 ≤ a then TL.numL (a / 10) else []) ++ z.cps.toList) n
      ⟨n, _, rfl, rfl, rfl, stp n⟩ ?_
    rintro m σ H1 ⟨a, z, rfl, rfl, rfl, hz⟩
    have hzl : z.length ≤ 40 := by
      rw [hz, List.length_append] at hlen
      rw [lenT]
      omega
    walk_at "rd"
    refine @ite2 _ _ _ _ (fun c1 => ?_) (fun c1 => ?_)
    · replace c1 : (9 : Int) < m := of_decide_eq_true c1
      have hd : ((m : Nat) : Int) / 10 = ((m / 10 : Nat) : Int) := by omega
      have hat1 := hat (m / 10)
      refine ⟨_, fun σ' H' q => q, ?_⟩
      have hzs : (⟨#[48 + m / 10 % 10]⟩ : Str).length + z.length ≤ sizeLine := by
        show 1 + z.length ≤ 16777216
        omega
      walk_at "rd"
      refine ⟨m / 10, by omega, m / 10, _, by rw [hd]; rfl, rfl, rfl, ?_⟩
      rw [hz, if_pos (by omega)]
      show _ = _ ++ (TL.tl ((⟨#[48 + m / 10 % 10]⟩ : Str) ++ z))
      rw [TL.tl_append, stp (m / 10), List.append_assoc]
    · replace c1 : ¬ (9 : Int) < m := fun z => c1 (decide_eq_true z)
      rw [if_neg (by omega)] at hz
      walk_at "rd"
      exact k _ _ hz.symm (Ex.refl _ _)
theorem ok_law_text_of {f : Addr} {fd : FuncData} (F : Fun K "_law_text_of" "_law_text_of" s_law_text_of f fd) (T : Txt K mg A) (C_law_figures : Cl P w K mg base 1 "_law_figures" spFigures) (n : Nat) (C_law_text_of : Cl P w K mg base (n + 1) "_law_text_of" (prevSp (spLText K) n)) : FnOk P w K mg base CX0 (n + 1 + 1) f fd ["thing"] ((spLText K) n) := by
  refine F.ok sc_law_text_of (fun vs H Q E h => ?_) (fun cdv Ar outer s H vs Q E hr h => ?_)
  · obtain ⟨v, d, ⟨rfl, _⟩, _⟩ := h
    rfl
  · obtain ⟨v, d, ⟨rfl, r, hn, hok, hsz⟩, k⟩ := h
    refine ⟨_, (pss_cons (ps_if (pt_cmpR op_isN (pv 0) pe_non (nomark _)) (pss_one (ps_ret pe_str)) pss_nil) (pss_cons (ps_if (pt_val (pe_callB (cIs (K := K) rfl) (by rfl) T.b_isinstance bt_isinstance (pa_cons (pv 0) (pa_cons (pe_bltn (v := .ty "int") (by rfl) T.b_int bt_int rfl) pa_nil)))) (pss_one (ps_ret (pe_op (oAdd (K := K) rfl) (pe_ifExp (pt_cmpR oLt (pv 0) pe_int (nomark _)) pe_str pe_str) (pe_cl C_law_figures hr (by omega) (by rfl) (pa_cons (pe_callB cAbs (by rfl) T.b_abs bt_abs (pa_cons (pv 0) pa_nil)) pa_nil))))) pss_nil) (pss_cons (ps_if (pt_val (pe_callB (cIs (K := K) rfl) (by rfl) T.b_isinstance bt_isinstance (pa_cons (pv 0) (pa_cons (pe_bltn (v := .ty "str") (by rfl) T.b_str bt_str rfl) pa_nil)))) (pss_one (ps_ret (pe_op (oAdd (K := K) rfl) (pe_op (oAdd (K := K) rfl) pe_str (pe_join pe_str (pe_lc (own := [("sign", 2)]) (g := gName 2) (tt := tYes) rfl sc_law_text_of.nd (pi_str (pv 0)) (blkOk_by (N := n_law_text_of) (sc := defScope s_law_text_of) (by decide +kernel)) (fun _ _ _ _ _ => (pg_name (i := 2) sc_law_text_of.nd rfl (Or.inl rfl))) (fun _ _ _ _ _ => pts_nil) (fun _ _ _ _ _ => (pe_ifExp (pt_cmpR op_in_sign (pv 2) pe_str (by rfl)) (pe_op (oAdd (K := K) rfl) pe_str (pv 2)) (pv 2)))))) pe_str))) pss_nil) (pss_one (ps_ret (pe_op (oAdd (K := K) rfl) (pe_op (oAdd (K := K) rfl) pe_str (pe_join pe_str (pe_lc (own := [("item", 1)]) (g := gName 1) (tt := tYes) rfl sc_law_text_of.nd (pi_tup (pv 0)) (blkOk_by (N := n_law_text_of) (sc := defScope s_law_text_of) (by decide +kernel)) (fun _ _ _ _ _ => (pg_name (i := 1) sc_law_text_of.nd rfl (Or.inl rfl))) (fun _ _ _ _ _ => pts_nil) (fun _ _ _ _ _ => (pe_cl C_law_text_of hr (by omega) (by rfl) (pa_cons (pv 1) pa_nil)))))) pe_str)))))), ?_⟩
    walk_at "nm"
    have r0 := r
    cases r with
    | non =>
      walk_at "rd"
      exact k _ _ (by decide +kernel) (Ex.refl _ _)
    | int i =>
      have hpl : plainT (.int i) = true := by rw [okAt_plain (d := .int i) (by omega) (fun _ z => nomatch z)] at hok; exact hok
      have hpl' : (decide (-(10 ^ 40) < i) && decide (i < 10 ^ 40)) = true := hpl
      rw [Bool.and_eq_true] at hpl'
      have b1 := of_decide_eq_true hpl'.1
      have b2 := of_decide_eq_true hpl'.2
      have hl : (TL.numL i.natAbs).length ≤ 40 := TL.numL_len (by decide) (by omega)
      walk_at "rd"
      refine @ite2 _ _ _ _ (fun c1 => ?_) (fun c1 => ?_)
      · replace c1 : i < 0 := of_decide_eq_true c1
        have hab : (if i < 0 then -i else i) = ((i.natAbs : Nat) : Int) := by split <;> omega
        walk_at "rd"
        rw [hab]
        walk_at "rd"
        intro z H1 hz e1
        have hz2 : ("-" : Str).length + z.length ≤ sizeLine := by
          rw [show ("-" : Str).length = 1 by decide +kernel, lenT z, hz]
          show _ ≤ 16777216
          omega
        walk_at "rd"
        refine k _ _ ?_ e1
        show TL.tl (("-" : Str) ++ z) = _
        rw [TL.tl_append, tx]
        unfold intL
        rw [if_pos c1, show TL.tl ("-" : Str) = [45] by decide +kernel, ← hz]
        rfl
      · replace c1 : ¬ i < 0 := fun z => c1 (decide_eq_true z)
        have hab : (if i < 0 then -i else i) = ((i.natAbs : Nat) : Int) := by split <;> omega
        walk_at "rd"
        rw [hab]
        walk_at "rd"
        intro z H1 hz e1
        have hz2 : ("" : Str).length + z.length ≤ sizeLine := by
          rw [show ("" : Str).length = 0 by decide +kernel, lenT z, hz]
          show _ ≤ 16777216
          omega
        walk_at "rd"
        refine k _ _ ?_ e1
        show TL.tl (("" : Str) ++ z) = _
        rw [TL.tl_append, tx]
        unfold intL
        rw [if_neg c1, show TL.tl ("" : Str) = [] by decide +kernel, ← hz]
        rfl
    | str t ht =>
      walk_at "rd"
      intro D hD
      refine lc_it (walk_str (z := t)) (LcP D [] (fun _ => True) (fun j y _ => ∃ c, t.cps.toList[j]? = some c ∧ y = .str (esc1 c)) H) (LcP.start hD trivial (true_loc D)) (fun _ _ _ _ => trivial) ?_ ?_
      · rintro j y H3 H3' hj q ⟨rfl, c, hc, rfl⟩
        have hz1 : ("\\" : Str).length + (⟨#[c]⟩ : Str).length ≤ sizeLine := by
          rw [show ("\\" : Str).length = 1 by decide +kernel]
          show 1 + 1 ≤ 16777216
          decide
        have hc' : t.cps.toList[j]? = some c := by simpa using hc
        have hjz : t.cps.size ≤ 1000000 := ht
        walk_at "rd"
        have hm : (decide (c ∈ ("\"\\" : Str).cps.toList)) = decide (c = 34 ∨ c = 92) := by
          rw [show ("\"\\" : Str).cps.toList = [34, 92] by decide +kernel]
          simp
        rw [hm]
        refine @ite2 _ _ _ _ (fun c1 => ?_) (fun c1 => ?_)
        · replace c1 : c = 34 ∨ c = 92 := of_decide_eq_true c1
          walk_at "rd"
          refine q.step hD (fun _ _ _ _ _ _ h => h) (true_loc D) (Ex.refl _ _) trivial trivial ⟨c, hc', ?_⟩ hj (by omega)
          unfold esc1
          rw [if_pos c1]
          refine congrArg V.str (TL.ext_tl ?_)
          show TL.tl (("\\" : Str) ++ ⟨#[c]⟩) = _
          rw [TL.tl_append, show TL.tl ("\\" : Str) = [92] by decide +kernel]
          rfl
        · replace c1 : ¬ (c = 34 ∨ c = 92) := fun z => c1 (decide_eq_true z)
          walk_at "rd"
          refine q.step hD (fun _ _ _ _ _ _ h => h) (true_loc D) (Ex.refl _ _) trivial trivial ⟨c, hc', ?_⟩ hj (by omega)
          unfold esc1
          rw [if_neg c1]
      · intro H3 q
        obtain ⟨e3, _, acc, h5, h6, h7⟩ := q
        have hacc := esc_acc (l := t.cps.toList) (by rw [h6, Array.length_toList]) h7
        subst hacc
        have hes := esc_sum t.cps.toList
        have hlt : t.cps.toList.length ≤ 1000000 := by rw [← lenT]; exact ht
        refine ⟨_, _, _, rfl, rfl, .inl (SqL.of h5), ?_, ?_⟩
        · have : ("" : Str).length = 0 := by decide +kernel
          rw [this, Nat.mul_zero]
          omega
        · have hj := esc_join t.cps.toList
          generalize Txt.join "" (t.cps.toList.map esc1) = z at hj ⊢
          have hzl : z.length ≤ 2000000 := by
            have := escL_len t.cps.toList
            rw [lenT, hj]
            omega
          have hq1 : ("\"" : Str).length = 1 := by decide +kernel
          have hz1 : ("\"" : Str).length + z.length ≤ sizeLine := by rw [hq1]; show _ ≤ 16777216; omega
          have hz2 : (("\"" : Str) ++ z).length + ("\"" : Str).length ≤ sizeLine := by
            rw [lenT (("\"" : Str) ++ z)]
            show (TL.tl (("\"" : Str) ++ z)).length + _ ≤ 16777216
            rw [TL.tl_append, List.length_append, hq1]
            show (("\"" : Str).cps.toList).length + z.cps.toList.length + 1 ≤ 16777216
            rw [← lenT, ← lenT, hq1]
            omega
          walk_at "rd"
          refine k _ _ ?_ (by walk_at "ex")
          show TL.tl ((("\"" : Str) ++ z) ++ ("\"" : Str)) = _
          rw [TL.tl_append, TL.tl_append, tx, ← hj, show TL.tl ("\"" : Str) = [34] by decide +kernel]
          simp
    | tup h1 h2 =>
      rename_i a xs l
      have hl := h2.length
      rw [okAt_tup (by omega), List.all_eq_true] at hok
      rw [dsz] at hsz
      have hll : l.length ≤ dszs l := by
        have := tx_sum l (l.map fun d => ⟨(tx d).toArray⟩) (by rw [List.map_map]; rfl)
        rw [List.length_map] at this
        omega
      walk_at "rd"
      intro D hD
      refine lc_it (walk_tup (xs := xs)) (LcP D [] (fun _ => True) (fun j y _ => ∃ d z, l[j]? = some d ∧ y = .str z ∧ z.cps.toList = tx d) H) (LcP.start hD trivial (true_loc D)) (fun i H h p => p.ex.sqT h1) ?_ ?_
      · rintro j y H3 H3' hj q ⟨rfl, hy⟩
        obtain ⟨d, hd, rd⟩ := h2.get hy
        have hmem := List.mem_of_getElem? hd
        have hok1 := hok d hmem
        have hdz := dsz_mem hmem
        have rd3 := q.ex.rep rd
        cases n with
        | zero => exact absurd hok1 (by rw [okAt_deep (by omega)]; decide)
        | succ n =>
        have hok2 : okAt (60 - n) d = true := by
          rw [show 60 - n = 60 - (n + 1) + 1 by omega]
          exact hok1
        walk_at "rd"
        intro z H4 hz e4
        walk_at "rd"
        exact q.step hD (fun _ _ _ _ _ _ h => h) (true_loc D) e4 trivial trivial ⟨d, z, hd, rfl, hz⟩ hj (by omega)
      · intro H3 q
        obtain ⟨e3, _, acc, h5, h6, h7⟩ := q
        obtain ⟨ts, hacc, hts⟩ := tx_acc (l := l) (by omega) h7
        subst hacc
        have hsum := tx_sum l ts hts
        have hs1 : (" " : Str).length = 1 := by decide +kernel
        refine ⟨_, _, _, rfl, rfl, .inl (SqL.of h5), ?_, ?_⟩
        · rw [hs1, Nat.mul_one]
          omega
        · have hj : (Txt.join " " ts).cps.toList = txs l := by
            have h := TL.tl_join " " ts
            have e : TL.tl (" " : Str) = [32] := by decide +kernel
            have e2 : ts.map TL.tl = l.map tx := hts
            rw [e, e2, join_tx, ← TL.join_eq] at h
            exact h
          generalize Txt.join " " ts = z at hj ⊢
          have hzl : z.length ≤ 100000 := by
            have := txs_len l
            rw [lenT, hj]
            omega
          have hq1 : ("(" : Str).length = 1 := by decide +kernel
          have hq2 : (")" : Str).length = 1 := by decide +kernel
          have hz1 : ("(" : Str).length + z.length ≤ sizeLine := by rw [hq1]; show _ ≤ 16777216; omega
          have hz2 : (("(" : Str) ++ z).length + (")" : Str).length ≤ sizeLine := by
            rw [lenT (("(" : Str) ++ z)]
            show (TL.tl (("(" : Str) ++ z)).length + _ ≤ 16777216
            rw [TL.tl_append, List.length_append, hq2]
            show (("(" : Str).cps.toList).length + z.cps.toList.length + 1 ≤ 16777216
            rw [← lenT, ← lenT, hq1]
            omega
          walk_at "rd"
          refine k _ _ ?_ (by walk_at "ex")
          show TL.tl ((("(" : Str) ++ z) ++ (")" : Str)) = _
          rw [TL.tl_append, TL.tl_append, tx, ← hj, show TL.tl ("(" : Str) = [40] by decide +kernel, show TL.tl (")" : Str) = [41] by decide +kernel]
          simp
    | bl b => exact absurd hok (by rw [okAt]; decide)
    | _ => exact absurd hok (by rw [okAt]; decide)
end
open PySem L2 CwR



-- @SP is_integer (spIsInt K)
-- @SP is_plain_thing (spPlainT K)
-- @SP plain_text (spPT K A)
-- @SP pieces (spPieces K)
-- @SP text_of (spTextOf K A)
-- @SP raw_integer (spRawInt K)
-- @SP raw_string (spRawStr K)
-- @SP raw_plain (spRawPlain K)
-- @SP behind (spBehind K)
-- @SP raw_thing (spRawThing K)
-- @SP thing_of (spThingOf K A)
def told (K : PySem.W.Frag) (H : Hp) (x : V) (d : Dt) : Prop := if okAt 1 d = true then ∃ z : Str, z.cps.toList = tx d ∧ Rep K H x (.tup [.str "text", .str z]) else Rep K H x (.tup [.str "none", .non])
def spTold (K : PySem.W.Frag) : Sp := fun vs H Q _ => ∃ v d, (vs = [v] ∧ Rep K H v d ∧ dsz d ≤ 400000) ∧ ∀ x H', told K H' x d → Ex [] H H' → Q x H'
def nest : Nat → Dt → Dt
  | 0, d => d
  | n + 1, d => .tup [nest n d]
theorem nest_in : ∀ (n : Nat) (d : Dt), nest n (.tup [d]) = nest (n + 1) d
  | 0, _ => rfl
  | n + 1, d => by rw [nest, nest_in n d]; rfl
def spWrapped (K : PySem.W.Frag) : Sp := fun vs H Q _ => ∃ v d, ∃ n : Nat, (vs = [v, .int n] ∧ Rep K H v d ∧ n ≤ 1000) ∧ ∀ x H', Rep K H' x (nest n d) → Ex [] H H' → Q x H'
-- @SP _law_told (spTold K)
-- @SP _law_wrapped (spWrapped K)
section
variable {P : Program} {w : World} {K : PySem.W.Frag} {mg : Str → Option Value} {base : Heap} {A : Ad}
theorem ok_law_wrapped {f : Addr} {fd : FuncData} (F : Fun K "_law_wrapped" "_law_wrapped" s_law_wrapped f fd) (T : Txt K mg A)  : FnOk P w K mg base CX0 1 f fd ["thing", "deep"] (spWrapped K) := by
  refine F.ok sc_law_wrapped (fun vs H Q E h => ?_) (fun cdv Ar outer s H vs Q E hr h => ?_)
  · obtain ⟨v, d, n, ⟨rfl, _⟩, _⟩ := h
    rfl
  · obtain ⟨v, d, n, ⟨rfl, r, hn⟩, k⟩ := h
    refine ⟨_, (pss_cons (ps_for PassesOwn.never rfl (pi_range1 (by rfl) T.b_range (pa_cons (pv 1) pa_nil)) (pg_name (i := 2) sc_law_wrapped.nd rfl (Or.inl rfl)) (pss_one (ps_set (i := 0) sc_law_wrapped.nd rfl (Or.inl rfl) (peTup (pa_cons (pv 0) pa_nil))))) (pss_one (ps_ret (pv 0)))), ?_⟩
    walk_at "nm"
    walk_at "rd"
    refine for_it (walk_range (lo := 0) (n := ((n : Nat) : Int).toNat)) (fun i σ H' => ∃ x o3, σ = [some x, some (.int n), o3] ∧ Rep K H' x (nest i d) ∧ Ex [] H H') ⟨v, none, rfl, r, Ex.refl _ _⟩ (fun _ _ _ _ _ => trivial) ?_ ?_
    · rintro i y σ H2 H2' hi ⟨x, o3, rfl, rx, ex⟩ ⟨rfl, rfl⟩
      walk_at "rd"
      intro q H3 nq hq e3
      exact ⟨.ref q, _, rfl, .tup (SqT.of hq) (.cons (e3.rep rx) .nil), by walk_at "ex"⟩
    · rintro σ H2 ⟨x, o3, rfl, rx, ex⟩
      walk_at "rd"
      exact k _ _ rx ex
theorem ok_law_told {f : Addr} {fd : FuncData} (F : Fun K "_law_told" "_law_told" s_law_told f fd) (T : Txt K mg A) (C_text_of : ClX P w K mg base 4 "text_of" (spTextOf K A)) : FnOk P w K mg base CX0 5 f fd ["thing"] (spTold K) := by
  refine F.ok sc_law_told (fun vs H Q E h => ?_) (fun cdv Ar outer s H vs Q E hr h => ?_)
  · obtain ⟨v, d, ⟨rfl, _⟩, _⟩ := h
    rfl
  · obtain ⟨v, d, ⟨rfl, r, hz⟩, k⟩ := h
    refine ⟨_, (pss_cons (ps_set (i := 1) sc_law_told.nd rfl (Or.inl rfl) (peTup (pa_cons pe_str (pa_cons pe_non pa_nil)))) (pss_cons (ps_try_many rfl rfl L2.takes0 (fun W pn xe tk po => (pss_one (ps_set (i := 1) sc_law_told.nd rfl (Or.inl rfl) (peTup (pa_cons pe_str (pa_cons (pe_clX C_text_of tk hr (by decide) (by rfl) (pa_cons (pv 0) pa_nil)) pa_nil)))))) (HdsOk.cons (ExcF.names T.e_NoThing (by rfl)) (fun a oe cls d pn _ _ => (pss_one (ps_set (i := 1) sc_law_told.nd rfl (Or.inl rfl) (peTup (pa_cons pe_str (pa_cons pe_non pa_nil)))))) HdsOk.nil)) (pss_one (ps_ret (pv 1))))), ?_⟩
    walk_at "nm"
    walk_at "rd"
    intro q1 H1 n1 h1 e1
    have r1 := e1.rep r
    walk_at "rd"
    by_cases c : okAt 1 d = true
    · rw [if_pos c]
      intro z H2 hz2 e2
      have hzl : z.length ≤ 1000000 := by
        have := tx_len d
        rw [lenT, hz2]
        omega
      walk_at "rd"
      intro q2 H3 n3 h3 e3
      walk_at "rd"
      refine k _ _ ?_ (by walk_at "ex")
      unfold told
      rw [if_pos c]
      exact ⟨z, hz2, .tup (SqT.of h3) (.cons (.str _ (by decide)) (.cons (.str _ hzl) .nil))⟩
    · rw [if_neg c]
      intro H2 e2
      refine ⟨true, T.x_NoThing_NoThing, fun _ a ha => ?_, fun z => nomatch z⟩
      walk_at "rd"
      intro q2 H3 n3 h3 e3
      walk_at "rd"
      refine k _ _ ?_ (by walk_at "ex")
      unfold told
      rw [if_neg c]
      exact .tup (SqT.of h3) (.cons (.str _ (by decide)) (.cons .non .nil))
end
open PySem PySem.Spec PyProof PyProof.Rows L2
/-! ### repr of a good thing -/
theorem okAt_plainD : ∀ (k : Nat) (d : Dt), okAt k d = true → plainD d = true
  | _, .non, _ => by rw [plainD]
  | k, .int i, h => by rw [okAt, Bool.and_eq_true] at h; rw [plainD]; exact h.2
  | k, .str i, h => by rw [okAt, Bool.and_eq_true] at h; rw [plainD]; exact h.2
  | k, .tup l, h => by
    rw [okAt, Bool.and_eq_true] at h
    rw [plainD]
    exact okAlls (k + 1) l h.2
  | _, .bl _, h => by rw [okAt] at h; cases h
  | _, .oth, h => by rw [okAt] at h; cases h
where okAlls : ∀ (k : Nat) (l : List Dt), okAll k l = true → plainDs l = true
  | _, [], _ => by rw [plainDs]
  | k, d :: l, h => by
    rw [okAll, Bool.and_eq_true] at h
    rw [plainDs, okAt_plainD k d h.1, okAlls k l h.2]
    rfl
theorem printable {c : Nat} (h : signOk c = true) : Unicode.isPrintable c = true := by
  have h' : (decide (32 ≤ c) && decide (c ≤ 126)) = true := h
  rw [Bool.and_eq_true] at h'
  exact (by decide +kernel : ∀ c, c < 127 → 32 ≤ c → Unicode.isPrintable c = true) c (by have := of_decide_eq_true h'.2; omega) (of_decide_eq_true h'.1)
theorem repr_char {q c : Nat} (h : signOk c = true) : Builtin.Str.reprChar q c = if c = q ∨ c = 92 then [92, c] else [c] := by
  have h' : (decide (32 ≤ c) && decide (c ≤ 126)) = true := h
  rw [Bool.and_eq_true] at h'
  have h1 := of_decide_eq_true h'.1
  have p := printable h
  unfold Builtin.Str.reprChar
  by_cases c1 : c = q ∨ c = 92
  · rw [if_pos c1]
    rcases c1 with e | e <;> simp [e]
  · rw [if_neg c1]
    have c2 : ¬ c = q := fun z => c1 (.inl z)
    have c3 : ¬ c = 92 := fun z => c1 (.inr z)
    simp [c2, c3, p, show ¬ c = 10 by omega, show ¬ c = 13 by omega, show ¬ c = 9 by omega]
theorem fold_repr (f : Nat → List Nat) : ∀ (l : List Nat) (acc : Array Nat), (l.foldl (fun out c => out ++ (f c).toArray) acc).toList = acc.toList ++ l.flatMap f
  | [], acc => by simp
  | c :: l, acc => by
    rw [List.foldl_cons, fold_repr f l]
    simp
theorem repr_text {s : Str} (h : s.cps.toList.all signOk = true) : (reprText s).cps.toList = shL (.str s) := by
  have hq : reprQuote s = quoteL s.cps.toList := by
    unfold reprQuote quoteL
    simp
  rw [shL]
  unfold reprText
  show (Array.push _ _).toList = _
  rw [Array.toList_push, hq, ← Array.foldl_toList, fold_repr]
  unfold repE
  have e : s.cps.toList.flatMap (Builtin.Str.reprChar (quoteL s.cps.toList)) = s.cps.toList.flatMap (fun c => if c = quoteL s.cps.toList ∨ c = 92 then [92, c] else [c]) := by
    generalize quoteL s.cps.toList = q
    generalize s.cps.toList = l at h
    induction l with
    | nil => rfl
    | cons c l ih =>
      rw [List.all_cons, Bool.and_eq_true] at h
      rw [List.flatMap_cons, List.flatMap_cons, ih h.2, repr_char h.1]
  rw [e]
  simp
theorem join_sh : ∀ l : List Dt, TL.joinL [44, 32] (l.map shL) = shs l
  | [] => by rw [shs]; rfl
  | d :: l => by
    rw [shs]
    induction l generalizing d with
    | nil => rw [shr]; simp [TL.joinL]
    | cons e l ih =>
      rw [List.map_cons, List.map_cons, TL.joinL, shr]
      have := ih e
      rw [List.map_cons] at this
      rw [this]
      rfl
mutual
theorem shown_eq : ∀ d : Dt, plainD d = true → TL.tl (toPy d).shown = shL d
  | .non, _ => by rw [toPy, PyData.shown, shL]; decide +kernel
  | .int i, _ => by rw [toPy, PyData.shown, shL]; exact tl_int i
  | .str s, h => by rw [toPy, PyData.shown]; rw [plainD] at h; exact repr_text h
  | .tup l, h => by
    rw [plainD] at h
    rw [toPy, PyData.shown, shL]
    have hl := shown_eqs l h
    have hlen : (PyData.shownAll (toPys l)).length = l.length := by
      have := congrArg List.length hl
      rw [List.length_map, List.length_map] at this
      exact this
    unfold tupleText
    rw [TL.tl_append, TL.tl_append, TL.tl_join, hl, hlen]
    rw [show TL.tl ("(" : Str) = [40] by decide +kernel, show TL.tl (", " : Str) = [44, 32] by decide +kernel, join_sh]
    by_cases c : l.length = 1
    · rw [if_pos (by simpa using c), if_pos c]
      simp [TL.tl_ofString]
    · rw [if_neg (by simpa using c), if_neg c]
      simp [TL.tl_ofString]
  | .bl b, h => by rw [plainD] at h; cases h
  | .oth, h => by rw [plainD] at h; cases h
theorem shown_eqs : ∀ l : List Dt, plainDs l = true → (PyData.shownAll (toPys l)).map TL.tl = l.map shL
  | [], _ => by rw [toPys, PyData.shownAll]; rfl
  | d :: l, h => by
    rw [plainDs, Bool.and_eq_true] at h
    rw [toPys, PyData.shownAll, List.map_cons, List.map_cons, shown_eq d h.1, shown_eqs l h.2]
end
theorem int_small {i : Int} (h : plainT (.int i) = true) : i.natAbs.log2 < 1920 := by
  have h' : (decide (-(10 ^ 40) < i) && decide (i < 10 ^ 40)) = true := h
  rw [Bool.and_eq_true] at h'
  have h1 := of_decide_eq_true h'.1
  have h2 := of_decide_eq_true h'.2
  have h3 : i.natAbs < 2 ^ 1920 := Nat.lt_of_lt_of_le (show i.natAbs < 10 ^ 40 by omega) (by decide +kernel)
  by_cases z : i.natAbs = 0
  · rw [z]; decide
  · exact (Nat.log2_lt z).mpr h3
mutual
theorem showable_of : ∀ d : Dt, plainD d = true → (toPy d).showable = true ∧ (toPy d).hasDict = false
  | .non, _ => by rw [toPy]; exact ⟨rfl, rfl⟩
  | .int i, h => by rw [plainD] at h; rw [toPy]; exact ⟨by rw [PyData.showable]; exact decide_eq_true (int_small h), rfl⟩
  | .str s, _ => by rw [toPy]; exact ⟨rfl, rfl⟩
  | .tup l, h => by rw [plainD] at h; rw [toPy, PyData.showable, PyData.hasDict]; exact showables_of l h
  | .bl b, h => by rw [plainD] at h; cases h
  | .oth, h => by rw [plainD] at h; cases h
theorem showables_of : ∀ l : List Dt, plainDs l = true → PyData.showableAll (toPys l) = true ∧ PyData.hasDictAll (toPys l) = false
  | [], _ => by rw [toPys]; exact ⟨rfl, rfl⟩
  | d :: l, h => by
    rw [plainDs, Bool.and_eq_true] at h
    obtain ⟨a1, a2⟩ := showable_of d h.1
    obtain ⟨b1, b2⟩ := showables_of l h.2
    rw [toPys, PyData.showableAll, PyData.hasDictAll, a1, a2, b1, b2]
    exact ⟨rfl, rfl⟩
end
mutual
theorem depth_of : ∀ (k : Nat) (d : Dt), okAt k d = true → (toPy d).depth + k ≤ 61
  | k, .non, h => by rw [okAt] at h; have := of_decide_eq_true h; rw [toPy, PyData.depth]; omega
  | k, .int i, h => by rw [okAt, Bool.and_eq_true] at h; have := of_decide_eq_true h.1; rw [toPy, PyData.depth]; omega
  | k, .str s, h => by rw [okAt, Bool.and_eq_true] at h; have := of_decide_eq_true h.1; rw [toPy, PyData.depth]; omega
  | k, .tup l, h => by
    rw [okAt, Bool.and_eq_true] at h
    have := of_decide_eq_true h.1
    have := depths_of (k + 1) l h.2
    rw [toPy, PyData.depth]
    omega
  | _, .bl b, h => by rw [okAt] at h; cases h
  | _, .oth, h => by rw [okAt] at h; cases h
theorem depths_of : ∀ (k : Nat) (l : List Dt), okAll k l = true → PyData.depthAll (toPys l) = 0 ∨ PyData.depthAll (toPys l) + k ≤ 61
  | _, [], _ => by rw [toPys]; exact .inl rfl
  | k, d :: l, h => by
    rw [okAll, Bool.and_eq_true] at h
    have h1 := depth_of k d h.1
    have h2 := depths_of k l h.2
    rw [toPys, PyData.depthAll]
    omega
end
theorem repE_len (q : Nat) : ∀ l : List Nat, (repE q l).length ≤ 2 * l.length
  | [] => Nat.le_refl _
  | c :: l => by
    have := repE_len q l
    show (List.flatMap _ (c :: l)).length ≤ _
    rw [List.flatMap_cons, List.length_append, List.length_cons]
    show _ + (repE q l).length ≤ _
    split <;> simp <;> omega
mutual
theorem sh_len : ∀ d : Dt, (shL d).length ≤ dsz d
  | .non => Nat.le_refl _
  | .int i => Nat.le_refl _
  | .str s => by
    rw [shL, dsz, List.length_cons, List.length_append, List.length_singleton]
    have h1 := repE_len (quoteL s.cps.toList) s.cps.toList
    rw [← lenT] at h1
    omega
  | .tup l => by
    rw [shL, dsz, List.length_cons, List.length_append]
    have := shs_len l
    split <;> simp <;> omega
  | .bl _ => Nat.zero_le _
  | .oth => Nat.zero_le _
theorem shs_len : ∀ l : List Dt, (shs l).length ≤ dszs l
  | [] => Nat.le_refl _
  | d :: l => by
    rw [shs, dszs, List.length_append]
    have h1 := sh_len d
    have h2 := shr_len l
    omega
theorem shr_len : ∀ l : List Dt, (shr l).length ≤ dszs l
  | [] => Nat.le_refl _
  | d :: l => by
    rw [shr, dszs, List.length_cons, List.length_cons, List.length_append]
    have h1 := sh_len d
    have h2 := shr_len l
    omega
end
mutual
theorem dp_of {K : PySem.W.Frag} {H : Hp} : ∀ (d : Dt) (x : V), plainD d = true → Rep K H x d → Dp K H x (toPy d)
  | .non, _, _, r => by cases r; rw [toPy]; exact .non
  | .int i, _, _, r => by cases r; rw [toPy]; exact .int _
  | .str s, _, _, r => by cases r; rw [toPy]; exact .str _
  | .tup l, _, h, r => by
    rw [plainD] at h
    cases r with
    | tup a b =>
      rw [toPy]
      exact .tup a (dps_of l _ h b)
  | .bl b, _, h, _ => by rw [plainD] at h; cases h
  | .oth, _, h, _ => by rw [plainD] at h; cases h
theorem dps_of {K : PySem.W.Frag} {H : Hp} : ∀ (l : List Dt) (xs : List V), plainDs l = true → RepL K H xs l → DpAll K H xs (toPys l)
  | [], _, _, r => by cases r; rw [toPys]; exact .nil
  | d :: l, _, h, r => by
    rw [plainDs, Bool.and_eq_true] at h
    cases r with
    | cons a b =>
      rw [toPys]
      exact .cons (dp_of d _ h.1 a) (dps_of l _ h.2 b)
end
/-- repr of a good thing -/
def rReprP (K : PySem.W.Frag) : List V → Hp → VK → Prop := fun xs H Q => ∃ x d, (xs = [x] ∧ Rep K H x d ∧ okAt 1 d = true ∧ dsz d ≤ 400000) ∧ ∀ z : Str, z.cps.toList = shL d → Q (.str z) H
theorem cReprP {X : Cx} {K : PySem.W.Frag} {k : Nat} (h : X.K = K) (hg : X.A.guards = some []) (hr : Room k X.A) : CallR X (.builtin "repr") (rReprP K) := by
  subst h
  intro pins s σ H xs us Q I r h
  obtain ⟨x, d, ⟨rfl, rx, hok, hz⟩, q⟩ := h
  obtain ⟨u, rfl, rv⟩ := vals1 r
  have hp := okAt_plainD 1 d hok
  have hd := dp_of d x hp rx
  have sh := shown_eq d hp
  have hl := sh_len d
  cases rx with
  | non =>
    obtain rfl : u = Value.none := rv
    exact PySem.P.repr_of_none ⟨.str _, H, I.tok _, ⟨_, rfl⟩, q _ (by rw [← sh, toPy, PyData.shown])⟩
  | int i =>
    obtain ⟨t, rfl⟩ := rv
    rw [plainD] at hp
    exact PySem.P.repr_of_int (int_small hp) ⟨.str _, H, I.tok _, ⟨_, rfl⟩, q _ (by rw [← sh, toPy, PyData.shown])⟩
  | str s hs =>
    obtain ⟨t, rfl⟩ := rv
    have e : (reprText s).cps.toList = shL (.str s) := by rw [← sh, toPy, PyData.shown]
    have hz : (reprText s).length ≤ sizeLine := by rw [lenT, e]; show _ ≤ 16777216; omega
    exact PySem.P.repr_of_str ⟨.str _, H, I.tok _, ⟨_, rfl⟩, q _ e⟩ hz
  | tup h1 h2 =>
    rename_i a xs l
    obtain ⟨as, rd⟩ := Dp.reads I (toPy (.tup l)) _ _ hd rv
    obtain rfl : u = .ref a := rv
    obtain ⟨s1, s2⟩ := showable_of _ hp
    have hdp := depth_of 1 _ hok
    have hu := hr.un
    have hz : (toPy (.tup l)).shown.length ≤ sizeLine := by
      rw [lenT]
      show (TL.tl _).length ≤ 16777216
      rw [sh]
      omega
    exact repr_of_reads' rd s1 (PyData.noDict_hsm s2) hg (by omega) (fun _ _ e => e) (fun h' u tk hk => ⟨.str _, H, I.kept hk, ⟨_, rfl⟩, q _ sh⟩) hz
  | bl b => rw [plainD] at hp; cases hp
  | oth _ => rw [plainD] at hp; cases hp
/-- a thing by its text -/
theorem tx_inj {d e : Dt} (h : okAt 1 d = true) (h' : okAt 1 e = true) (q : tx d = tx e) : d = e := by
  have a := read_tx h
  have b := read_tx h'
  rw [q, b] at a
  simpa using a.symm
open PySem L2 CwR



-- @SP is_integer (spIsInt K)
-- @SP is_plain_thing (spPlainT K)
-- @SP plain_text (spPT K A)
-- @SP pieces (spPieces K)
-- @SP text_of (spTextOf K A)
-- @SP raw_integer (spRawInt K)
-- @SP raw_string (spRawStr K)
-- @SP raw_plain (spRawPlain K)
-- @SP behind (spBehind K)
-- @SP raw_thing (spRawThing K)
-- @SP thing_of (spThingOf K A)
theorem escL_mem {c : Nat} : ∀ {l : List Nat}, c ∈ escL l → c = 92 ∨ c ∈ l
  | [], h => nomatch h
  | a :: l, h => by
    rw [escL_cons] at h
    rcases List.mem_append.mp h with h | h
    · split at h
      · rcases List.mem_cons.mp h with h | h
        · exact .inl h
        · exact .inr (by rw [List.mem_singleton.mp h]; exact List.mem_cons_self)
      · exact .inr (by rw [List.mem_singleton.mp h]; exact List.mem_cons_self)
    · rcases escL_mem h with h | h
      · exact .inl h
      · exact .inr (List.mem_cons_of_mem _ h)
mutual
theorem tx_signs : ∀ (d : Dt), plainD d = true → ∀ c ∈ tx d, c ≤ 126
  | .non, _, c, hc => by
    rw [tx] at hc
    simp at hc
    omega
  | .int i, _, c, hc => by
    rw [tx] at hc
    unfold intL at hc
    split at hc
    · rcases List.mem_cons.mp hc with h | h
      · omega
      · have := TL.numL_digits _ c h; omega
    · have := TL.numL_digits _ c hc; omega
  | .str s, h, c, hc => by
    rw [plainD] at h
    have h' : s.cps.toList.all signOk = true := h
    rw [List.all_eq_true] at h'
    rw [tx] at hc
    rcases List.mem_cons.mp hc with e | e
    · omega
    · rcases List.mem_append.mp e with e | e
      · rcases escL_mem e with e | e
        · omega
        · have h2 := h' c e
          have h3 : (decide (32 ≤ c) && decide (c ≤ 126)) = true := h2
          rw [Bool.and_eq_true] at h3
          exact of_decide_eq_true h3.2
      · have := List.mem_singleton.mp e; omega
  | .tup l, h, c, hc => by
    rw [plainD] at h
    rw [tx] at hc
    rcases List.mem_cons.mp hc with e | e
    · omega
    · rcases List.mem_append.mp e with e | e
      · exact txs_signs l h c e
      · have := List.mem_singleton.mp e; omega
  | .bl b, h, _, _ => by rw [plainD] at h; cases h
  | .oth, h, _, _ => by rw [plainD] at h; cases h
theorem txs_signs : ∀ (l : List Dt), plainDs l = true → ∀ c ∈ txs l, c ≤ 126
  | [], _, c, hc => by rw [txs] at hc; cases hc
  | d :: l, h, c, hc => by
    rw [plainDs, Bool.and_eq_true] at h
    rw [txs] at hc
    rcases List.mem_append.mp hc with e | e
    · exact tx_signs d h.1 c e
    · exact txr_signs l h.2 c e
theorem txr_signs : ∀ (l : List Dt), plainDs l = true → ∀ c ∈ txr l, c ≤ 126
  | [], _, c, hc => by rw [txr] at hc; cases hc
  | d :: l, h, c, hc => by
    rw [plainDs, Bool.and_eq_true] at h
    rw [txr] at hc
    rcases List.mem_cons.mp hc with e | e
    · omega
    · rcases List.mem_append.mp e with e | e
      · exact tx_signs d h.1 c e
      · exact txr_signs l h.2 c e
end
theorem tx_strOk {d : Dt} {z : Str} (h : plainD d = true) (e : z.cps.toList = tx d) : PyData.strOk z = true := by
  obtain ⟨⟨l⟩⟩ := z
  have e' : l = tx d := e
  show (l.toArray.all fun c => decide (c < 0x110000)) = true
  rw [List.all_toArray, List.all_eq_true]
  intro c hc
  have := tx_signs d h c (e' ▸ hc)
  exact decide_eq_true (by omega)
theorem shT2 {a b : Str} (h : PyData.strOk a = true) (h' : PyData.strOk b = true) : SeqAt.shaped (.tuple [.str a, .str b]) = true := by simp [SeqAt.shaped, PyData.canLay0, PyData.canLayAll0, PyData.depth, PyData.depthAll, h, h']
theorem shTN : SeqAt.shaped (.tuple [.str "none", .none]) = true := by decide +kernel
def spIsBack (K : PySem.W.Frag) : Sp := fun vs H Q _ => ∃ v d, (vs = [v] ∧ Rep K H v d ∧ okAt 1 d = true ∧ dsz d ≤ 100000) ∧ ∀ H', Ex [] H H' → Q (.bl true) H'
-- @SP _law_is_back (spIsBack K)
-- @SP _law_told (spTold K)
-- @SP _law_wrapped (spWrapped K)
-- @SP _law_text_of (spLText K 59)
section
variable {P : Program} {w : World} {K : PySem.W.Frag} {mg : Str → Option Value} {base : Heap} {A : Ad}
theorem ok_law_is_back {f : Addr} {fd : FuncData} (F : Fun K "_law_is_back" "_law_is_back" s_law_is_back f fd) (T : Txt K mg A) (C_thing_of : ClX P w K mg base 4 "thing_of" (spThingOf K A)) (C_law_text_of : Cl P w K mg base 61 "_law_text_of" (spLText K 59)) (C_law_told : Cl P w K mg base 5 "_law_told" (spTold K)) : FnG P w K mg base 62 f fd ["thing"] (spIsBack K) := by
  refine fnG_ok F sc_law_is_back (fun vs H Q E h => ?_) (fun cdv Ar outer s H vs Q E hgd hr h => ?_)
  · obtain ⟨v, d, ⟨rfl, _⟩, _⟩ := h
    rfl
  · obtain ⟨v, d, ⟨rfl, r, hok, hz⟩, k⟩ := h
    refine ⟨_, (pss_cons (ps_set (i := 1) sc_law_is_back.nd rfl (Or.inl rfl) (pe_cl C_law_text_of hr (by decide) (by rfl) (pa_cons (pv 0) pa_nil))) (pss_one (ps_ret (pe_and (pe_cmpR (oEqP (K := K) rfl hr.units) (pe_cl C_law_told hr (by decide) (by rfl) (pa_cons (pv 0) pa_nil)) (peTup (pa_cons pe_str (pa_cons (pv 1) pa_nil))) (nomark _)) (pe_one (pe_cmpR op_eq (pe_callB (cReprP (K := K) rfl hgd hr) (by rfl) T.b_repr bt_repr (pa_cons (pe_clX C_thing_of L2.takes0 hr (by decide) (by rfl) (pa_cons (pv 1) pa_nil)) pa_nil)) (pe_callB (cReprP (K := K) rfl hgd hr) (by rfl) T.b_repr bt_repr (pa_cons (pv 0) pa_nil)) (nomark _))))))), ?_⟩
    walk_at "nm"
    walk_at "rd"
    intro z H1 hz1 e1
    have hzl : z.length ≤ 100000 := by
      have := tx_len d
      rw [lenT, hz1]
      omega
    have r1 := e1.rep r
    have hp := okAt_plainD 1 d hok
    walk_at "rd"
    intro x H2 ht e2
    have ht' : ∃ z' : Str, z'.cps.toList = tx d ∧ Rep K H2 x (.tup [.str "text", .str z']) := by
      unfold told at ht
      rw [if_pos hok] at ht
      exact ht
    obtain ⟨z', hz', rx⟩ := ht'
    obtain rfl : z' = z := TL.ext_tl (by show z'.cps.toList = z.cps.toList; rw [hz', hz1])
    walk_at "rd"
    intro q H3 nq hq e3
    have rx3 := e3.rep rx
    have dx : Dp K H3 x (.tuple [.str "text", .str z']) := by
      cases rx3 with
      | tup a b =>
        cases b with
        | cons c b =>
          cases c
          cases b with
          | cons c b =>
            cases c
            cases b
            exact .tup a (.cons (.str _) (.cons (.str _) .nil))
    have dy : Dp K H3 (.ref q) (.tuple [.str "text", .str z']) := .tup (SqT.of hq) (.cons (.str _) (.cons (.str _) .nil))
    have sh := shT2 (a := "text") (b := z') (by decide +kernel) (tx_strOk hp hz')
    refine ⟨_, _, ⟨dx, dy, sh, sh⟩, ?_⟩
    rw [SeqAt.eqv_refl _ (SeqAt.canLay_of_shaped sh)]
    refine ⟨true, rfl, ?_⟩
    rw [if_pos rfl]
    have hth := thing_back hok hz'
    have hz9 : z'.length ≤ 900000 := by omega
    walk_at "rd"
    refine ⟨_, .str z', ⟨rfl, .str _ (by omega), fun s e => by cases e; exact hz9⟩, ?_⟩
    rw [hth]
    intro x1 H4 rx1 e4
    refine ⟨_, d, ⟨rfl, rx1, hok, by omega⟩, fun w1 hw1 => ?_⟩
    have r4 : Rep K H4 v d := e4.rep (e3.rep (e2.rep r1))
    refine ⟨_, rfl, ?_⟩
    refine ⟨_, d, ⟨rfl, r4, hok, by omega⟩, fun w2 hw2 => ?_⟩
    obtain rfl : w1 = w2 := TL.ext_tl (by show w1.cps.toList = w2.cps.toList; rw [hw1, hw2])
    walk_at "rd"
    show Q (.bl (decide (V.str w1 = V.str w1))) H4
    rw [decide_eq_true rfl]
    exact k _ (by walk_at "ex")
end
open PySem L2 CwR LamX



-- @SP is_integer (spIsInt K)
-- @SP is_plain_thing (spPlainT K)
-- @SP plain_text (spPT K A)
-- @SP pieces (spPieces K)
-- @SP text_of (spTextOf K A)
-- @SP raw_integer (spRawInt K)
-- @SP raw_string (spRawStr K)
-- @SP raw_plain (spRawPlain K)
-- @SP behind (spBehind K)
-- @SP raw_thing (spRawThing K)
-- @SP thing_of (spThingOf K A)
theorem okAt_nest : ∀ (n k : Nat) (d : Dt), okAt k (nest n d) = true → k + n ≤ 60
  | 0, k, d, h => Nat.le_of_not_lt fun z => by rw [nest, okAt_deep (by omega)] at h; cases h
  | n + 1, k, d, h => by
    rw [nest, okAt, Bool.and_eq_true, okAll, Bool.and_eq_true] at h
    have := okAt_nest n (k + 1) d h.2.1
    omega
theorem okAt_nest' : ∀ (n k : Nat) (d : Dt), k + n ≤ 60 → okAt (k + n) d = true → okAt k (nest n d) = true
  | 0, k, d, _, h => h
  | n + 1, k, d, hk, h => by
    rw [nest, okAt, Bool.and_eq_true, okAll, okAll, Bool.and_true]
    exact ⟨decide_eq_true (by omega), okAt_nest' n (k + 1) d (by omega) (by rw [show k + 1 + n = k + (n + 1) by omega]; exact h)⟩
theorem dsz_nest : ∀ (n : Nat) (d : Dt), dsz (nest n d) = dsz d + 5 * n
  | 0, d => rfl
  | n + 1, d => by
    rw [nest, dsz, dszs, dszs, dsz_nest n d]
    omega
/-- no text at any depth from 1 on -/
structure Bad (d : Dt) : Prop where
  no : ∀ k, 1 ≤ k → okAt k d = false
  sz : dsz d ≤ 1000
theorem bad_plain {d : Dt} (n : ∀ l, d ≠ .tup l) (h : plainT d = false) (hz : dsz d ≤ 1000) : Bad d := ⟨fun k _ => by
  by_cases c : k ≤ 60
  · rw [okAt_plain c n]; exact h
  · exact okAt_deep (by omega), hz⟩
theorem bad_nest : Bad (nest 60 (.tup [])) := ⟨fun k hk => by
  cases e : okAt k (nest 60 (.tup [])) with
  | false => rfl
  | true => have := okAt_nest _ _ _ e; omega, by rw [dsz_nest, dsz, dszs]; decide⟩
theorem bad_odd {d : Dt} (h : d ∈ [Dt.bl true, .bl false, .oth, .oth, .oth, .str "\n", .str "a\nb", nest 60 (.tup [])]) : Bad d := by
  simp only [List.mem_cons, List.not_mem_nil, or_false] at h
  rcases h with rfl | rfl | rfl | rfl | rfl | rfl | rfl | rfl
  · exact bad_plain (fun _ z => nomatch z) rfl (by decide)
  · exact bad_plain (fun _ z => nomatch z) rfl (by decide)
  · exact bad_plain (fun _ z => nomatch z) rfl (by decide)
  · exact bad_plain (fun _ z => nomatch z) rfl (by decide)
  · exact bad_plain (fun _ z => nomatch z) rfl (by decide)
  · exact bad_plain (fun _ z => nomatch z) (by decide +kernel) (by decide +kernel)
  · exact bad_plain (fun _ z => nomatch z) (by decide +kernel) (by decide +kernel)
  · exact bad_nest
theorem okAt_mem {k : Nat} {d : Dt} {l : List Dt} (hd : d ∈ l) (hk : 1 ≤ k) (b : okAt (k + 1) d = false) : okAt k (.tup l) = false := by
  by_cases c : k ≤ 60
  · rw [okAt_tup c]
    cases e : l.all (okAt (k + 1)) with
    | false => rfl
    | true =>
      rw [List.all_eq_true] at e
      rw [e d hd] at b
      cases b
  · exact okAt_deep (by omega)
theorem bad_wrap {d t x : Dt} (b : Bad d) (hx : x ∈ [d, .tup [d], .tup [t, d], .tup [.str "a", .tup [d, .int 1]]]) : okAt 1 x = false := by
  simp only [List.mem_cons, List.not_mem_nil, or_false] at hx
  rcases hx with rfl | rfl | rfl | rfl
  · exact b.no 1 (by decide)
  · exact okAt_mem (d := d) (by simp) (by decide) (b.no _ (by decide))
  · exact okAt_mem (d := d) (by simp) (by decide) (b.no _ (by decide))
  · exact okAt_mem (d := .tup [d, .int 1]) (by simp) (by decide) (okAt_mem (d := d) (by simp) (by decide) (b.no _ (by decide)))
theorem wrap_sz {d t x : Dt} (b : Bad d) (ht : dsz t ≤ 100000) (hx : x ∈ [d, .tup [d], .tup [t, d], .tup [.str "a", .tup [d, .int 1]]]) : dsz x ≤ 400000 := by
  have h1 := b.sz
  have h2 : ("a" : Str).length = 1 := by decide +kernel
  have h3 : (intL 1).length = 1 := by decide +kernel
  simp only [List.mem_cons, List.not_mem_nil, or_false] at hx
  rcases hx with rfl | rfl | rfl | rfl
  · omega
  · simp only [dsz, dszs] at *; omega
  · rw [dsz, dszs, dszs, dszs]; omega
  · simp only [dsz, dszs, h2, h3]; omega
def spLaw (K : PySem.W.Frag) : Sp := fun vs H Q _ => ∃ (a : Addr) (ns : List Int), (vs = [.ref a] ∧ SqL K H a (ns.map V.int) ∧ ns.length ≤ 63) ∧ ∀ H', Q (.bl true) H'
-- @SP _law_is_back (spIsBack K)
-- @SP _law_told (spTold K)
-- @SP _law_wrapped (spWrapped K)
-- @SP _law_text_of (spLText K 59)
-- @SP _law_thing (spThing K 5)
-- @SP _law_flow (spFlow K)
-- @SP _law_draw spFDraw
-- @SP _law_some spFSome
section
variable {P : Program} {w : World} {K : PySem.W.Frag} {mg : Str → Option Value} {base : Heap} {A : Ad}
theorem ok_law {f : Addr} {fd : FuncData} (F : Fun K "law" "law" s_law f fd) (T : Txt K mg A) (C_text_of : ClX P w K mg base 4 "text_of" (spTextOf K A)) (C_law_flow : Cl P w K mg base 1 "_law_flow" (spFlow K)) (C_law_draw : Cl P w K mg base 1 "_law_draw" spFDraw) (C_law_some : Cl P w K mg base 2 "_law_some" spFSome) (C_law_thing : Cl P w K mg base 8 "_law_thing" (spThing K 5)) (C_law_told : Cl P w K mg base 5 "_law_told" (spTold K)) (C_law_wrapped : Cl P w K mg base 1 "_law_wrapped" (spWrapped K)) (C_law_is_back : ClG P w K mg base 62 "_law_is_back" (spIsBack K)) (bd : ∀ (s : Shared) (u : Value), BindsTo s fd ⟨[u], []⟩ [("script", u)]) : RunG P w K mg base f (spLaw K) := by
  refine claim_run (k := 70) F sc_law ⟨rfl, by decide, by decide⟩ bd fun cdv s H v Q E hr h => ?_
  have hgd : callerA.guards = some [] := rfl
  obtain ⟨a, ns, ⟨hv, ha, hn⟩, k⟩ := h
  obtain rfl : v = .ref a := by simpa using hv
  refine ⟨_, (pss_cons (ps_set (i := 1) sc_law.nd rfl (Or.inl rfl) (pe_cl C_law_flow hr (by decide) (by rfl) (pa_cons (pv 0) pa_nil))) (pss_cons (ps_set (i := 2) sc_law.nd rfl (Or.inl rfl) (peLst pa_nil)) (pss_cons (ps_for PassesOwn.never rfl (pi_range1 (by rfl) T.b_range (pa_cons pe_int pa_nil)) (pg_name (i := 3) sc_law.nd rfl (Or.inl rfl)) (pss_cons (ps_set (i := 4) sc_law.nd rfl (Or.inl rfl) (pe_cl C_law_thing hr (by decide) (by rfl) (pa_cons (pv 1) (pa_cons pe_int pa_nil)))) (pss_cons (ps_if (pt_not (pt_val (pe_clG C_law_is_back hgd hr (by decide) (by rfl) (pa_cons (pv 4) pa_nil)))) (pss_one (ps_ret pe_bl)) pss_nil) (pss_cons (ps_for PassesOwn.never rfl (pi_list (pv 2)) (pg_name (i := 5) sc_law.nd rfl (Or.inl rfl)) (pss_one (ps_if (pt_cmpR op_ne (pe_cmpR op_eq (pe_callB (cReprP (K := K) rfl hgd hr) (by rfl) T.b_repr bt_repr (pa_cons (pv 5) pa_nil)) (pe_callB (cReprP (K := K) rfl hgd hr) (by rfl) T.b_repr bt_repr (pa_cons (pv 4) pa_nil)) (nomark _)) (pe_cmpR op_eq (pe_clX C_text_of L2.takes0 hr (by decide) (by rfl) (pa_cons (pv 5) pa_nil)) (pe_clX C_text_of L2.takes0 hr (by decide) (by rfl) (pa_cons (pv 4) pa_nil)) (nomark _)) (nomark _)) (pss_one (ps_ret pe_bl)) pss_nil))) (pss_cons (ps_expr (pe_bm PySem.F.plainAttrs_list PySem.F.slot_list_append PySem.F.type_list_append mAppend (pv 2) (pa_cons (pv 4) pa_nil))) (pss_cons (ps_set (i := 6) sc_law.nd rfl (Or.inl rfl) (peLst (pa_cons pe_bl (pa_cons pe_bl (pa_cons (peLst pa_nil) (pa_cons peDict0 (pa_cons (peLst (pa_cons pe_int pa_nil)) (pa_cons pe_str (pa_cons pe_str (pa_cons (pe_cl C_law_wrapped hr (by decide) (by rfl) (pa_cons (peTup pa_nil) (pa_cons pe_int pa_nil))) pa_nil)))))))))) (pss_cons (ps_set (i := 7) sc_law.nd rfl (Or.inl rfl) (pe_cl C_law_some hr (by decide) (by rfl) (pa_cons (pv 1) (pa_cons (pv 6) pa_nil)))) (pss_cons (ps_set (i := 8) sc_law.nd rfl (Or.inl rfl) (pe_cl C_law_some hr (by decide) (by rfl) (pa_cons (pv 1) (pa_cons (peLst (pa_cons (pv 7) (pa_cons (peTup (pa_cons (pv 7) pa_nil)) (pa_cons (peTup (pa_cons (pv 4) (pa_cons (pv 7) pa_nil))) (pa_cons (peTup (pa_cons pe_str (pa_cons (peTup (pa_cons (pv 7) (pa_cons pe_int pa_nil))) pa_nil))) pa_nil))))) pa_nil)))) (pss_one (ps_if (pt_cmpR (oNeP (K := K) rfl hr.units) (pe_cl C_law_told hr (by decide) (by rfl) (pa_cons (pv 8) pa_nil)) (peTup (pa_cons pe_str (pa_cons pe_non pa_nil))) (nomark _)) (pss_one (ps_ret pe_bl)) pss_nil)))))))))) (pss_cons (ps_if (pt_cmpR op_eq (pe_cl C_law_draw hr (by decide) (by rfl) (pa_cons (pv 1) (pa_cons pe_int pa_nil))) pe_int (nomark _)) (pss_one (ps_ret (pe_and (pe_clG C_law_is_back hgd hr (by decide) (by rfl) (pa_cons (pe_cl C_law_wrapped hr (by decide) (by rfl) (pa_cons (pe_cl C_law_some hr (by decide) (by rfl) (pa_cons (pv 1) (pa_cons (peLst (pa_cons pe_int (pa_cons pe_str (pa_cons pe_non pa_nil)))) pa_nil))) (pa_cons pe_int pa_nil))) pa_nil)) (pe_one (pe_clG C_law_is_back hgd hr (by decide) (by rfl) (pa_cons (pe_cl C_law_wrapped hr (by decide) (by rfl) (pa_cons (peTup pa_nil) (pa_cons pe_int pa_nil))) pa_nil)))))) pss_nil) (pss_one (ps_ret pe_bl)))))), ?_⟩
  walk_at "nm"
  walk_at "rd"
  intro p c H1 hp e1 np nc
  walk_at "rd"
  intro S H2 nS hS e2
  have nSp : S ≠ p := hp.ne nS
  have nSc : S ≠ c := hp.nec nS
  have hp2 := hp.ex0 e2
  walk_at "rd"
  refine for_it (walk_range (lo := 0) (n := Int.toNat 8)) (fun i σ H' => ∃ o3 o4 o5 o6 o7 o8 xs l, σ = [some (.ref a), some (.ref p), some (.ref S), o3, o4, o5, o6, o7, o8] ∧ FlowAt H' p c ∧ H' S = some (.lst xs) ∧ RepL K H' xs l ∧ (∀ d ∈ l, Good 5 d) ∧ l.length ≤ i)
    ⟨none, none, none, none, none, none, [], [], rfl, hp2, hS, .nil, (fun _ h => nomatch h), Nat.le_refl _⟩ (fun _ _ _ _ _ => trivial) ?_ ?_
  · clear hp hp2 hS e1 e2 np nc nS ha
    rintro i y σ H6 H6' hi ⟨o3, o4, o5, o6, o7, o8, xs, l, rfl, hp, hS, hx, hg, hl⟩ ⟨rfl, rfl⟩
    walk_at "rd"
    intro x d H7 rx gx hp7 e7
    have hS7 := e7.get hS ⟨nSp, trivial⟩
    have hx7 := e7.repL hx
    have ok1 := gx.ok 1 (by decide)
    have sz1 : dsz d ≤ 100000 := Nat.le_trans gx.sz (by decide +kernel)
    clear hp hS hx e7
    walk_at "rd"
    intro H8 e8
    have hp8 := hp7.ex0 e8
    have hS8 := e8.get0 hS7
    have hx8 := e8.repL hx7
    have r8 := e8.rep rx
    clear hp7 hS7 hx7 rx e8
    walk_at "rd"
    refine for_it (walk_list (xs := xs)) (fun j σ H' => ∃ o5, σ = [some (.ref a), some (.ref p), some (.ref S), some (.int (0 + (i : Int))), some x, o5, o6, o7, o8] ∧ Ex [] H8 H') ⟨_, rfl, Ex.refl _ _⟩ (fun i σ H _ ⟨o5, _, e⟩ => SqL.of (e.get0 hS8)) ?_ ?_
    · rintro j y σ H9 H9' hj ⟨o5, rfl, e9⟩ ⟨rfl, hy⟩
      obtain ⟨dy, hdy, ry⟩ := hx8.get hy
      have gy := hg dy (List.mem_of_getElem? hdy)
      have ry9 := e9.rep ry
      have rx9 := e9.rep r8
      have ok2 := gy.ok 1 (by decide)
      have sz2 : dsz dy ≤ 100000 := Nat.le_trans gy.sz (by decide +kernel)
      walk_at "rd"
      intro w1 hw1
      walk_at "rd"
      intro w2 hw2
      walk_at "rd"
      rw [if_pos ok2]
      intro z1 H10 hz1 e10
      have rx10 := e10.rep rx9
      walk_at "rd"
      rw [if_pos ok1]
      intro z2 H11 hz2 e11
      have heq : decide (V.str w1 = V.str w2) = decide (V.str z1 = V.str z2) := by
        by_cases c : w1 = w2
        · have e1 : dy = d := shL_inj gy.pl gx.pl (by rw [← hw1, ← hw2, c])
          subst e1
          have e2 : z1 = z2 := TL.ext_tl (by show z1.cps.toList = z2.cps.toList; rw [hz1, hz2])
          rw [c, e2, decide_eq_true rfl, decide_eq_true rfl]
        · have e2 : ¬ z1 = z2 := fun z => c (TL.ext_tl (by
            have e1 := tx_inj ok2 ok1 (by rw [← hz1, ← hz2, z])
            subst e1
            show w1.cps.toList = w2.cps.toList
            rw [hw1, hw2]))
          rw [decide_eq_false (fun z => c (by simpa using z)), decide_eq_false (fun z => e2 (by simpa using z))]
      have hb : ∀ b : Bool, (!decide (V.bl b = V.bl b)) = false := fun b => by cases b <;> rfl
      rw [heq]
      walk_at "rd"
      rw [hb]
      walk_at "rd"
      walk_at "ex"
    · rintro σ H9 ⟨o5, rfl, e9⟩
      have hp9 := hp8.ex0 e9
      have hS9 := e9.get0 hS8
      have hx9 := e9.repL hx8
      have r9 := e9.rep r8
      have hlen := hx9.length
      have hxz : xs.length < sizeLine := by show _ < 16777216; have : i < 8 := hi; omega
      clear hp8 hS8 hx8 r8 e9
      walk_at "rd"
      intro H10 hS10 e10
      have hp10 := hp9.ex e10 ⟨nSp.symm, trivial⟩ ⟨nSc.symm, trivial⟩
      have hx10 := (e10.repL hx9).append (.cons (e10.rep r9) .nil)
      have r10 := e10.rep r9
      clear hp9 hS9 hx9 r9 e10
      walk_at "rdi"
      rename_i q1 A1 n1 h1 f1 q2 A2 n2 h2 f2 q3 A3 n3 h3 f3 q4 A4 n4 h4 f4 xw A5 rw5 f5 q6 A6 n6 h6 f6 xb A7 hb7 p7 f7 q8 A8 n8 h8 f8 q9 A9 n9 h9 f9 qa Aa na ha fa' qb Ab nb hb fb qc Ac nc' hc fc xz Az hz pz fz
      obtain ⟨db, hdb, rb⟩ := RepL.memOf (K := K) (H := A7) (l := [.bl true, .bl false, .oth, .oth, .oth, .str "\n", .str "a\nb", nest 60 (.tup [])]) hb7 (by walk_at "repl")
      have bad := bad_odd hdb
      obtain ⟨dz, hdz, rz⟩ := RepL.memOf (K := K) (H := Az) (l := [db, .tup [db], .tup [d, db], .tup [.str "a", .tup [db, .int 1]]]) hz (by walk_at "repl")
      have nz := bad_wrap bad hdz
      have sz := wrap_sz bad sz1 hdz
      have eAll : Ex [p] H10 Az := by walk_at "ex"
      have hSz := eAll.get hS10 ⟨nSp, trivial⟩
      have hxz2 := eAll.repL hx10
      clear hS10 hx10 hp10 r10 n1 h1 f1 n2 h2 f2 n3 h3 f3 n4 h4 f4 rw5 f5 n6 h6 f6 hb7 p7 f7 n8 h8 f8 n9 h9 f9 na ha fa' nb hb fb nc' hc fc hz fz rb eAll
      walk_at "rd"
      intro xt Ht ht et
      have ht' : Rep K Ht xt (.tup [.str "none", .non]) := by
        unfold told at ht
        rw [if_neg (by rw [nz]; decide)] at ht
        exact ht
      clear ht rz
      walk_at "rd"
      intro qn Hn nn hn' en
      have rx3 := en.rep ht'
      have dx : Dp K Hn xt (.tuple [.str "none", .none]) := by
        cases rx3 with
        | tup a b =>
          cases b with
          | cons c b =>
            cases c
            cases b with
            | cons c b =>
              cases c
              cases b
              exact .tup a (.cons (.str _) (.cons .non .nil))
      have dy : Dp K Hn (.ref qn) (.tuple [.str "none", .none]) := .tup (SqT.of hn') (.cons (.str _) (.cons .non .nil))
      refine ⟨_, _, ⟨dx, dy, shTN, shTN⟩, ?_⟩
      rw [SeqAt.eqv_refl _ (SeqAt.canLay_of_shaped shTN)]
      walk_at "rd"
      exact ⟨(fun e he => (List.mem_append.mp he).elim (hg e) fun z => (List.mem_singleton.mp z) ▸ gx), by rw [List.length_append, List.length_singleton]; omega⟩
  · rintro σ H6 ⟨o3, o4, o5, o6, o7, o8, xs, l, rfl, hp, hS, hx, hg, hl⟩
    walk_at "rd"
    intro r H7 r0 r1 hp7 e7
    walk_at "rd"
    refine @ite2 _ _ _ _ (fun c1 => ?_) (fun c1 => ?_)
    · walk_at "rd"
      intro q H8 nq hq e8
      have hp8 := hp7.ex0 e8
      have nqp : q ≠ p := hp7.ne nq
      clear hp7 hp
      walk_at "rd"
      intro x9 H9 hx9 hp9 e9
      obtain ⟨d9, hd9, r9⟩ := RepL.memOf (K := K) (H := H9) (l := [.int 7, .str "a", .non]) hx9 (by walk_at "repl")
      obtain ⟨ok9, sz9⟩ : okAt 1 (nest 59 d9) = true ∧ dsz (nest 59 d9) ≤ 100000 := by
        simp only [List.mem_cons, List.not_mem_nil, or_false] at hd9
        refine ⟨okAt_nest' 59 1 _ (by decide) ?_, ?_⟩
        · rcases hd9 with rfl | rfl | rfl <;> decide +kernel
        · rw [dsz_nest]
          rcases hd9 with rfl | rfl | rfl <;> decide +kernel
      walk_at "rd"
      intro x10 H10 r10 e10
      have r10' : Rep K H10 x10 (nest 59 d9) := r10
      clear r10
      generalize nest 59 d9 = dd at r10' ok9 sz9
      walk_at "rd"
      intro H11 e11
      clear r10' ok9 sz9 r9 hx9 hq hx hS
      walk_at "rd"
      intro q2 H12 nq2 hq2 e12
      have rq : Rep K H12 (.ref q2) (.tup []) := .tup (SqT.of hq2) .nil
      have ok12 : okAt 1 (nest 59 (.tup [])) = true := okAt_nest' 59 1 _ (by decide) (by decide +kernel)
      have sz12 : dsz (nest 59 (.tup [])) ≤ 100000 := by rw [dsz_nest]; decide +kernel
      walk_at "rd"
      intro x13 H13 r13 e13
      have r13' : Rep K H13 x13 (nest 59 (.tup [])) := r13
      clear r13
      generalize nest 59 (.tup []) = dd2 at r13' ok12 sz12
      walk_at "rd"
      intro H14 e14
      exact k _
    · walk_at "rd"
      exact k _
end
theorem all_mk {l : PySem.W.OpenLaw} {w : World} {K : PySem.W.Frag} {h : Heap} {mg : Str → Option Value} {fa : Addr} (X : K.In h) (G : h.Ns mainGlobals mg) (hfa : mg "law" = some (.ref fa))
    {C_NoText C_NoThing : Addr}
    {od0 an0 od1 an1 od2 an2 od3 an3 od4 an4 od5 an5 od6 an6 od7 an7 od8 an8 od9 an9 od10 an10 od11 an11 od12 an12 od13 an13 od14 an14 od15 an15 od16 an16 od17 an17 od18 an18 od19 an19 od20 an20 od21 an21 : Option Addr}
    {sl0 sl1 sl2 sl3 sl4 sl5 sl6 sl7 sl8 sl9 sl10 sl11 sl12 sl13 sl14 sl15 sl16 sl17 sl18 sl19 sl20 sl21 : Array (Option Value)}
    {oc0 kV0 dc0 pm0 cd0 cv0 oc1 kV1 dc1 pm1 cd1 cv1 oc2 kV2 dc2 pm2 cd2 cv2 oc3 kV3 dc3 pm3 cd3 cv3 oc4 kV4 dc4 pm4 cd4 cv4 oc5 kV5 dc5 pm5 cd5 cv5 oc6 kV6 dc6 pm6 cd6 cv6 oc7 kV7 dc7 pm7 cd7 cv7 oc8 kV8 dc8 pm8 cd8 cv8 oc9 kV9 dc9 pm9 cd9 cv9 oc10 kV10 dc10 pm10 cd10 cv10 oc11 kV11 dc11 pm11 cd11 cv11 oc12 kV12 dc12 pm12 cd12 cv12 oc13 kV13 dc13 pm13 cd13 cv13 oc14 kV14 dc14 pm14 cd14 cv14 oc15 kV15 dc15 pm15 cd15 cv15 oc16 kV16 dc16 pm16 cd16 cv16 oc17 kV17 dc17 pm17 cd17 cv17 oc18 kV18 dc18 pm18 cd18 cv18 oc19 kV19 dc19 pm19 cd19 cv19 oc20 kV20 dc20 pm20 cd20 cv20 oc21 kV21 dc21 pm21 cd21 cv21 : Value}
    {f0 f1 f2 f3 f4 f5 f6 f7 f8 f9 f10 f11 f12 f13 f14 f15 f16 f17 f18 f19 f20 f21 : Addr}
    {tk_BEYOND tk_MOST_DEEP tk_MOST_FIGURES : Tok}
    (g_NoText : PySem.W.nsIn K mainGlobals "NoText" = some (some (.ref C_NoText)))
    (g_NoThing : PySem.W.nsIn K mainGlobals "NoThing" = some (some (.ref C_NoThing)))
    (eq_NoText : PySem.W.excIn K C_NoText excBm "ValueError.__new__" = true)
    (ek_NoText : PySem.W.keepIn K (.ref C_NoText) = true)
    (eb_NoText : PySem.W.subIn K (.ref C_NoText) (.type "BaseException") = some true)
    (et_NoText : PySem.W.typeIn K (.ref C_NoText) = some (.type "type"))
    (eq_NoThing : PySem.W.excIn K C_NoThing excBm "ValueError.__new__" = true)
    (ek_NoThing : PySem.W.keepIn K (.ref C_NoThing) = true)
    (eb_NoThing : PySem.W.subIn K (.ref C_NoThing) (.type "BaseException") = some true)
    (et_NoThing : PySem.W.typeIn K (.ref C_NoThing) = some (.type "type"))
    (x_NoText_NoText : PySem.W.exmOne K (.ref C_NoText) (.ref C_NoText) = some true)
    (x_NoText_NoThing : PySem.W.exmOne K (.ref C_NoText) (.ref C_NoThing) = some false)
    (x_NoThing_NoText : PySem.W.exmOne K (.ref C_NoThing) (.ref C_NoText) = some false)
    (x_NoThing_NoThing : PySem.W.exmOne K (.ref C_NoThing) (.ref C_NoThing) = some true)
    (a0 : PySem.W.nsIn K mainGlobals "is_integer" = some (some (.ref f0)))
    (l0 : K.lookup f0 = some ⟨oc0, od0, .func (PySem.W.fnOf "is_integer" "is_integer" (defArgs s_is_integer) (defBody s_is_integer) (defScope s_is_integer) .none kV0 dc0 pm0 an0 cd0 cv0), sl0⟩)
    (c0 : PySem.W.codeIn K cd0 "is_integer" = true)
    (k0 : PySem.W.keepIn K (.ref f0) = true)
    (a1 : PySem.W.nsIn K mainGlobals "is_plain_thing" = some (some (.ref f1)))
    (l1 : K.lookup f1 = some ⟨oc1, od1, .func (PySem.W.fnOf "is_plain_thing" "is_plain_thing" (defArgs s_is_plain_thing) (defBody s_is_plain_thing) (defScope s_is_plain_thing) .none kV1 dc1 pm1 an1 cd1 cv1), sl1⟩)
    (c1 : PySem.W.codeIn K cd1 "is_plain_thing" = true)
    (k1 : PySem.W.keepIn K (.ref f1) = true)
    (a2 : PySem.W.nsIn K mainGlobals "plain_text" = some (some (.ref f2)))
    (l2 : K.lookup f2 = some ⟨oc2, od2, .func (PySem.W.fnOf "plain_text" "plain_text" (defArgs s_plain_text) (defBody s_plain_text) (defScope s_plain_text) .none kV2 dc2 pm2 an2 cd2 cv2), sl2⟩)
    (c2 : PySem.W.codeIn K cd2 "plain_text" = true)
    (k2 : PySem.W.keepIn K (.ref f2) = true)
    (a3 : PySem.W.nsIn K mainGlobals "pieces" = some (some (.ref f3)))
    (l3 : K.lookup f3 = some ⟨oc3, od3, .func (PySem.W.fnOf "pieces" "pieces" (defArgs s_pieces) (defBody s_pieces) (defScope s_pieces) .none kV3 dc3 pm3 an3 cd3 cv3), sl3⟩)
    (c3 : PySem.W.codeIn K cd3 "pieces" = true)
    (k3 : PySem.W.keepIn K (.ref f3) = true)
    (a4 : PySem.W.nsIn K mainGlobals "text_of" = some (some (.ref f4)))
    (l4 : K.lookup f4 = some ⟨oc4, od4, .func (PySem.W.fnOf "text_of" "text_of" (defArgs s_text_of) (defBody s_text_of) (defScope s_text_of) .none kV4 dc4 pm4 an4 cd4 cv4), sl4⟩)
    (c4 : PySem.W.codeIn K cd4 "text_of" = true)
    (k4 : PySem.W.keepIn K (.ref f4) = true)
    (a5 : PySem.W.nsIn K mainGlobals "raw_integer" = some (some (.ref f5)))
    (l5 : K.lookup f5 = some ⟨oc5, od5, .func (PySem.W.fnOf "raw_integer" "raw_integer" (defArgs s_raw_integer) (defBody s_raw_integer) (defScope s_raw_integer) .none kV5 dc5 pm5 an5 cd5 cv5), sl5⟩)
    (c5 : PySem.W.codeIn K cd5 "raw_integer" = true)
    (k5 : PySem.W.keepIn K (.ref f5) = true)
    (a6 : PySem.W.nsIn K mainGlobals "raw_string" = some (some (.ref f6)))
    (l6 : K.lookup f6 = some ⟨oc6, od6, .func (PySem.W.fnOf "raw_string" "raw_string" (defArgs s_raw_string) (defBody s_raw_string) (defScope s_raw_string) .none kV6 dc6 pm6 an6 cd6 cv6), sl6⟩)
    (c6 : PySem.W.codeIn K cd6 "raw_string" = true)
    (k6 : PySem.W.keepIn K (.ref f6) = true)
    (a7 : PySem.W.nsIn K mainGlobals "raw_plain" = some (some (.ref f7)))
    (l7 : K.lookup f7 = some ⟨oc7, od7, .func (PySem.W.fnOf "raw_plain" "raw_plain" (defArgs s_raw_plain) (defBody s_raw_plain) (defScope s_raw_plain) .none kV7 dc7 pm7 an7 cd7 cv7), sl7⟩)
    (c7 : PySem.W.codeIn K cd7 "raw_plain" = true)
    (k7 : PySem.W.keepIn K (.ref f7) = true)
    (a8 : PySem.W.nsIn K mainGlobals "behind" = some (some (.ref f8)))
    (l8 : K.lookup f8 = some ⟨oc8, od8, .func (PySem.W.fnOf "behind" "behind" (defArgs s_behind) (defBody s_behind) (defScope s_behind) .none kV8 dc8 pm8 an8 cd8 cv8), sl8⟩)
    (c8 : PySem.W.codeIn K cd8 "behind" = true)
    (k8 : PySem.W.keepIn K (.ref f8) = true)
    (a9 : PySem.W.nsIn K mainGlobals "raw_thing" = some (some (.ref f9)))
    (l9 : K.lookup f9 = some ⟨oc9, od9, .func (PySem.W.fnOf "raw_thing" "raw_thing" (defArgs s_raw_thing) (defBody s_raw_thing) (defScope s_raw_thing) .none kV9 dc9 pm9 an9 cd9 cv9), sl9⟩)
    (c9 : PySem.W.codeIn K cd9 "raw_thing" = true)
    (k9 : PySem.W.keepIn K (.ref f9) = true)
    (a10 : PySem.W.nsIn K mainGlobals "thing_of" = some (some (.ref f10)))
    (l10 : K.lookup f10 = some ⟨oc10, od10, .func (PySem.W.fnOf "thing_of" "thing_of" (defArgs s_thing_of) (defBody s_thing_of) (defScope s_thing_of) .none kV10 dc10 pm10 an10 cd10 cv10), sl10⟩)
    (c10 : PySem.W.codeIn K cd10 "thing_of" = true)
    (k10 : PySem.W.keepIn K (.ref f10) = true)
    (a11 : PySem.W.nsIn K mainGlobals "_law_flow" = some (some (.ref f11)))
    (l11 : K.lookup f11 = some ⟨oc11, od11, .func (PySem.W.fnOf "_law_flow" "_law_flow" (defArgs s_law_flow) (defBody s_law_flow) (defScope s_law_flow) .none kV11 dc11 pm11 an11 cd11 cv11), sl11⟩)
    (c11 : PySem.W.codeIn K cd11 "_law_flow" = true)
    (k11 : PySem.W.keepIn K (.ref f11) = true)
    (a12 : PySem.W.nsIn K mainGlobals "_law_draw" = some (some (.ref f12)))
    (l12 : K.lookup f12 = some ⟨oc12, od12, .func (PySem.W.fnOf "_law_draw" "_law_draw" (defArgs s_law_draw) (defBody s_law_draw) (defScope s_law_draw) .none kV12 dc12 pm12 an12 cd12 cv12), sl12⟩)
    (c12 : PySem.W.codeIn K cd12 "_law_draw" = true)
    (k12 : PySem.W.keepIn K (.ref f12) = true)
    (a13 : PySem.W.nsIn K mainGlobals "_law_some" = some (some (.ref f13)))
    (l13 : K.lookup f13 = some ⟨oc13, od13, .func (PySem.W.fnOf "_law_some" "_law_some" (defArgs s_law_some) (defBody s_law_some) (defScope s_law_some) .none kV13 dc13 pm13 an13 cd13 cv13), sl13⟩)
    (c13 : PySem.W.codeIn K cd13 "_law_some" = true)
    (k13 : PySem.W.keepIn K (.ref f13) = true)
    (a14 : PySem.W.nsIn K mainGlobals "_law_word_of" = some (some (.ref f14)))
    (l14 : K.lookup f14 = some ⟨oc14, od14, .func (PySem.W.fnOf "_law_word_of" "_law_word_of" (defArgs s_law_word_of) (defBody s_law_word_of) (defScope s_law_word_of) .none kV14 dc14 pm14 an14 cd14 cv14), sl14⟩)
    (c14 : PySem.W.codeIn K cd14 "_law_word_of" = true)
    (k14 : PySem.W.keepIn K (.ref f14) = true)
    (a15 : PySem.W.nsIn K mainGlobals "_law_thing" = some (some (.ref f15)))
    (l15 : K.lookup f15 = some ⟨oc15, od15, .func (PySem.W.fnOf "_law_thing" "_law_thing" (defArgs s_law_thing) (defBody s_law_thing) (defScope s_law_thing) .none kV15 dc15 pm15 an15 cd15 cv15), sl15⟩)
    (c15 : PySem.W.codeIn K cd15 "_law_thing" = true)
    (k15 : PySem.W.keepIn K (.ref f15) = true)
    (a16 : PySem.W.nsIn K mainGlobals "_law_text_of" = some (some (.ref f16)))
    (l16 : K.lookup f16 = some ⟨oc16, od16, .func (PySem.W.fnOf "_law_text_of" "_law_text_of" (defArgs s_law_text_of) (defBody s_law_text_of) (defScope s_law_text_of) .none kV16 dc16 pm16 an16 cd16 cv16), sl16⟩)
    (c16 : PySem.W.codeIn K cd16 "_law_text_of" = true)
    (k16 : PySem.W.keepIn K (.ref f16) = true)
    (a17 : PySem.W.nsIn K mainGlobals "_law_figures" = some (some (.ref f17)))
    (l17 : K.lookup f17 = some ⟨oc17, od17, .func (PySem.W.fnOf "_law_figures" "_law_figures" (defArgs s_law_figures) (defBody s_law_figures) (defScope s_law_figures) .none kV17 dc17 pm17 an17 cd17 cv17), sl17⟩)
    (c17 : PySem.W.codeIn K cd17 "_law_figures" = true)
    (k17 : PySem.W.keepIn K (.ref f17) = true)
    (a18 : PySem.W.nsIn K mainGlobals "_law_told" = some (some (.ref f18)))
    (l18 : K.lookup f18 = some ⟨oc18, od18, .func (PySem.W.fnOf "_law_told" "_law_told" (defArgs s_law_told) (defBody s_law_told) (defScope s_law_told) .none kV18 dc18 pm18 an18 cd18 cv18), sl18⟩)
    (c18 : PySem.W.codeIn K cd18 "_law_told" = true)
    (k18 : PySem.W.keepIn K (.ref f18) = true)
    (a19 : PySem.W.nsIn K mainGlobals "_law_wrapped" = some (some (.ref f19)))
    (l19 : K.lookup f19 = some ⟨oc19, od19, .func (PySem.W.fnOf "_law_wrapped" "_law_wrapped" (defArgs s_law_wrapped) (defBody s_law_wrapped) (defScope s_law_wrapped) .none kV19 dc19 pm19 an19 cd19 cv19), sl19⟩)
    (c19 : PySem.W.codeIn K cd19 "_law_wrapped" = true)
    (k19 : PySem.W.keepIn K (.ref f19) = true)
    (a20 : PySem.W.nsIn K mainGlobals "_law_is_back" = some (some (.ref f20)))
    (l20 : K.lookup f20 = some ⟨oc20, od20, .func (PySem.W.fnOf "_law_is_back" "_law_is_back" (defArgs s_law_is_back) (defBody s_law_is_back) (defScope s_law_is_back) .none kV20 dc20 pm20 an20 cd20 cv20), sl20⟩)
    (c20 : PySem.W.codeIn K cd20 "_law_is_back" = true)
    (k20 : PySem.W.keepIn K (.ref f20) = true)
    (a21 : PySem.W.nsIn K mainGlobals "law" = some (some (.ref f21)))
    (l21 : K.lookup f21 = some ⟨oc21, od21, .func (PySem.W.fnOf "law" "law" (defArgs s_law) (defBody s_law) (defScope s_law) .none kV21 dc21 pm21 an21 cd21 cv21), sl21⟩)
    (c21 : PySem.W.codeIn K cd21 "law" = true)
    (k21 : PySem.W.keepIn K (.ref f21) = true)
    (zb_abs : PySem.W.nsIn K mainGlobals "abs" = some none)
    (zb_all : PySem.W.nsIn K mainGlobals "all" = some none)
    (zb_bool : PySem.W.nsIn K mainGlobals "bool" = some none)
    (zb_int : PySem.W.nsIn K mainGlobals "int" = some none)
    (zb_isinstance : PySem.W.nsIn K mainGlobals "isinstance" = some none)
    (zb_len : PySem.W.nsIn K mainGlobals "len" = some none)
    (zb_list : PySem.W.nsIn K mainGlobals "list" = some none)
    (zb_range : PySem.W.nsIn K mainGlobals "range" = some none)
    (zb_repr : PySem.W.nsIn K mainGlobals "repr" = some none)
    (zb_str : PySem.W.nsIn K mainGlobals "str" = some none)
    (zb_tuple : PySem.W.nsIn K mainGlobals "tuple" = some none)
    (zc_BEYOND : PySem.W.nsIn K mainGlobals "BEYOND" = some (some (.int 10000000000000000000000000000000000000000 tk_BEYOND)))
    (zc_MOST_DEEP : PySem.W.nsIn K mainGlobals "MOST_DEEP" = some (some (.int 60 tk_MOST_DEEP)))
    (zc_MOST_FIGURES : PySem.W.nsIn K mainGlobals "MOST_FIGURES" = some (some (.int 40 tk_MOST_FIGURES)))
    : ∀ base : Heap, K.In base → base.Ns mainGlobals mg → RunG l.prog w K mg base fa (spLaw K) := by
  have e := hfa.symm.trans (PySem.W.mg_of X G a21)
  cases e
  have T : Txt K mg ⟨C_NoText, C_NoThing⟩ := ⟨⟨PySem.W.mg_of X G g_NoText, eq_NoText, ek_NoText, eb_NoText, et_NoText⟩, ⟨PySem.W.mg_of X G g_NoThing, eq_NoThing, ek_NoThing, eb_NoThing, et_NoThing⟩, x_NoText_NoText, x_NoText_NoThing, x_NoThing_NoText, x_NoThing_NoThing, PySem.W.mg_none_of X G zb_abs, PySem.W.mg_none_of X G zb_all, PySem.W.mg_none_of X G zb_bool, PySem.W.mg_none_of X G zb_int, PySem.W.mg_none_of X G zb_isinstance, PySem.W.mg_none_of X G zb_len, PySem.W.mg_none_of X G zb_list, PySem.W.mg_none_of X G zb_range, PySem.W.mg_none_of X G zb_repr, PySem.W.mg_none_of X G zb_str, PySem.W.mg_none_of X G zb_tuple, ⟨_, PySem.W.mg_of X G zc_BEYOND, _, rfl⟩, ⟨_, PySem.W.mg_of X G zc_MOST_DEEP, _, rfl⟩, ⟨_, PySem.W.mg_of X G zc_MOST_FIGURES, _, rfl⟩⟩
  intro base _ _
  have F0 := fun_mk (st := s_is_integer) l0 c0 k0
  have b0 := F0.binds (ps := ["thing"]) fun _ _ _ _ _ _ us hl => match us, hl with | [_], _ => rfl
  have C_is_integer : Cl l.prog w K mg base 1 "is_integer" _ := ⟨_, _, _, ok_is_integer F0 T, PySem.W.mg_of X G a0, k0, b0⟩
  have F1 := fun_mk (st := s_is_plain_thing) l1 c1 k1
  have b1 := F1.binds (ps := ["thing"]) fun _ _ _ _ _ _ us hl => match us, hl with | [_], _ => rfl
  have C_is_plain_thing : Cl l.prog w K mg base 2 "is_plain_thing" _ := ⟨_, _, _, ok_is_plain_thing F1 T C_is_integer, PySem.W.mg_of X G a1, k1, b1⟩
  have F2 := fun_mk (st := s_plain_text) l2 c2 k2
  have b2 := F2.binds (ps := ["thing"]) fun _ _ _ _ _ _ us hl => match us, hl with | [_], _ => rfl
  have C_plain_text : ClX l.prog w K mg base 3 "plain_text" _ := ⟨_, _, _, ok_plain_text F2 T C_is_plain_thing, PySem.W.mg_of X G a2, k2, b2⟩
  have F3 := fun_mk (st := s_pieces) l3 c3 k3
  have b3 := F3.binds (ps := ["items", "deep"]) fun _ _ _ _ _ _ us hl => match us, hl with | [_, _], _ => rfl
  have C_pieces : Cl l.prog w K mg base 1 "pieces" _ := ⟨_, _, _, ok_pieces F3 T, PySem.W.mg_of X G a3, k3, b3⟩
  have F4 := fun_mk (st := s_text_of) l4 c4 k4
  have b4 := F4.binds (ps := ["thing"]) fun _ _ _ _ _ _ us hl => match us, hl with | [_], _ => rfl
  have C_text_of : ClX l.prog w K mg base 4 "text_of" _ := ⟨_, _, _, ok_text_of F4 T C_plain_text C_pieces, PySem.W.mg_of X G a4, k4, b4⟩
  have F5 := fun_mk (st := s_raw_integer) l5 c5 k5
  have b5 := F5.binds (ps := ["text", "at"]) fun _ _ _ _ _ _ us hl => match us, hl with | [_, _], _ => rfl
  have C_raw_integer : Cl l.prog w K mg base 1 "raw_integer" _ := ⟨_, _, _, ok_raw_integer F5 T, PySem.W.mg_of X G a5, k5, b5⟩
  have F6 := fun_mk (st := s_raw_string) l6 c6 k6
  have b6 := F6.binds (ps := ["text", "at"]) fun _ _ _ _ _ _ us hl => match us, hl with | [_, _], _ => rfl
  have C_raw_string : Cl l.prog w K mg base 1 "raw_string" _ := ⟨_, _, _, ok_raw_string F6 T, PySem.W.mg_of X G a6, k6, b6⟩
  have F7 := fun_mk (st := s_raw_plain) l7 c7 k7
  have b7 := F7.binds (ps := ["text", "at"]) fun _ _ _ _ _ _ us hl => match us, hl with | [_, _], _ => rfl
  have C_raw_plain : Cl l.prog w K mg base 2 "raw_plain" _ := ⟨_, _, _, ok_raw_plain F7 T C_raw_integer C_raw_string, PySem.W.mg_of X G a7, k7, b7⟩
  have F8 := fun_mk (st := s_behind) l8 c8 k8
  have b8 := F8.binds (ps := ["rows", "text", "at"]) fun _ _ _ _ _ _ us hl => match us, hl with | [_, _, _], _ => rfl
  have C_behind : Cl l.prog w K mg base 1 "behind" _ := ⟨_, _, _, ok_behind F8 T, PySem.W.mg_of X G a8, k8, b8⟩
  have F9 := fun_mk (st := s_raw_thing) l9 c9 k9
  have b9 := F9.binds (ps := ["text", "begin"]) fun _ _ _ _ _ _ us hl => match us, hl with | [_, _], _ => rfl
  have C_raw_thing : Cl l.prog w K mg base 3 "raw_thing" _ := ⟨_, _, _, ok_raw_thing F9 T C_raw_plain C_behind, PySem.W.mg_of X G a9, k9, b9⟩
  have F10 := fun_mk (st := s_thing_of) l10 c10 k10
  have b10 := F10.binds (ps := ["text"]) fun _ _ _ _ _ _ us hl => match us, hl with | [_], _ => rfl
  have C_thing_of : ClX l.prog w K mg base 4 "thing_of" _ := ⟨_, _, _, ok_thing_of F10 T C_raw_thing, PySem.W.mg_of X G a10, k10, b10⟩
  have F11 := fun_mk (st := s_law_flow) l11 c11 k11
  have b11 := F11.binds (ps := ["script"]) fun _ _ _ _ _ _ us hl => match us, hl with | [_], _ => rfl
  have C_law_flow : Cl l.prog w K mg base 1 "_law_flow" _ := ⟨_, _, _, ok_law_flow F11 T, PySem.W.mg_of X G a11, k11, b11⟩
  have F12 := fun_mk (st := s_law_draw) l12 c12 k12
  have b12 := F12.binds (ps := ["flow", "many"]) fun _ _ _ _ _ _ us hl => match us, hl with | [_, _], _ => rfl
  have C_law_draw : Cl l.prog w K mg base 1 "_law_draw" _ := ⟨_, _, _, ok_law_draw F12 T, PySem.W.mg_of X G a12, k12, b12⟩
  have F13 := fun_mk (st := s_law_some) l13 c13 k13
  have b13 := F13.binds (ps := ["flow", "things"]) fun _ _ _ _ _ _ us hl => match us, hl with | [_, _], _ => rfl
  have C_law_some : Cl l.prog w K mg base 2 "_law_some" _ := ⟨_, _, _, ok_law_some F13 T C_law_draw, PySem.W.mg_of X G a13, k13, b13⟩
  have F14 := fun_mk (st := s_law_word_of) l14 c14 k14
  have b14 := F14.binds (ps := ["flow"]) fun _ _ _ _ _ _ us hl => match us, hl with | [_], _ => rfl
  have C_law_word_of : Cl l.prog w K mg base 2 "_law_word_of" _ := ⟨_, _, _, ok_law_word_of F14 T C_law_draw, PySem.W.mg_of X G a14, k14, b14⟩
  have F15 := fun_mk (st := s_law_thing) l15 c15 k15
  have b15 := F15.binds (ps := ["flow", "deep"]) fun _ _ _ _ _ _ us hl => match us, hl with | [_, _], _ => rfl
  have C_law_thing : Cl l.prog w K mg base 8 "_law_thing" _ := ⟨_, _, _, rec_ok (ok_law_thing F15 T C_law_draw C_law_some C_law_word_of) (PySem.W.mg_of X G a15) k15 b15 5, PySem.W.mg_of X G a15, k15, b15⟩
  have F17 := fun_mk (st := s_law_figures) l17 c17 k17
  have b17 := F17.binds (ps := ["number"]) fun _ _ _ _ _ _ us hl => match us, hl with | [_], _ => rfl
  have C_law_figures : Cl l.prog w K mg base 1 "_law_figures" _ := ⟨_, _, _, ok_law_figures F17 T, PySem.W.mg_of X G a17, k17, b17⟩
  have F16 := fun_mk (st := s_law_text_of) l16 c16 k16
  have b16 := F16.binds (ps := ["thing"]) fun _ _ _ _ _ _ us hl => match us, hl with | [_], _ => rfl
  have C_law_text_of : Cl l.prog w K mg base 61 "_law_text_of" _ := ⟨_, _, _, rec_ok (ok_law_text_of F16 T C_law_figures) (PySem.W.mg_of X G a16) k16 b16 59, PySem.W.mg_of X G a16, k16, b16⟩
  have F18 := fun_mk (st := s_law_told) l18 c18 k18
  have b18 := F18.binds (ps := ["thing"]) fun _ _ _ _ _ _ us hl => match us, hl with | [_], _ => rfl
  have C_law_told : Cl l.prog w K mg base 5 "_law_told" _ := ⟨_, _, _, ok_law_told F18 T C_text_of, PySem.W.mg_of X G a18, k18, b18⟩
  have F19 := fun_mk (st := s_law_wrapped) l19 c19 k19
  have b19 := F19.binds (ps := ["thing", "deep"]) fun _ _ _ _ _ _ us hl => match us, hl with | [_, _], _ => rfl
  have C_law_wrapped : Cl l.prog w K mg base 1 "_law_wrapped" _ := ⟨_, _, _, ok_law_wrapped F19 T, PySem.W.mg_of X G a19, k19, b19⟩
  have F20 := fun_mk (st := s_law_is_back) l20 c20 k20
  have b20 := F20.binds (ps := ["thing"]) fun _ _ _ _ _ _ us hl => match us, hl with | [_], _ => rfl
  have C_law_is_back : ClG l.prog w K mg base 62 "_law_is_back" _ := ⟨_, _, _, ok_law_is_back F20 T C_thing_of C_law_text_of C_law_told, PySem.W.mg_of X G a20, k20, b20⟩
  exact ok_law (fun_mk (st := s_law) l21 c21 k21) T C_text_of C_law_flow C_law_draw C_law_some C_law_thing C_law_told C_law_wrapped C_law_is_back (fun s v => .of_eq rfl)
theorem walk {l : PySem.W.OpenLaw} {q : Program} {loose : List Str} {XP : (Str → Option Value) → Heap → Prop} {YP : World → Heap → Prop} {d : DefRec} {K : Params → PySem.W.Frag} (hn : l.most = some 63) (hdf : d.params.defaults = [])
    (hY : ∀ (w : World) (h : Heap), YP w h → (K w.params).In h)
    (F : ∀ (w : World) (mg : Str → Option Value) (fa : Addr) (h : Heap), (K w.params).In h → h.Ns mainGlobals mg → mg d.name = some (.ref fa) →
      ∀ base : Heap, (K w.params).In base → base.Ns mainGlobals mg → RunG l.prog w (K w.params) mg base fa (spLaw (K w.params))) :
    PySem.W.WalkO q loose XP YP l.row.toRowW d [] (fun f vs => PySem.call f vs) :=
  walk_claim (n := 63) (sp := fun w => spLaw (K w.params)) hn (by decide) hdf hY F (fun _ _ a ns hl hS => ⟨a, ns, ⟨rfl, hS, hl⟩, fun _ => rfl⟩)
end G
open PySem PySem.W PyProof.Rows in
set_option maxRecDepth 100000 in
set_option maxHeartbeats 0 in
theorem PySem.Challenge.cw_keptviews_k72_whole_things_there_and_bac_holds : PySem.Challenge.rw_keptviews_k72_whole_things_there_and_bac.Holds := by
  w_on; o_law; k_head; (case hw => w_witness2)
  k_fill
  refine G.walk (l := PySem.Challenge.rw_keptviews_k72_whole_things_there_and_bac) rfl rfl (fun w h Y => PySem.W.kIn_of Y) ?F
  case F =>
    intro w mg fa h KX GG hmg
    refine' G.all_mk KX GG hmg ?g_NoText ?g_NoThing ?eq_NoText ?ek_NoText ?eb_NoText ?et_NoText ?eq_NoThing ?ek_NoThing ?eb_NoThing ?et_NoThing ?x_NoText_NoText ?x_NoText_NoThing ?x_NoThing_NoText ?x_NoThing_NoThing ?a0 ?l0 ?c0 ?k0 ?a1 ?l1 ?c1 ?k1 ?a2 ?l2 ?c2 ?k2 ?a3 ?l3 ?c3 ?k3 ?a4 ?l4 ?c4 ?k4 ?a5 ?l5 ?c5 ?k5 ?a6 ?l6 ?c6 ?k6 ?a7 ?l7 ?c7 ?k7 ?a8 ?l8 ?c8 ?k8 ?a9 ?l9 ?c9 ?k9 ?a10 ?l10 ?c10 ?k10 ?a11 ?l11 ?c11 ?k11 ?a12 ?l12 ?c12 ?k12 ?a13 ?l13 ?c13 ?k13 ?a14 ?l14 ?c14 ?k14 ?a15 ?l15 ?c15 ?k15 ?a16 ?l16 ?c16 ?k16 ?a17 ?l17 ?c17 ?k17 ?a18 ?l18 ?c18 ?k18 ?a19 ?l19 ?c19 ?k19 ?a20 ?l20 ?c20 ?k20 ?a21 ?l21 ?c21 ?k21 ?zb_abs ?zb_all ?zb_bool ?zb_int ?zb_isinstance ?zb_len ?zb_list ?zb_range ?zb_repr ?zb_str ?zb_tuple ?zc_BEYOND ?zc_MOST_DEEP ?zc_MOST_FIGURES
    (case g_NoText => k_is)
    (case g_NoThing => k_is)
    (case eq_NoText => k_exc)
    (case ek_NoText => k_is)
    (case eb_NoText => k_is)
    (case et_NoText => k_is)
    (case eq_NoThing => k_exc)
    (case ek_NoThing => k_is)
    (case eb_NoThing => k_is)
    (case et_NoThing => k_is)
    (case x_NoText_NoText => kernel_rfl)
    (case x_NoText_NoThing => kernel_rfl)
    (case x_NoThing_NoText => kernel_rfl)
    (case x_NoThing_NoThing => kernel_rfl)
    (case a0 => k_is)
    (case l0 => k_is)
    (case c0 => k_is)
    (case k0 => k_is)
    (case a1 => k_is)
    (case l1 => k_is)
    (case c1 => k_is)
    (case k1 => k_is)
    (case a2 => k_is)
    (case l2 => k_is)
    (case c2 => k_is)
    (case k2 => k_is)
    (case a3 => k_is)
    (case l3 => k_is)
    (case c3 => k_is)
    (case k3 => k_is)
    (case a4 => k_is)
    (case l4 => k_is)
    (case c4 => k_is)
    (case k4 => k_is)
    (case a5 => k_is)
    (case l5 => k_is)
    (case c5 => k_is)
    (case k5 => k_is)
    (case a6 => k_is)
    (case l6 => k_is)
    (case c6 => k_is)
    (case k6 => k_is)
    (case a7 => k_is)
    (case l7 => k_is)
    (case c7 => k_is)
    (case k7 => k_is)
    (case a8 => k_is)
    (case l8 => k_is)
    (case c8 => k_is)
    (case k8 => k_is)
    (case a9 => k_is)
    (case l9 => k_is)
    (case c9 => k_is)
    (case k9 => k_is)
    (case a10 => k_is)
    (case l10 => k_is)
    (case c10 => k_is)
    (case k10 => k_is)
    (case a11 => k_is)
    (case l11 => k_is)
    (case c11 => k_is)
    (case k11 => k_is)
    (case a12 => k_is)
    (case l12 => k_is)
    (case c12 => k_is)
    (case k12 => k_is)
    (case a13 => k_is)
    (case l13 => k_is)
    (case c13 => k_is)
    (case k13 => k_is)
    (case a14 => k_is)
    (case l14 => k_is)
    (case c14 => k_is)
    (case k14 => k_is)
    (case a15 => k_is)
    (case l15 => k_is)
    (case c15 => k_is)
    (case k15 => k_is)
    (case a16 => k_is)
    (case l16 => k_is)
    (case c16 => k_is)
    (case k16 => k_is)
    (case a17 => k_is)
    (case l17 => k_is)
    (case c17 => k_is)
    (case k17 => k_is)
    (case a18 => k_is)
    (case l18 => k_is)
    (case c18 => k_is)
    (case k18 => k_is)
    (case a19 => k_is)
    (case l19 => k_is)
    (case c19 => k_is)
    (case k19 => k_is)
    (case a20 => k_is)
    (case l20 => k_is)
    (case c20 => k_is)
    (case k20 => k_is)
    (case a21 => k_is)
    (case l21 => k_is)
    (case c21 => k_is)
    (case k21 => k_is)
    (case zb_abs => k_is)
    (case zb_all => k_is)
    (case zb_bool => k_is)
    (case zb_int => k_is)
    (case zb_isinstance => k_is)
    (case zb_len => k_is)
    (case zb_list => k_is)
    (case zb_range => k_is)
    (case zb_repr => k_is)
    (case zb_str => k_is)
    (case zb_tuple => k_is)
    (case zc_BEYOND => k_is)
    (case zc_MOST_DEEP => k_is)
    (case zc_MOST_FIGURES => k_is)
