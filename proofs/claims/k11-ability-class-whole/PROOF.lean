import PyProof.Rows.All
import Wide.All
import OpenK.AllK
import Wide.FinOn
import KE.KStateDown
import Lean
import HandS.ForMost
import HandS.ForExc
import HandS.Deep
import HandS.IsInst
import HandS.Property
import HandS.ClsMeth
import HandS.CallLocal
import HandS.Defaults
import HandS.Style
import HandS.IterVal
import HandS.OwnEq
import HandS.Evl
import HandS.TupAny
import HandS.WordsExc
import HandS.Head0
import HandS.Head1
import HandS.Head2
import HandS.HeadEnd
import HandS.HeadHook1
import HandS.HeadHook2
import HandS.SlotsOwn
import HandS.More
import HandS.Star
import PySem.Challenge.RW_tailwatch_k11_ability_class_whole
set_option Elab.async false
set_option linter.all false
set_option maxRecDepth 100000
set_option maxHeartbeats 4000000
namespace Tw
open PySem PySem.Spec PyProof.Rows L2
abbrev Fg := PySem.W.Frag
/-! ### data that never changes: none, bools, ints, texts, tuples of these -/
mutual
inductive Im (K : Fg) (H : Hp) : V → PyData → Prop
  | non : Im K H .non .none
  | bl (b : Bool) : Im K H (.bl b) (.bool b)
  | int (i : Int) : Im K H (.int i) (.int i)
  | str (x : Str) : Im K H (.str x) (.str x)
  | tup {a : Addr} {xs : List V} {ds : List PyData} : SqT K H a xs → ImAll K H xs ds → Im K H (.ref a) (.tuple ds)
inductive ImAll (K : Fg) (H : Hp) : List V → List PyData → Prop
  | nil : ImAll K H [] []
  | cons {v : V} {vs : List V} {d : PyData} {ds : List PyData} : Im K H v d → ImAll K H vs ds → ImAll K H (v :: vs) (d :: ds)
end
/-- tuples stay -/
def Tups (K : Fg) (H H' : Hp) : Prop := ∀ a xs, SqT K H a xs → SqT K H' a xs
theorem Tups.refl {K : Fg} {H : Hp} : Tups K H H := fun _ _ h => h
theorem Tups.trans {K : Fg} {H H1 H2 : Hp} (a : Tups K H H1) (b : Tups K H1 H2) : Tups K H H2 := fun p xs h => b p xs (a p xs h)
theorem sqT_same {K : Fg} {H H' : Hp} {a : Addr} {xs : List V} (e : Same H H') (h : SqT K H a xs) : SqT K H' a xs :=
  h.elim (fun h => .inl (h.elim (fun h => .inl (e _ _ h)) fun ⟨o, h⟩ => .inr ⟨o, e _ _ h⟩)) fun h => .inr h
theorem Tups.same {K : Fg} {H H' : Hp} (e : Same H H') : Tups K H H' := fun _ _ h => sqT_same e h
theorem Tups.lst {K : Fg} {H : Hp} {l : Addr} {xs : List V} {o : HO} (h : H l = some (.lst xs)) : Tups K H (upd H l o) := fun p ys q => by
  rcases q with (q | ⟨u, q⟩) | q
  · exact .inl (.inl (by rw [upd_ne (ne_of q h (by intro z; cases z))]; exact q))
  · exact .inl (.inr ⟨u, by rw [upd_ne (ne_of q h (by intro z; cases z))]; exact q⟩)
  · exact .inr q
theorem Tups.ins {K : Fg} {H : Hp} {l C dx : Addr} {fs : List (Str × V)} {o : HO} (h : H l = some (.ins C dx fs)) : Tups K H (upd H l o) := fun p ys q => by
  rcases q with (q | ⟨u, q⟩) | q
  · exact .inl (.inl (by rw [upd_ne (ne_of q h (by intro z; cases z))]; exact q))
  · exact .inl (.inr ⟨u, by rw [upd_ne (ne_of q h (by intro z; cases z))]; exact q⟩)
  · exact .inr q
theorem _root_.L2.Same.new {H : Hp} {p : Addr} {o : HO} (h : H p = none) : Same H (upd H p o) := fun b u e => by
  rw [upd_ne (ne_of_none e h)]; exact e
theorem _root_.L2.Same.upd {H H' : Hp} {p : Addr} {o : HO} (e : Same H H') (h : H p = none) : Same H (upd H' p o) := fun b u q => by
  rw [upd_ne (ne_of_none q h)]; exact e _ _ q
theorem Tups.new {K : Fg} {H : Hp} {p : Addr} {o : HO} (h : H p = none) : Tups K H (upd H p o) := Tups.same (Same.new h)
mutual
theorem Im.mono {K : Fg} {H H' : Hp} (t : Tups K H H') : ∀ {v : V} {d : PyData}, Im K H v d → Im K H' v d
  | _, _, .non => .non
  | _, _, .bl b => .bl b
  | _, _, .int i => .int i
  | _, _, .str x => .str x
  | _, _, .tup h hs => .tup (t _ _ h) (ImAll.mono t hs)
theorem ImAll.mono {K : Fg} {H H' : Hp} (t : Tups K H H') : ∀ {vs : List V} {ds : List PyData}, ImAll K H vs ds → ImAll K H' vs ds
  | _, _, .nil => .nil
  | _, _, .cons h hs => .cons (Im.mono t h) (ImAll.mono t hs)
end
mutual
theorem Im.dp {K : Fg} {H : Hp} : ∀ {v : V} {d : PyData}, Im K H v d → Dp K H v d
  | _, _, .non => .non
  | _, _, .bl b => .bl b
  | _, _, .int i => .int i
  | _, _, .str x => .str x
  | _, _, .tup h hs => .tup h (ImAll.dp hs)
theorem ImAll.dp {K : Fg} {H : Hp} : ∀ {vs : List V} {ds : List PyData}, ImAll K H vs ds → DpAll K H vs ds
  | _, _, .nil => .nil
  | _, _, .cons h hs => .cons (Im.dp h) (ImAll.dp hs)
end
theorem ImAll.length {K : Fg} {H : Hp} : ∀ {vs : List V} {ds : List PyData}, ImAll K H vs ds → vs.length = ds.length
  | _, _, .nil => rfl
  | _, _, .cons _ hs => congrArg Nat.succ (ImAll.length hs)
theorem ImAll.app {K : Fg} {H : Hp} : ∀ {vs ws : List V} {ds es : List PyData}, ImAll K H vs ds → ImAll K H ws es → ImAll K H (vs ++ ws) (ds ++ es)
  | _, _, _, _, .nil, s => s
  | _, _, _, _, .cons h hs, s => .cons h (ImAll.app hs s)
theorem ImAll.snoc {K : Fg} {H : Hp} {vs : List V} {ds : List PyData} {v : V} {d : PyData} (h : ImAll K H vs ds) (x : Im K H v d) : ImAll K H (vs ++ [v]) (ds ++ [d]) := h.app (.cons x .nil)
theorem ImAll.at {K : Fg} {H : Hp} : ∀ {vs : List V} {ds : List PyData} {i : Nat} {d : PyData}, ImAll K H vs ds → ds[i]? = some d → ∃ v, vs[i]? = some v ∧ Im K H v d
  | _, _, _, _, .nil, e => by simp at e
  | _, _, 0, _, .cons h _, e => by simp at e; subst e; exact ⟨_, rfl, h⟩
  | _, _, i + 1, _, .cons _ hs, e => by
    obtain ⟨v, e1, e2⟩ := ImAll.at (i := i) hs (by simpa using e)
    exact ⟨v, by simpa using e1, e2⟩
theorem ImAll.of_at {K : Fg} {H : Hp} : ∀ {vs : List V} {ds : List PyData} {i : Nat} {v : V}, ImAll K H vs ds → vs[i]? = some v → ∃ d, ds[i]? = some d ∧ Im K H v d
  | _, _, _, _, .nil, e => by simp at e
  | _, _, 0, _, .cons h _, e => by simp at e; subst e; exact ⟨_, rfl, h⟩
  | _, _, i + 1, _, .cons _ hs, e => by
    obtain ⟨d, e1, e2⟩ := ImAll.of_at (i := i) hs (by simpa using e)
    exact ⟨d, by simpa using e1, e2⟩
mutual
theorem dp_mono {K : Fg} {H H' : Hp} (e : Same H H') : ∀ {v : V} {d : PyData}, Dp K H v d → Dp K H' v d
  | _, _, .non => .non
  | _, _, .bl b => .bl b
  | _, _, .int i => .int i
  | _, _, .str x => .str x
  | _, _, .lst h hs => .lst (e.seq h) (dpAll_mono e hs)
  | _, _, .tup h hs => .tup (sqT_same e h) (dpAll_mono e hs)
theorem dpAll_mono {K : Fg} {H H' : Hp} (e : Same H H') : ∀ {vs : List V} {ds : List PyData}, DpAll K H vs ds → DpAll K H' vs ds
  | _, _, .nil => .nil
  | _, _, .cons h hs => .cons (dp_mono e h) (dpAll_mono e hs)
end
theorem dpAll_len {K : Fg} {H : Hp} : ∀ {vs : List V} {ds : List PyData}, DpAll K H vs ds → vs.length = ds.length
  | _, _, .nil => rfl
  | _, _, .cons _ hs => congrArg Nat.succ (dpAll_len hs)
theorem dpAll_at {K : Fg} {H : Hp} : ∀ {vs : List V} {ds : List PyData} {i : Nat} {d : PyData}, DpAll K H vs ds → ds[i]? = some d → ∃ v, vs[i]? = some v ∧ Dp K H v d
  | _, _, _, _, .nil, e => by simp at e
  | _, _, 0, _, .cons h _, e => by simp at e; subst e; exact ⟨_, rfl, h⟩
  | _, _, i + 1, _, .cons _ hs, e => by
    obtain ⟨v, e1, e2⟩ := dpAll_at (i := i) hs (by simpa using e)
    exact ⟨v, by simpa using e1, e2⟩
/-- a list that may be changed, one that is read: of unchanging data -/
def LsM (K : Fg) (H : Hp) (l : Addr) (ds : List PyData) : Prop := ∃ vs, H l = some (.lst vs) ∧ ImAll K H vs ds
def LsR (K : Fg) (H : Hp) (l : Addr) (ds : List PyData) : Prop := ∃ vs, SqL K H l vs ∧ ImAll K H vs ds
theorem LsM.r {K : Fg} {H : Hp} {l : Addr} {ds : List PyData} (h : LsM K H l ds) : LsR K H l ds := let ⟨vs, e, r⟩ := h; ⟨vs, SqL.of e, r⟩
theorem LsM.mono {K : Fg} {H H' : Hp} {l : Addr} {ds : List PyData} (e : Same H H') (h : LsM K H l ds) : LsM K H' l ds := let ⟨vs, q, r⟩ := h; ⟨vs, e _ _ q, r.mono (.same e)⟩
theorem LsR.mono {K : Fg} {H H' : Hp} {l : Addr} {ds : List PyData} (e : Same H H') (h : LsR K H l ds) : LsR K H' l ds := let ⟨vs, q, r⟩ := h; ⟨vs, e.seq q, r.mono (.same e)⟩
theorem LsR.dp {K : Fg} {H : Hp} {l : Addr} {ds : List PyData} (h : LsR K H l ds) : Dp K H (.ref l) (.list ds) := let ⟨_, q, r⟩ := h; .lst q r.dp
theorem LsM.new {K : Fg} {H : Hp} {l : Addr} {vs : List V} {ds : List PyData} (h : H l = none) (r : ImAll K H vs ds) : LsM K (upd H l (.lst vs)) l ds := ⟨vs, upd_same, r.mono (.new h)⟩
theorem LsM.put {K : Fg} {H : Hp} {l : Addr} {vs ws : List V} {ds : List PyData} (h : H l = some (.lst ws)) (r : ImAll K H vs ds) : LsM K (upd H l (.lst vs)) l ds := ⟨vs, upd_same, r.mono (.lst h)⟩
theorem tup_new {K : Fg} {H : Hp} {p : Addr} {vs : List V} {ds : List PyData} (h : H p = none) (r : ImAll K H vs ds) : Im K (upd H p (.tup vs)) (.ref p) (.tuple ds) := .tup (SqT.of upd_same) (r.mono (.new h))
/-! ### == of data without bools -/
mutual
def clean : PyData → Bool
  | .none => true
  | .int _ => true
  | .str x => PyData.strOk x
  | .list xs => cleanAll xs
  | .tuple xs => cleanAll xs
  | _ => false
def cleanAll : List PyData → Bool
  | [] => true
  | x :: xs => clean x && cleanAll xs
end
theorem clean_lst (xs : List PyData) : clean (.list xs) = cleanAll xs := by simp only [clean]
theorem clean_tup (xs : List PyData) : clean (.tuple xs) = cleanAll xs := by simp only [clean]
theorem cleanAll_cons {x : PyData} {xs : List PyData} : cleanAll (x :: xs) = (clean x && cleanAll xs) := by simp only [cleanAll]
theorem cleanAll_of {xs : List PyData} (h : ∀ x ∈ xs, clean x = true) : cleanAll xs = true := by
  induction xs with
  | nil => simp [cleanAll]
  | cons x xs ih =>
    rw [cleanAll_cons, Bool.and_eq_true]
    exact ⟨h x (List.mem_cons_self ..), ih fun y hy => h y (List.mem_cons_of_mem _ hy)⟩
theorem cleanAll_mem {xs : List PyData} (h : cleanAll xs = true) : ∀ x ∈ xs, clean x = true := by
  induction xs with
  | nil => intro x hx; cases hx
  | cons x xs ih =>
    rw [cleanAll_cons, Bool.and_eq_true] at h
    intro y hy
    rcases List.mem_cons.mp hy with rfl | hy
    · exact h.1
    · exact ih h.2 y hy
mutual
theorem eqv_iff : ∀ {d e : PyData}, clean d = true → clean e = true → (PyData.eqv d e = true ↔ d = e) := fun {d e} hd he => by
  match d, e, hd, he with
  | .none, .none, _, _ => simp [PyData.eqv]
  | .int i, .int j, _, _ => simp [PyData.eqv]
  | .str x, .str y, _, _ => simp [PyData.eqv]
  | .list xs, .list ys, h1, h2 =>
    rw [clean_lst] at h1 h2
    simp only [PyData.eqv, eqvAll_iff h1 h2, PyData.list.injEq]
  | .tuple xs, .tuple ys, h1, h2 =>
    rw [clean_tup] at h1 h2
    simp only [PyData.eqv, eqvAll_iff h1 h2, PyData.tuple.injEq]
  | .none, .int _, _, _ | .none, .str _, _, _ | .none, .list _, _, _ | .none, .tuple _, _, _ => simp [PyData.eqv]
  | .int _, .none, _, _ | .int _, .str _, _, _ | .int _, .list _, _, _ | .int _, .tuple _, _, _ => simp [PyData.eqv]
  | .str _, .none, _, _ | .str _, .int _, _, _ | .str _, .list _, _, _ | .str _, .tuple _, _, _ => simp [PyData.eqv]
  | .list _, .none, _, _ | .list _, .int _, _, _ | .list _, .str _, _, _ | .list _, .tuple _, _, _ => simp [PyData.eqv]
  | .tuple _, .none, _, _ | .tuple _, .int _, _, _ | .tuple _, .str _, _, _ | .tuple _, .list _, _, _ => simp [PyData.eqv]
  | .bool _, _, h, _ => simp [clean] at h
  | .dict _, _, h, _ => simp [clean] at h
  | _, .bool _, _, h => simp [clean] at h
  | _, .dict _, _, h => simp [clean] at h
theorem eqvAll_iff : ∀ {xs ys : List PyData}, cleanAll xs = true → cleanAll ys = true → (PyData.eqvAll xs ys = true ↔ xs = ys) := fun {xs ys} h1 h2 => by
  match xs, ys, h1, h2 with
  | [], [], _, _ => simp [PyData.eqvAll]
  | [], _ :: _, _, _ => simp [PyData.eqvAll]
  | _ :: _, [], _, _ => simp [PyData.eqvAll]
  | x :: xs, y :: ys, h1, h2 =>
    rw [cleanAll_cons, Bool.and_eq_true] at h1 h2
    simp only [PyData.eqvAll, Bool.and_eq_true, eqv_iff h1.1 h2.1, eqvAll_iff h1.2 h2.2, List.cons.injEq]
end
theorem eqv_dec {d e : PyData} (hd : clean d = true) (he : clean e = true) {b : Bool} (h : b = true ↔ d = e) : PyData.eqv d e = b := by
  have := eqv_iff hd he
  cases b <;> cases q : PyData.eqv d e <;> simp_all
mutual
theorem canLay_clean : ∀ {d : PyData}, clean d = true → d.canLay0 = true := fun {d} h => by
  match d, h with
  | .none, _ => simp [PyData.canLay0]
  | .int _, _ => simp [PyData.canLay0]
  | .str x, h => simpa [PyData.canLay0, clean] using h
  | .list xs, h => rw [clean_lst] at h; simp only [PyData.canLay0]; exact canLayAll_clean h
  | .tuple xs, h => rw [clean_tup] at h; simp only [PyData.canLay0]; exact canLayAll_clean h
  | .bool _, h => simp [clean] at h
  | .dict _, h => simp [clean] at h
theorem canLayAll_clean : ∀ {xs : List PyData}, cleanAll xs = true → PyData.canLayAll0 xs = true := fun {xs} h => by
  match xs, h with
  | [], _ => simp [PyData.canLayAll0]
  | x :: xs, h =>
    rw [cleanAll_cons, Bool.and_eq_true] at h
    simp only [PyData.canLayAll0, Bool.and_eq_true]
    exact ⟨canLay_clean h.1, canLayAll_clean h.2⟩
end
theorem depthAll_of {xs : List PyData} {n : Nat} (h : ∀ x ∈ xs, x.depth ≤ n) : PyData.depthAll xs ≤ n := by
  induction xs with
  | nil => simp [PyData.depthAll]
  | cons x xs ih =>
    have h1 := h x (List.mem_cons_self ..)
    have h2 := ih fun y hy => h y (List.mem_cons_of_mem _ hy)
    simp only [PyData.depthAll]
    omega
theorem shaped_of {d : PyData} (h : clean d = true) (hd : d.depth ≤ 64) : SeqAt.shaped d = true := by
  show (d.canLay0 && decide (d.depth ≤ 64)) = true
  rw [Bool.and_eq_true]
  exact ⟨canLay_clean h, decide_eq_true hd⟩
end Tw

set_option maxHeartbeats 4000000
namespace Tw
open PySem PySem.Spec PyProof.Rows L2
section
variable (P : Program) (w : World) (K : Fg) (mg : Str → Option Value) (base : Heap) (CX : CXT) (k : Nat)
/-- what the function at f promises -/
def Fo (f : Addr) (sp : Sp) : Prop := ∃ (fd : FuncData) (ps : List Str), FnOk P w K mg base CX k f fd ps sp ∧ Binds K fd ps []
/-- a def of the top, by its name -/
structure Ld (x : Str) (sp : Sp) : Prop where
  ex : ∃ f, Fo P w K mg base CX k f sp ∧ mg x = some (.ref f) ∧ PySem.W.keepIn K (.ref f) = true
/-- a method of the class at C -/
structure Md (C : Addr) (m : Str) (sp : Sp) : Prop where
  ex : ∃ f, Fo P w K mg base CX k f sp ∧ Meth K C m f ∧ PySem.W.fnIn K f = true
  cl : Cls K C
/-- the class at C, made by its name -/
structure Nw (x : Str) (C : Addr) (sp : Sp) : Prop where
  ex : ∃ f, Fo P w K mg base CX k f sp ∧ Mk K C f
  gl : mg x = some (.ref C)
/-- a property -/
structure Pr (C : Addr) (m : Str) (sp : Sp) : Prop where
  ex : ∃ p g, Fo P w K mg base CX k g sp ∧ PropOf K C m p g
  cl : Cls K C
/-- a classmethod -/
structure Cm (x : Str) (C : Addr) (m : Str) (sp : Sp) : Prop where
  ex : ∃ mc p g, Fo P w K mg base CX k g sp ∧ ClX.CRead K C mc ∧ ClX.CMet K C mc m p g
  gl : mg x = some (.ref C)
end
section
variable {P : Program} {w : World} {K : Fg} {mg : Str → Option Value} {base : Heap} {CX : CXT} {k j : Nat}
theorem Fo.raw {f : Addr} {sp : Sp} (F : Fo P w K mg base CX k f sp) : FnR P w K mg base CX k f sp := by
  obtain ⟨fd, ps, F, b⟩ := F
  exact (F.raw b .nil).imp fun vs H Q E h => by rw [List.append_nil]; exact h
theorem Fo.mono {f : Addr} {sp : Sp} (F : Fo P w K mg base CX k f sp) (h : k ≤ j) : Fo P w K mg base CX j f sp := let ⟨fd, ps, F, b⟩ := F; ⟨fd, ps, F.mono h, b⟩
theorem Fo.imp {f : Addr} {sp sp' : Sp} (F : Fo P w K mg base CX k f sp) (h : ∀ vs H Q E, sp' vs H Q E → sp vs H Q E) : Fo P w K mg base CX k f sp' := let ⟨fd, ps, F, b⟩ := F; ⟨fd, ps, F.imp h, b⟩
theorem Ld.mono {x : Str} {sp : Sp} (F : Ld P w K mg base CX k x sp) (h : k ≤ j) : Ld P w K mg base CX j x sp := let ⟨f, F, b⟩ := F; ⟨f, F.mono h, b⟩
theorem Ld.imp {x : Str} {sp sp' : Sp} (F : Ld P w K mg base CX k x sp) (h : ∀ vs H Q E, sp' vs H Q E → sp vs H Q E) : Ld P w K mg base CX k x sp' := let ⟨f, F, b⟩ := F; ⟨f, F.imp h, b⟩
end
section
variable {X : Cx} {CX : CXT} {k : Nat} {C : Addr} {sp : Sp} {E : XK} {x m : Str} {p pos apos : Pos} {e o : Expr} {es : List Expr} {t : TA} {ta tb : TE}
theorem run_fo {f : Addr} {A : Around} {pins : List (Addr × Obj)} {s : Shared} {σ : L2.St} {H : Hp} {Q : VK} {us : List Value} {vs : List V} (F : Fo X.prog X.w X.K X.mg X.base CX k f sp) (sb : Sub X k A) (hx : Passes CX X E)
    (I : Inv X pins σ H s) (r : Vals vs us) (h : sp vs H Q E) : wpAny (model X.prog X.w) A (call (.ref f) us) (EP X pins σ Q) X.xe s := by
  have e0 : Env0 X.prog X.w X.K X.mg X.base A X.stack s H := by
    have e := I.env0
    exact ⟨by rw [sb.fr]; exact e.frames, e.mod, e.bs, e.bsz, e.funs, e.frf, e.hok, e.bare⟩
  refine wpAny_call (codeAny_mono (F.raw A X.stack s H us vs Q E sb.room e0 r h) fun r s' hq => ?_)
  cases r with
  | error e => exact hx pins σ H s e s' I hq
  | ok fl =>
    cases fl with
    | ret u => exact I.after hq
    | next => exact False.elim hq
    | brk => exact False.elim hq
    | cont => exact False.elim hq
/-- f(e, ..) -/
theorem pe_ld (G : Ld X.prog X.w X.K X.mg X.base CX k x sp) (hr : Room k X.A) (hg : Gl X x) (hx : Passes CX X E) (ha : PA X (e :: es) t) (hdb : (x == ("__debug__" : Str)) = false := by decide)
    (he : starEach (e :: es) X.env = (false, eval e X.env) :: starEach es X.env := by rfl) (hpl : (backTo pos (starEach es X.env)).any (·.1) = false := by rfl) :
    PE X (.Call (.Name x p) (e :: es) [] pos) (tCall sp [] E t) := by
  obtain ⟨f, ⟨fd, ps, F, b⟩, hm, hk⟩ := G.ex
  exact pe_call F hr hg hm hk b .nil hx ha hdb he hpl
theorem pe_ld0 (G : Ld X.prog X.w X.K X.mg X.base CX k x sp) (hr : Room k X.A) (hg : Gl X x) (hx : Passes CX X E) (hdb : (x == ("__debug__" : Str)) = false := by decide) :
    PE X (.Call (.Name x p) [] [] pos) (tCall sp [] E tNil) := by
  obtain ⟨f, ⟨fd, ps, F, b⟩, hm, hk⟩ := G.ex
  exact pe_call0 F hr hg hm hk b .nil hx hdb
/-- o.m(e, ..) -/
theorem pe_md {pl : Sem Bool} (G : Md X.prog X.w X.K X.mg X.base CX k C m sp) (hr : Room k X.A) (hx : Passes CX X E) (ho : PE X o ta) (ha : PA X (e :: es) t)
    (hst : starEach (e :: es) X.env = (false, eval e X.env) :: starEach es X.env := by rfl) (hpl : (backTo pos (starEach es X.env)).any (·.1) = false := by rfl)
    (ht : eval (.Call (.Attribute o m apos) (e :: es) [] pos) X.env = (do
      let ov ← eval o X.env
      standAt apos.atName
      let (f, first) ← holding [ov] (getMethod ov m pl)
      callWith pos f first (backTo pos (starEach (e :: es) X.env)) (backToKw pos (keywordEach [] X.env))) := by rfl) :
    PE X (.Call (.Attribute o m apos) (e :: es) [] pos) (tMeth C m sp [] E ta t) := by
  obtain ⟨f, ⟨fd, ps, F, b⟩, hm, hfi⟩ := G.ex
  exact pe_meth (pl := pl) ho G.cl hm F hr b .nil hx ha hst hpl ht
theorem pe_md0 {pl : Sem Bool} (G : Md X.prog X.w X.K X.mg X.base CX k C m sp) (hr : Room k X.A) (hx : Passes CX X E) (ho : PE X o ta)
    (ht : eval (.Call (.Attribute o m apos) [] [] pos) X.env = (do
      let ov ← eval o X.env
      standAt apos.atName
      let (f, first) ← holding [ov] (getMethod ov m pl)
      callWith pos f first (backTo pos (starEach [] X.env)) (backToKw pos (keywordEach [] X.env))) := by rfl) :
    PE X (.Call (.Attribute o m apos) [] [] pos) (tMeth C m sp [] E ta tNil) := by
  obtain ⟨f, ⟨fd, ps, F, b⟩, hm, hfi⟩ := G.ex
  exact pe_meth0 (pl := pl) ho G.cl hm F hr b .nil hx ht
/-- C(e, ..) -/
theorem pe_mk (G : Nw X.prog X.w X.K X.mg X.base CX k x C sp) (hr : Room (k + 1) X.A) (hg : Gl X x) (hx : Passes CX X E) (ha : PA X (e :: es) t) (hdb : (x == ("__debug__" : Str)) = false := by decide)
    (he : starEach (e :: es) X.env = (false, eval e X.env) :: starEach es X.env := by rfl) (hpl : (backTo pos (starEach es X.env)).any (·.1) = false := by rfl) :
    PE X (.Call (.Name x p) (e :: es) [] pos) (tMake C sp [] E t) := by
  obtain ⟨f, ⟨fd, ps, F, b⟩, M⟩ := G.ex
  exact pe_make M F hr hg G.gl b .nil hx ha hdb he hpl
/-- e.m, a property -/
theorem pe_pr (G : Pr X.prog X.w X.K X.mg X.base CX k C m sp) (hr : Room (k + 1) X.A) (hx : Passes CX X.nox E) (he : PE X e ta)
    (hab : attributeBase e m X.env (eval e X.env) = eval e X.env := by rfl) : PE X (.Attribute e m pos) (tProp C sp [] E ta) := by
  obtain ⟨q, g, ⟨fd, ps, F, b⟩, hp⟩ := G.ex
  exact pe_prop he G.cl hp F hr b .nil hx hab
/-- C.m(e, ..), a classmethod -/
def tCm (C : Addr) (sp : Sp) (E : XK) (t : TA) : TE := fun σ H Q => t σ H fun vs H2 => sp (.ref C :: vs) H2 Q E
theorem pe_cm {pl : Sem Bool} (G : Cm X.prog X.w X.K X.mg X.base CX k x C m sp) (hr : Room k X.A) (hg : Gl X x) (hx : Passes CX X E) (ha : PA X (e :: es) t) (hdb : (x == ("__debug__" : Str)) = false := by decide)
    (hst : starEach (e :: es) X.env = (false, eval e X.env) :: starEach es X.env := by rfl) (hpl : (backTo pos (starEach es X.env)).any (·.1) = false := by rfl)
    (ht : eval (.Call (.Attribute (.Name x p) m apos) (e :: es) [] pos) X.env = (do
      let ov ← eval (.Name x p) X.env
      standAt apos.atName
      let (f, first) ← holding [ov] (getMethod ov m pl)
      callWith pos f first (backTo pos (starEach (e :: es) X.env)) (backToKw pos (keywordEach [] X.env))) := by rfl) :
    PE X (.Call (.Attribute (.Name x p) m apos) (e :: es) [] pos) (tCm C sp E t) := by
  obtain ⟨mc, q, g, F, r, c⟩ := G.ex
  have z := ClX.pe_cmeth (pl := pl) (o := .Name x p) (apos := apos) (pos := pos) (sp := sp) (E := E) (pe_glob (pos := p) hg G.gl (v := .ref C) rfl hdb) r c F.raw hr hx ha hst hpl ht
  refine ⟨fun pins s σ H Q I h => z.run pins s σ H Q I ⟨rfl, h⟩⟩
/-- c(e, ..), a local name that holds the class at C -/
def tMkL (i : Nat) (C : Addr) (sp : Sp) (E : XK) (t : TA) : TE := fun σ H Q => σ[i]? = some (some (.ref C)) ∧ tMake C sp [] E t σ H Q
theorem pe_mkL {i : Nat} {y : Str} (G : Nw X.prog X.w X.K X.mg X.base CX k y C sp) (hr : Room (k + 1) X.A) (hN : X.N[i]? = some x) (hv : Vis X.env.scope x) (hx : Passes CX X E) (ha : PA X (e :: es) t) (hd : (x == ("__debug__" : Str)) = false := by decide) (hcd : (x == ("__classdict__" : Str)) = false := by decide)
    (he : starEach (e :: es) X.env = (false, eval e X.env) :: starEach es X.env := by rfl) (hpl : (backTo pos (starEach es X.env)).any (·.1) = false := by rfl) :
    PE X (.Call (.Name x p) (e :: es) [] pos) (tMkL i C sp E t) := by
  obtain ⟨f, ⟨fd, ps, F, b⟩, M⟩ := G.ex
  refine ⟨fun pins s σ H Q I h => ?_⟩
  obtain ⟨hs, h⟩ := h
  refine wpAny_Call_Name_kw (thn ((pe_var (pos := p) (i := i) hN hv hd hcd).run pins s σ H (fun v H1 => v = .ref C ∧ H1 = H) I ⟨.ref C, hs, rfl, rfl⟩) fun u s1 ⟨v, H1, I1, r1, ev, eH⟩ => ?_)
  subst ev
  rw [eH] at I1
  cases r1
  refine PySem.W.callWith_K (h₀ := X.base) I.ok.mod.kin M.kp (thn (ha.run pos pins s1 σ H _ I1 h) fun us s2 ⟨vs, H2, I2, r, q⟩ => ⟨I2.kIn, ?_⟩) he hpl
  exact run_make M F hr b .nil hx I2 r q
/-- o[i] by an own __getitem__ -/
def rOwn (C : Addr) (sp : Sp) (E : XK) : R2 := fun x y H Q => ∃ a dx fs, x = .ref a ∧ H a = some (.ins C dx fs) ∧ sp [x, y] H Q E
theorem pe_ixO (G : Md X.prog X.w X.K X.mg X.base CX k C "__getitem__" sp) (hr : Room (k + 1) X.A) (hx : Passes CX X E) (ha : PE X o ta) (hb : PE X e tb)
    (hsl : ∀ a i, subscripted e true (.ref a) i = runValue (.builtin "lifetime.subscript" ⟨[.ref a, i], []⟩) := by intro _ _; with_unfolding_all rfl) : PE X (.Subscript o e pos) (tOp (rOwn C sp E) ta tb) := by
  obtain ⟨f, F, hm, hfi⟩ := G.ex
  refine ⟨fun pins s σ H Q I h => ?_⟩
  refine Subscript_ (binT ha hb I h fun v u s2 x y H2 I2 rx ry ⟨a, dx, fs, ea, ha2, q2⟩ => ?_)
  subst ea
  cases rx
  obtain ⟨mA, J, _⟩ := ins_get I2.hok ha2
  obtain ⟨od, J, _⟩ := J.look
  obtain ⟨mm, hF⟩ := I2.fr
  refine PySem.W.sub_K hF I2.ok.mod.kin J hm.at_ hfi hm.fn ?_ (hsl _ _)
  exact run_fo (vs := [.ref a, y]) F ⟨hr.in1, rfl⟩ hx I2 (.cons rfl (.cons ry .nil)) q2
/-- x in o by an own __contains__ that answers with a bool -/
theorem op_inO (G : Md X.prog X.w X.K X.mg X.base CX k C "__contains__" sp) (hr : Room k X.A) (hx : Passes CX X E) :
    OpR X (compareOp .In) (fun x y H Q => ∃ a dx fs, y = .ref a ∧ H a = some (.ins C dx fs) ∧ sp [y, x] H (fun v H' => ∃ b, v = .bl b ∧ Q (.bl b) H') E) := by
  obtain ⟨f, F, hm, hfi⟩ := G.ex
  intro pins s σ H x y v u Q I rx ry ⟨a, dx, fs, ea, h, hq⟩
  subst ea
  cases ry
  obtain ⟨mA, J, _⟩ := ins_get I.hok h
  obtain ⟨od, J, _⟩ := J.look
  obtain ⟨mm, hF⟩ := I.fr
  refine PySem.W.in_K hF I.ok.mod.kin J hm.at_ hm.fn (thn (run_fo (vs := [.ref a, x]) F ⟨hr, rfl⟩ hx I (.cons rfl (.cons rx .nil)) hq) fun r s' ⟨z, H', I', rz, b, eb, q⟩ => ?_)
  subst eb
  cases rz
  exact wpAny_truthy_bool ⟨.bl b, H', I', rfl, q⟩
end
/-! ### the rules whose reading names the written part, for a block (its context's K is the def's) -/
section
variable {X : Cx} {K : Fg} {o e : Expr} {te ta : TE} {f : Str} {pos : Pos} {tg : Expr}
theorem op_inK (hK : X.K = K) (hu : X.A.units + 65 < cLine) : OpR X (compareOp .In) (rInD K) := hK ▸ op_inD hu
theorem op_notInK (hK : X.K = K) (hu : X.A.units + 65 < cLine) : OpR X (compareOp .NotIn) (rNotInD K) := hK ▸ op_notInD hu
theorem op_inSK (hK : X.K = K) : OpR X (compareOp .In) (rIn K false) := hK ▸ op_in_seq
theorem op_notInSK (hK : X.K = K) : OpR X (compareOp .NotIn) (rIn K true) := hK ▸ op_notIn_seq
theorem ix_tupK (hK : X.K = K) : IxR X (rIxT K) := hK ▸ ix_tup
theorem ix_listK (hK : X.K = K) : IxR X (rIxL K) := hK ▸ ix_list
theorem ix_seqK (hK : X.K = K) : IxR X (rIx K) := hK ▸ ix_seq
theorem sl_listK (hK : X.K = K) : SlR X (rSlL K) := hK ▸ sl_list
theorem sl_tupK (hK : X.K = K) : SlR X (rSlT K) := hK ▸ sl_tup
theorem len_seqK (hK : X.K = K) : CallR X (.builtin "len") (fun xs H Q => ∃ p ys, xs = [.ref p] ∧ (SqL K H p ys ∨ SqT K H p ys) ∧ Q (.int ys.length) H) := hK ▸ call_len_seq
theorem list_ofK (hK : X.K = K) : CallR X (.type "list") (fun xs H Q => ∃ p ys, xs = [.ref p] ∧ (SqL K H p ys ∨ SqT K H p ys) ∧ ∀ l, H l = none → Q (.ref l) (upd H l (.lst ys))) := hK ▸ call_list_of
theorem pi_listK (hK : X.K = K) (he : PE X e te) : PI X tg e (iList K te) := hK ▸ pi_list he
theorem pe_fldK (hK : X.K = K) (he : PE X e ta) (hb : attributeBase e f X.env (eval e X.env) = eval e X.env) : PE X (.Attribute e f pos) (tFld K ta f) := hK ▸ pe_fld he hb
theorem isiK (hK : X.K = K) : CallR X (.builtin "isinstance") (rIsi K) := hK ▸ call_isi
end
end Tw

set_option maxHeartbeats 4000000
namespace Tw
open PySem PySem.Spec PyProof.Rows L2 ItX
/-! ### a promise that may speak of the heap's size at the entry -/
def Fn (P : Program) (w : World) (K : Fg) (mg : Str → Option Value) (base : Heap) (CX : CXT) (k : Nat) (f : Addr) (sp : Nat → Sp) : Prop :=
  ∀ (A : Around) (outer : List Env) (s : Shared) (H : Hp) (us : List Value) (vs : List V) (Q : VK) (E : XK),
    Room k A → Env0 P w K mg base A outer s H → Vals vs us → sp s.heap.objs.size vs H Q E →
      codeAny (model P w) A (.call (.ref f) ⟨us, []⟩) (CR CX outer P w H s Q E) s
section
variable {P : Program} {w : World} {K : Fg} {mg : Str → Option Value} {base : Heap} {CX : CXT} {k : Nat} {f : Addr} {x qual : Str} {params : Arguments} {body : List Stmt} {scope : Scope} {fd : FuncData} {N ps : List Str} {sp : Nat → Sp}
theorem fn_size (F : FunD K x qual params body scope [] [] f fd) (S : FnScope N ps scope) (len : ∀ n vs H Q E, sp n vs H Q E → vs.length = ps.length) (bind : Binds K fd ps [])
    (hbody : ∀ (cdv : Value) (A : Around) (outer : List Env) (s : Shared) (H : Hp) (vs : List V) (Q : VK) (E : XK), Room k (A.deeper (envOfC qual scope s.heap.objs.size f cdv)) → sp s.heap.objs.size vs H Q E →
      ∃ t, PSs (cxOf CX P w K mg base N qual scope f cdv A outer s H E) body t ∧ t { nx := fun _ H' => Q .non H', rt := Q } (start N vs) H) : Fn P w K mg base CX (k + 1) f sp := by
  intro A outer s H us vs Q E hr e0 r h
  obtain ⟨oc, od, dV, kV, doc, pm, an, cdv, ct, osl, ef, lk, hcd, _, _⟩ := F.ex
  have kin : K.In s.heap := e0.mod.kin.keeps fun b o q => (e0.bs b o q).1
  have hl : vs.length = ps.length := len _ _ _ _ _ h
  have hb : BindsTo s fd ⟨us, []⟩ (ps.zip us) := by
    have := bind s us kin (by rw [List.append_nil, ← r.length]; exact hl)
    simpa using this
  subst ef
  refine codeAny_call_function hr.depth (kin _ _ lk) rfl S.co S.gen rfl (PySem.W.codeRec_of kin hcd) (hb _ _ _ _ (wpAny_newFunctionEnv_cells S.kind (fun y hy => ?_) fun env he s1 z => ?_))
  · obtain ⟨n, v⟩ := y
    rcases S.par n (List.of_mem_zip hy).1 with q | q
    · exact Or.inl q
    · exact Or.inr ⟨q, PySem.W.cellsFrom_some _ _ _ (.inl q)⟩
  · subst he
    obtain ⟨t, ht, hq⟩ := hbody cdv A outer s H vs Q E (hr.deeper _) h
    have I := inv_start (CX := CX) (P := P) (w := w) (K := K) (mg := mg) (base := base) (qual := qual) (f := f) (cd := cdv) (E := E) S hr.hd e0 hl r z
    refine ⟨(e0.mod.nolimit.keeps fun b o q => (e0.bs b o q).1).keeps z.toInCall.keep, codeAny_func (wpAny_mono (ht.run [] s1 _ H _ I hq) (fun fl s' q => ?_) fun _ _ q => q)⟩
    match fl, q with
    | .ret u, ⟨v, σ', H', J, rv, q⟩ => exact ⟨v, H', J.os, J.bare, J.base, J.hok, rv, q⟩
    | .next, ⟨σ', H', J, q⟩ => exact ⟨.non, H', J.os, J.bare, J.base, J.hok, rfl, q⟩
    | .brk, ⟨_, _, _, q⟩ => exact q.elim
    | .cont, ⟨_, _, _, q⟩ => exact q.elim
end
/-! ### for x in o, o of an own class whose __iter__ hands on a list's iterator -/
/-- __iter__ of the class at C hands on a new iterator over the list at l that R tells of -/
def spItN (C : Addr) (R : Hp → Addr → Addr → Prop) : Nat → Sp := fun n vs H Q _ => ∃ a l dx fs, vs = [.ref a] ∧ H a = some (.ins C dx fs) ∧ R H a l ∧ ∀ it, H it = none → n ≤ it → Q (.ref it) (upd H it (ItO l it 0))
structure Ow (P : Program) (w : World) (K : Fg) (mg : Str → Option Value) (base : Heap) (CX : CXT) (k : Nat) (C : Addr) (R : Hp → Addr → Addr → Prop) : Prop where
  ex : ∃ f, Fn P w K mg base CX k f (spItN C R) ∧ PySem.W.findIn K (.ref C) "__iter__" = some (some (.ref f)) ∧ PySem.W.isFn K (.ref f) = true
def iOw (K : Fg) (C : Addr) (R : Hp → Addr → Addr → Prop) (te : TE) : TI := fun σ H Q => te σ H fun x H1 => ∃ a l dx fs, x = .ref a ∧ H1 a = some (.ins C dx fs) ∧ R H1 a l ∧ (∃ xs, SqL K H1 l xs) ∧ Q (Itl K l) H1
theorem pi_own {X : Cx} {CX : CXT} {k : Nat} {C : Addr} {R : Hp → Addr → Addr → Prop} {E : XK} {tg e : Expr} {te : TE} (G : Ow X.prog X.w X.K X.mg X.base CX k C R) (hr : Room k X.A) (hx : Passes CX X E) (he : PE X e te) : PI X tg e (iOw X.K C R te) := by
  obtain ⟨f, F, hf, hi⟩ := G.ex
  refine ⟨fun pins s σ H Q I h => ?_⟩
  refine thn (he.run pins s σ H _ I h) fun u s1 ⟨x, H1, I1, rx, a, l, dx, fs, ex, ha, hR, hl, q⟩ => ?_
  subst ex
  cases rx
  obtain ⟨mA, J, _⟩ := ins_get I1.hok ha
  obtain ⟨od, J, _⟩ := J.look
  obtain ⟨mm, hF⟩ := I1.fr
  refine PySem.W.owit_iter hF I1.ok.mod.kin J hf hi ?_
  refine wpAny_call (codeAny_mono (F X.A X.stack s1 H1 [.ref a] [.ref a] (fun v H' => ∃ it, v = .ref it ∧ H1 it = none ∧ s1.heap.objs.size ≤ it ∧ H' = upd H1 it (ItO l it 0)) E hr I1.env0 (.cons rfl .nil)
    ⟨a, l, dx, fs, rfl, ha, hR, fun it h1 h2 => ⟨it, rfl, h1, h2, rfl⟩⟩) fun r s' hq => ?_)
  cases r with
  | error e => exact hx pins σ H1 s1 e s' I1 hq
  | ok fl =>
    cases fl with
    | next => exact False.elim hq
    | brk => exact False.elim hq
    | cont => exact False.elim hq
    | ret u =>
      obtain ⟨v, H2, I2, rv, it, ev, hn, hs, eH⟩ := I1.after hq
      subst ev
      cases rv
      subst eH
      have hit : (upd H1 it (ItO l it 0)) it = some (ItO l it 0) := upd_same
      have eo := itO_get I2 hit
      have st : s'.heap.IsListIter it l 0 := ⟨_, eo, rfl, rfl⟩
      show PySem.W.OwitIt _ _ _ _ (.ref it) s'
      unfold PySem.W.OwitIt
      refine wpAny_specialOf (T := "list_iterator") ⟨_, eo, rfl⟩ slot_listiter_next.lookup ?_
      have hd : dropH (upd H1 it (ItO l it 0)) it = H1 := dropH_upd hn
      have hit' := hit
      unfold ItO at hit'
      have I3 := inv_drop I2 hit'
      rw [hd] at I3
      refine ⟨it, [it], _, _, H1, rfl, I3, turn_list l it, st, fun b hb => ?_, q⟩
      have e : b = it := by simpa using hb
      rw [e]
      have z := inv_fp I2 hit (Nat.le_trans I1.sz hs)
      rw [hd] at z
      exact z
end Tw

set_option maxHeartbeats 4000000
namespace Tw
open PySem PySem.Spec PyProof.Rows L2
/-! ### the built-in names that the texts use are nobody else's -/
structure Bi (mg : Str → Option Value) : Prop where
  len : mg "len" = none
  int : mg "int" = none
  list : mg "list" = none
  range : mg "range" = none
  any : mg "any" = none
  all : mg "all" = none
  isi : mg "isinstance" = none
  str : mg "str" = none
  tuple : mg "tuple" = none
  bool : mg "bool" = none
  iter : mg "iter" = none
  dict : mg "dict" = none
  sum : mg "sum" = none
/-! ### a def as it stands behind the top -/
structure Df (K : Fg) (name qual : Str) (st : Stmt) (ps : List Str) (f : Addr) : Prop where
  ex : ∃ fd, FunD K name qual (defArgs st) (defBody st) (defScope st) [] [] f fd ∧ Binds K fd ps []
structure Gd (K : Fg) (mg : Str → Option Value) (name : Str) (st : Stmt) (ps : List Str) : Prop where
  ex : ∃ f, Df K name name st ps f ∧ mg name = some (.ref f)
structure Me (K : Fg) (C : Addr) (m qual : Str) (st : Stmt) (ps : List Str) : Prop where
  ex : ∃ f, Df K m qual st ps f ∧ Meth K C m f ∧ PySem.W.fnIn K f = true
  cl : Cls K C
structure Ini (K : Fg) (mg : Str → Option Value) (x : Str) (C : Addr) (qual : Str) (st : Stmt) (ps : List Str) : Prop where
  ex : ∃ f, Df K "__init__" qual st ps f ∧ Mk K C f
  gl : mg x = some (.ref C)
structure Pro (K : Fg) (C : Addr) (m qual : Str) (st : Stmt) (ps : List Str) : Prop where
  ex : ∃ p g, Df K m qual st ps g ∧ PropOf K C m p g
  cl : Cls K C
structure Cme (K : Fg) (mg : Str → Option Value) (x : Str) (C : Addr) (m qual : Str) (st : Stmt) (ps : List Str) : Prop where
  ex : ∃ mc p g, Df K m qual st ps g ∧ ClX.CRead K C mc ∧ ClX.CMet K C mc m p g
  gl : mg x = some (.ref C)
section
variable {P : Program} {w : World} {K : Fg} {mg : Str → Option Value} {base : Heap} {CX : CXT} {k : Nat} {name qual m x : Str} {st : Stmt} {N ps : List Str} {f C : Addr} {sp : Sp}
theorem Df.fo (F : Df K name qual st ps f) (S : FnScope N ps (defScope st)) (len : ∀ vs H Q E, sp vs H Q E → vs.length = ps.length)
    (hbody : ∀ (cdv : Value) (A : Around) (outer : List Env) (s : Shared) (H : Hp) (vs : List V) (Q : VK) (E : XK), Room k (A.deeper (envOfC qual (defScope st) s.heap.objs.size f cdv)) → sp vs H Q E →
      ∃ t, PSs (cxOf CX0 P w K mg base N qual (defScope st) f cdv A outer s H E).nox (defBody st) t ∧ t { nx := fun _ H' => Q .non H', rt := Q } (start N vs) H) : Fo P w K mg base CX0 (k + 1) f sp := by
  obtain ⟨fd, F, b⟩ := F.ex
  refine ⟨fd, ps, F.ok S len fun cdv A outer s H vs Q E hr h => ?_, b⟩
  obtain ⟨t, h1, h2⟩ := hbody cdv A outer s H vs Q E hr h
  exact ⟨t, h1.nox, h2⟩
theorem Gd.ld (D : Gd K mg name st ps) (h : ∀ f, Df K name name st ps f → Fo P w K mg base CX k f sp) : Ld P w K mg base CX k name sp := by
  obtain ⟨f, F, hm⟩ := D.ex
  obtain ⟨fd, Fd, _⟩ := F.ex
  exact ⟨f, h f F, hm, Fd.kp⟩
theorem Me.md (D : Me K C m qual st ps) (h : ∀ f, Df K m qual st ps f → Fo P w K mg base CX k f sp) : Md P w K mg base CX k C m sp := by
  obtain ⟨f, F, hm⟩ := D.ex
  exact ⟨⟨f, h f F, hm⟩, D.cl⟩
theorem Ini.nw (D : Ini K mg x C qual st ps) (h : ∀ f, Df K "__init__" qual st ps f → Fo P w K mg base CX k f sp) : Nw P w K mg base CX k x C sp := by
  obtain ⟨f, F, hm⟩ := D.ex
  exact ⟨⟨f, h f F, hm⟩, D.gl⟩
theorem Pro.pr (D : Pro K C m qual st ps) (h : ∀ f, Df K m qual st ps f → Fo P w K mg base CX k f sp) : Pr P w K mg base CX k C m sp := by
  obtain ⟨p, g, F, hm⟩ := D.ex
  exact ⟨⟨p, g, h g F, hm⟩, D.cl⟩
theorem Cme.cm (D : Cme K mg x C m qual st ps) (h : ∀ f, Df K m qual st ps f → Fo P w K mg base CX k f sp) : Cm P w K mg base CX k x C m sp := by
  obtain ⟨mc, p, g, F, hm⟩ := D.ex
  exact ⟨⟨mc, p, g, h g F, hm⟩, D.gl⟩
end
/-- the law's def, told with its function object -/
def La (P : Program) (w : World) (K : Fg) (mg : Str → Option Value) (base : Heap) (CX : CXT) (k : Nat) (st : Stmt) (sp : Sp) : Prop :=
  ∃ f fd, FunD K "law" "law" (defArgs st) (defBody st) (defScope st) [] [] f fd ∧ mg "law" = some (.ref f) ∧ FnOk P w K mg base CX k f fd ["_law_script"] sp
theorem funD_one {K : Fg} {x qual : Str} {pm : Arguments} {bd : List Stmt} {sc : Scope} {f : Addr} {fd fd' : FuncData} (F : FunD K x qual pm bd sc [] [] f fd) (F' : FunD K x qual pm bd sc [] [] f fd') : fd = fd' := by
  obtain ⟨_, _, _, _, _, _, _, _, _, _, _, h, _⟩ := F.ex
  obtain ⟨_, _, _, _, _, _, _, _, _, _, _, h', _⟩ := F'.ex
  rw [h] at h'
  cases h'
  rfl
theorem Gd.law {P : Program} {w : World} {K : Fg} {mg : Str → Option Value} {base : Heap} {k : Nat} {st : Stmt} {N : List Str} {sp : Sp} (D : Gd K mg "law" st ["_law_script"]) (S : FnScope N ["_law_script"] (defScope st)) (len : ∀ vs H Q E, sp vs H Q E → vs.length = ["_law_script"].length)
    (hbody : ∀ (f : Addr) (cdv : Value) (A : Around) (outer : List Env) (s : Shared) (H : Hp) (vs : List V) (Q : VK) (E : XK), Room k (A.deeper (envOfC "law" (defScope st) s.heap.objs.size f cdv)) → sp vs H Q E →
      ∃ t, PSs (cxOf CX0 P w K mg base N "law" (defScope st) f cdv A outer s H E).nox (defBody st) t ∧ t { nx := fun _ H' => Q .non H', rt := Q } (start N vs) H) : La P w K mg base CX0 (k + 1) st sp := by
  obtain ⟨f, ⟨fd, F, b⟩, hm⟩ := D.ex
  exact ⟨f, fd, F, hm, F.ok S len fun cdv A outer s H vs Q E hr h => let ⟨t, h1, h2⟩ := hbody f cdv A outer s H vs Q E hr h; ⟨t, h1.nox, h2⟩⟩
theorem hu65 {k : Nat} {A : Around} (hr : Room k A) : A.units + 65 < cLine := by have := hr.un; omega
theorem sqL_upd {K : Fg} {H : Hp} {a l : Addr} {xs : List V} {o : HO} (h : SqL K H a xs) (ne : a ≠ l) : SqL K (upd H l o) a xs := by
  rcases h with (h | ⟨u, h⟩) | h
  · exact .inl (.inl (by rw [upd_ne ne]; exact h))
  · exact .inl (.inr ⟨u, by rw [upd_ne ne]; exact h⟩)
  · exact .inr h
/-- two lists that are read at one address are one, if it is tracked as a list -/
theorem lst_inj {H : Hp} {a : Addr} {xs ys : List V} (h : H a = some (.lst xs)) (h' : H a = some (.lst ys)) : xs = ys := by
  rw [h] at h'; cases h'; rfl
/-! ### drawing: a row of ints at row, the place of the next draw in the list at cell -/
structure Drw (K : Fg) (H : Hp) (row cell : Addr) : Prop where
  rws : ∃ ms : List Int, H row = some (.lst (ms.map V.int))
  ne : row ≠ cell
  cnt : ∃ k : Int, 0 ≤ k ∧ H cell = some (.lst [.int k])
/-- all but the thing at l is as it was -/
def Fra (l : Addr) (H H' : Hp) : Prop := ∀ a o, a ≠ l → H a = some o → H' a = some o
theorem Fra.refl {l : Addr} {H : Hp} : Fra l H H := fun _ _ _ h => h
theorem Fra.trans {l : Addr} {H H1 H2 : Hp} (a : Fra l H H1) (b : Fra l H1 H2) : Fra l H H2 := fun p o n h => b p o n (a p o n h)
theorem Fra.put {l : Addr} {H : Hp} {o : HO} : Fra l H (upd H l o) := fun a u n h => by rw [upd_ne n]; exact h
theorem Fra.same {l : Addr} {H H' : Hp} (e : Same H H') : Fra l H H' := fun a o _ h => e a o h
theorem Fra.new {l p : Addr} {H : Hp} {o : HO} (h : H p = none) : Fra l H (upd H p o) := Fra.same (Same.new h)
/-- a change of a thing that H did not know -/
theorem Fra.mut {l p : Addr} {H H' : Hp} {o : HO} (e : Fra l H H') (h : H p = none) : Fra l H (upd H' p o) := fun a u n q => by rw [upd_ne (ne_of_none q h)]; exact e a u n q
theorem Fra.free {l p : Addr} {H H' : Hp} (e : Fra l H H') (hp : p ≠ l) (h : H' p = none) : H p = none := by
  cases q : H p with
  | none => rfl
  | some o => rw [e p o hp q] at h; cases h
theorem Drw.tups {K : Fg} {H H' : Hp} {row cell : Addr} (d : Drw K H row cell) (f : Fra cell H H') : Tups K H H' := fun p ys q => by
  obtain ⟨k, _, hk⟩ := d.cnt
  rcases q with (q | ⟨u, q⟩) | q
  · exact .inl (.inl (f _ _ (ne_of q hk (by intro z; cases z)) q))
  · exact .inl (.inr ⟨u, f _ _ (ne_of q hk (by intro z; cases z)) q⟩)
  · exact .inr q
theorem sqL_fra {K : Fg} {H H' : Hp} {a l : Addr} {xs : List V} (f : Fra l H H') (ne : a ≠ l) (h : SqL K H a xs) : SqL K H' a xs := by
  rcases h with (h | ⟨u, h⟩) | h
  · exact .inl (.inl (f _ _ ne h))
  · exact .inl (.inr ⟨u, f _ _ ne h⟩)
  · exact .inr h
theorem Drw.put {K : Fg} {H : Hp} {row cell : Addr} {k : Int} (d : Drw K H row cell) (hk : 0 ≤ k) : Drw K (upd H cell (.lst [.int k])) row cell :=
  ⟨let ⟨ms, h⟩ := d.rws; ⟨ms, by rw [upd_ne d.ne]; exact h⟩, d.ne, k, hk, upd_same⟩
theorem Drw.same {K : Fg} {H H' : Hp} {row cell : Addr} (d : Drw K H row cell) (e : Same H H') : Drw K H' row cell :=
  ⟨let ⟨ms, h⟩ := d.rws; ⟨ms, e _ _ h⟩, d.ne, let ⟨k, h0, h⟩ := d.cnt; ⟨k, h0, e _ _ h⟩⟩
theorem Drw.new {K : Fg} {H : Hp} {row cell p : Addr} {o : HO} (d : Drw K H row cell) (h : H p = none) : Drw K (upd H p o) row cell := d.same (Same.new h)
/-- a change of another thing than the row and the cell -/
theorem Drw.mut {K : Fg} {H : Hp} {row cell p : Addr} {o : HO} (d : Drw K H row cell) (h1 : row ≠ p) (h2 : cell ≠ p) : Drw K (upd H p o) row cell :=
  ⟨let ⟨ms, h⟩ := d.rws; ⟨ms, by rw [upd_ne h1]; exact h⟩, d.ne, let ⟨k, h0, h⟩ := d.cnt; ⟨k, h0, by rw [upd_ne h2]; exact h⟩⟩
/-! ### the promises of the law's own drawers -/
def spRow (K : Fg) : Sp := fun vs H Q _ => ∃ (a : Addr) (ns : List Int), vs = [.ref a] ∧ SqL K H a (ns.map V.int) ∧
  ∀ l (ms : List Int) H', H l = none → Same H H' → H' l = some (.lst (ms.map V.int)) → Q (.ref l) H'
def spTake (K : Fg) : Sp := fun vs H Q _ => ∃ (row cell : Addr) (many : Int), vs = [.ref row, .ref cell, .int many] ∧ Drw K H row cell ∧ 0 < many ∧
  ∀ r k, 0 ≤ r → r < many → 0 ≤ k → Q (.int r) (upd H cell (.lst [.int k]))
end Tw
namespace Tw
open PySem PySem.Spec PyProof.Rows L2
theorem ite_f {b : Bool} {A B : Prop} (h : b = false) (x : B) : if b = true then A else B := by subst h; exact x
theorem ite_t {b : Bool} {A B : Prop} (h : b = true) (x : A) : if b = true then A else B := by subst h; exact x
/-! ### comparing data: the law's own _law_same answers True for two things of equal data -/
mutual
def sm : PyData → Bool
  | .list xs => decide (xs.length ≤ 1000000) && smAll xs
  | .tuple xs => decide (xs.length ≤ 1000000) && smAll xs
  | .dict _ => false
  | _ => true
def smAll : List PyData → Bool
  | [] => true
  | x :: xs => sm x && smAll xs
end
theorem sm_lst (xs : List PyData) : sm (.list xs) = (decide (xs.length ≤ 1000000) && smAll xs) := by simp only [sm]
theorem sm_tup (xs : List PyData) : sm (.tuple xs) = (decide (xs.length ≤ 1000000) && smAll xs) := by simp only [sm]
theorem smAll_cons (x : PyData) (xs : List PyData) : smAll (x :: xs) = (sm x && smAll xs) := by simp only [smAll]
theorem smAll_of {xs : List PyData} (h : ∀ x ∈ xs, sm x = true) : smAll xs = true := by
  induction xs with
  | nil => simp [smAll]
  | cons x xs ih =>
    rw [smAll_cons, Bool.and_eq_true]
    exact ⟨h x (List.mem_cons_self ..), ih fun y hy => h y (List.mem_cons_of_mem _ hy)⟩
theorem smAll_mem {xs : List PyData} (h : smAll xs = true) : ∀ x ∈ xs, sm x = true := by
  induction xs with
  | nil => intro x hx; cases hx
  | cons x xs ih =>
    rw [smAll_cons, Bool.and_eq_true] at h
    intro y hy
    rcases List.mem_cons.mp hy with rfl | hy
    · exact h.1
    · exact ih h.2 y hy
theorem depth_mem {xs : List PyData} : ∀ x ∈ xs, x.depth ≤ PyData.depthAll xs := by
  induction xs with
  | nil => intro x hx; cases hx
  | cons x xs ih =>
    intro y hy
    simp only [PyData.depthAll]
    rcases List.mem_cons.mp hy with rfl | hy
    · omega
    · have := ih y hy
      omega
theorem depth_lst (xs : List PyData) : PyData.depth (.list xs) = PyData.depthAll xs + 1 := by simp only [PyData.depth] <;> omega
theorem depth_tup (xs : List PyData) : PyData.depth (.tuple xs) = PyData.depthAll xs + 1 := by simp only [PyData.depth] <;> omega
theorem tyx_lst {K : Fg} {H : Hp} {a : Addr} {xs : List V} (h : SqL K H a xs) : TyX K H (.ref a) (.type "list") := by
  rcases h with (h | ⟨o, h⟩) | ⟨o, its, n, h1, h2, _⟩
  · exact .base (.lst h)
  · exact .base (.frz h)
  · exact .kList h1 h2
theorem tyx_tup {K : Fg} {H : Hp} {a : Addr} {xs : List V} (h : SqT K H a xs) : TyX K H (.ref a) (.type "tuple") := by
  rcases h with (h | ⟨o, h⟩) | ⟨o, its, n, h1, h2, _⟩
  · exact .base (.tup h)
  · exact .fTuple h
  · exact .kTuple h1 h2
theorem rIx_of {K : Fg} {H : Hp} {a : Addr} {xs : List V} {i : Int} {v : V} {Q : VK} (h : SqL K H a xs ∨ SqT K H a xs) (e : atI xs i = some v) (q : Q v H) : rIx K (.ref a) (.int i) H Q := by
  rcases h with h | h
  · exact .inl ⟨a, xs, i, v, rfl, rfl, h, e, q⟩
  · exact .inr (.inl ⟨a, xs, i, v, rfl, rfl, h, e, q⟩)
def spSame (K : Fg) (n : Nat) : Sp := fun vs H Q _ => ∃ (v u : V) (d : PyData), vs = [v, u] ∧ Dp K H v d ∧ Dp K H u d ∧ d.depth ≤ n ∧ sm d = true ∧ Q (.bl true) H
end Tw

set_option maxHeartbeats 4000000
namespace Tw
open PySem PySem.Spec PyProof.Rows L2
/-! ### one walk of an iterator, whatever the turn does -/
theorem walk_rng {lo : Int} {n : Nat} {H0 : Hp} {Qd : Hp → Prop} {body : V → Hp → (Hp → Prop) → Prop} (Pv : Nat → Hp → Prop) (h0 : Pv 0 H0) (hs : ∀ i H, i < n → Pv i H → body (.int (lo + (i : Int))) H (Pv (i + 1))) (hd : ∀ H, Pv n H → Qd H) :
    ∃ W : Nat → Nat → Hp → Prop, (∃ m, W 0 m H0) ∧ ∀ i m H, W i m H →
      ((Itr lo n).stop i H ∧ Qd H) ∨ ((Itr lo n).go i H ∧ ∃ Nx : Hp → Prop, (∀ H', Nx H' → ∃ m', m' < m ∧ W (i + 1) m' H') ∧ ∀ x H', (Itr lo n).yld i H x H' → body x H' Nx) := by
  refine ⟨fun i m H => Pv i H ∧ i ≤ n ∧ m = n - i, ⟨n, h0, Nat.zero_le _, by omega⟩, fun i m H ⟨hp, hi, hm⟩ => ?_⟩
  by_cases h : i < n
  · refine .inr ⟨h, Pv (i + 1), fun H' q => ⟨n - (i + 1), by omega, q, by omega, rfl⟩, fun x H' hy => ?_⟩
    obtain ⟨e1, e2⟩ := hy
    rw [e1, e2]
    exact hs i H h hp
  · have e : i = n := by omega
    exact .inl ⟨by show n ≤ i; omega, hd H (by rw [← e]; exact hp)⟩
theorem walk_lst {K : Fg} {a : Addr} {xs : List V} {H0 : Hp} {Qd : Hp → Prop} {body : V → Hp → (Hp → Prop) → Prop} (Pv : Nat → Hp → Prop) (h0 : Pv 0 H0) (hl : ∀ i H, i ≤ xs.length → Pv i H → SqL K H a xs)
    (hs : ∀ i x H, xs[i]? = some x → Pv i H → body x H (Pv (i + 1))) (hd : ∀ H, Pv xs.length H → Qd H) :
    ∃ W : Nat → Nat → Hp → Prop, (∃ m, W 0 m H0) ∧ ∀ i m H, W i m H →
      ((Itl K a).stop i H ∧ Qd H) ∨ ((Itl K a).go i H ∧ ∃ Nx : Hp → Prop, (∀ H', Nx H' → ∃ m', m' < m ∧ W (i + 1) m' H') ∧ ∀ x H', (Itl K a).yld i H x H' → body x H' Nx) := by
  refine ⟨fun i m H => Pv i H ∧ i ≤ xs.length ∧ m = xs.length - i, ⟨xs.length, h0, Nat.zero_le _, by omega⟩, fun i m H ⟨hp, hi, hm⟩ => ?_⟩
  by_cases h : i < xs.length
  · refine .inr ⟨⟨xs, _, hl i H hi hp, List.getElem?_eq_getElem h⟩, Pv (i + 1), fun H' q => ⟨xs.length - (i + 1), by omega, q, by omega, rfl⟩, fun x H' hy => ?_⟩
    obtain ⟨e1, e2⟩ := hy
    rw [e1]
    exact hs i x H (e2 xs (hl i H hi hp)) hp
  · have e : i = xs.length := by omega
    exact .inl ⟨⟨xs, hl i H hi hp, by omega⟩, hd H (by rw [← e]; exact hp)⟩
/-! ### Watcher.MOST -/
structure Most (K : Fg) (mg : Str → Option Value) : Prop where
  ex : ∃ C mc u, mg "Watcher" = some (.ref C) ∧ ClX.CRead K C mc ∧ ClX.CVal K C mc "MOST" (.int 4) u
theorem pe_most {X : Cx} {p pos : Pos} (M : Most X.K X.mg) (hg : Gl X "Watcher") (hb : attributeBase (.Name "Watcher" p) "MOST" X.env (eval (.Name "Watcher" p) X.env) = eval (.Name "Watcher" p) X.env := by rfl) : PE X (.Attribute (.Name "Watcher" p) "MOST" pos) (tC (.int 4)) := by
  obtain ⟨C, mc, u, hm, hr, hv⟩ := M.ex
  have z := ClX.pe_cval (f := "MOST") (pos := pos) (pe_glob (pos := p) hg hm (v := .ref C) rfl (by decide)) hb
  exact ⟨fun pins s σ H Q I h => z.run pins s σ H Q I ⟨C, mc, _, u, rfl, hr, hv, h⟩⟩
/-! ### ways: tuples of ints -/
abbrev Wy := List Int
def tI (w : Wy) : PyData := .tuple (w.map .int)
theorem ints_inj : ∀ {a b : List Int}, a.map PyData.int = b.map PyData.int → a = b
  | [], [], _ => rfl
  | [], _ :: _, h => by cases h
  | _ :: _, [], h => by cases h
  | x :: a, y :: b, h => by
    rw [List.map_cons, List.map_cons] at h
    injection h with h1 h2
    injection h1 with h1
    rw [h1, ints_inj h2]
theorem tI_inj {a b : Wy} : tI a = tI b ↔ a = b := ⟨fun h => ints_inj (by injection h), fun h => by rw [h]⟩
theorem clean_ints (a : List Int) : cleanAll (a.map PyData.int) = true := cleanAll_of fun x hx => by
  obtain ⟨i, _, rfl⟩ := List.mem_map.mp hx
  simp only [clean]
theorem clean_tI (w : Wy) : clean (tI w) = true := by rw [tI, clean_tup]; exact clean_ints w
theorem depth_ints (a : List Int) : PyData.depthAll (a.map PyData.int) = 0 := Nat.le_zero.mp (depthAll_of fun x hx => by
  obtain ⟨i, _, rfl⟩ := List.mem_map.mp hx
  simp [PyData.depth])
theorem depth_tI (w : Wy) : (tI w).depth = 1 := by rw [tI, depth_tup, depth_ints]
theorem depth_ways (ws : List Wy) : (PyData.list (ws.map tI)).depth ≤ 2 := by
  rw [depth_lst]
  have := depthAll_of (xs := ws.map tI) (n := 1) fun x hx => by
    obtain ⟨w, _, rfl⟩ := List.mem_map.mp hx
    rw [depth_tI]; exact Nat.le_refl _
  omega
theorem clean_ways (ws : List Wy) : clean (.list (ws.map tI)) = true := by
  rw [clean_lst]
  exact cleanAll_of fun x hx => by
    obtain ⟨w, _, rfl⟩ := List.mem_map.mp hx
    exact clean_tI w
theorem shaped_tI (w : Wy) : SeqAt.shaped (tI w) = true := shaped_of (clean_tI w) (by rw [depth_tI]; decide)
theorem shaped_ways (ws : List Wy) : SeqAt.shaped (.list (ws.map tI)) = true := shaped_of (clean_ways ws) (Nat.le_trans (depth_ways ws) (by decide))
theorem sm_ints (a : List Int) : smAll (a.map PyData.int) = true := smAll_of fun x hx => by
  obtain ⟨i, _, rfl⟩ := List.mem_map.mp hx
  simp only [sm]
theorem sm_tI {w : Wy} (h : w.length ≤ 1000000) : sm (tI w) = true := by
  rw [tI, sm_tup, Bool.and_eq_true, List.length_map]
  exact ⟨decide_eq_true h, sm_ints w⟩
theorem sm_ways {ws : List Wy} (h : ws.length ≤ 1000000) (hw : ∀ w ∈ ws, w.length ≤ 1000000) : sm (.list (ws.map tI)) = true := by
  rw [sm_lst, Bool.and_eq_true, List.length_map]
  exact ⟨decide_eq_true h, smAll_of fun x hx => by
    obtain ⟨w, h, rfl⟩ := List.mem_map.mp hx
    exact sm_tI (hw w h)⟩
theorem any_ways (ws : List Wy) (w : Wy) : ((ws.map tI).any fun z => PyData.eqv z (tI w)) = decide (w ∈ ws) := by
  rw [List.any_map]
  induction ws with
  | nil => rfl
  | cons y ws ih =>
    rw [List.any_cons, ih]
    have e : PyData.eqv (tI y) (tI w) = decide (y = w) := eqv_dec (clean_tI y) (clean_tI w) (by rw [decide_eq_true_iff, tI_inj])
    show (PyData.eqv (tI y) (tI w) || decide (w ∈ ws)) = _
    rw [e]
    by_cases h : y = w
    · subst h; simp
    · have h' : ¬ w = y := fun q => h q.symm
      simp [h, h']
/-- x in a list of ways -/
theorem inW {K : Fg} {H : Hp} {x : V} {w : Wy} {l : Addr} {ws : List Wy} {Q : VK} (hx : Im K H x (tI w)) (hl : LsR K H l (ws.map tI)) (q : Q (.bl (decide (w ∈ ws))) H) : rInD K x (.ref l) H Q :=
  ⟨_, _, hx.dp, hl.dp, shaped_tI w, shaped_ways ws, by rw [any_ways]; exact q⟩
/-- a tuple of ints that was just laid -/
theorem im_ints {K : Fg} {H : Hp} (w : Wy) : ImAll K H (w.map V.int) (w.map .int) := by
  induction w with
  | nil => exact .nil
  | cons x w ih => exact .cons (.int x) ih
theorem im_new {K : Fg} {H : Hp} {p : Addr} (w : Wy) (h : H p = none) : Im K (upd H p (.tup (w.map V.int))) (.ref p) (tI w) := tup_new h (im_ints w)
theorem im_ints_inv {K : Fg} {H : Hp} : ∀ {w : Wy} {xs : List V}, ImAll K H xs (w.map .int) → xs = w.map V.int
  | [], _, .nil => rfl
  | x :: w, _, .cons h hs => by cases h; rw [im_ints_inv hs]; rfl
theorem im_tI {K : Fg} {H : Hp} {v : V} {w : Wy} (h : Im K H v (tI w)) : ∃ a, v = .ref a ∧ SqT K H a (w.map V.int) := by
  unfold tI at h
  cases h with
  | tup h hs => exact ⟨_, rfl, by rw [← im_ints_inv hs]; exact h⟩
/-- the way is one of an ability of that arity -/
def isW (ar : Int) : Wy → Bool
  | [p] => decide (0 ≤ p) && decide (p < 4)
  | [p, i, q] => (decide (0 ≤ i) && decide (i < ar)) && ((decide (0 ≤ p) && decide (p < 4)) && (decide (0 ≤ q) && decide (q < 4)))
  | _ => false
/-- the normal form -/
def nrmI (ws : List Wy) (p : Int) (i : Int) : List Wy := (List.range 4).flatMap fun (q : Nat) => if [p, i, (q : Int)] ∈ ws then [[p, i, (q : Int)]] else []
def nrmP (ar : Nat) (ws : List Wy) (p : Int) : List Wy := if [p] ∈ ws then [[p]] else (List.range ar).flatMap fun (i : Nat) => nrmI ws p i
def nrm (ar : Nat) (ws : List Wy) : List Wy := (List.range 4).flatMap fun (p : Nat) => nrmP ar ws p
theorem range_flat {α : Type} (f : Nat → List α) (n : Nat) : (List.range (n + 1)).flatMap f = (List.range n).flatMap f ++ f n := by
  rw [List.range_succ, List.flatMap_append, List.flatMap_singleton]
theorem flat_len {α : Type} (f : Nat → List α) (c : Nat) (h : ∀ i, (f i).length ≤ c) : ∀ n, ((List.range n).flatMap f).length ≤ c * n
  | 0 => by simp
  | n + 1 => by
    rw [range_flat, List.length_append]
    have := flat_len f c h n
    have := h n
    rw [Nat.mul_add]; omega
theorem nrmI_len (ws : List Wy) (p i : Int) : (nrmI ws p i).length ≤ 4 := by
  have := flat_len (fun (q : Nat) => if [p, i, (q : Int)] ∈ ws then [[p, i, (q : Int)]] else ([] : List Wy)) 1 (fun q => by split <;> simp) 4
  exact this
theorem nrmP_len (ar : Nat) (ws : List Wy) (p : Int) : (nrmP ar ws p).length ≤ 1 + 4 * ar := by
  unfold nrmP
  split
  · simp
  · have := flat_len (fun (i : Nat) => nrmI ws p i) 4 (fun i => nrmI_len ws p i) ar
    omega
theorem nrm_len (ar : Nat) (ws : List Wy) : (nrm ar ws).length ≤ 4 + 16 * ar := by
  have := flat_len (fun (p : Nat) => nrmP ar ws p) (1 + 4 * ar) (fun p => nrmP_len ar ws p) 4
  show ((List.range 4).flatMap fun (p : Nat) => nrmP ar ws p).length ≤ _
  omega
theorem nrm_mem {ar : Nat} {ws : List Wy} {w : Wy} (h : w ∈ nrm ar ws) : w.length ≤ 3 := by
  obtain ⟨p, _, h⟩ := List.mem_flatMap.mp h
  unfold nrmP at h
  split at h
  · rw [List.mem_singleton.mp h]; simp
  · obtain ⟨i, _, h⟩ := List.mem_flatMap.mp h
    obtain ⟨q, _, h⟩ := List.mem_flatMap.mp h
    split at h
    · rw [List.mem_singleton.mp h]; simp
    · cases h
/-! ### attributes by name -/
theorem putF_hit (f : Str) (v x : V) (r : List (Str × V)) : putF f v ((f, x) :: r) = (f, v) :: r := by
  show (if f = f then _ else _) = _
  rw [if_pos rfl]
theorem putF_miss {f g : Str} (h : ¬ g = f) (v x : V) (r : List (Str × V)) : putF f v ((g, x) :: r) = (g, x) :: putF f v r := by
  show (if g = f then _ else _) = _
  rw [if_neg h]
theorem putF_nil (f : Str) (v : V) : putF f v [] = [(f, v)] := rfl
theorem look_hit (f : Str) (v : V) (r : List (Str × V)) : List.lookup f ((f, v) :: r) = some v := by
  rw [List.lookup_cons]
  simp
theorem look_miss {f g : Str} (h : ¬ f = g) (v : V) (r : List (Str × V)) : List.lookup f ((g, v) :: r) = List.lookup f r := by
  rw [List.lookup_cons]
  have e : (f == g) = false := beq_eq_false_iff_ne.mpr h
  rw [e]
/-! ### an ability as it stands -/
def abF (ar : Nat) (l : Addr) : List (Str × V) := [("taken", V.int ar), ("rows", V.ref l)]
theorem abF_put (ar : Nat) (l : Addr) : putF "rows" (.ref l) (putF "taken" (.int ar) []) = abF ar l := by
  rw [putF_nil, putF_miss (by decide +kernel), putF_nil]; rfl
theorem abF_taken (ar : Nat) (l : Addr) : (abF ar l).lookup ("taken" : Str) = some (.int ar) := look_hit _ _ _
theorem abF_rows (ar : Nat) (l : Addr) : (abF ar l).lookup ("rows" : Str) = some (.ref l) := by
  rw [abF, look_miss (by decide +kernel), look_hit]
theorem abF_no (ar : Nat) (l : Addr) {m : Str} (h1 : ¬ m = "taken") (h2 : ¬ m = "rows") : (abF ar l).lookup m = none := by
  rw [abF, look_miss h1, look_miss h2]; rfl
def AbAt (K : Fg) (C : Addr) (H : Hp) (a : Addr) (ar : Nat) (rows : List Wy) : Prop :=
  ∃ dx l, H a = some (.ins C dx (abF ar l)) ∧ LsM K H l (rows.map tI)
theorem AbAt.same {K : Fg} {C : Addr} {H H' : Hp} {a : Addr} {ar : Nat} {rows : List Wy} (e : Same H H') (h : AbAt K C H a ar rows) : AbAt K C H' a ar rows :=
  let ⟨dx, l, h1, h3⟩ := h
  ⟨dx, l, e _ _ h1, h3.mono e⟩
/-- .. its list told -/
def AbL (K : Fg) (C : Addr) (H : Hp) (a l : Addr) (ar : Nat) (rows : List Wy) : Prop := ∃ dx, H a = some (.ins C dx (abF ar l)) ∧ LsM K H l (rows.map tI)
theorem AbL.at' {K : Fg} {C : Addr} {H : Hp} {a l : Addr} {ar : Nat} {rows : List Wy} (h : AbL K C H a l ar rows) : AbAt K C H a ar rows := let ⟨dx, h1, h2⟩ := h; ⟨dx, l, h1, h2⟩
theorem AbL.same {K : Fg} {C : Addr} {H H' : Hp} {a l : Addr} {ar : Nat} {rows : List Wy} (e : Same H H') (h : AbL K C H a l ar rows) : AbL K C H' a l ar rows := let ⟨dx, h1, h2⟩ := h; ⟨dx, e _ _ h1, h2.mono e⟩
/-- another thing than the ability and its list is changed -/
theorem AbL.fra {K : Fg} {C m : Addr} {H H' : Hp} {a l : Addr} {ar : Nat} {rows : List Wy} (f : Fra m H H') (t : Tups K H H') (h1 : a ≠ m) (h2 : l ≠ m) (h : AbL K C H a l ar rows) : AbL K C H' a l ar rows :=
  let ⟨dx, q1, vs, q2, q3⟩ := h; ⟨dx, f _ _ h1 q1, vs, f _ _ h2 q2, q3.mono t⟩
theorem LsM.fra {K : Fg} {m : Addr} {H H' : Hp} {l : Addr} {ds : List PyData} (f : Fra m H H') (t : Tups K H H') (h2 : l ≠ m) (h : LsM K H l ds) : LsM K H' l ds := let ⟨vs, q2, q3⟩ := h; ⟨vs, f _ _ h2 q2, q3.mono t⟩
def spIsWay (K : Fg) : Sp := fun vs H Q _ => ∃ (ar : Int) (v : V) (w : Wy), vs = [.int ar, v] ∧ Im K H v (tI w) ∧ Q (.bl (isW ar w)) H
def spNormal (K : Fg) : Sp := fun vs H Q _ => ∃ (ar : Nat) (l : Addr) (ws : List Wy), vs = [.int ar, .ref l] ∧ LsR K H l (ws.map tI) ∧ ar ≤ 4 ∧
  ∀ p H', H p = none → Same H H' → LsM K H' p ((nrm ar ws).map tI) → Q (.ref p) H'

/-! ### a comprehension over a list of unchanging data -/
def TB (tt : TT) (σ : L2.St) (H : Hp) (b : Bool) : Prop := ∀ H1, Same H H1 → ∀ Q : Bool → Hp → Prop, (∀ H2, Same H1 H2 → Q b H2) → tt σ H1 Q
def EI (K : Fg) (te : TE) (σ : L2.St) (H : Hp) (d : PyData) : Prop := ∀ H1, Same H H1 → ∀ Q : VK, (∀ v H2, Same H1 H2 → Im K H2 v d → Q v H2) → te σ H1 Q
theorem take_snoc {α : Type} {xs : List α} {i : Nat} {x : α} (h : xs[i]? = some x) : xs.take (i + 1) = xs.take i ++ [x] := by
  obtain ⟨hi, e⟩ := List.getElem?_eq_some_iff.mp h
  rw [List.take_succ, h]; rfl
theorem lcI {K : Fg} {a : Addr} {xs : List V} {ds : List PyData} {j : Nat} {tt : TT} {te : TE} {vs : List Nat} {σ : L2.St} {H : Hp} {Qd : Addr → Hp → Prop} (p : PyData → Bool) (f : PyData → PyData) (h : SqL K H a xs) (him : ImAll K H xs ds) (hz : xs.length ≤ 100000)
    (hw : ∀ x, wipe ((wipe σ vs).set j (some x)) vs = wipe σ vs) (ht : ∀ x d, Im K H x d → d ∈ ds → TB tt ((wipe σ vs).set j (some x)) H (p d)) (he : ∀ x d, Im K H x d → d ∈ ds → p d = true → EI K te ((wipe σ vs).set j (some x)) H (f d))
    (q : ∀ l H', H l = none → Same H H' → LsM K H' l ((ds.filter p).map f) → Qd l H') :
    ∀ D, H D = none → ∃ W : Nat → Nat → Hp → Prop, (∃ m, W 0 m (upd H D (.lst []))) ∧ ∀ i m H, W i m H →
      ((Itl K a).stop i H ∧ Qd D H) ∨ ((Itl K a).go i H ∧ ∃ Nx : Hp → Prop, (∀ H', Nx H' → ∃ m', m' < m ∧ W (i + 1) m' H') ∧ ∀ x H', (Itl K a).yld i H x H' → gName j x (wipe σ vs) H' fun σ2 H2 => wipe σ2 vs = wipe σ vs ∧ tt σ2 H2 fun b H3 =>
        if b = true then te σ2 H3 fun y H4 => ∃ acc, H4 D = some (.lst acc) ∧ acc.length < sizeLine ∧ Nx (upd H4 D (.lst (acc ++ [y]))) else Nx H3) := fun D hD => by
  have hx := him.length
  refine walk_lst (xs := xs) (fun i H' => Same H H' ∧ LsM K H' D (((ds.take i).filter p).map f)) ⟨.new hD, [], upd_same, by simpa using ImAll.nil⟩ (fun i H' _ ⟨s, _⟩ => s.seq h) ?_ ?_
  · rintro i x H' hi ⟨s, us, hDs, him'⟩
    obtain ⟨d, ed, hd⟩ := him.of_at hi
    have hm := List.mem_of_getElem? ed
    refine ⟨hw x, ht x d hd hm H' s _ fun H2 s2 => ?_⟩
    rw [take_snoc ed, List.filter_append, List.map_append]
    by_cases hp : p d = true
    · rw [hp]
      rw [if_pos rfl]
      refine he x d hd hm hp H2 (s.trans s2) _ fun v H3 s3 hv => ?_
      have hlen : us.length ≤ 100000 := by
        have e := him'.length
        rw [List.length_map] at e
        have e2 := List.length_filter_le p (ds.take i)
        have e3 := List.length_take_le i ds
        have e4 : (ds.take i).length ≤ ds.length := by rw [List.length_take]; omega
        omega
      refine ⟨us, s3 _ _ (s2 _ _ hDs), Nat.lt_of_le_of_lt hlen (by decide), ((s.trans s2).trans s3).upd hD, ?_⟩
      rw [show List.filter p [d] = [d] from by simp [hp]]
      exact LsM.put (s3 _ _ (s2 _ _ hDs)) ((him'.mono (.same (s2.trans s3))).snoc hv)
    · have hp := Bool.eq_false_iff.mpr hp
      rw [hp]
      rw [if_neg (by decide)]
      refine ⟨s.trans s2, ?_⟩
      rw [show List.filter p [d] = [] from by simp [hp], List.map_nil, List.append_nil]
      exact LsM.mono s2 ⟨us, hDs, him'⟩
  · rintro H' ⟨s, hl⟩
    refine q D H' hD s ?_
    rw [hx, List.take_length] at hl
    exact hl
theorem sqL_off {K : Fg} {H : Hp} {a p C dx : Addr} {fs : List (Str × V)} {xs : List V} {o : HO} (h : SqL K H a xs) (hp : H p = some (.ins C dx fs)) : SqL K (upd H p o) a xs := by
  rcases h with (h | ⟨u, h⟩) | h
  · exact .inl (.inl (by rw [upd_ne (ne_of h hp (by intro z; cases z))]; exact h))
  · exact .inl (.inr ⟨u, by rw [upd_ne (ne_of h hp (by intro z; cases z))]; exact h⟩)
  · exact .inr h
/-! ### slices of a way -/
def cutW (w : Wy) (lo hi : Option Int) : Wy := (w.drop (HT.sIx w.length 0 lo)).take (HT.sIx w.length w.length hi - HT.sIx w.length 0 lo)
theorem im_cut {K : Fg} {H : Hp} {v : V} {w : Wy} {lo hi : Option Int} {Q : VK} (h : Im K H v (tI w)) (q : ∀ v' H', Same H H' → Im K H' v' (tI (cutW w lo hi)) → Q v' H') : rSlA K v lo hi H Q := by
  obtain ⟨a, rfl, hT⟩ := im_tI h
  refine ⟨a, _, rfl, hT, fun hw => ?_, fun _ p hp => ?_⟩
  · refine q _ H (fun _ _ e => e) ?_
    have e : cutW w lo hi = w := by
      rw [List.length_map] at hw
      unfold cutW
      rw [hw.1, hw.2, List.drop_zero, Nat.sub_zero, List.take_length]
    rw [e]; exact h
  · have e : cutV (w.map V.int) lo hi = (cutW w lo hi).map V.int := by
      unfold cutV cutW
      rw [List.length_map, List.map_take, List.map_drop]
    rw [e]
    exact q _ _ (.new hp) (im_new _ hp)
theorem cutW_1 (w : Wy) : cutW w none (some 1) = w.take 1 := by
  unfold cutW
  simp only [HT.sIx]
  rw [if_neg (by decide), List.drop_zero, Nat.sub_zero]
  show w.take (min 1 w.length) = _
  rw [← List.take_take, List.take_length]
theorem cutW_2 (w : Wy) : cutW w (some 2) none = w.drop 2 := by
  unfold cutW
  simp only [HT.sIx]
  rw [if_neg (by decide)]
  show (w.drop (min 2 w.length)).take (w.length - min 2 w.length) = _
  rw [List.take_of_length_le (by rw [List.length_drop]; exact Nat.le_refl _)]
  by_cases h : 2 ≤ w.length
  · rw [Nat.min_eq_left h]
  · rw [Nat.min_eq_right (by omega), List.drop_length, List.drop_of_length_le (by omega)]
def hasW (rows : List Wy) (w : Wy) : Bool := decide (w ∈ rows) || decide (w.take 1 ∈ rows)
def spHas (K : Fg) : Sp := fun vs H Q _ => ∃ (l : Addr) (v : V) (w : Wy) (rows : List Wy), vs = [.ref l, v] ∧ LsR K H l (rows.map tI) ∧ Im K H v (tI w) ∧ ∀ H', Same H H' → Q (.bl (hasW rows w)) H'
/-! ### the class's own facts, the methods' promises -/
structure AbC (K : Fg) (C : Addr) : Prop where
  cl : Cls K C
  nt : NoAttr K C "taken"
  nr : NoAttr K C "rows"
def spAbInit (K : Fg) (C : Addr) : Sp := fun vs H Q _ => ∃ (p dx l : Addr) (ar : Nat) (ws : List Wy), vs = [.ref p, .int ar, .ref l] ∧ H p = some (.ins C dx []) ∧ LsR K H l (ws.map tI) ∧ ws.length ≤ 10000 ∧ (∀ w ∈ ws, isW ar w = true) ∧ ar ≤ 4 ∧
  ∀ r H', H r = none → (∀ b o, H b = some o → b ≠ p → H' b = some o) → AbL K C H' p r ar (nrm ar ws) → Q .non H'
def spNothing (K : Fg) (C : Addr) : Sp := fun vs H Q _ => ∃ (ar : Nat), vs = [.ref C, .int ar] ∧ ar ≤ 4 ∧ ∀ p r H', H p = none → H r = none → Same H H' → AbL K C H' p r ar [] → Q (.ref p) H'
def spCommand (K : Fg) (C : Addr) : Sp := fun vs H Q _ => ∃ (l : Addr) (ps : List Int), vs = [.ref C, .ref l] ∧ SqL K H l (ps.map V.int) ∧ ps.length ≤ 10000 ∧ (∀ p ∈ ps, 0 ≤ p ∧ p < 4) ∧ ∀ p r H', H p = none → H r = none → Same H H' → AbL K C H' p r 0 (nrm 0 (ps.map fun x => [x])) → Q (.ref p) H'
def spArity (K : Fg) (C : Addr) : Sp := fun vs H Q _ => ∃ (a : Addr) (ar : Nat) (rows : List Wy), vs = [.ref a] ∧ AbAt K C H a ar rows ∧ Q (.int ar) H
def spWays (K : Fg) (C : Addr) : Sp := fun vs H Q _ => ∃ (a : Addr) (ar : Nat) (rows : List Wy), vs = [.ref a] ∧ AbAt K C H a ar rows ∧ ∀ l H', H l = none → Same H H' → LsM K H' l (rows.map tI) → Q (.ref l) H'
def wrongs (rows : List Wy) : List Int := (rows.filter fun w => decide (w.length = 1)).map fun w => w.headD 0
def spWrong (K : Fg) (C : Addr) : Sp := fun vs H Q _ => ∃ (a : Addr) (ar : Nat) (rows : List Wy), vs = [.ref a] ∧ AbAt K C H a ar rows ∧ rows.length ≤ 10000 ∧ ∀ l H', H l = none → Same H H' → H' l = some (.lst ((wrongs rows).map V.int)) → Q (.ref l) H'
def spHasA (K : Fg) (C : Addr) : Sp := fun vs H Q _ => ∃ (a : Addr) (ar : Nat) (rows : List Wy) (v : V) (w : Wy), vs = [.ref a, v] ∧ AbAt K C H a ar rows ∧ Im K H v (tI w) ∧ ∀ H', Same H H' → Q (.bl (hasW rows w)) H'
def fromP (rows : List Wy) (at' : Int) : List Wy := rows.filter fun w => decide (w.headD 0 = at')
def spGetA (K : Fg) (C : Addr) : Sp := fun vs H Q _ => ∃ (a : Addr) (ar : Nat) (rows : List Wy) (i : Int), vs = [.ref a, .int i] ∧ AbAt K C H a ar rows ∧ rows.length ≤ 10000 ∧ (∀ w ∈ rows, w ≠ []) ∧ ∀ l H', H l = none → Same H H' → LsM K H' l ((fromP rows i).map tI) → Q (.ref l) H'
theorem nrm_nil (ar : Nat) : nrm ar [] = [] := by
  have h1 : ∀ p i : Int, nrmI [] p i = [] := fun p i => by unfold nrmI; simp
  have h2 : ∀ p : Int, nrmP ar [] p = [] := fun p => by unfold nrmP; simp [h1]
  unfold nrm
  simp [h2]
/-- a statement: what is behind it, from what all its roads leave -/
theorem seq_cut {t u : TS} {D : Ends} {σ : L2.St} {H : Hp} (Pv : L2.St → Hp → Prop) (h2 : ∀ σ' H', Pv σ' H' → u D σ' H') (h1 : (∀ σ' H', Pv σ' H' → u D σ' H') → t { D with nx := u D } σ H) : tSeq t u D σ H := h1 h2
theorem set_go {j : Nat} {x : V} {σ : L2.St} {H : Hp} {k : L2.St → Hp → Prop} (h : k (σ.set j (some x)) H) : gName j x σ H k := h
theorem int_ne {a b : Int} (h : a ≠ b) : decide (V.int a = V.int b) = false := decide_eq_false fun q => h (by injection q)
theorem int_eq {a b : Int} (h : a = b) : decide (V.int a = V.int b) = true := decide_eq_true (by rw [h])
theorem ImAll.drop {K : Fg} {H : Hp} : ∀ {vs : List V} {ds : List PyData} (n : Nat), ImAll K H vs ds → ImAll K H (vs.drop n) (ds.drop n)
  | _, _, 0, h => h
  | _, _, _ + 1, .nil => .nil
  | _, _, n + 1, .cons _ hs => hs.drop n
theorem ImAll.take {K : Fg} {H : Hp} : ∀ {vs : List V} {ds : List PyData} (n : Nat), ImAll K H vs ds → ImAll K H (vs.take n) (ds.take n)
  | _, _, 0, _ => .nil
  | _, _, _ + 1, .nil => .nil
  | _, _, n + 1, .cons h hs => .cons h (hs.take n)
end Tw

set_option maxHeartbeats 4000000
namespace Tw
open PySem PySem.Spec PyProof.Rows L2
/-! ### the head's facts: my own Hook, over the objects that the module's names and the machine's statics reach -/
def reach (g : Addr → Option Obj) : Nat → List Addr
  | 0 => [mainGlobals, cStatics]
  | n + 1 => He.growD g (reach g n)
/-- where a def's function stands: a name of the top; a class's method; a property's getter; a classmethod's def -/
inductive Pl where
  | glo (x : Str) | met (C m : Str) | pro (C m : Str) | cme (C m : Str)
def recFn (K : Fg) (T : String) (p : Addr) : Addr := match PySem.W.recIn K p T with
  | some (.ref g :: _) => g
  | _ => 0
def Pl.at_ (K : Fg) : Pl → Addr
  | .glo x => He.ga K x
  | .met C m => He.ma K (He.ga K C) m
  | .pro C m => recFn K "property" (He.ma K (He.ga K C) m)
  | .cme C m => recFn K "classmethod" (He.ma K (He.ga K C) m)
structure Dz where
  pl : Pl
  name : Str
  qual : Str
  st : Stmt
def Dz.obs (K : Fg) (d : Dz) : He.FnW := match K.lookup (d.pl.at_ K) with
  | some ⟨_, _, .func fd, _⟩ => some (fd.name, fd.qualname, fd.params, fd.body, fd.scope, fd.globals, fd.closure, fd.builtins)
  | _ => none
def Dz.val (d : Dz) : He.FnW := some (d.name, d.qual, defArgs d.st, .stmts (defBody d.st), defScope d.st, mainGlobals, [], builtinsNs)
def Dz.ok (K : Fg) (d : Dz) : Bool := PySem.W.keepIn K (.ref (d.pl.at_ K)) && (PySem.W.fnIn K (d.pl.at_ K) && match K.lookup (d.pl.at_ K) with
  | some ⟨_, _, .func fd, _⟩ => PySem.W.codeIn K fd.code d.qual && (He.dflB K fd.defaults [] && He.kwdB K fd.kwdefaults [])
  | _ => false)
theorem Dz.funD {K : Fg} {d : Dz} (e : d.obs K = d.val) (c : d.ok K = true) : ∃ fd, FunD K d.name d.qual (defArgs d.st) (defBody d.st) (defScope d.st) [] [] (d.pl.at_ K) fd := by
  simp only [Dz.ok, Bool.and_eq_true] at c
  obtain ⟨kp, _, c⟩ := c
  unfold Dz.obs at e
  generalize d.pl.at_ K = f at *
  cases q : K.lookup f with
  | none => rw [q] at c; cases c
  | some o =>
    rw [q] at c e
    obtain ⟨oc, od, dt, osl⟩ := o
    cases dt with
    | func fd =>
      obtain ⟨n1, n2, n3, n4, n5, n6, n7, n8, n9, n10, n11, n12, n13, n14, n15⟩ := fd
      simp only [Dz.val, Option.some.injEq, Prod.mk.injEq] at e
      obtain ⟨rfl, rfl, rfl, rfl, rfl, rfl, rfl, rfl⟩ := e
      simp only [Bool.and_eq_true] at c
      exact ⟨_, ⟨oc, od, n8, n9, n10, n11, n12, n13, n14, osl, rfl, q, c.1, He.dflB_ok c.2.1, He.kwdB_ok c.2.2⟩, kp⟩
    | _ => cases c
/-! ### facts -/
inductive Fz where
  | fa (f : He.Fa)
  | pro (C m : Str)
  | cme (C m : Str)
  | con (C m : Str) (v : He.Dv)
  | chk (f : Fg → Bool)
def metaT : Value := .type "type"
def creadB (K : Fg) (C : Addr) : Bool := PySem.W.readsIn K C metaT && He.eqO (PySem.W.specialIn K (.ref C) "__getattribute__") (some (some (.builtin "type.__getattribute__")))
def proB (K : Fg) (C : Addr) (m : Str) : Bool := He.eqO (PySem.W.findIn K (.ref C) m) (some (some (.ref (He.ma K C m)))) && (He.eqO (PySem.W.specialIn K (.ref (He.ma K C m)) "__get__") (some (some (.builtin "property.__get__"))) && (decide (PySem.W.takesIn K (.ref (He.ma K C m)) = some true) &&
  match PySem.W.recIn K (He.ma K C m) "property" with
  | some (.ref _ :: _) => true
  | _ => false))
def cmeB (K : Fg) (C : Addr) (m : Str) : Bool := creadB K C && (PySem.W.fnIn K (recFn K "classmethod" (He.ma K C m)) && ((match PySem.W.recIn K (He.ma K C m) "classmethod" with
  | some (.ref _ :: _) => true
  | _ => false) && match PySem.W.findCls K (.ref C) metaT m with
  | some (.get (.builtin n) (.ref p) .none (.ref D)) => decide (n = "classmethod.__get__") && (decide (p = He.ma K C m) && decide (D = C))
  | _ => false))
def conB (K : Fg) (C : Addr) (m : Str) (v : V) : Bool := creadB K C && match PySem.W.findCls K (.ref C) metaT m with
  | some (.val u) => He.relB v u
  | _ => false
def Fz.ok (K : Fg) : Fz → Bool
  | .fa f => f.ok K
  | .pro C m => proB K (He.ga K C) m
  | .cme C m => cmeB K (He.ga K C) m
  | .con C m v => conB K (He.ga K C) m (v.v K)
  | .chk f => f K
theorem proB_ok {K : Fg} {C : Addr} {m : Str} (h : proB K C m = true) : PropOf K C m (He.ma K C m) (recFn K "property" (He.ma K C m)) := by
  simp only [proB, Bool.and_eq_true] at h
  obtain ⟨h1, h2, h3, h4⟩ := h
  refine ⟨He.eqO_ok h1, He.eqO_ok h2, of_decide_eq_true h3, ?_⟩
  unfold recFn
  cases q : PySem.W.recIn K (He.ma K C m) "property" with
  | none => rw [q] at h4; cases h4
  | some l =>
    rw [q] at h4
    cases l with
    | nil => cases h4
    | cons v r =>
      cases v with
      | ref g => exact ⟨r, rfl⟩
      | _ => cases h4
theorem creadB_ok {K : Fg} {C : Addr} (h : creadB K C = true) : ClX.CRead K C metaT := by
  simp only [creadB, Bool.and_eq_true] at h
  exact ⟨h.1, He.eqO_ok h.2⟩
theorem cmeB_ok {K : Fg} {C : Addr} {m : Str} (h : cmeB K C m = true) : ClX.CRead K C metaT ∧ ClX.CMet K C metaT m (He.ma K C m) (recFn K "classmethod" (He.ma K C m)) := by
  simp only [cmeB, Bool.and_eq_true] at h
  obtain ⟨h1, h2, h3, h4⟩ := h
  refine ⟨creadB_ok h1, ?_, ?_, h2⟩
  · cases q : PySem.W.findCls K (.ref C) metaT m with
    | none => rw [q] at h4; cases h4
    | some c =>
      rw [q] at h4
      cases c with
      | val v => cases h4
      | get g a obj tp =>
        cases g with
        | builtin n =>
          cases a with
          | ref p =>
            cases obj with
            | none =>
              cases tp with
              | ref D =>
                simp only [Bool.and_eq_true, decide_eq_true_eq] at h4
                obtain ⟨rfl, rfl, rfl⟩ := h4
                rfl
              | _ => cases h4
            | _ => cases h4
          | _ => cases h4
        | _ => cases h4
  · unfold recFn
    cases q : PySem.W.recIn K (He.ma K C m) "classmethod" with
    | none => rw [q] at h3; cases h3
    | some l =>
      rw [q] at h3
      cases l with
      | nil => cases h3
      | cons v r =>
        cases v with
        | ref g => exact ⟨r, rfl⟩
        | _ => cases h3
theorem conB_ok {K : Fg} {C : Addr} {m : Str} {v : V} (h : conB K C m v = true) : ClX.CRead K C metaT ∧ ∃ u, ClX.CVal K C metaT m v u := by
  simp only [conB, Bool.and_eq_true] at h
  obtain ⟨h1, h2⟩ := h
  refine ⟨creadB_ok h1, ?_⟩
  cases q : PySem.W.findCls K (.ref C) metaT m with
  | none => rw [q] at h2; cases h2
  | some c =>
    rw [q] at h2
    cases c with
    | val u => exact ⟨u, q, He.relB_ok h2⟩
    | get g a obj tp => cases h2
/-! ### the Hook -/
abbrev AlZ : Type := Bool × List He.FnW
def obsZ (fs : List Fz) (fn : List Dz) (K : Fg) : AlZ := ((fs.all fun f => f.ok K) && fn.all fun d => d.ok K, fn.map fun d => d.obs K)
def valZ (fn : List Dz) : AlZ := (true, fn.map Dz.val)
def SaysZ (fs : List Fz) (fn : List Dz) (K : Fg) : Prop := obsZ fs fn K = valZ fn
def obsZG (n : Nat) (fs : List Fz) (fn : List Dz) (g : Addr → Option Obj) : AlZ := obsZ fs fn (He.frG g (reach g n))
def hookZ (n : Nat) (fs : List Fz) (fn : List Dz) : PySem.W.Hook where
  α := AlZ
  obs := fun s => obsZG n fs fn s.heap.get?
  val := fun _ => valZ fn
  says := fun _ h => ∃ K : Fg, K.In h ∧ SaysZ fs fn K
  of := fun _ _ e => ⟨_, He.frG_in, e⟩
  keeps := fun _ _ _ ⟨K, hK, c⟩ k => ⟨K, PySem.W.Frag.In.keeps hK k, c⟩
theorem obsZG_eq {n : Nat} {fs : List Fz} {fn : List Dz} {g : Addr → Option Obj} {s : Shared} (h : ∀ a, g a = s.heap.get? a) : obsZG n fs fn g = (hookZ n fs fn).obs s := by
  have e : g = s.heap.get? := funext h
  rw [e] <;> rfl
section
variable {fs : List Fz} {fn : List Dz} {K : Fg}
theorem SaysZ.fact (c : SaysZ fs fn K) (i : Nat) {f : Fz} (h : fs[i]? = some f := by rfl) : f.ok K = true := by
  have c1 := congrArg (fun z : AlZ => z.1) c
  have c2 : ((fs.all fun f => f.ok K) && fn.all fun d => d.ok K) = true := c1
  rw [Bool.and_eq_true] at c2
  exact List.all_eq_true.mp c2.1 f (List.mem_of_getElem? h)
theorem SaysZ.def_ (c : SaysZ fs fn K) (i : Nat) {d : Dz} (h : fn[i]? = some d := by rfl) : (∃ fd, FunD K d.name d.qual (defArgs d.st) (defBody d.st) (defScope d.st) [] [] (d.pl.at_ K) fd) ∧ PySem.W.fnIn K (d.pl.at_ K) = true := by
  have c1 := congrArg (fun z : AlZ => z.1) c
  have c2 : ((fs.all fun f => f.ok K) && fn.all fun d => d.ok K) = true := c1
  rw [Bool.and_eq_true] at c2
  have hok := List.all_eq_true.mp c2.2 d (List.mem_of_getElem? h)
  have e : (fn.map fun d => d.obs K) = fn.map Dz.val := congrArg (fun z : AlZ => z.2) c
  have e2 : (fn.map fun d => d.obs K)[i]? = (fn.map Dz.val)[i]? := by rw [e]
  rw [List.getElem?_map, List.getElem?_map, h] at e2
  refine ⟨Dz.funD (Option.some.inj e2) hok, ?_⟩
  simp only [Dz.ok, Bool.and_eq_true] at hok
  exact hok.2.1
end
/-! ### what the walks ask for, from the facts -/
section
variable {fs : List Fz} {fn : List Dz} {K : Fg} {h : Heap} {mg : Str → Option Value}
theorem df_mk {name qual : Str} {st : Stmt} {ps : List Str} {f : Addr} (F : ∃ fd, FunD K name qual (defArgs st) (defBody st) (defScope st) [] [] f fd)
    (hb : ∀ (kV doc pm : Value) (an : Option Addr) (cdv ct : Value) (us : List Value), us.length = ps.length → bindArgs (PySem.W.fnOf name qual (defArgs st) (defBody st) (defScope st) .none kV doc pm an cdv ct) ⟨us, []⟩ = pure (ps.zip us)) : Df K name qual st ps f := by
  obtain ⟨fd, F⟩ := F
  exact ⟨fd, F, F.bindsN hb⟩
theorem gd_mk (X : K.In h) (G : h.Ns mainGlobals mg) {name : Str} {st : Stmt} {ps : List Str} (c : (Fz.fa (.glo name)).ok K = true) (D : Df K name name st ps (He.ga K name)) : Gd K mg name st ps := ⟨_, D, He.glo_ok X G c⟩
theorem me_mk {C m qual : Str} {st : Stmt} {ps : List Str} (cl : Cls K (He.ga K C)) (c : (Fz.fa (.meth C m)).ok K = true) (fi : PySem.W.fnIn K (He.ma K (He.ga K C) m) = true) (D : Df K m qual st ps (He.ma K (He.ga K C) m)) : Me K (He.ga K C) m qual st ps := ⟨⟨_, D, He.meth_ok c, fi⟩, cl⟩
theorem ini_mk (X : K.In h) (G : h.Ns mainGlobals mg) {C qual : Str} {st : Stmt} {ps : List Str} (g : (Fz.fa (.glo C)).ok K = true) (c : (Fz.fa (.mkr C)).ok K = true) (D : Df K "__init__" qual st ps (He.ma K (He.ga K C) "__init__")) : Ini K mg C (He.ga K C) qual st ps := ⟨⟨_, D, He.mkr_ok c⟩, He.glo_ok X G g⟩
theorem pro_mk {C m qual : Str} {st : Stmt} {ps : List Str} (cl : Cls K (He.ga K C)) (c : (Fz.pro C m).ok K = true) (D : Df K m qual st ps (recFn K "property" (He.ma K (He.ga K C) m))) : Pro K (He.ga K C) m qual st ps := ⟨⟨_, _, D, proB_ok c⟩, cl⟩
theorem cme_mk (X : K.In h) (G : h.Ns mainGlobals mg) {C m qual : Str} {st : Stmt} {ps : List Str} (g : (Fz.fa (.glo C)).ok K = true) (c : (Fz.cme C m).ok K = true) (D : Df K m qual st ps (recFn K "classmethod" (He.ma K (He.ga K C) m))) : Cme K mg C (He.ga K C) m qual st ps :=
  ⟨⟨_, _, _, D, (cmeB_ok c).1, (cmeB_ok c).2⟩, He.glo_ok X G g⟩
theorem most_mk (X : K.In h) (G : h.Ns mainGlobals mg) (g : (Fz.fa (.glo "Watcher")).ok K = true) (c : (Fz.con "Watcher" "MOST" (.int 4)).ok K = true) : Most K mg :=
  let ⟨r, u, v⟩ := conB_ok c; ⟨_, _, u, He.glo_ok X G g, r, v⟩
end
/-- the law, behind the top -/
theorem la_fn {P : Program} {w : World} {K : Fg} {mg : Str → Option Value} {base : Heap} {k : Nat} {st : Stmt} {sp : Sp} {f : Addr} {fd : FuncData} (L : La P w K mg base CX0 k st sp) (hf : mg "law" = some (.ref f)) (F : FunD K "law" "law" (defArgs st) (defBody st) (defScope st) [] [] f fd) : FnOk P w K mg base CX0 k f fd ["_law_script"] sp := by
  obtain ⟨g, gd, F', hm, ok⟩ := L
  rw [hf] at hm
  cases hm
  cases funD_one F F'
  exact ok
end Tw

set_option maxHeartbeats 4000000
namespace Tw
open PySem PySem.Spec PyProof.Rows L2
/-! ### own operators: <=, ==, != and | of instances -/
theorem nf_self {K : Fg} {C : Addr} : PySem.W.notFirst K C (.ref C) = true := by simp [PySem.W.notFirst]
theorem nf_list {K : Fg} {C : Addr} : PySem.W.notFirst K C (.type "list") = true := by
  have e : fastBuiltinMro "list" = some [.type "list", .type "object"] := by decide +kernel
  have e2 : PySem.W.subIn K (.type "list") (.ref C) = some false := by
    show (fastBuiltinMro "list").map (·.contains (.ref C)) = some false
    rw [e]
    simp
  simp [PySem.W.notFirst, e2]
theorem nf_none {K : Fg} {C : Addr} : PySem.W.notFirst K C (.type "NoneType") = true := by
  simp [PySem.W.notFirst, HN.sub_none]
section
variable {X : Cx} {C : Addr} {k : Nat} {CX : CXT} {E : XK} {sp : Sp}
/-- x op y by the own method of x, that answers with a bool -/
def rCmpO (K : Fg) (C : Addr) (sp : Sp) (E : XK) : R2 := fun x y H Q => ∃ a dx fs tb, x = .ref a ∧ H a = some (.ins C dx fs) ∧ TyX K H y tb ∧ PySem.W.notFirst K C tb = true ∧ sp [x, y] H (fun v H' => ∃ b, v = .bl b ∧ Q (.bl b) H') E
theorem op_cmpO {op : CmpOp} (hop : ∀ a b, compareOp op a b = richCompare op a b) (G : Md X.prog X.w X.K X.mg X.base CX k C (cmpInfo op).2.1 sp) (hr : Room k X.A) (hx : Passes CX X E) :
    OpR X (compareOp op) (rCmpO X.K C sp E) := by
  obtain ⟨f, F, hm, hfi⟩ := G.ex
  intro pins s σ H x y v u Q I rx ry ⟨a, dx, fs, tb, ea, h, ty, nf, hq⟩
  subst ea
  cases rx
  obtain ⟨mA, J, _⟩ := ins_get I.hok h
  obtain ⟨od, J, _⟩ := J.look
  obtain ⟨mm, hF⟩ := I.fr
  obtain ⟨P, Z, p, _⟩ := kit_of I ry ty
  rw [hop]
  refine PySem.W.cmp_K (op := op) (tb := tb) hr.units0 hF I.ok.mod.kin J (Z.ty _ _ I.kIn p) nf hm.at_ hm.fn (thn (run_fo (vs := [.ref a, y]) F ⟨hr, rfl⟩ hx I (.cons rfl (.cons ry .nil)) hq) fun r s' ⟨z, H', I', rz, b, eb, q⟩ => ?_)
  subst eb
  cases rz
  exact (⟨.bl b, H', I', rfl, q⟩ : EP X pins σ Q (.bool b) s')
theorem op_eqO (G : Md X.prog X.w X.K X.mg X.base CX k C "__eq__" sp) (hr : Room k X.A) (hx : Passes CX X E) : OpR X (compareOp .Eq) (rCmpO X.K C sp E) := op_cmpO (op := .Eq) (fun _ _ => rfl) G hr hx
theorem op_leO (G : Md X.prog X.w X.K X.mg X.base CX k C "__le__" sp) (hr : Room k X.A) (hx : Passes CX X E) : OpR X (compareOp .LtE) (rCmpO X.K C sp E) := op_cmpO (op := .LtE) (fun _ _ => rfl) G hr hx
/-- the class has object's own __ne__ -/
structure NeO (K : Fg) (C : Addr) : Prop where
  at_ : PySem.W.findIn K (.ref C) "__ne__" = some (some (.builtin "object.__ne__"))
  ob : PySem.W.mroIn K C (.type "object") = some true
theorem ifBound_ne {M : Model} {A : Around} {E : Value → Shared → Prop} {s : Shared} {K : Fg} {x : Addr} {ox : Obj} {od : Option Obj} {args : List Value} {Q : Option Value → Shared → Prop} (X : K.In s.heap) (I : PySem.W.InstAt s.heap x ox C od) (hs : PySem.W.findIn K (.ref C) "__ne__" = some (some (.builtin "object.__ne__")))
    (h : wpAny M A (call (.builtin "object.__ne__") (.ref x :: args)) (fun v => Q (some v)) E s) : wpAny M A (callSpecialIfBound? (.ref x) "__ne__" args) Q E s := by
  simp only [callSpecialIfBound?, bindSpecialIfBound?]
  refine wpAny_holding (wpAny_bind (wpAny_bind (wpAny_bind (I.type.here ((PySem.W.looks_findIn X hs).here ?_)))))
  refine wpAny_bind (wpAny_askSetting (wpAny_ite ?_))
  have fin : wpAny M A (call (.builtin "object.__ne__") ([.ref x] ++ args) >>= fun v => pure (some v)) Q E s := wpAny_bind (wpAny_mono h (fun v s' h' => wpAny_pure h') fun _ _ h' => h')
  split
  · exact wpAny_bind (wpAny_of_eq (F.cmp_object.ne.bind _) (wpAny_pure (by exact fin)))
  · exact wpAny_tryCatch (wpAny_bind (wpAny_of_eq (F.cmp_object.ne.bind _) (wpAny_pure (by exact fin))))
/-- x != y of two instances of one class, by its own == -/
def rNeO (C : Addr) (sp : Sp) (E : XK) : R2 := fun x y H Q => ∃ a dx fs b dy gs, x = .ref a ∧ y = .ref b ∧ H a = some (.ins C dx fs) ∧ H b = some (.ins C dy gs) ∧ sp [x, y] H (fun v H' => ∃ b, v = .bl b ∧ Q (.bl (!b)) H') E
theorem op_neO (G : Md X.prog X.w X.K X.mg X.base CX k C "__eq__" sp) (N : NeO X.K C) (hr : Room (k + 1) X.A) (hx : Passes CX X E) : OpR X (compareOp .NotEq) (rNeO C sp E) := by
  obtain ⟨f, F, hm, hfi⟩ := G.ex
  intro pins s σ H x y v u Q I rx ry ⟨a, dx, fs, b, dy, gs, ea, eb, h, h', hq⟩
  subst ea
  subst eb
  cases rx
  cases ry
  obtain ⟨mA, J, _⟩ := ins_get I.hok h
  obtain ⟨mB, J', _⟩ := ins_get I.hok h'
  obtain ⟨od, J, _⟩ := J.look
  obtain ⟨od', J', _⟩ := J'.look
  show wpAny _ _ (richCompare .NotEq (.ref a) (.ref b)) _ _ _
  have one : wpAny (model X.prog X.w) X.A (tryCompare (.ref a) "__ne__" (.ref b)) (fun r s' => ∃ v, r = some v ∧ EP X pins σ Q v s') X.xe s := by
    unfold tryCompare
    refine wpAny_bind (ifBound_ne I.kIn J N.at_ (wpAny_call (codeAny_call_builtin PySem.F.cmp_object.ne.plain PySem.F.cmpEntry_ne (PySem.W.check_slot PySem.F.cmpKind_ne PySem.F.cmpSplit_ne (J.type.andThen (PySem.W.looks_mroIn I.kIn N.ob)) (PySem.F.cmpArgs_ne _ _) ?_))))
    unfold Builtin.«object.__ne__»
    have hu : X.A.in1.units < cLine := hr.in1.units0
    have key := run_fo (vs := [.ref a, .ref b]) F ⟨hr.in1, rfl⟩ hx I (.cons rfl (.cons rfl .nil)) hq
    repeat (first | with_reducible refine wpAny_cRoomFor hu ?_ | with_reducible refine PySem.W.ifBound_K I.kIn J hm.at_ hm.fn (wpAny_mono key ?_ fun _ _ x => x) | wp_step)
    rintro r s' ⟨z, H', I', rz, b, eb, q⟩
    subst eb
    cases rz
    repeat (first | with_reducible refine wpAny_truthy_bool ?_ | wp_step)
    exact ⟨_, rfl, .bl (!b), H', I', rfl, q⟩
  simp only [richCompare, cmpInfo_NotEq, oneThing_ref]
  refine wpAny_holding (wpAny_bind (wpAny_cRoomFor hr.units0 ?_))
  refine wpAny_bind (J.type.here (wpAny_bind (J'.type.here ?_)))
  simp only [bne_self_eq_false, Bool.false_eq_true, if_false]
  refine wpAny_bind (wpAny_pure ?_)
  simp only [Bool.false_eq_true, if_false]
  refine wpAny_bind (wpAny_mono one (fun r s' z => ?_) fun _ _ e => e)
  obtain ⟨v, rfl, hq⟩ := z
  exact wpAny_pure hq
/-- x op y by the own method of x, both of one class -/
def rBinO (C : Addr) (sp : Sp) (E : XK) : R2 := fun x y H Q => ∃ a dx fs b dy gs, x = .ref a ∧ y = .ref b ∧ H a = some (.ins C dx fs) ∧ H b = some (.ins C dy gs) ∧ sp [x, y] H (fun v H' => ∃ p, v = .ref p ∧ Q v H') E
theorem op_binO {op : Operator} (G : Md X.prog X.w X.K X.mg X.base CX k C (PySem.dunder op.info.2) sp) (S : PySem.W.selfFirst X.K C = true) (hr : Room k X.A) (hx : Passes CX X E) : OpR X (binaryOp op) (rBinO C sp E) := by
  obtain ⟨f, F, hm, hfi⟩ := G.ex
  intro pins s σ H x y v u Q I rx ry ⟨a, dx, fs, b, dy, gs, ea, eb, h, h', hq⟩
  subst ea
  subst eb
  cases rx
  cases ry
  obtain ⟨mA, J, _⟩ := ins_get I.hok h
  obtain ⟨mB, J', _⟩ := ins_get I.hok h'
  obtain ⟨od, J, _⟩ := J.look
  obtain ⟨od', J', _⟩ := J'.look
  obtain ⟨mm, hF⟩ := I.fr
  refine PySem.W.binop_K hF I.ok.mod.kin J J'.type S hm.at_ hm.fn (thn (run_fo (vs := [.ref a, .ref b]) F ⟨hr, rfl⟩ hx I (.cons rfl (.cons rfl .nil)) hq) fun r s' ⟨z, H', I', rz, p, eb, q⟩ => ?_)
  subst eb
  cases rz
  exact (⟨.ref p, H', I', rfl, q⟩ : EP X pins σ Q (.ref p) s')
theorem op_orO (G : Md X.prog X.w X.K X.mg X.base CX k C "__or__" sp) (S : PySem.W.selfFirst X.K C = true) (hr : Room k X.A) (hx : Passes CX X E) : OpR X (binaryOp .BitOr) (rBinO C sp E) := op_binO (op := .BitOr) G S hr hx
end
/-! ### what an own class with operators is, checked at the head -/
structure OwnC (K : Fg) (C : Addr) : Prop where
  cl : Cls K C
  ha : PySem.W.findIn K (.ref C) "__class__" = some (some (.builtin "object.__class__"))
  hn : PySem.W.specialIn K (.builtin "object.__class__") "__get__" = some (some (.builtin "getset_descriptor.__get__"))
  htk : PySem.W.takesIn K (.builtin "object.__class__") = some true
  hm : PySem.W.mroIn K C (.type "object") = some true
  ne : PySem.W.findIn K (.ref C) "__ne__" = some (some (.builtin "object.__ne__"))
  sf : PySem.W.selfFirst K C = true
  kl : PySem.W.kitOne K (.type "list") (.ref C) = some false
  kn : PySem.W.kitOne K (.type "NoneType") (.ref C) = some false
theorem OwnC.ty {K : Fg} {C a dx : Addr} {H : Hp} {fs : List (Str × V)} (o : OwnC K C) (e : H a = some (.ins C dx fs)) : TyX K H (.ref a) (.ref C) := .base (.ins e o.cl o.ha o.hn o.htk o.hm)
theorem OwnC.neO {K : Fg} {C : Addr} (o : OwnC K C) : NeO K C := ⟨o.ne, o.hm⟩
theorem OwnC.self {K : Fg} {C : Addr} : PySem.W.kitOne K (.ref C) (.ref C) = some true := by
  unfold PySem.W.kitOne
  rw [if_pos (by simp)]
def eqOB (a b : Option Bool) : Bool := decide (a = b)
def ownB (K : Fg) (C : Addr) : Bool := He.eqO (PySem.W.findIn K (.ref C) "__class__") (some (some (.builtin "object.__class__"))) && (He.eqO (PySem.W.specialIn K (.builtin "object.__class__") "__get__") (some (some (.builtin "getset_descriptor.__get__"))) &&
  (eqOB (PySem.W.takesIn K (.builtin "object.__class__")) (some true) && (eqOB (PySem.W.mroIn K C (.type "object")) (some true) && (He.eqO (PySem.W.findIn K (.ref C) "__ne__") (some (some (.builtin "object.__ne__"))) &&
  (PySem.W.selfFirst K C && (eqOB (PySem.W.kitOne K (.type "list") (.ref C)) (some false) && eqOB (PySem.W.kitOne K (.type "NoneType") (.ref C)) (some false)))))))
theorem ownB_ok {K : Fg} {C : Addr} (c : Cls K C) (h : ownB K C = true) : OwnC K C := by
  simp only [ownB, Bool.and_eq_true] at h
  obtain ⟨h1, h2, h3, h4, h5, h6, h7, h8⟩ := h
  exact ⟨c, He.eqO_ok h1, He.eqO_ok h2, of_decide_eq_true h3, of_decide_eq_true h4, He.eqO_ok h5, h6, of_decide_eq_true h7, of_decide_eq_true h8⟩
end Tw

set_option maxHeartbeats 4000000
namespace Tw
open PySem PySem.Spec PyProof.Rows L2
/-! ### the plain law of ways: what a normal form has -/
theorem isW_cases {ar : Int} {w : Wy} (h : isW ar w = true) : (∃ p : Nat, p < 4 ∧ w = [(p : Int)]) ∨ ∃ p i q : Nat, p < 4 ∧ (i : Int) < ar ∧ q < 4 ∧ w = [(p : Int), (i : Int), (q : Int)] := by
  rcases w with _ | ⟨a, _ | ⟨b, _ | ⟨c, _ | ⟨d, w⟩⟩⟩⟩
  · simp [isW] at h
  · simp only [isW, Bool.and_eq_true, decide_eq_true_eq] at h
    exact .inl ⟨a.toNat, by omega, by rw [Int.toNat_of_nonneg h.1]⟩
  · simp [isW] at h
  · simp only [isW, Bool.and_eq_true, decide_eq_true_eq] at h
    obtain ⟨⟨h1, h2⟩, ⟨h3, h4⟩, h5, h6⟩ := h
    exact .inr ⟨a.toNat, b.toNat, c.toNat, by omega, by omega, by omega, by rw [Int.toNat_of_nonneg h1, Int.toNat_of_nonneg h3, Int.toNat_of_nonneg h5]⟩
  · simp [isW] at h
theorem isW_one {ar : Int} {p : Nat} (h : p < 4) : isW ar [(p : Int)] = true := by simp [isW]; omega
theorem isW_three {ar : Int} {p i q : Nat} (h1 : p < 4) (h2 : (i : Int) < ar) (h3 : q < 4) : isW ar [(p : Int), (i : Int), (q : Int)] = true := by simp [isW]; omega
theorem mem_nrm {ar : Nat} {ws : List Wy} {w : Wy} : w ∈ nrm ar ws ↔ isW ar w = true ∧ w ∈ ws ∧ (w.length = 1 ∨ w.take 1 ∉ ws) := by
  constructor
  · intro h
    obtain ⟨p, hp, h⟩ := List.mem_flatMap.mp h
    have hp := List.mem_range.mp hp
    unfold nrmP at h
    split at h
    · rename_i hm
      rw [List.mem_singleton.mp h]
      exact ⟨isW_one hp, hm, .inl rfl⟩
    · rename_i hm
      obtain ⟨i, hi, h⟩ := List.mem_flatMap.mp h
      obtain ⟨q, hq, h⟩ := List.mem_flatMap.mp h
      have hi := List.mem_range.mp hi
      have hq := List.mem_range.mp hq
      split at h
      · rename_i hn
        rw [List.mem_singleton.mp h]
        exact ⟨isW_three hp (by omega) hq, hn, .inr hm⟩
      · cases h
  · rintro ⟨hv, hm, hs⟩
    rcases isW_cases hv with ⟨p, hp, rfl⟩ | ⟨p, i, q, hp, hi, hq, rfl⟩
    · refine List.mem_flatMap.mpr ⟨p, List.mem_range.mpr hp, ?_⟩
      unfold nrmP
      rw [if_pos hm]
      exact List.mem_singleton.mpr rfl
    · have hs : ¬ [(p : Int)] ∈ ws := hs.resolve_left (by simp)
      refine List.mem_flatMap.mpr ⟨p, List.mem_range.mpr hp, ?_⟩
      unfold nrmP
      rw [if_neg hs]
      refine List.mem_flatMap.mpr ⟨i, List.mem_range.mpr (by omega), ?_⟩
      refine List.mem_flatMap.mpr ⟨q, List.mem_range.mpr hq, ?_⟩
      rw [if_pos hm]
      exact List.mem_singleton.mpr rfl
theorem hasW_iff {ws : List Wy} {w : Wy} : hasW ws w = true ↔ w ∈ ws ∨ w.take 1 ∈ ws := by simp [hasW]
theorem take_one {ar : Int} {w : Wy} (h : isW ar w = true) : isW ar (w.take 1) = true ∧ (w.take 1).length = 1 ∧ (w.take 1).take 1 = w.take 1 := by
  rcases isW_cases h with ⟨p, hp, rfl⟩ | ⟨p, i, q, hp, hi, hq, rfl⟩
  · exact ⟨isW_one hp, rfl, rfl⟩
  · exact ⟨isW_one hp, rfl, rfl⟩
theorem has_nrm {ar : Nat} {ws : List Wy} {w : Wy} (h : isW ar w = true) : hasW (nrm ar ws) w = hasW ws w := by
  obtain ⟨h1, h2, h3⟩ := take_one h
  rw [Bool.eq_iff_iff, hasW_iff, hasW_iff, mem_nrm, mem_nrm]
  constructor
  · rintro (⟨_, a, _⟩ | ⟨_, a, _⟩)
    · exact .inl a
    · exact .inr a
  · intro a
    by_cases hb : w.take 1 ∈ ws
    · exact .inr ⟨h1, hb, .inl h2⟩
    · exact .inl ⟨h, a.resolve_right hb, .inr hb⟩
theorem nrm_congr {ar : Nat} {ws ms : List Wy} (h : ∀ w, isW ar w = true → hasW ws w = hasW ms w) : nrm ar ws = nrm ar ms := by
  have one : ∀ p : Nat, p < 4 → ([(p : Int)] ∈ ws ↔ [(p : Int)] ∈ ms) := fun p hp => by
    have e := h [(p : Int)] (isW_one hp)
    rw [Bool.eq_iff_iff, hasW_iff, hasW_iff] at e
    simpa using e
  have fm : ∀ {n : Nat} {f g : Nat → List Wy}, (∀ i, i < n → f i = g i) → (List.range n).flatMap f = (List.range n).flatMap g := fun {n f g} e => by
    induction n with
    | zero => rfl
    | succ n ih => rw [range_flat, range_flat, ih (fun i hi => e i (by omega)), e n (by omega)]
  unfold nrm
  refine fm fun p hp => ?_
  unfold nrmP
  by_cases hm : [(p : Int)] ∈ ws
  · rw [if_pos hm, if_pos ((one p hp).mp hm)]
  · have hm' : ¬ [(p : Int)] ∈ ms := fun z => hm ((one p hp).mpr z)
    rw [if_neg hm, if_neg hm']
    refine fm fun i hi => ?_
    unfold nrmI
    refine fm fun q hq => ?_
    have e := h [(p : Int), (i : Int), (q : Int)] (isW_three hp (by omega) hq)
    rw [Bool.eq_iff_iff, hasW_iff, hasW_iff] at e
    have e2 : ([(p : Int), (i : Int), (q : Int)] ∈ ws ↔ [(p : Int), (i : Int), (q : Int)] ∈ ms) := by
      constructor
      · intro z
        exact (e.mp (.inl z)).resolve_right (by simpa using hm')
      · intro z
        exact (e.mpr (.inl z)).resolve_right (by simpa using hm)
    by_cases hz : [(p : Int), (i : Int), (q : Int)] ∈ ws
    · rw [if_pos hz, if_pos (e2.mp hz)]
    · rw [if_neg hz, if_neg fun z => hz (e2.mpr z)]
theorem nrm_eq_iff {ar : Nat} {ws ms : List Wy} : nrm ar ws = nrm ar ms ↔ ∀ w, isW ar w = true → hasW ws w = hasW ms w :=
  ⟨fun e w h => by rw [← has_nrm h, e, has_nrm h], nrm_congr⟩
theorem has_app (ws ms : List Wy) (w : Wy) : hasW (ws ++ ms) w = (hasW ws w || hasW ms w) := by
  rw [Bool.eq_iff_iff, Bool.or_eq_true, hasW_iff, hasW_iff, hasW_iff, List.mem_append, List.mem_append]
  constructor
  · rintro ((a | a) | (a | a))
    · exact .inl (.inl a)
    · exact .inr (.inl a)
    · exact .inl (.inr a)
    · exact .inr (.inr a)
  · rintro ((a | a) | (a | a))
    · exact .inl (.inl a)
    · exact .inr (.inl a)
    · exact .inl (.inr a)
    · exact .inr (.inr a)
theorem nrm_app (ar : Nat) (ws ms : List Wy) : nrm ar (nrm ar ws ++ nrm ar ms) = nrm ar (ws ++ ms) := nrm_congr fun w h => by rw [has_app, has_app, has_nrm h, has_nrm h]
/-- each way of the first is had by the second -/
def leW (ar : Nat) (ws ms : List Wy) : Bool := (nrm ar ws).all fun w => hasW (nrm ar ms) w
theorem leW_iff {ar : Nat} {ws ms : List Wy} : leW ar ws ms = true ↔ ∀ w, isW ar w = true → hasW ws w = true → hasW ms w = true := by
  unfold leW
  rw [List.all_eq_true]
  constructor
  · intro h w hv hw
    rw [← has_nrm hv] at hw
    obtain ⟨h1, h2, h3⟩ := take_one hv
    rcases hasW_iff.mp hw with a | a
    · have b := h w a
      rwa [has_nrm hv] at b
    · have b := h _ a
      rw [has_nrm h1, hasW_iff, h3, or_self] at b
      exact hasW_iff.mpr (.inr b)
  · intro h w hw
    obtain ⟨hv, hm, _⟩ := mem_nrm.mp hw
    rw [has_nrm hv]
    exact h w hv (hasW_iff.mpr (.inl hm))
theorem eq_le {ar : Nat} {ws ms : List Wy} : decide (nrm ar ws = nrm ar ms) = (leW ar ws ms && leW ar ms ws) := by
  rw [Bool.eq_iff_iff, decide_eq_true_iff, Bool.and_eq_true, leW_iff, leW_iff, nrm_eq_iff]
  constructor
  · intro e
    exact ⟨fun w h a => by rw [← e w h]; exact a, fun w h a => by rw [e w h]; exact a⟩
  · rintro ⟨a, b⟩ w h
    rw [Bool.eq_iff_iff]
    exact ⟨a w h, b w h⟩
theorem le_app_l (ar : Nat) (ws ms : List Wy) : leW ar ws (ws ++ ms) = true := leW_iff.mpr fun w h a => by rw [has_app, a]; rfl
theorem app_le {ar : Nat} {ws ms : List Wy} : leW ar (ws ++ ms) ms = leW ar ws ms := by
  rw [Bool.eq_iff_iff, leW_iff, leW_iff]
  constructor
  · intro e w h a
    exact e w h (by rw [has_app, a]; rfl)
  · intro e w h a
    rw [has_app, Bool.or_eq_true] at a
    rcases a with a | a
    · exact e w h a
    · exact a
theorem le_app_r (ar : Nat) (ws ms : List Wy) : leW ar ms (ws ++ ms) = true := leW_iff.mpr fun w h a => by rw [has_app, a, Bool.or_true]
theorem app_le2 {ar : Nat} {ws ms : List Wy} : leW ar (ws ++ ms) ws = leW ar ms ws := by
  rw [Bool.eq_iff_iff, leW_iff, leW_iff]
  constructor
  · intro e w h a
    exact e w h (by rw [has_app, a, Bool.or_true])
  · intro e w h a
    rw [has_app, Bool.or_eq_true] at a
    rcases a with a | a
    · exact a
    · exact e w h a
theorem nrm_comm (ar : Nat) (ws ms : List Wy) : nrm ar (ws ++ ms) = nrm ar (ms ++ ws) := nrm_congr fun w h => by rw [has_app, has_app, Bool.or_comm]
theorem nrm_valid {ar : Nat} {ws : List Wy} : ∀ w ∈ nrm ar ws, isW ar w = true := fun w h => (mem_nrm.mp h).1
theorem leW_nrm {ar : Nat} {ws ms ws' ms' : List Wy} (h1 : nrm ar ws = nrm ar ws') (h2 : nrm ar ms = nrm ar ms') : leW ar ws ms = leW ar ws' ms' := by unfold leW; rw [h1, h2]
theorem nrm_nrm (ar : Nat) (ws : List Wy) : nrm ar (nrm ar ws) = nrm ar ws := nrm_congr fun w h => has_nrm h
theorem nrm_mem_eq {ar : Nat} {ws ms : List Wy} (h : ∀ w, w ∈ ws ↔ w ∈ ms) : nrm ar ws = nrm ar ms := nrm_congr fun w _ => by rw [Bool.eq_iff_iff, hasW_iff, hasW_iff, h, h]
end Tw

set_option maxHeartbeats 4000000
namespace Tw
open PySem PySem.Spec PyProof.Rows L2
/-! ### calling an own instance; a slice of a tuple in a block -/
section
variable {X : Cx} {C : Addr} {k : Nat} {CX : CXT} {E : XK} {sp : Sp} {fe e : Expr} {es : List Expr} {pos : Pos} {tf : TE} {t : TA} {K : Fg}
def tIo (C : Addr) (sp : Sp) (E : XK) (tf : TE) (t : TA) : TE := fun σ H Q => tf σ H fun y H1 => ∃ a, y = V.ref a ∧ t σ H1 fun vs H2 => (∃ dx fs, H2 a = some (.ins C dx fs)) ∧ sp (V.ref a :: vs) H2 Q E
theorem pe_io (G : Md X.prog X.w X.K X.mg X.base CX k C "__call__" sp) (hr : Room k X.A) (hx : Passes CX X E) (hf : PE X fe tf) (ha : PA X (e :: es) t)
    (ht : eval (.Call fe (e :: es) [] pos) X.env = (do callWith pos (← eval fe X.env) [] (backTo pos (starEach (e :: es) X.env)) (backToKw pos (keywordEach [] X.env))) := by rfl)
    (he : starEach (e :: es) X.env = (false, eval e X.env) :: starEach es X.env := by rfl) (hpl : (backTo pos (starEach es X.env)).any (·.1) = false := by rfl) : PE X (.Call fe (e :: es) [] pos) (tIo C sp E tf t) := by
  obtain ⟨f, F, hm, hfi⟩ := G.ex
  refine ⟨fun pins s σ H Q I h => ?_⟩
  refine Call_ (thn (hf.run pins s σ H _ I h) fun u s1 ⟨y, H1, I1, ry, a, ey, q⟩ => ?_) ht
  subst ey
  obtain rfl : u = Value.ref a := ry
  refine StX.callO_with (thn (ha.run pos pins s1 σ H1 _ I1 q) fun us s2 ⟨vs, H2, I2, r, ⟨dx, fs, hi⟩, q2⟩ => ?_) he hpl
  obtain ⟨ox, od, J, hd⟩ := StX.insC_at (C := C) I2 (.inr ⟨dx, fs, hi⟩)
  exact ⟨⟨C, ox, od, J, hd⟩, wpAny_call (PySem.W.kco_code I2.kIn J hd hm.at_ hm.fn hfi (codeAny_mono (F.raw X.A X.stack s2 H2 (.ref a :: us) (.ref a :: vs) Q E hr I2.env0 (.cons rfl r) q2) fun r s' hq => by
    cases r with
    | error e => exact hx pins σ H2 s2 e s' I2 hq
    | ok fl =>
      cases fl with
      | ret u => exact I2.after hq
      | next => exact False.elim hq
      | brk => exact False.elim hq
      | cont => exact False.elim hq))⟩
theorem sl_tupAK (hK : X.K = K) : SlR X (rSlA K) := hK ▸ sl_tupA
end
/-! ### a comprehension that makes things -/
theorem lcG {K : Fg} {a : Addr} {xs : List V} {j : Nat} {te : TE} {vs : List Nat} {σ : L2.St} {H : Hp} {Qd : Addr → Hp → Prop} (Pv : Addr → Nat → List V → Hp → Prop) (h : SqL K H a xs) (hz : xs.length ≤ 100000)
    (hw : ∀ x, wipe ((wipe σ vs).set j (some x)) vs = wipe σ vs) (h0 : ∀ D, H D = none → Pv D 0 [] (upd H D (.lst [])))
    (hs : ∀ D i x ys H', H D = none → xs[i]? = some x → Same H H' → H' D = some (.lst ys) → Pv D i ys H' → ∀ Q : VK, (∀ y H4, Same H H4 → H4 D = some (.lst ys) → Pv D (i + 1) (ys ++ [y]) (upd H4 D (.lst (ys ++ [y]))) → Q y H4) → te ((wipe σ vs).set j (some x)) H' Q)
    (q : ∀ D ys H', H D = none → Same H H' → H' D = some (.lst ys) → ys.length = xs.length → Pv D xs.length ys H' → Qd D H') :
    ∀ D, H D = none → ∃ W : Nat → Nat → Hp → Prop, (∃ m, W 0 m (upd H D (.lst []))) ∧ ∀ i m H, W i m H →
      ((Itl K a).stop i H ∧ Qd D H) ∨ ((Itl K a).go i H ∧ ∃ Nx : Hp → Prop, (∀ H', Nx H' → ∃ m', m' < m ∧ W (i + 1) m' H') ∧ ∀ x H', (Itl K a).yld i H x H' → gName j x (wipe σ vs) H' fun σ2 H2 => wipe σ2 vs = wipe σ vs ∧ tYes σ2 H2 fun b H3 =>
        if b = true then te σ2 H3 fun y H4 => ∃ acc, H4 D = some (.lst acc) ∧ acc.length < sizeLine ∧ Nx (upd H4 D (.lst (acc ++ [y]))) else Nx H3) := fun D hD => by
  refine walk_lst (xs := xs) (fun i H' => Same H H' ∧ ∃ ys, H' D = some (.lst ys) ∧ ys.length = i ∧ Pv D i ys H') ⟨.new hD, [], upd_same, rfl, h0 D hD⟩ (fun i H' _ ⟨s, _⟩ => s.seq h) ?_ ?_
  · rintro i x H' hi ⟨s, ys, hDs, hl, hp⟩
    refine ⟨hw x, ?_⟩
    delta tYes
    refine ite_t rfl ?_
    refine hs D i x ys H' hD hi s hDs hp _ fun y H4 s4 hD4 hp4 => ⟨ys, hD4, ?_, s4.upd hD, ys ++ [y], upd_same, by rw [List.length_append, hl]; rfl, hp4⟩
    have : i < xs.length := (List.getElem?_eq_some_iff.mp hi).1
    exact Nat.lt_of_le_of_lt (show ys.length ≤ 100000 by omega) (by decide)
  · rintro H' ⟨s, ys, hDs, hl, hp⟩
    exact q D ys H' hD s hDs hl hp
/-! ### the plain law of applying -/
def condR (rs : List (List Wy)) (w : Wy) : Bool := match w with
  | [_] => true
  | [_, i, q] => hasW (rs.getD i.toNat []) [q]
  | _ => false
def appW (rs : List (List Wy)) (rows : List Wy) : List Wy := (rows.filter (condR rs)).map fun w => w.take 1
def dueP (ws : List Wy) (ss : List (List Int)) (p : Int) : Bool := decide ([p] ∈ ws) || ws.any fun w => match w with
  | [a, i, q] => decide (a = p) && decide (q ∈ ss.getD i.toNat [])
  | _ => false
def dueW (ws : List Wy) (ss : List (List Int)) : List Wy := ((List.range 4).filter fun (p : Nat) => dueP ws ss p).map fun (p : Nat) => [(p : Int)]
theorem filter_flat {α : Type} (f : Nat → Bool) (g : Nat → α) (l : List Nat) : (l.filter f).map g = l.flatMap fun i => if f i = true then [g i] else [] := by
  induction l with
  | nil => rfl
  | cons x l ih =>
    rw [List.filter_cons, List.flatMap_cons, ← ih]
    by_cases h : f x = true
    · rw [if_pos h, if_pos h]; rfl
    · rw [if_neg h, if_neg h]; rfl
theorem nrm0 (X : List Wy) : nrm 0 X = ((List.range 4).filter fun (p : Nat) => decide ([(p : Int)] ∈ X)).map fun (p : Nat) => [(p : Int)] := by
  rw [filter_flat]
  unfold nrm
  congr 1
  funext p
  unfold nrmP
  by_cases h : [(p : Int)] ∈ X
  · rw [if_pos h, if_pos (by simpa using h)]
  · rw [if_neg h, if_neg (by simpa using h)]; rfl
theorem app_valid {ar : Nat} {rs : List (List Wy)} {rows : List Wy} (h : ∀ w ∈ rows, isW ar w = true) : ∀ w ∈ appW rs rows, isW 0 w = true := by
  intro w hw
  obtain ⟨v, hv, rfl⟩ := List.mem_map.mp hw
  have := h v (List.mem_filter.mp hv).1
  rcases isW_cases this with ⟨p, hp, rfl⟩ | ⟨p, i, q, hp, hi, hq, rfl⟩
  · exact isW_one hp
  · exact isW_one hp
theorem mem_app {ar : Nat} {rs : List (List Wy)} {rows : List Wy} (h : ∀ w ∈ rows, isW ar w = true) {p : Int} : [p] ∈ appW rs rows ↔ [p] ∈ rows ∨ ∃ i q : Nat, (i : Int) < ar ∧ q < 4 ∧ [p, (i : Int), (q : Int)] ∈ rows ∧ hasW (rs.getD i []) [(q : Int)] = true := by
  constructor
  · intro hw
    obtain ⟨v, hv, e⟩ := List.mem_map.mp hw
    obtain ⟨hv, hc⟩ := List.mem_filter.mp hv
    rcases isW_cases (h v hv) with ⟨p', hp, rfl⟩ | ⟨p', i, q, hp, hi, hq, rfl⟩
    · have e : [(p' : Int)] = [p] := e
      rw [← e]; exact .inl hv
    · have e : [(p' : Int)] = [p] := e
      injection e with e
      rw [← e]
      exact .inr ⟨i, q, hi, hq, hv, hc⟩
  · rintro (hv | ⟨i, q, hi, hq, hv, hc⟩)
    · exact List.mem_map.mpr ⟨[p], List.mem_filter.mpr ⟨hv, rfl⟩, rfl⟩
    · exact List.mem_map.mpr ⟨_, List.mem_filter.mpr ⟨hv, hc⟩, rfl⟩
theorem has_int {s : List Int} {q : Int} : hasW (s.map fun x => [x]) [q] = decide (q ∈ s) := by
  rw [Bool.eq_iff_iff, hasW_iff, decide_eq_true_iff]
  show [q] ∈ _ ∨ [q] ∈ _ ↔ _
  rw [or_self, List.mem_map]
  constructor
  · rintro ⟨x, hx, e⟩
    injection e with e
    rw [← e]; exact hx
  · intro h
    exact ⟨q, h, rfl⟩
theorem app_due {ar : Nat} {ws : List Wy} {rs : List (List Wy)} {ss : List (List Int)} (hw : ∀ w ∈ ws, isW ar w = true) (hr : ∀ i : Nat, (i : Int) < ar → rs.getD i [] = nrm 0 ((ss.getD i []).map fun x => [x])) : nrm 0 (appW rs (nrm ar ws)) = dueW ws ss := by
  rw [nrm0]
  unfold dueW
  congr 1
  refine List.filter_congr fun p hp => ?_
  have hp := List.mem_range.mp hp
  rw [Bool.eq_iff_iff, decide_eq_true_iff, mem_app nrm_valid, dueP, Bool.or_eq_true, decide_eq_true_iff, List.any_eq_true]
  constructor
  · rintro (h | ⟨i, q, hi, hq, hm, hc⟩)
    · exact .inl (mem_nrm.mp h).2.1
    · refine .inr ⟨_, (mem_nrm.mp hm).2.1, ?_⟩
      rw [hr i hi, has_nrm (isW_one hq), has_int] at hc
      show (decide ((p : Int) = p) && decide ((q : Int) ∈ ss.getD ((i : Int)).toNat [])) = true
      rw [Int.toNat_natCast, hc]
      simp
  · rintro (h | ⟨w, hm, hc⟩)
    · exact .inl (mem_nrm.mpr ⟨isW_one hp, h, .inl rfl⟩)
    · rcases isW_cases (hw w hm) with ⟨p', hp', rfl⟩ | ⟨p', i, q, hp', hi, hq, rfl⟩
      · cases hc
      · have hc : (decide ((p' : Int) = p) && decide ((q : Int) ∈ ss.getD ((i : Int)).toNat [])) = true := hc
        rw [Bool.and_eq_true, decide_eq_true_iff, Int.toNat_natCast] at hc
        obtain ⟨e, hc⟩ := hc
        rw [e] at hm
        by_cases hb : [(p : Int)] ∈ ws
        · exact .inl (mem_nrm.mpr ⟨isW_one hp, hb, .inl rfl⟩)
        · refine .inr ⟨i, q, hi, hq, mem_nrm.mpr ⟨isW_three hp hi hq, hm, .inr hb⟩, ?_⟩
          rw [hr i hi, has_nrm (isW_one hq), has_int]
          exact hc
def oneL (w : Wy) : Bool := decide (w.length = 1)
theorem nrm_ones (ar : Nat) (ws : List Wy) : (nrm ar ws).filter oneL = ((List.range 4).filter fun (p : Nat) => decide ([(p : Int)] ∈ ws)).map fun (p : Nat) => [(p : Int)] := by
  rw [filter_flat]
  unfold nrm
  rw [List.filter_flatMap]
  congr 1
  funext p
  unfold nrmP
  by_cases h : [(p : Int)] ∈ ws
  · rw [if_pos h, if_pos (by simpa using h)]; rfl
  · rw [if_neg h, if_neg (by simpa using h)]
    rw [List.filter_eq_nil_iff]
    intro w hw
    obtain ⟨i, hi, hw⟩ := List.mem_flatMap.mp hw
    obtain ⟨q, hq, hw⟩ := List.mem_flatMap.mp hw
    split at hw
    · rw [List.mem_singleton.mp hw]; simp [oneL]
    · cases hw
theorem app_quiet {ar : Nat} {ws : List Wy} {rs : List (List Wy)} (hr : ∀ i : Nat, rs.getD i [] = []) : nrm 0 (appW rs (nrm ar ws)) = (nrm ar ws).filter oneL := by
  rw [nrm0, nrm_ones]
  congr 1
  refine List.filter_congr fun p hp => ?_
  have hp := List.mem_range.mp hp
  rw [Bool.eq_iff_iff, decide_eq_true_iff, decide_eq_true_iff, mem_app nrm_valid]
  constructor
  · rintro (h | ⟨i, q, hi, hq, hm, hc⟩)
    · exact (mem_nrm.mp h).2.1
    · rw [hr i] at hc
      simp [hasW] at hc
  · intro h
    exact .inl (mem_nrm.mpr ⟨isW_one hp, h, .inl rfl⟩)
theorem app_len (rs : List (List Wy)) (rows : List Wy) : (appW rs rows).length ≤ rows.length := by
  unfold appW
  rw [List.length_map]
  exact List.length_filter_le _ _
end Tw

set_option maxHeartbeats 4000000
namespace Tw
open PySem PySem.Spec PyProof.Rows L2
section
variable {P : Program} {w : World} {K : Fg} {mg : Str → Option Value} {base : Heap}
theorem int_neq {i j : Int} (h : i = j) : (!decide (V.int i = V.int j)) = false := by rw [int_eq h]; rfl
def spOr (K : Fg) (C : Addr) : Sp := fun vs H Q _ => ∃ (a b : Addr) (ar : Nat) (r1 r2 : List Wy), vs = [.ref a, .ref b] ∧ AbAt K C H a ar r1 ∧ AbAt K C H b ar r2 ∧ ar ≤ 4 ∧ r1.length ≤ 1000 ∧ r2.length ≤ 1000 ∧ (∀ w ∈ r1, isW ar w = true) ∧ (∀ w ∈ r2, isW ar w = true) ∧
  ∀ p r H', H p = none → H r = none → Same H H' → AbL K C H' p r ar (nrm ar (r1 ++ r2)) → Q (.ref p) H'
def spLe (K : Fg) (C : Addr) : Sp := fun vs H Q _ => ∃ (a b : Addr) (ar : Nat) (r1 r2 : List Wy), vs = [.ref a, .ref b] ∧ AbAt K C H a ar r1 ∧ AbAt K C H b ar r2 ∧ r1.length ≤ 10000 ∧ ∀ H', Same H H' → Q (.bl (r1.all fun w => hasW r2 w)) H'
def unI : List PyData → Wy
  | [] => []
  | .int i :: r => i :: unI r
  | _ :: r => unI r
theorem unI_map (w : Wy) : unI (w.map .int) = w := by
  induction w with
  | nil => rfl
  | cons x w ih =>
    show x :: unI (w.map .int) = _
    rw [ih]
def unT : PyData → Wy
  | .tuple xs => unI xs
  | _ => []
theorem unT_tI (w : Wy) : unT (tI w) = w := unI_map w
theorem im_bls {K : Fg} {H : Hp} : ∀ {bs : List Bool} {xs : List V}, ImAll K H xs (bs.map .bool) → xs = bs.map V.bl
  | [], _, .nil => rfl
  | x :: w, _, .cons h hs => by cases h; rw [im_bls hs]; rfl
def spEqA (K : Fg) (C : Addr) : Sp := fun vs H Q _ => ∃ (a : Addr) (y : V) (ar : Nat) (r1 : List Wy), vs = [.ref a, y] ∧ AbAt K C H a ar r1 ∧
  ((∃ (b : Addr) (ar2 : Nat) (r2 : List Wy), y = .ref b ∧ AbAt K C H b ar2 r2 ∧ Q (.bl (decide (ar = ar2) && decide (r1 = r2))) H) ∨ (y = .non ∧ Q (.bl false) H) ∨ ∃ l xs, y = .ref l ∧ H l = some (.lst xs) ∧ Q (.bl false) H)
theorem tIs_inj : ∀ {a b : List Wy}, a.map tI = b.map tI → a = b
  | [], [], _ => rfl
  | [], _ :: _, h => by cases h
  | _ :: _, [], h => by cases h
  | x :: a, y :: b, h => by
    rw [List.map_cons, List.map_cons] at h
    injection h with h1 h2
    rw [tI_inj.mp h1, tIs_inj h2]
theorem eqv_ways (a b : List Wy) : PyData.eqv (.list (a.map tI)) (.list (b.map tI)) = decide (a = b) := eqv_dec (clean_ways a) (clean_ways b) (by
  rw [decide_eq_true_iff]
  exact ⟨fun e => by rw [e], fun e => tIs_inj (by injection e)⟩)
theorem sm_b (b : Bool) : sm (.bool b) = true := by simp only [sm]
theorem dep_b (b : Bool) : (PyData.bool b).depth ≤ 3 := by simp [PyData.depth]
theorem dp_b {K : Fg} {H : Hp} (b : Bool) : Dp K H (.bl b) (.bool b) := (Im.bl b).dp
theorem nrm_rows_len {ar : Nat} {ws : List Wy} (h : ar ≤ 4) : (nrm ar ws).length ≤ 100 := by have := nrm_len ar ws; omega
/-! ### readings of the operators -/
theorem rd_eq {C a b : Addr} {H : Hp} {ar ar2 : Nat} {r1 r2 : List Wy} {E : XK} {Q : VK} (O : OwnC K C) (hA : AbAt K C H a ar r1) (hB : AbAt K C H b ar2 r2) (q : Q (.bl (decide (ar = ar2) && decide (r1 = r2))) H) : rCmpO K C (spEqA K C) E (.ref a) (.ref b) H Q := by
  obtain ⟨dx, l, ha, hl⟩ := id hA
  obtain ⟨dy, m, hb, hm⟩ := id hB
  exact ⟨a, dx, _, _, rfl, ha, O.ty hb, nf_self, a, .ref b, ar, r1, rfl, hA, .inl ⟨b, ar2, r2, rfl, hB, _, rfl, q⟩⟩
theorem rd_eqN {C a : Addr} {H : Hp} {ar : Nat} {r1 : List Wy} {E : XK} {Q : VK} (hA : AbAt K C H a ar r1) (q : Q (.bl false) H) : rCmpO K C (spEqA K C) E (.ref a) .non H Q := by
  obtain ⟨dx, l, ha, hl⟩ := id hA
  exact ⟨a, dx, _, _, rfl, ha, .base .non, nf_none, a, .non, ar, r1, rfl, hA, .inr (.inl ⟨rfl, _, rfl, q⟩)⟩
theorem rd_eqL {C a l : Addr} {H : Hp} {ar : Nat} {r1 : List Wy} {xs : List V} {E : XK} {Q : VK} (hA : AbAt K C H a ar r1) (hl : H l = some (.lst xs)) (q : Q (.bl false) H) : rCmpO K C (spEqA K C) E (.ref a) (.ref l) H Q := by
  obtain ⟨dx, _, ha, _⟩ := id hA
  exact ⟨a, dx, _, _, rfl, ha, .base (.lst hl), nf_list, a, .ref l, ar, r1, rfl, hA, .inr (.inr ⟨l, xs, rfl, hl, _, rfl, q⟩)⟩
theorem rd_ne {C a b : Addr} {H : Hp} {ar ar2 : Nat} {r1 r2 : List Wy} {E : XK} {Q : VK} (hA : AbAt K C H a ar r1) (hB : AbAt K C H b ar2 r2) (q : Q (.bl (!(decide (ar = ar2) && decide (r1 = r2)))) H) : rNeO C (spEqA K C) E (.ref a) (.ref b) H Q := by
  obtain ⟨dx, l, ha, hl⟩ := id hA
  obtain ⟨dy, m, hb, hm⟩ := id hB
  exact ⟨a, dx, _, b, dy, _, rfl, rfl, ha, hb, a, .ref b, ar, r1, rfl, hA, .inl ⟨b, ar2, r2, rfl, hB, _, rfl, q⟩⟩
theorem rd_le {C a b : Addr} {H : Hp} {ar : Nat} {r1 r2 : List Wy} {E : XK} {Q : VK} (O : OwnC K C) (hA : AbAt K C H a ar r1) (hB : AbAt K C H b ar r2) (n1 : r1.length ≤ 10000) (q : ∀ H', Same H H' → Q (.bl (r1.all fun w => hasW r2 w)) H') : rCmpO K C (spLe K C) E (.ref a) (.ref b) H Q := by
  obtain ⟨dx, l, ha, hl⟩ := id hA
  obtain ⟨dy, m, hb, hm⟩ := id hB
  exact ⟨a, dx, _, _, rfl, ha, O.ty hb, nf_self, a, b, ar, r1, r2, rfl, hA, hB, n1, fun H' s => ⟨_, rfl, q H' s⟩⟩
theorem rd_or {C a b : Addr} {H : Hp} {ar : Nat} {r1 r2 : List Wy} {E : XK} {Q : VK} (hA : AbAt K C H a ar r1) (hB : AbAt K C H b ar r2) (har : ar ≤ 4) (n1 : r1.length ≤ 1000) (n2 : r2.length ≤ 1000) (w1 : ∀ w ∈ r1, isW ar w = true) (w2 : ∀ w ∈ r2, isW ar w = true)
    (q : ∀ p r H', H p = none → H r = none → Same H H' → AbL K C H' p r ar (nrm ar (r1 ++ r2)) → Q (.ref p) H') : rBinO C (spOr K C) E (.ref a) (.ref b) H Q := by
  obtain ⟨dx, l, ha, hl⟩ := id hA
  obtain ⟨dy, m, hb, hm⟩ := id hB
  exact ⟨a, dx, _, b, dy, _, rfl, rfl, ha, hb, a, b, ar, r1, r2, rfl, hA, hB, har, n1, n2, w1, w2, fun p r H' h1 h2 s hh => ⟨p, rfl, q p r H' h1 h2 s hh⟩⟩
theorem dp_e {H : Hp} {a b : Bool} (e : a = b) : Dp K H (.bl b) (.bool a) := by rw [e]; exact dp_b b
theorem ImAll.rev {H : Hp} {vs : List V} {ds : List PyData} (h : ImAll K H vs ds) : ImAll K H vs.reverse ds.reverse := by
  induction vs generalizing ds with
  | nil => cases h; exact .nil
  | cons v vs ih =>
    cases h with
    | cons h hs =>
      rw [List.reverse_cons, List.reverse_cons]
      exact (ih hs).snoc h
/-- the reading of making an ability -/
theorem rd_new {C l : Addr} {H : Hp} {ar : Nat} {ws : List Wy} {E : XK} {Qf : Addr → Hp → Prop} (hL : LsM K H l (ws.map tI)) (hn : ws.length ≤ 10000) (hw : ∀ w ∈ ws, isW ar w = true) (har : ar ≤ 4) (q : ∀ x r H', H x = none → H r = none → Same H H' → AbL K C H' x r ar (nrm ar ws) → Qf x H') :
    ∀ x dx, H x = none → H dx = none → dx ≠ x → spAbInit K C (.ref x :: ([.int ar, .ref l] ++ [])) (upd (upd H dx (.own x)) x (.ins C dx [])) (fun v H' => v = .non ∧ Qf x H') E := by
  intro x dx nx ndx ne
  have s2 : Same H (upd (upd H dx (.own x)) x (.ins C dx [])) := fun b o e => by
    rw [upd_ne (ne_of_none e nx), upd_ne (ne_of_none e ndx)]
    exact e
  exact ⟨x, dx, l, ar, ws, rfl, upd_same, (hL.mono s2).r, hn, hw, har, fun r H' hr0 kp hA => ⟨rfl, q x r H' nx (s2.free hr0) (Same.made nx ndx kp) hA⟩⟩
theorem depth_w3 (ws : List Wy) : PyData.depth (.list (ws.map tI)) ≤ 3 := Nat.le_trans (depth_ways ws) (by decide)
theorem isW_len {ar : Int} {w : Wy} (h : isW ar w = true) : w.length ≤ 1000000 := by
  rcases isW_cases h with ⟨p, hp, rfl⟩ | ⟨p, i, q, hp, hi, hq, rfl⟩ <;> simp
theorem sm_nrm {ar : Nat} {ws : List Wy} (h : ar ≤ 4) : sm (.list ((nrm ar ws).map tI)) = true := sm_ways (Nat.le_trans (nrm_rows_len h) (by decide)) fun w hw => isW_len (nrm_valid w hw)
theorem rd_andB {σ : L2.St} {H : Hp} {Q : VK} {i j : Nat} {b c : Bool} (hi : σ[i]? = some (some (.bl b))) (hj : σ[j]? = some (some (.bl c))) (q : Q (.bl (b && c)) H) : tAndV (tVar i) (tVar j) σ H Q := by
  refine ⟨_, hi, b, rfl, ?_⟩
  cases b with
  | true => exact ite_t rfl ⟨_, hj, q⟩
  | false => exact ite_f rfl q
theorem eq_one {ar : Nat} {ws ms : List Wy} : (decide (ar = ar) && decide (nrm ar (ws ++ ms) = nrm ar ms)) = leW ar ws ms := by
  rw [eq_le, app_le, le_app_r]
  simp
theorem notInW {K : Fg} {H : Hp} {x : V} {w : Wy} {l : Addr} {ws : List Wy} {Q : VK} (hx : Im K H x (tI w)) (hl : LsR K H l (ws.map tI)) (q : Q (.bl (!decide (w ∈ ws))) H) : rNotInD K x (.ref l) H Q :=
  ⟨_, _, hx.dp, hl.dp, shaped_tI w, shaped_ways ws, by rw [any_ways]; exact q⟩
def spCall (K : Fg) (C : Addr) : Sp := fun vs H Q _ => ∃ (a l : Addr) (ar : Nat) (rows : List Wy) (cs : List Addr) (rs : List (List Wy)), vs = [.ref a, .ref l] ∧ AbAt K C H a ar rows ∧ SqL K H l (cs.map V.ref) ∧ cs.length = ar ∧ (∀ i c, cs[i]? = some c → AbAt K C H c 0 (rs.getD i [])) ∧ (∀ w ∈ rows, isW ar w = true) ∧ rows.length ≤ 1000 ∧
  ∀ p r H', H p = none → H r = none → Same H H' → AbL K C H' p r 0 (nrm 0 (appW rs rows)) → Q (.ref p) H'
theorem filt_app (rs : List (List Wy)) (rows : List Wy) : ((rows.map tI).filter fun d => condR rs (unT d)).map (fun d => tI ((unT d).take 1)) = (appW rs rows).map tI := by
  unfold appW
  rw [List.map_map]
  induction rows with
  | nil => rfl
  | cons w rows ih =>
    rw [List.map_cons, List.filter_cons, List.filter_cons, unT_tI]
    by_cases h : condR rs w = true
    · rw [if_pos h, if_pos h, List.map_cons, List.map_cons, ih, unT_tI]; rfl
    · rw [if_neg h, if_neg h, ih]
end
/-! ### a comprehension over a range that makes things -/
theorem lcR {K : Fg} {n j : Nat} {te : TE} {vs : List Nat} {σ : L2.St} {H : Hp} {Qd : Addr → Hp → Prop} (Pv : Addr → Nat → List V → Hp → Prop) (hz : n ≤ 100000)
    (hw : ∀ x, wipe ((wipe σ vs).set j (some x)) vs = wipe σ vs) (h0 : ∀ D, H D = none → Pv D 0 [] (upd H D (.lst [])))
    (hs : ∀ D i ys H', H D = none → i < n → Same H H' → H' D = some (.lst ys) → Pv D i ys H' → ∀ Q : VK, (∀ y H4, Same H H4 → H4 D = some (.lst ys) → Pv D (i + 1) (ys ++ [y]) (upd H4 D (.lst (ys ++ [y]))) → Q y H4) → te ((wipe σ vs).set j (some (.int (0 + (i : Int))))) H' Q)
    (q : ∀ D ys H', H D = none → Same H H' → H' D = some (.lst ys) → ys.length = n → Pv D n ys H' → Qd D H') :
    ∀ D, H D = none → ∃ W : Nat → Nat → Hp → Prop, (∃ m, W 0 m (upd H D (.lst []))) ∧ ∀ i m H, W i m H →
      ((Itr 0 n).stop i H ∧ Qd D H) ∨ ((Itr 0 n).go i H ∧ ∃ Nx : Hp → Prop, (∀ H', Nx H' → ∃ m', m' < m ∧ W (i + 1) m' H') ∧ ∀ x H', (Itr 0 n).yld i H x H' → gName j x (wipe σ vs) H' fun σ2 H2 => wipe σ2 vs = wipe σ vs ∧ tYes σ2 H2 fun b H3 =>
        if b = true then te σ2 H3 fun y H4 => ∃ acc, H4 D = some (.lst acc) ∧ acc.length < sizeLine ∧ Nx (upd H4 D (.lst (acc ++ [y]))) else Nx H3) := fun D hD => by
  refine walk_rng (fun i H' => Same H H' ∧ ∃ ys, H' D = some (.lst ys) ∧ ys.length = i ∧ Pv D i ys H') ⟨.new hD, [], upd_same, rfl, h0 D hD⟩ ?_ ?_
  · rintro i H' hi ⟨s, ys, hDs, hl, hp⟩
    refine ⟨hw _, ?_⟩
    delta tYes
    refine ite_t rfl ?_
    refine hs D i ys H' hD hi s hDs hp _ fun y H4 s4 hD4 hp4 => ⟨ys, hD4, ?_, s4.upd hD, ys ++ [y], upd_same, by rw [List.length_append, hl]; rfl, hp4⟩
    exact Nat.lt_of_le_of_lt (show ys.length ≤ 100000 by omega) (by decide)
  · rintro H' ⟨s, ys, hDs, hl, hp⟩
    exact q D ys H' hD s hDs hl hp
/-! ### applying is linear -/
def rsF (ar : Nat) (f : Nat → List Wy) : List (List Wy) := (List.range ar).map fun i => nrm 0 (f i)
theorem rsF_at {ar i : Nat} {f : Nat → List Wy} (h : i < ar) : (rsF ar f).getD i [] = nrm 0 (f i) := by
  unfold rsF
  rw [List.getD_eq_getElem?_getD, List.getElem?_map, List.getElem?_range h]; rfl
def apF (ar : Nat) (f : Nat → List Wy) (W : List Wy) : List Wy := appW (rsF ar f) (nrm ar W)
def APp (ar : Nat) (W : List Wy) (f : Nat → List Wy) (p : Nat) : Prop := [(p : Int)] ∈ W ∨ ∃ i q : Nat, i < ar ∧ q < 4 ∧ [(p : Int), (i : Int), (q : Int)] ∈ W ∧ [(q : Int)] ∈ f i
theorem has_one {X : List Wy} {p : Int} : hasW X [p] = true ↔ [p] ∈ X := by
  rw [hasW_iff]
  show [p] ∈ X ∨ [p] ∈ X ↔ _
  rw [or_self]
theorem mem_ap {ar : Nat} {W : List Wy} {f : Nat → List Wy} {p : Nat} (hp : p < 4) : [(p : Int)] ∈ apF ar f W ↔ APp ar W f p := by
  unfold apF APp
  rw [mem_app nrm_valid]
  constructor
  · rintro (h | ⟨i, q, hi, hq, hm, hc⟩)
    · exact .inl (mem_nrm.mp h).2.1
    · have hi' : i < ar := by omega
      rw [rsF_at hi', has_nrm (isW_one hq), has_one] at hc
      exact .inr ⟨i, q, hi', hq, (mem_nrm.mp hm).2.1, hc⟩
  · rintro (h | ⟨i, q, hi, hq, hm, hc⟩)
    · exact .inl (mem_nrm.mpr ⟨isW_one hp, h, .inl rfl⟩)
    · by_cases hb : [(p : Int)] ∈ W
      · exact .inl (mem_nrm.mpr ⟨isW_one hp, hb, .inl rfl⟩)
      · refine .inr ⟨i, q, by omega, hq, mem_nrm.mpr ⟨isW_three hp (by omega) hq, hm, .inr hb⟩, ?_⟩
        rw [rsF_at hi, has_nrm (isW_one hq), has_one]
        exact hc
theorem isW0 {w : Wy} (h : isW 0 w = true) : ∃ p : Nat, p < 4 ∧ w = [(p : Int)] := by
  rcases isW_cases h with h | ⟨p, i, q, _, hi, _⟩
  · exact h
  · omega
theorem nrm0_congr {X Y : List Wy} (h : ∀ p : Nat, p < 4 → ([(p : Int)] ∈ X ↔ [(p : Int)] ∈ Y)) : nrm 0 X = nrm 0 Y := nrm_congr fun w hw => by
  obtain ⟨p, hp, rfl⟩ := isW0 hw
  rw [Bool.eq_iff_iff, has_one, has_one]
  exact h p hp
theorem le0 {X Y : List Wy} (h : ∀ p : Nat, p < 4 → [(p : Int)] ∈ X → [(p : Int)] ∈ Y) : leW 0 X Y = true := leW_iff.mpr fun w hw a => by
  obtain ⟨p, hp, rfl⟩ := isW0 hw
  rw [has_one] at a ⊢
  exact h p hp a
theorem ap_or (ar : Nat) (W M : List Wy) (f : Nat → List Wy) : nrm 0 (nrm 0 (apF ar f W) ++ nrm 0 (apF ar f M)) = nrm 0 (apF ar f (W ++ M)) := by
  rw [nrm_app]
  refine nrm0_congr fun p hp => ?_
  rw [List.mem_append, mem_ap hp, mem_ap hp, mem_ap hp]
  unfold APp
  constructor
  · rintro ((h | ⟨i, q, hi, hq, hm, hc⟩) | (h | ⟨i, q, hi, hq, hm, hc⟩))
    · exact .inl (List.mem_append_left _ h)
    · exact .inr ⟨i, q, hi, hq, List.mem_append_left _ hm, hc⟩
    · exact .inl (List.mem_append_right _ h)
    · exact .inr ⟨i, q, hi, hq, List.mem_append_right _ hm, hc⟩
  · rintro (h | ⟨i, q, hi, hq, hm, hc⟩)
    · rcases List.mem_append.mp h with h | h
      · exact .inl (.inl h)
      · exact .inr (.inl h)
    · rcases List.mem_append.mp hm with h | h
      · exact .inl (.inr ⟨i, q, hi, hq, h, hc⟩)
      · exact .inr (.inr ⟨i, q, hi, hq, h, hc⟩)
theorem ap_both (ar : Nat) (W : List Wy) (f g : Nat → List Wy) : nrm 0 (nrm 0 (apF ar f W) ++ nrm 0 (apF ar g W)) = nrm 0 (apF ar (fun i => f i ++ g i) W) := by
  rw [nrm_app]
  refine nrm0_congr fun p hp => ?_
  rw [List.mem_append, mem_ap hp, mem_ap hp, mem_ap hp]
  unfold APp
  constructor
  · rintro ((h | ⟨i, q, hi, hq, hm, hc⟩) | (h | ⟨i, q, hi, hq, hm, hc⟩))
    · exact .inl h
    · exact .inr ⟨i, q, hi, hq, hm, List.mem_append_left _ hc⟩
    · exact .inl h
    · exact .inr ⟨i, q, hi, hq, hm, List.mem_append_right _ hc⟩
  · rintro (h | ⟨i, q, hi, hq, hm, hc⟩)
    · exact .inl (.inl h)
    · rcases List.mem_append.mp hc with h | h
      · exact .inl (.inr ⟨i, q, hi, hq, hm, h⟩)
      · exact .inr (.inr ⟨i, q, hi, hq, hm, h⟩)
theorem ap_le {ar : Nat} {W M : List Wy} {f g : Nat → List Wy} (h : leW ar W M = true) (hf : ∀ i x, x ∈ f i → x ∈ g i) : leW 0 (apF ar f W) (apF ar g M) = true := le0 fun p hp a => by
  rw [mem_ap hp] at a ⊢
  have e := leW_iff.mp h
  rcases a with a | ⟨i, q, hi, hq, hm, hc⟩
  · exact .inl (has_one.mp (e _ (isW_one hp) (has_one.mpr a)))
  · have z := e [(p : Int), (i : Int), (q : Int)] (isW_three hp (by omega) hq) (hasW_iff.mpr (.inl hm))
    rcases hasW_iff.mp z with z | z
    · exact .inr ⟨i, q, hi, hq, z, hf i _ hc⟩
    · exact .inl z
theorem le_self (ar : Nat) (W : List Wy) : leW ar W W = true := leW_iff.mpr fun _ _ a => a
def CmL (K : Fg) (C : Addr) (H : Hp) (D : Addr) (cs : List Addr) (f : Nat → List Wy) : Prop := ∀ k c, cs[k]? = some c → ∃ r, AbL K C H c r 0 (f k) ∧ r ≠ D ∧ c ≠ D
theorem CmL.step {K : Fg} {C D c r : Addr} {H H3 H4 : Hp} {cs : List Addr} {xs : List V} {f : Nat → List Wy} {o : HO} (h : CmL K C H D cs f) (s3 : Same H H3) (s4 : Same H3 H4) (hD : H D = some (.lst xs)) (hc0 : H3 c = none) (hr0 : H3 r = none) (hC : AbL K C H4 c r 0 (f cs.length)) : CmL K C (upd H4 D o) D (cs ++ [c]) f := by
  have hD3 := s3 _ _ hD
  have hD4 := s4 _ _ hD3
  have fD : Fra D H4 (upd H4 D o) := .put
  intro j d hd
  by_cases hj : j < cs.length
  · rw [List.getElem?_append_left hj] at hd
    obtain ⟨r', h1, h2, h3⟩ := h j d hd
    exact ⟨r', (h1.same (s3.trans s4)).fra fD (.lst hD4) h3 h2, h2, h3⟩
  · have hj' : j = cs.length := by
      have := (List.getElem?_eq_some_iff.mp hd).1
      rw [List.length_append, List.length_singleton] at this
      omega
    subst hj'
    rw [List.getElem?_append_right (Nat.le_refl _), Nat.sub_self] at hd
    cases hd
    have hrD : r ≠ D := (ne_of_none hD3 hr0).symm
    have hcD : c ≠ D := (ne_of_none hD3 hc0).symm
    exact ⟨r, hC.fra fD (.lst hD4) hcD hrD, hrD, hcD⟩
section
variable {K : Fg}
theorem rd_call {C a l : Addr} {H : Hp} {ar : Nat} {W : List Wy} {cs : List Addr} {f : Nat → List Wy} {E : XK} {Q : VK} (hA : AbAt K C H a ar (nrm ar W)) (har : ar ≤ 4) (hl : SqL K H l (cs.map V.ref)) (hc : cs.length = ar) (hcs : ∀ i c, cs[i]? = some c → AbAt K C H c 0 (nrm 0 (f i)))
    (q : ∀ p r H', H p = none → H r = none → Same H H' → AbL K C H' p r 0 (nrm 0 (apF ar f W)) → Q (.ref p) H') : (∃ dx fs, H a = some (.ins C dx fs)) ∧ spCall K C [.ref a, .ref l] H Q E :=
  ⟨⟨_, _, hA.choose_spec.choose_spec.1⟩, a, l, ar, _, cs, rsF ar f, rfl, hA, hl, hc, fun i c h => by
    have hi := (List.getElem?_eq_some_iff.mp h).1
    rw [rsF_at (by omega)]
    exact hcs i c h, nrm_valid, Nat.le_trans (nrm_rows_len har) (by decide), q⟩
end
def spEqual (K : Fg) (C : Addr) : Sp := fun vs H Q _ => ∃ (a b : Addr) (ar : Nat) (W : List Wy), vs = [.ref a, .ref b] ∧ AbAt K C H a ar (nrm ar W) ∧ AbAt K C H b ar (nrm ar W) ∧ ar ≤ 4 ∧ ∀ H', Same H H' → Q (.bl true) H'
def spLinear (K : Fg) (C : Addr) : Sp := fun vs H Q _ => ∃ (a b l m : Addr) (ar : Nat) (W M : List Wy) (cs ds : List Addr) (f g : Nat → List Wy), vs = [.ref a, .ref b, .ref l, .ref m] ∧ AbAt K C H a ar (nrm ar W) ∧ AbAt K C H b ar (nrm ar M) ∧ ar ≤ 4 ∧ SqL K H l (cs.map V.ref) ∧ SqL K H m (ds.map V.ref) ∧ cs.length = ar ∧ ds.length = ar ∧
  (∀ i c, cs[i]? = some c → AbAt K C H c 0 (nrm 0 (f i))) ∧ (∀ i c, ds[i]? = some c → AbAt K C H c 0 (nrm 0 (g i))) ∧ ∀ H', Same H H' → Q (.bl true) H'
end Tw

set_option maxHeartbeats 4000000
namespace Tw
open PySem L2
/-! ### the text by places -/
def top (i : Nat) : Stmt := PySem.Challenge.pw_tailwatch_k11_ability_class_whole.main.body.getD i (.Pass ⟨0, 0, 0, 0⟩)
abbrev s_BadWatcher___init__ : Stmt := inClass (top 3) 0
abbrev s_BadWay___init__ : Stmt := inClass (top 4) 0
abbrev s_KindMismatch___init__ : Stmt := inClass (top 5) 0
abbrev s_check_parts : Stmt := top 7
abbrev s_Watcher___init__ : Stmt := inClass (top 8) 1
abbrev s_Watcher_events : Stmt := inClass (top 8) 2
abbrev s_Watcher_states : Stmt := inClass (top 8) 3
abbrev s_Watcher_forbidden : Stmt := inClass (top 8) 4
abbrev s_is_way : Stmt := top 10
abbrev s_normal_ways : Stmt := top 11
abbrev s_has_way : Stmt := top 12
abbrev s_Ability___init__ : Stmt := inClass (top 13) 0
abbrev s_Ability_command : Stmt := inClass (top 13) 2
abbrev s_Ability_arity : Stmt := inClass (top 13) 3
abbrev s_Ability_ways : Stmt := inClass (top 13) 4
abbrev s_Ability_wrong : Stmt := inClass (top 13) 5
abbrev s_Ability___or__ : Stmt := inClass (top 13) 6
abbrev s_Ability___le__ : Stmt := inClass (top 13) 7
abbrev s_Ability___eq__ : Stmt := inClass (top 13) 8
abbrev s_Ability___contains__ : Stmt := inClass (top 13) 9
abbrev s_Ability___getitem__ : Stmt := inClass (top 13) 10
abbrev s_Ability___iter__ : Stmt := inClass (top 13) 11
abbrev s_Ability___call__ : Stmt := inClass (top 13) 12
abbrev s_law_row : Stmt := top 15
abbrev s_law_take : Stmt := top 16
abbrev s_law_any_ways : Stmt := top 17
abbrev s_law_same : Stmt := top 18
abbrev s_law_commands : Stmt := top 19
abbrev s_law_equal : Stmt := top 20
abbrev s_law_linear : Stmt := top 21
abbrev s_law : Stmt := top 22
end Tw

set_option maxHeartbeats 400000
namespace Tw
open PySem PySem.Spec PyProof.Rows L2
section
variable {P : Program} {w : World} {K : Fg} {mg : Str → Option Value} {base : Heap}
theorem sc_law_take : FnScope ["_law_row_here", "_law_at", "_law_many", "_law_place"] ["_law_row_here", "_law_at", "_law_many"] (defScope s_law_take) := ⟨rfl, rfl, rfl, by decide +kernel, rfl, by decide +kernel, by decide +kernel⟩
theorem ok_law_take (D : Gd K mg "_law_take" s_law_take ["_law_row_here", "_law_at", "_law_many"]) (T : Bi mg) : Ld P w K mg base CX0 1 "_law_take" (spTake K) := by
  have sc := sc_law_take
  refine D.ld fun f F => F.fo sc (fun vs H Q E h => ?_) (fun cdv A outer s H vs Q E hr h => ?_)
  · obtain ⟨row, cell, many, rfl, _⟩ := h
    rfl
  · obtain ⟨row, cell, many, rfl, d, hm, k⟩ := h
    obtain ⟨c, hc, hcell⟩ := d.cnt
    obtain ⟨ms, hms0⟩ := d.rws
    have hms : SqL K H row (ms.map V.int) := SqL.of hms0
    refine ⟨_, (pss_cons (ps_set (i := 3) sc.nd rfl (Or.inl rfl) (pe_ix ix_list (pv 1) pe_int (fun _ _ => rfl)))
      (pss_cons (ps_asg (pe_op op_add (pv 3) pe_int) (pg_sub (pv 1) pe_int set_list))
      (pss_cons (ps_if (pt_cmpR op_lt (pv 3) (pe_callB call_len_seq (by rfl) T.len PySem.boot_len (pa_cons (pv 0) pa_nil)) (nomark _))
        (pss_one (ps_ret (pe_op op_mod (pe_callTy call_int1 (by rfl) T.int boot_int (pa_cons (pe_ix ix_list (pv 0) (pv 3) (fun _ _ => rfl)) pa_nil)) (pv 2))))
        pss_nil)
      (pss_one (ps_ret pe_int))))), ?_⟩
    refine ⟨_, rfl, _, _, _, _, rfl, rfl, SqL.of hcell, atI_nat (j := 0) rfl, ?_⟩
    refine ⟨_, rfl, _, _, rfl, rfl, _, rfl, _, _, _, 0, rfl, rfl, hcell, rfl, ?_⟩
    have hms' := sqL_upd (o := .lst [V.int (c + 1)]) hms d.ne
    refine ⟨_, rfl, _, rfl, _, _, rfl, .inl hms', _, _, rfl, rfl, _, rfl, ?_⟩
    refine ite2 (fun h => ?_) (fun h => ?_)
    · have h := of_decide_eq_true h
      rw [List.length_map] at h
      obtain ⟨j, rfl⟩ : ∃ j : Nat, c = (j : Int) := ⟨c.toNat, by omega⟩
      have hj : j < ms.length := by omega
      refine ⟨_, rfl, _, rfl, _, _, _, _, rfl, rfl, hms', atI_nat (j := j) (v := V.int ms[j]) (by rw [List.getElem?_map, List.getElem?_eq_getElem hj]; rfl), .inl ⟨_, rfl, _, rfl, _, _, rfl, rfl, hm, ?_⟩⟩
      exact k _ _ (Int.emod_nonneg _ (by omega)) (Int.emod_lt_of_pos _ hm) (by omega)
    · exact k 0 _ (Int.le_refl _) hm (by omega)
end
end Tw

set_option maxHeartbeats 400000
namespace Tw
open PySem PySem.Spec PyProof.Rows L2
section
variable {P : Program} {w : World} {K : Fg} {mg : Str → Option Value} {base : Heap}
theorem sc_law_row : FnScope ["_law_script", "_law_row_here", "_law_cell", "_law_rest", "_law_k", "_law_mixed"] ["_law_script"] (defScope s_law_row) := ⟨rfl, rfl, rfl, by decide +kernel, rfl, by decide +kernel, by decide +kernel⟩
theorem cutV_ints (ns : List Int) (lo hi : Option Int) : ∃ cs : List Int, cutV (ns.map V.int) lo hi = cs.map V.int ∧ cs.length ≤ (HT.sIx ns.length ns.length hi) := by
  refine ⟨(ns.drop (HT.sIx ns.length 0 lo)).take (HT.sIx ns.length ns.length hi - HT.sIx ns.length 0 lo), ?_, ?_⟩
  · unfold cutV
    rw [List.length_map, List.map_take, List.map_drop]
  · rw [List.length_take]
    omega
theorem at_map_int {cs : List Int} {i : Nat} {x : V} (h : (cs.map V.int)[i]? = some x) : i < cs.length ∧ ∃ n, x = V.int n := by
  rw [List.getElem?_map] at h
  cases e : cs[i]? with
  | none => rw [e] at h; cases h
  | some n =>
    rw [e] at h
    exact ⟨(List.getElem?_eq_some_iff.mp e).1, n, (Option.some.inj h).symm⟩
theorem ok_law_row (D : Gd K mg "_law_row" s_law_row ["_law_script"]) (T : Bi mg) : Ld P w K mg base CX0 1 "_law_row" (spRow K) := by
  have sc := sc_law_row
  refine D.ld fun f F => F.fo sc (fun vs H Q E h => ?_) (fun cdv A outer s H vs Q E hr h => ?_)
  · obtain ⟨a, ns, rfl, _⟩ := h
    rfl
  · obtain ⟨a, ns, rfl, hS, k⟩ := h
    refine ⟨_, (pss_cons (ps_set (i := 1) sc.nd rfl (Or.inl rfl) (pe_lst pa_nil))
      (pss_cons (ps_for PassesOwn.never rfl (pi_list (pe_slice sl_list (pv 0) po_none (po_some pe_int))) (pg_name (i := 2) sc.nd rfl (Or.inl rfl))
        (pss_one (ps_if (pt_cmpR op_ge (pv 2) (pe_op op_pow pe_int pe_int) (nomark _))
          (pss_cons (ps_set (i := 3) sc.nd rfl (Or.inl rfl) (pv 2))
          (pss_one (ps_for PassesOwn.never rfl (pi_range1 (by rfl) T.range (pa_cons pe_int pa_nil)) (pg_name (i := 4) sc.nd rfl (Or.inl rfl))
            (pss_one (ps_if (pt_cmpR op_gt (pv 3) pe_int (nomark _))
              (pss_cons (ps_expr (pe_bm PySem.F.plainAttrs_list PySem.F.slot_list_append PySem.F.type_list_append mt_append (pv 1) (pa_cons (pe_op op_mod (pe_callTy call_int1 (by rfl) T.int boot_int (pa_cons (pv 3) pa_nil)) pe_int) pa_nil)))
              (pss_one (ps_set (i := 3) sc.nd rfl (Or.inl rfl) (pe_op op_fdiv (pv 3) pe_int))))
              pss_nil)))))
          (pss_one (ps_for PassesOwn.never rfl (pi_range1 (by rfl) T.range (pa_cons pe_int pa_nil)) (pg_name (i := 4) sc.nd rfl (Or.inl rfl))
            (pss_cons (ps_set (i := 5) sc.nd rfl (Or.inl rfl) (pe_op op_mod (pe_callTy call_int1 (by rfl) T.int boot_int (pa_cons (pe_op op_add (pe_op op_add (pe_op op_mul (pv 2) pe_int) (pe_op op_mul (pv 4) pe_int)) pe_int) pa_nil)) pe_int))
            (pss_cons (ps_set (i := 5) sc.nd rfl (Or.inl rfl) (pe_op op_mod (pe_callTy call_int1 (by rfl) T.int boot_int (pa_cons (pe_op op_add (pe_op op_mul (pv 5) (pv 5)) (pe_op op_mul pe_int (pv 4))) pa_nil)) pe_int))
            (pss_one (ps_expr (pe_bm PySem.F.plainAttrs_list PySem.F.slot_list_append PySem.F.type_list_append mt_append (pv 1) (pa_cons (pe_op op_mod (pe_callTy call_int1 (by rfl) T.int boot_int (pa_cons (pe_op op_fdiv (pv 5) pe_int) pa_nil)) pe_int) pa_nil)))))))))))
      (pss_one (ps_ret (pv 1))))), ?_⟩
    refine ⟨Nat.zero_le _, fun l hl => ?_⟩
    obtain ⟨cs, ecs, hcs⟩ := cutV_ints ns none (some 63)
    have hcs63 : cs.length ≤ 63 := by
      have : HT.sIx ns.length ns.length (some 63) ≤ 63 := by
        simp only [HT.sIx]
        rw [if_neg (by decide)]
        exact Nat.min_le_left _ _
      omega
    have hS1 := (Same.new (o := .lst []) hl).seq hS
    refine ⟨_, rfl, _, rfl, a, _, rfl, hS1, fun p hp => ?_⟩
    rw [ecs]
    have npl : p ≠ l := fun e => by rw [e, upd_same] at hp; cases hp
    have hp0 : H p = none := by rw [upd_ne npl] at hp; exact hp
    have big : ∀ n : Nat, n ≤ 100000 → n < sizeLine := fun n h => Nat.lt_of_le_of_lt h (by decide)
    refine ⟨p, rfl, ⟨_, SqL.of upd_same⟩, for_list (K := K) (a := p) (xs := cs.map V.int) (fun i σ H' => ∃ (ms : List Int) (c r kk mx : Option V), σ = [some (.ref a), some (.ref l), c, r, kk, mx] ∧ Same H H' ∧ H' p = some (.lst (cs.map V.int)) ∧ H' l = some (.lst (ms.map V.int)) ∧ ms.length ≤ 60 * i)
      ⟨[], none, none, none, none, rfl, (Same.new hl).trans (Same.new hp), upd_same, by rw [upd_ne npl.symm, upd_same]; rfl, Nat.zero_le _⟩ (fun i σ H' _ ⟨_, _, _, _, _, _, _, h, _⟩ => SqL.of h) ?_ ?_⟩
    · rintro i y σ H' hi ⟨ms, c, r, kk, mx, rfl, hs, hP, hL, hms⟩
      obtain ⟨hi', n, rfl⟩ := at_map_int hi
      refine ⟨_, rfl, _, _, rfl, rfl, ⟨by decide, by decide, by decide⟩, _, _, rfl, rfl, _, rfl, ?_⟩
      refine ite2 (fun _ => ?_) (fun _ => ?_)
      · refine ⟨_, rfl, ?_⟩
        refine ⟨60, rfl, by decide, by decide, for_range (n := 60) (fun j σ2 H2 => ∃ (ms2 : List Int) (q : Int) (kk : Option V), σ2 = [some (.ref a), some (.ref l), some (.int n), some (.int q), kk, mx] ∧ Same H H2 ∧ H2 p = some (.lst (cs.map V.int)) ∧ H2 l = some (.lst (ms2.map V.int)) ∧ ms2.length ≤ 60 * i + j)
          ⟨ms, n, kk, rfl, hs, hP, hL, hms⟩ ?_ ?_⟩
        · rintro j σ2 H2 hj ⟨ms2, q, kk2, rfl, hs2, hP2, hL2, hms2⟩
          refine ⟨_, rfl, _, _, rfl, rfl, _, rfl, ?_⟩
          refine ite2 (fun _ => ?_) (fun _ => ?_)
          · refine ⟨_, rfl, .inl ⟨rfl, _, SqL.of hL2⟩, _, rfl, .inl ⟨_, rfl, _, _, rfl, rfl, (by show (0 : Int) < 60; decide), l, _, _, rfl, rfl, hL2, big _ (by rw [List.length_map]; omega), ?_⟩⟩
            refine ⟨_, rfl, _, _, rfl, rfl, ⟨by decide, by decide⟩, ?_⟩
            refine ⟨ms2 ++ [q % 60], q / 60, _, rfl, fun b o e => ?_, by rw [upd_ne npl]; exact hP2, by rw [upd_same, List.map_append]; rfl, by rw [List.length_append, List.length_singleton]; omega⟩
            rw [upd_ne (ne_of_none e hl)]
            exact hs2 _ _ e
          · exact ⟨ms2, q, _, rfl, hs2, hP2, hL2, by omega⟩
        · rintro σ2 H2 ⟨ms2, q, kk2, rfl, hs2, hP2, hL2, hms2⟩
          exact ⟨ms2, _, _, _, _, rfl, hs2, hP2, hL2, by omega⟩
      · refine ⟨6, rfl, by decide, by decide, for_range (n := 6) (fun j σ2 H2 => ∃ (ms2 : List Int) (kk mx : Option V), σ2 = [some (.ref a), some (.ref l), some (.int n), r, kk, mx] ∧ Same H H2 ∧ H2 p = some (.lst (cs.map V.int)) ∧ H2 l = some (.lst (ms2.map V.int)) ∧ ms2.length ≤ 60 * i + j)
          ⟨ms, kk, mx, rfl, hs, hP, hL, hms⟩ ?_ ?_⟩
        · rintro j σ2 H2 hj ⟨ms2, kk2, mx2, rfl, hs2, hP2, hL2, hms2⟩
          have c1 : ∀ z : Int, CMul z 48271 := fun z => .inr ⟨by decide, by decide⟩
          have c2 : ∀ z : Int, CMul z 69621 := fun z => .inr ⟨by decide, by decide⟩
          have c3 : ∀ z : Int, CMul 31 z := fun z => .inl ⟨by decide, by decide⟩
          refine ⟨_, rfl, _, _, rfl, rfl, c1 _, _, rfl, _, _, rfl, rfl, c2 _, _, _, rfl, rfl, _, _, rfl, rfl, .inl ⟨_, rfl, _, _, rfl, rfl, (by show (0 : Int) < 2147483647; decide), ?_⟩⟩
          generalize hx : (n * 48271 + (0 + (j : Int)) * 69621 + 7) % 2147483647 = x
          have hx0 : 0 ≤ x := by rw [← hx]; exact Int.emod_nonneg _ (by decide)
          have hx1 : x < 2147483647 := by rw [← hx]; exact Int.emod_lt_of_pos _ (by decide)
          refine ⟨_, rfl, _, rfl, _, _, rfl, rfl, .inl ⟨by omega, by omega⟩, _, rfl, _, _, rfl, rfl, c3 _, _, _, rfl, rfl, .inl ⟨_, rfl, _, _, rfl, rfl, (by show (0 : Int) < 1000003; decide), ?_⟩⟩
          refine ⟨_, rfl, .inl ⟨rfl, _, SqL.of hL2⟩, _, rfl, _, _, rfl, rfl, ⟨by decide, by decide⟩, .inl ⟨_, rfl, _, _, rfl, rfl, (by show (0 : Int) < 60; decide), l, _, _, rfl, rfl, hL2, big _ (by rw [List.length_map]; omega), ?_⟩⟩
          refine ⟨ms2 ++ [_], _, _, rfl, fun b o e => ?_, by rw [upd_ne npl]; exact hP2, by rw [upd_same, List.map_append]; rfl, by rw [List.length_append, List.length_singleton]; omega⟩
          rw [upd_ne (ne_of_none e hl)]
          exact hs2 _ _ e
        · rintro σ2 H2 ⟨ms2, kk2, mx2, rfl, hs2, hP2, hL2, hms2⟩
          exact ⟨ms2, _, _, _, _, rfl, hs2, hP2, hL2, by omega⟩
    · rintro σ H' ⟨ms, c, r, kk, mx, rfl, hs, hP, hL, hms⟩
      exact ⟨_, rfl, k l ms H' hl hs hL⟩
end
end Tw

set_option maxHeartbeats 400000
namespace Tw
open PySem PySem.Spec PyProof.Rows L2
section
variable {P : Program} {w : World} {K : Fg} {mg : Str → Option Value} {base : Heap}
theorem sc_law_same : FnScope ["_law_actual", "_law_expected", "_law_k"] ["_law_actual", "_law_expected"] (defScope s_law_same) := ⟨rfl, rfl, rfl, by decide +kernel, rfl, by decide +kernel, by decide +kernel⟩
theorem ok_law_same (D : Gd K mg "_law_same" s_law_same ["_law_actual", "_law_expected"]) (T : Bi mg) : ∀ n : Nat, Ld P w K mg base CX0 (n + 1) "_law_same" (spSame K n) := by
  have sc := sc_law_same
  intro n
  induction n with
  | zero =>
    refine D.ld fun f F => F.fo sc (fun vs H Q E h => ?_) (fun cdv A outer s H vs Q E hr h => ?_)
    · obtain ⟨v, u, d, rfl, _⟩ := h
      rfl
    · obtain ⟨v, u, d, rfl, h1, h2, hd, hsm, k⟩ := h
      refine ⟨_, (pss_cons (ps_if (pt_cmpR op_isN (pv 1) pe_non (nomark _))
          (pss_one (ps_ret (pe_cmpR op_isN (pv 0) pe_non (nomark _))))
          pss_nil)
        (pss_cons (ps_if (pt_val (pe_callB call_isi (by rfl) T.isi (by decide +kernel) (pa_cons (pv 1) (pa_cons (pe_bltn (v := .ty "bool") (by rfl) T.bool (by decide +kernel) rfl) pa_nil))))
          (pss_one (ps_ret (pe_and (pe_callB call_isi (by rfl) T.isi (by decide +kernel) (pa_cons (pv 0) (pa_cons (pe_bltn (v := .ty "bool") (by rfl) T.bool (by decide +kernel) rfl) pa_nil))) (pe_one (pe_cmpR op_eq (pv 0) (pv 1) (nomark _))))))
          pss_nil)
        (pss_cons (ps_if (pt_val (pe_callB call_isi (by rfl) T.isi (by decide +kernel) (pa_cons (pv 1) (pa_cons (pe_bltn (v := .ty "int") (by rfl) T.int (by decide +kernel) rfl) pa_nil))))
          (pss_one (ps_ret (pe_and (pe_callB call_isi (by rfl) T.isi (by decide +kernel) (pa_cons (pv 0) (pa_cons (pe_bltn (v := .ty "int") (by rfl) T.int (by decide +kernel) rfl) pa_nil))) (pe_and (pe_not (pe_callB call_isi (by rfl) T.isi (by decide +kernel) (pa_cons (pv 0) (pa_cons (pe_bltn (v := .ty "bool") (by rfl) T.bool (by decide +kernel) rfl) pa_nil)))) (pe_one (pe_cmpR op_eq (pv 0) (pv 1) (nomark _)))))))
          pss_nil)
        (pss_cons (ps_if (pt_val (pe_callB call_isi (by rfl) T.isi (by decide +kernel) (pa_cons (pv 1) (pa_cons (pe_bltn (v := .ty "str") (by rfl) T.str (by decide +kernel) rfl) pa_nil))))
          (pss_one (ps_ret (pe_and (pe_callB call_isi (by rfl) T.isi (by decide +kernel) (pa_cons (pv 0) (pa_cons (pe_bltn (v := .ty "str") (by rfl) T.str (by decide +kernel) rfl) pa_nil))) (pe_one (pe_cmpR op_eq (pv 0) (pv 1) (nomark _))))))
          pss_nil) (pss_cons ps_never pss_never))))), ?_⟩
      cases d with
      | none =>
        cases h1
        cases h2
        refine ⟨_, rfl, rfl, _, rfl, ite_t rfl ?_⟩
        exact ⟨_, rfl, rfl, k⟩
      | bool b =>
        cases h1
        cases h2
        refine ⟨_, rfl, rfl, _, rfl, ite_f rfl ?_⟩
        refine ⟨_, rfl, _, _, _, _, _, rfl, .ty _, (.base (.bl b)), kit_ty (by decide +kernel), _, rfl, ite_t rfl ?_⟩
        refine ⟨_, rfl, _, _, _, _, _, rfl, .ty _, (.base (.bl b)), kit_ty (by decide +kernel), _, rfl, ite_t rfl ?_⟩
        refine ⟨_, rfl, _, rfl, rfl, ?_⟩
        rw [decide_eq_true rfl]
        exact k
      | int i =>
        cases h1
        cases h2
        refine ⟨_, rfl, rfl, _, rfl, ite_f rfl ?_⟩
        refine ⟨_, rfl, _, _, _, _, _, rfl, .ty _, (.base (.int i)), kit_ty (by decide +kernel), _, rfl, ite_f rfl ?_⟩
        refine ⟨_, rfl, _, _, _, _, _, rfl, .ty _, (.base (.int i)), kit_ty (by decide +kernel), _, rfl, ite_t rfl ?_⟩
        refine ⟨_, rfl, _, _, _, _, _, rfl, .ty _, (.base (.int i)), kit_ty (by decide +kernel), _, rfl, ite_t rfl ?_⟩
        refine ⟨_, rfl, _, _, _, _, _, rfl, .ty _, (.base (.int i)), kit_ty (r := false) (by decide +kernel), _, rfl, _, rfl, ite_t rfl ?_⟩
        refine ⟨_, rfl, _, rfl, rfl, ?_⟩
        rw [decide_eq_true rfl]
        exact k
      | str x =>
        cases h1
        cases h2
        refine ⟨_, rfl, rfl, _, rfl, ite_f rfl ?_⟩
        refine ⟨_, rfl, _, _, _, _, _, rfl, .ty _, (.base (.str x)), kit_ty (by decide +kernel), _, rfl, ite_f rfl ?_⟩
        refine ⟨_, rfl, _, _, _, _, _, rfl, .ty _, (.base (.str x)), kit_ty (by decide +kernel), _, rfl, ite_f rfl ?_⟩
        refine ⟨_, rfl, _, _, _, _, _, rfl, .ty _, (.base (.str x)), kit_ty (by decide +kernel), _, rfl, ite_t rfl ?_⟩
        refine ⟨_, rfl, _, _, _, _, _, rfl, .ty _, (.base (.str x)), kit_ty (by decide +kernel), _, rfl, ite_t rfl ?_⟩
        refine ⟨_, rfl, _, rfl, rfl, ?_⟩
        rw [decide_eq_true rfl]
        exact k
      | list xs => rw [depth_lst] at hd; omega
      | tuple xs => rw [depth_tup] at hd; omega
      | dict kvs => simp [sm] at hsm
  | succ n G_same =>
    refine D.ld fun f F => F.fo sc (fun vs H Q E h => ?_) (fun cdv A outer s H vs Q E hr h => ?_)
    · obtain ⟨v, u, d, rfl, _⟩ := h
      rfl
    · obtain ⟨v, u, d, rfl, h1, h2, hd, hsm, k⟩ := h
      refine ⟨_, (pss_cons (ps_if (pt_cmpR op_isN (pv 1) pe_non (nomark _))
          (pss_one (ps_ret (pe_cmpR op_isN (pv 0) pe_non (nomark _))))
          pss_nil)
        (pss_cons (ps_if (pt_val (pe_callB call_isi (by rfl) T.isi (by decide +kernel) (pa_cons (pv 1) (pa_cons (pe_bltn (v := .ty "bool") (by rfl) T.bool (by decide +kernel) rfl) pa_nil))))
          (pss_one (ps_ret (pe_and (pe_callB call_isi (by rfl) T.isi (by decide +kernel) (pa_cons (pv 0) (pa_cons (pe_bltn (v := .ty "bool") (by rfl) T.bool (by decide +kernel) rfl) pa_nil))) (pe_one (pe_cmpR op_eq (pv 0) (pv 1) (nomark _))))))
          pss_nil)
        (pss_cons (ps_if (pt_val (pe_callB call_isi (by rfl) T.isi (by decide +kernel) (pa_cons (pv 1) (pa_cons (pe_bltn (v := .ty "int") (by rfl) T.int (by decide +kernel) rfl) pa_nil))))
          (pss_one (ps_ret (pe_and (pe_callB call_isi (by rfl) T.isi (by decide +kernel) (pa_cons (pv 0) (pa_cons (pe_bltn (v := .ty "int") (by rfl) T.int (by decide +kernel) rfl) pa_nil))) (pe_and (pe_not (pe_callB call_isi (by rfl) T.isi (by decide +kernel) (pa_cons (pv 0) (pa_cons (pe_bltn (v := .ty "bool") (by rfl) T.bool (by decide +kernel) rfl) pa_nil)))) (pe_one (pe_cmpR op_eq (pv 0) (pv 1) (nomark _)))))))
          pss_nil)
        (pss_cons (ps_if (pt_val (pe_callB call_isi (by rfl) T.isi (by decide +kernel) (pa_cons (pv 1) (pa_cons (pe_bltn (v := .ty "str") (by rfl) T.str (by decide +kernel) rfl) pa_nil))))
          (pss_one (ps_ret (pe_and (pe_callB call_isi (by rfl) T.isi (by decide +kernel) (pa_cons (pv 0) (pa_cons (pe_bltn (v := .ty "str") (by rfl) T.str (by decide +kernel) rfl) pa_nil))) (pe_one (pe_cmpR op_eq (pv 0) (pv 1) (nomark _))))))
          pss_nil)
        (pss_cons (ps_if (pt_val (pe_callB call_isi (by rfl) T.isi (by decide +kernel) (pa_cons (pv 1) (pa_cons (pe_bltn (v := .ty "tuple") (by rfl) T.tuple (by decide +kernel) rfl) pa_nil))))
          (pss_one (ps_if (pt_not (pt_val (pe_callB call_isi (by rfl) T.isi (by decide +kernel) (pa_cons (pv 0) (pa_cons (pe_bltn (v := .ty "tuple") (by rfl) T.tuple (by decide +kernel) rfl) pa_nil)))))
            (pss_one (ps_ret pe_bl))
            pss_nil))
          (pss_one (ps_if (pt_not (pt_val (pe_callB call_isi (by rfl) T.isi (by decide +kernel) (pa_cons (pv 0) (pa_cons (pe_bltn (v := .ty "list") (by rfl) T.list (by decide +kernel) rfl) pa_nil)))))
            (pss_one (ps_ret pe_bl))
            pss_nil)))
        (pss_cons (ps_if (pt_cmpR op_ne (pe_callB call_len_seq (by rfl) T.len PySem.boot_len (pa_cons (pv 0) pa_nil)) (pe_callB call_len_seq (by rfl) T.len PySem.boot_len (pa_cons (pv 1) pa_nil)) (nomark _))
          (pss_one (ps_ret pe_bl))
          pss_nil)
        (pss_cons (ps_for PassesOwn.never rfl (pi_range1 (by rfl) T.range (pa_cons (pe_callB call_len_seq (by rfl) T.len PySem.boot_len (pa_cons (pv 1) pa_nil)) pa_nil)) (pg_name (i := 2) sc.nd rfl (Or.inl rfl))
          (pss_one (ps_if (pt_not (pt_val (pe_ld G_same hr (by rfl) pass0 (pa_cons (pe_ix ix_seq (pv 0) (pv 2) (fun _ _ => rfl)) (pa_cons (pe_ix ix_seq (pv 1) (pv 2) (fun _ _ => rfl)) pa_nil)))))
            (pss_one (ps_ret pe_bl))
            pss_nil)))
        (pss_one (ps_ret pe_bl))))))))), ?_⟩
      -- a list or a tuple: the rest of the body, from the two sequences
      have rest : ∀ (a b : Addr) (xs ys : List V) (ds : List PyData) (Q : VK), (SqL K H a xs ∨ SqT K H a xs) → (SqL K H b ys ∨ SqT K H b ys) → DpAll K H xs ds → DpAll K H ys ds → PyData.depthAll ds ≤ n → smAll ds = true → ds.length ≤ 1000000 → Q (.bl true) H →
          tSeq (tIfS (tTest (tOp rNe (tCB (fun vs H Q => ∃ p ys, vs = [.ref p] ∧ (SqL K H p ys ∨ SqT K H p ys) ∧ Q (.int ys.length) H) (tCons (tVar 0) tNil)) (tCB (fun vs H Q => ∃ p ys, vs = [.ref p] ∧ (SqL K H p ys ∨ SqT K H p ys) ∧ Q (.int ys.length) H) (tCons (tVar 1) tNil)))) (tRet (tC (.bl false))) tNext)
            (tSeq (tFor (iRng1 (tCons (tCB (fun vs H Q => ∃ p ys, vs = [.ref p] ∧ (SqL K H p ys ∨ SqT K H p ys) ∧ Q (.int ys.length) H) (tCons (tVar 1) tNil)) tNil)) (gName 2)
              (tIfS (tNot (tB (tCall (spSame K n) [] E0 (tCons (tOp (rIx K) (tVar 0) (tVar 2)) (tCons (tOp (rIx K) (tVar 1) (tVar 2)) tNil))))) (tRet (tC (.bl false))) tNext)) (tRet (tC (.bl true)))) { nx := fun _ H' => Q .non H', rt := Q } [some (.ref a), some (.ref b), none] H := by
        intro a b xs ys ds Q ha hb hx hy hdp hds hlen k
        have lx := dpAll_len hx
        have ly := dpAll_len hy
        refine ⟨_, rfl, _, _, rfl, ha, _, rfl, _, _, rfl, hb, rfl, _, rfl, ite_f (by rw [lx, ly]; simp) ?_⟩
        refine ⟨_, rfl, _, _, rfl, hb, _, rfl, by omega, by omega, for_range (n := (((ys.length : Nat) : Int)).toNat) (fun i σ H' => H' = H ∧ ∃ z, σ = [some (.ref a), some (.ref b), z]) ⟨rfl, none, rfl⟩ ?_ ?_⟩
        · rintro i σ H' hi ⟨rfl, z, rfl⟩
          have hi' : i < ds.length := by omega
          obtain ⟨x, ex, dx⟩ := dpAll_at hx (List.getElem?_eq_getElem hi')
          obtain ⟨y, ey, dy⟩ := dpAll_at hy (List.getElem?_eq_getElem hi')
          refine ⟨_, rfl, _, rfl, rIx_of ha (by rw [Int.zero_add]; exact atI_nat ex) ?_⟩
          refine ⟨_, rfl, _, rfl, rIx_of hb (by rw [Int.zero_add]; exact atI_nat ey) ?_⟩
          have hmem : ds[i] ∈ ds := List.getElem_mem hi'
          exact ⟨x, y, ds[i], rfl, dx, dy, Nat.le_trans (depth_mem _ hmem) hdp, smAll_mem hds _ hmem, _, rfl, ite_f rfl ⟨rfl, _, rfl⟩⟩
        · rintro σ H' ⟨rfl, z, rfl⟩
          exact k
      cases d with
      | none =>
        cases h1
        cases h2
        refine ⟨_, rfl, rfl, _, rfl, ite_t rfl ?_⟩
        exact ⟨_, rfl, rfl, k⟩
      | bool b =>
        cases h1
        cases h2
        refine ⟨_, rfl, rfl, _, rfl, ite_f rfl ?_⟩
        refine ⟨_, rfl, _, _, _, _, _, rfl, .ty _, (.base (.bl b)), kit_ty (by decide +kernel), _, rfl, ite_t rfl ?_⟩
        refine ⟨_, rfl, _, _, _, _, _, rfl, .ty _, (.base (.bl b)), kit_ty (by decide +kernel), _, rfl, ite_t rfl ?_⟩
        refine ⟨_, rfl, _, rfl, rfl, ?_⟩
        rw [decide_eq_true rfl]
        exact k
      | int i =>
        cases h1
        cases h2
        refine ⟨_, rfl, rfl, _, rfl, ite_f rfl ?_⟩
        refine ⟨_, rfl, _, _, _, _, _, rfl, .ty _, (.base (.int i)), kit_ty (by decide +kernel), _, rfl, ite_f rfl ?_⟩
        refine ⟨_, rfl, _, _, _, _, _, rfl, .ty _, (.base (.int i)), kit_ty (by decide +kernel), _, rfl, ite_t rfl ?_⟩
        refine ⟨_, rfl, _, _, _, _, _, rfl, .ty _, (.base (.int i)), kit_ty (by decide +kernel), _, rfl, ite_t rfl ?_⟩
        refine ⟨_, rfl, _, _, _, _, _, rfl, .ty _, (.base (.int i)), kit_ty (r := false) (by decide +kernel), _, rfl, _, rfl, ite_t rfl ?_⟩
        refine ⟨_, rfl, _, rfl, rfl, ?_⟩
        rw [decide_eq_true rfl]
        exact k
      | str x =>
        cases h1
        cases h2
        refine ⟨_, rfl, rfl, _, rfl, ite_f rfl ?_⟩
        refine ⟨_, rfl, _, _, _, _, _, rfl, .ty _, (.base (.str x)), kit_ty (by decide +kernel), _, rfl, ite_f rfl ?_⟩
        refine ⟨_, rfl, _, _, _, _, _, rfl, .ty _, (.base (.str x)), kit_ty (by decide +kernel), _, rfl, ite_f rfl ?_⟩
        refine ⟨_, rfl, _, _, _, _, _, rfl, .ty _, (.base (.str x)), kit_ty (by decide +kernel), _, rfl, ite_t rfl ?_⟩
        refine ⟨_, rfl, _, _, _, _, _, rfl, .ty _, (.base (.str x)), kit_ty (by decide +kernel), _, rfl, ite_t rfl ?_⟩
        refine ⟨_, rfl, _, rfl, rfl, ?_⟩
        rw [decide_eq_true rfl]
        exact k
      | list ds =>
        cases h1 with
        | lst ha hx =>
          cases h2 with
          | lst hb hy =>
            rw [depth_lst] at hd
            rw [sm_lst, Bool.and_eq_true] at hsm
            refine ⟨_, rfl, rfl, _, rfl, ite_f rfl ?_⟩
            refine ⟨_, rfl, _, _, _, _, _, rfl, .ty _, (tyx_lst hb), kit_ty (by decide +kernel), _, rfl, ite_f rfl ?_⟩
            refine ⟨_, rfl, _, _, _, _, _, rfl, .ty _, (tyx_lst hb), kit_ty (by decide +kernel), _, rfl, ite_f rfl ?_⟩
            refine ⟨_, rfl, _, _, _, _, _, rfl, .ty _, (tyx_lst hb), kit_ty (by decide +kernel), _, rfl, ite_f rfl ?_⟩
            refine ⟨_, rfl, _, _, _, _, _, rfl, .ty _, (tyx_lst hb), kit_ty (by decide +kernel), _, rfl, ite_f rfl ?_⟩
            refine ⟨_, rfl, _, _, _, _, _, rfl, .ty _, (tyx_lst ha), kit_ty (r := true) (by decide +kernel), _, rfl, ite_f rfl ?_⟩
            exact rest _ _ _ _ ds Q (.inl ha) (.inl hb) hx hy (by omega) hsm.2 (of_decide_eq_true hsm.1) k
      | tuple ds =>
        cases h1 with
        | tup ha hx =>
          cases h2 with
          | tup hb hy =>
            rw [depth_tup] at hd
            rw [sm_tup, Bool.and_eq_true] at hsm
            refine ⟨_, rfl, rfl, _, rfl, ite_f rfl ?_⟩
            refine ⟨_, rfl, _, _, _, _, _, rfl, .ty _, (tyx_tup hb), kit_ty (by decide +kernel), _, rfl, ite_f rfl ?_⟩
            refine ⟨_, rfl, _, _, _, _, _, rfl, .ty _, (tyx_tup hb), kit_ty (by decide +kernel), _, rfl, ite_f rfl ?_⟩
            refine ⟨_, rfl, _, _, _, _, _, rfl, .ty _, (tyx_tup hb), kit_ty (by decide +kernel), _, rfl, ite_f rfl ?_⟩
            refine ⟨_, rfl, _, _, _, _, _, rfl, .ty _, (tyx_tup hb), kit_ty (by decide +kernel), _, rfl, ite_t rfl ?_⟩
            refine ⟨_, rfl, _, _, _, _, _, rfl, .ty _, (tyx_tup ha), kit_ty (r := true) (by decide +kernel), _, rfl, ite_f rfl ?_⟩
            exact rest _ _ _ _ ds Q (.inr ha) (.inr hb) hx hy (by omega) hsm.2 (of_decide_eq_true hsm.1) k
      | dict kvs => simp [sm] at hsm
end
end Tw

set_option maxHeartbeats 400000
namespace Tw
open PySem PySem.Spec PyProof.Rows L2
section
variable {P : Program} {w : World} {K : Fg} {mg : Str → Option Value} {base : Heap}
theorem sc_is_way : FnScope ["arity", "way"] ["arity", "way"] (defScope s_is_way) := ⟨rfl, rfl, rfl, by decide +kernel, rfl, by decide +kernel, by decide +kernel⟩
theorem and_if {a b : Bool} {Q : VK} {H : Hp} (q : Q (.bl (a && b)) H) : if a = true then Q (.bl b) H else Q (.bl false) H := by cases a <;> exact q
theorem ok_is_way (D : Gd K mg "is_way" s_is_way ["arity", "way"]) (T : Bi mg) (M : Most K mg) : Ld P w K mg base CX0 1 "is_way" (spIsWay K) := by
  have sc := sc_is_way
  refine D.ld fun f F => F.fo sc (fun vs H Q E h => ?_) (fun cdv A outer s H vs Q E hr h => ?_)
  · obtain ⟨ar, v, w, rfl, _⟩ := h
    rfl
  · obtain ⟨ar, v, w, rfl, hv, k⟩ := h
    obtain ⟨a, rfl, hT⟩ := im_tI hv
    refine ⟨_, (pss_cons (ps_if (pt_cmpR op_eq (pe_callB call_len_seq (by rfl) T.len PySem.boot_len (pa_cons (pv 1) pa_nil)) pe_int (nomark _))
        (pss_one (ps_ret (pe_chain op_le op_lt pe_int (pe_ix ix_tup (pv 1) pe_int (fun _ _ => rfl)) (pe_most M (by rfl)))))
        pss_nil)
      (pss_cons (ps_if (PW.pt (pw_or (pt_cmpR op_ne (pe_callB call_len_seq (by rfl) T.len PySem.boot_len (pa_cons (pv 1) pa_nil)) pe_int (nomark _)) (pw_or1 (pt_not (pt_chain op_le op_lt pe_int (pe_ix ix_tup (pv 1) pe_int (fun _ _ => rfl)) (pv 0))))))
        (pss_one (ps_ret pe_bl))
        pss_nil)
      (pss_one (ps_ret (pe_and (pe_chain op_le op_lt pe_int (pe_ix ix_tup (pv 1) pe_int (fun _ _ => rfl)) (pe_most M (by rfl))) (pe_one (pe_chain op_le op_lt pe_int (pe_ix ix_tup (pv 1) pe_int (fun _ _ => rfl)) (pe_most M (by rfl))))))))), ?_⟩
    refine ⟨_, rfl, _, _, rfl, .inr hT, rfl, _, rfl, ?_⟩
    by_cases h1 : w.length = 1
    · refine ite_t (int_eq (by rw [List.length_map, h1]; rfl)) ?_
      match w, h1 with
      | [p], _ =>
        refine ⟨_, rfl, _, _, _, _, rfl, rfl, hT, atI_nat (j := 0) rfl, _, _, rfl, rfl, _, rfl, ?_⟩
        refine ite2 (fun h => ⟨_, _, rfl, rfl, ?_⟩) (fun h => ?_)
        · have e : isW ar [p] = decide (p < 4) := by
            have h := of_decide_eq_true h
            simp [isW, h]
          rw [e] at k; exact k
        · have e : isW ar [p] = false := by
            have h : ¬ 0 ≤ p := fun q => h (decide_eq_true q)
            simp [isW, h]
          rw [e] at k; exact k
    · refine ite_f (int_ne (by rw [List.length_map]; omega)) ?_
      refine ⟨_, rfl, _, _, rfl, .inr hT, rfl, _, rfl, ?_⟩
      by_cases h3 : w.length = 3
      · refine ite_f (by rw [int_eq (by rw [List.length_map, h3]; rfl)]; rfl) ?_
        match w, h3 with
        | [p, i, q], _ =>
          refine ⟨_, rfl, _, _, _, _, rfl, rfl, hT, atI_nat (j := 1) rfl, _, _, rfl, rfl, _, rfl, ?_⟩
          refine ite2 (fun h => ⟨_, rfl, _, _, rfl, rfl, _, rfl, ?_⟩) (fun h => ⟨_, rfl, ite_t rfl ?_⟩)
          · have h := of_decide_eq_true h
            refine ite2 (fun h' => ?_) (fun h' => ?_)
            · have e : isW ar [p, i, q] = false := by
                have h' : ¬ i < ar := fun z => by rw [decide_eq_true z] at h'; cases h'
                simp [isW, h']
              show Q (.bl false) H
              rw [e] at k; exact k
            · have h' : i < ar := Decidable.byContradiction fun z => h' (by rw [decide_eq_false z]; rfl)
              have e : isW ar [p, i, q] = ((decide (0 ≤ p) && decide (p < 4)) && (decide (0 ≤ q) && decide (q < 4))) := by simp [isW, h, h']
              rw [e] at k
              refine ⟨_, rfl, _, _, _, _, rfl, rfl, hT, atI_nat (j := 0) rfl, _, _, rfl, rfl, _, rfl, ?_⟩
              refine ite2 (fun g => ⟨_, _, rfl, rfl, _, rfl, ?_⟩) (fun g => ⟨_, rfl, ite_f rfl ?_⟩)
              · rw [g] at k
                refine ite2 (fun g' => ?_) (fun g' => ?_)
                · rw [g'] at k
                  refine ⟨_, rfl, _, _, _, _, rfl, rfl, hT, atI_nat (j := 2) rfl, _, _, rfl, rfl, _, rfl, ?_⟩
                  refine ite2 (fun z => ⟨_, _, rfl, rfl, ?_⟩) (fun z => ?_)
                  · rw [z] at k; exact k
                  · rw [Bool.eq_false_iff.mpr z] at k; exact k
                · rw [Bool.eq_false_iff.mpr g'] at k; exact k
              · rw [Bool.eq_false_iff.mpr g] at k; exact k
          · have e : isW ar [p, i, q] = false := by
              have h : ¬ 0 ≤ i := fun z => h (decide_eq_true z)
              simp [isW, h]
            show Q (.bl false) H
            rw [e] at k; exact k
      · refine ite_t (by rw [int_ne (by rw [List.length_map]; omega)]; rfl) ?_
        have e : isW ar w = false := by
          match w, h1, h3 with
          | [], _, _ => rfl
          | [_], h, _ => exact absurd rfl h
          | [_, _], _, _ => rfl
          | [_, _, _], _, h => exact absurd rfl h
          | _ :: _ :: _ :: _ :: _, _, _ => rfl
        show Q (.bl false) H
        rw [e] at k; exact k
end
end Tw

set_option maxHeartbeats 400000
namespace Tw
open PySem PySem.Spec PyProof.Rows L2
section
variable {P : Program} {w : World} {K : Fg} {mg : Str → Option Value} {base : Heap}
theorem sc_normal_ways : FnScope ["arity", "ways", "rows", "state", "at", "to"] ["arity", "ways"] (defScope s_normal_ways) := ⟨rfl, rfl, rfl, by decide +kernel, rfl, by decide +kernel, by decide +kernel⟩
theorem big_lt {n : Nat} (h : n ≤ 100000) : n < sizeLine := Nat.lt_of_le_of_lt h (by decide)
theorem ok_normal_ways (D : Gd K mg "normal_ways" s_normal_ways ["arity", "ways"]) (T : Bi mg) (M : Most K mg) : Ld P w K mg base CX0 1 "normal_ways" (spNormal K) := by
  have sc := sc_normal_ways
  refine D.ld fun f F => F.fo sc (fun vs H Q E h => ?_) (fun cdv A outer s H vs Q E hr h => ?_)
  · obtain ⟨ar, l, ws, rfl, _⟩ := h
    rfl
  · obtain ⟨ar, l, ws, rfl, hl, har, k⟩ := h
    have hu := hu65 hr
    refine ⟨_, (pss_cons (ps_set (i := 2) sc.nd rfl (Or.inl rfl) (pe_lst pa_nil))
      (pss_cons (ps_for PassesOwn.never rfl (pi_range1 (by rfl) T.range (pa_cons (pe_most M (by rfl)) pa_nil)) (pg_name (i := 3) sc.nd rfl (Or.inr rfl))
        (pss_one (ps_if (pt_cmpR (op_inD hu) (pe_tup (pa_cons (pv 3) pa_nil)) (pv 1) rfl)
          (pss_one (ps_expr (pe_bm PySem.F.plainAttrs_list PySem.F.slot_list_append PySem.F.type_list_append mt_append (pv 2) (pa_cons (pe_tup (pa_cons (pv 3) pa_nil)) pa_nil))))
          (pss_one (ps_aug (i := 2) sc.nd rfl (Or.inl rfl) (pe_lc2 (own := [("at", 4), ("to", 5)]) (vs1 := [5]) rfl sc.nd (pi_range1 (by rfl) T.range (pa_cons (pv 0) pa_nil)) (blkOk_by (own := [("at", 4), ("to", 5)]) (N := ["arity", "ways", "rows", "state", "at", "to"]) (sc := defScope s_normal_ways) (by decide +kernel)) (by decide) (fun _ _ _ _ _ => (pg_name (i := 4) sc.nd rfl (Or.inl rfl))) (fun _ _ _ _ _ => pts_nil) (fun _ _ _ _ _ => (pi_range1 (by rfl) T.range (pa_cons (pe_most M (by rfl)) pa_nil))) (fun _ _ _ _ _ => (pg_name (i := 5) sc.nd rfl (Or.inl rfl))) (fun _ _ _ _ _ => (pts_one (pt_cmpR (op_inK (K := K) rfl hu) (pe_tup (pa_cons (pv 3) (pa_cons (pv 4) (pa_cons (pv 5) pa_nil)))) (pv 1) rfl))) (fun _ _ _ _ _ => (pe_tup (pa_cons (pv 3) (pa_cons (pv 4) (pa_cons (pv 5) pa_nil)))))) iop_ext)))))
      (pss_one (ps_ret (pv 2))))), ?_⟩
    refine ⟨Nat.zero_le _, fun r hr0 => ?_⟩
    refine ⟨4, rfl, by decide, by decide, for_range (n := 4) (fun i σ H' => ∃ st, σ = [some (.int ar), some (.ref l), some (.ref r), st, none, none] ∧ Same H H' ∧ LsM K H' r (((List.range i).flatMap fun (p : Nat) => nrmP ar ws p).map tI))
      ⟨none, rfl, Same.new hr0, [], upd_same, .nil⟩ ?_ ?_⟩
    · rintro i σ H' hi ⟨st, rfl, hs, vs, hR, him⟩
      have hlen : vs.length ≤ 100 := by
        have e := him.length
        rw [List.length_map] at e
        have := flat_len (fun (p : Nat) => nrmP ar ws p) (1 + 4 * ar) (fun p => nrmP_len ar ws p) i
        have h2 : (1 + 4 * ar) * i ≤ 17 * 4 := Nat.mul_le_mul (by omega) (by omega)
        omega
      rw [Int.zero_add]
      refine ⟨_, rfl, (by show 1 ≤ sizeLine; decide), fun t ht => ⟨_, rfl, inW (im_new [(i : Int)] ht) ((hl.mono hs).mono (.new ht)) ⟨_, rfl, ?_⟩⟩⟩
      have s1 : Same H' (upd H' t (.tup [V.int i])) := .new ht
      refine ite2 (fun hin => ?_) (fun hin => ?_)
      · have hin := of_decide_eq_true hin
        refine ⟨_, rfl, .inl ⟨rfl, _, SqL.of (s1 _ _ hR)⟩, _, rfl, (by show 1 ≤ sizeLine; decide), fun t2 ht2 => ⟨r, vs, _, rfl, rfl, (s1.trans (.new ht2)) _ _ hR, big_lt (by omega), ?_⟩⟩
        have hR2 := (s1.trans (.new ht2 (o := .tup [V.int i]))) _ _ hR
        refine ⟨_, rfl, (hs.trans (s1.trans (.new ht2))).upd hr0, ?_⟩
        rw [range_flat, List.map_append]
        have e : nrmP ar ws (i : Int) = [[(i : Int)]] := by unfold nrmP; rw [if_pos hin]
        rw [e]
        exact LsM.put hR2 ((him.mono (.same (s1.trans (.new ht2)))).snoc (im_new [(i : Int)] ht2))
      · have hin : ¬ [(i : Int)] ∈ ws := fun q => hin (decide_eq_true q)
        have e : nrmP ar ws (i : Int) = (List.range ar).flatMap fun (a : Nat) => nrmI ws i a := by unfold nrmP; rw [if_neg hin]
        refine ⟨_, rfl, _, rfl, ar, rfl, by omega, by omega, fun Dl hD => ?_⟩
        refine walk_rng (n := ((ar : Int)).toNat) (fun a H2 => Same (upd H' t (.tup [V.int i])) H2 ∧ LsM K H2 Dl (((List.range a).flatMap fun (a : Nat) => nrmI ws i a).map tI)) ⟨.new hD, [], upd_same, .nil⟩ ?_ ?_
        · rintro a H2 ha ⟨hs2, hD2⟩
          rw [Int.zero_add]
          refine ⟨rfl, 4, rfl, by decide, by decide, ?_⟩
          refine walk_rng (n := 4) (fun q H3 => Same (upd H' t (.tup [V.int i])) H3 ∧ LsM K H3 Dl ((((List.range a).flatMap fun (a : Nat) => nrmI ws i a) ++ ((List.range q).flatMap fun (q : Nat) => if [(i : Int), (a : Int), (q : Int)] ∈ ws then [[(i : Int), (a : Int), (q : Int)]] else [])).map tI)) ⟨hs2, by simpa using hD2⟩ ?_ ?_
          · rintro q H3 hq ⟨hs3, us, hD3, im3⟩
            have ulen : us.length ≤ 1000 := by
              have e1 := im3.length
              rw [List.length_map, List.length_append] at e1
              have h1 := flat_len (fun (a : Nat) => nrmI ws i a) 4 (fun a => nrmI_len ws i a) a
              have h2 := flat_len (fun (q : Nat) => if [(i : Int), (a : Int), (q : Int)] ∈ ws then [[(i : Int), (a : Int), (q : Int)]] else ([] : List Wy)) 1 (fun q => by split <;> simp) q
              omega
            rw [Int.zero_add]
            refine ⟨rfl, _, rfl, _, rfl, _, rfl, (by show 3 ≤ sizeLine; decide), fun t3 ht3 => ⟨_, rfl, inW (im_new [(i : Int), (a : Int), (q : Int)] ht3) ((((hl.mono hs).mono s1).mono hs3).mono (.new ht3)) ⟨_, rfl, ?_⟩⟩⟩
            have s3 : Same H3 (upd H3 t3 (.tup ([(i : Int), (a : Int), (q : Int)].map V.int))) := .new ht3
            refine ite2 (fun g => ?_) (fun g => ?_)
            · have g := of_decide_eq_true g
              refine ⟨_, rfl, _, rfl, _, rfl, (by show 3 ≤ sizeLine; decide), fun t4 ht4 => ⟨us, (s3.trans (.new ht4)) _ _ hD3, big_lt (by omega), ?_⟩⟩
              refine ⟨(hs3.trans (s3.trans (.new ht4))).upd hD, ?_⟩
              rw [range_flat, if_pos g, ← List.append_assoc, List.map_append]
              exact LsM.put ((s3.trans (.new ht4)) _ _ hD3) ((im3.mono (.same (s3.trans (.new ht4)))).snoc (im_new [(i : Int), (a : Int), (q : Int)] ht4))
            · have g : ¬ [(i : Int), (a : Int), (q : Int)] ∈ ws := fun z => g (decide_eq_true z)
              refine ⟨hs3.trans s3, ?_⟩
              rw [range_flat, if_neg g, List.append_nil]
              exact LsM.mono s3 ⟨us, hD3, im3⟩
          · rintro H3 ⟨hs3, hD3⟩
            refine ⟨hs3, ?_⟩
            rw [range_flat]
            exact hD3
        · rintro H2 ⟨hs2, us, hD2, im2⟩
          have hR2 := hs2 _ _ (s1 _ _ hR)
          have ulen : us.length ≤ 1000 := by
            have e1 := im2.length
            rw [List.length_map] at e1
            have h1 := flat_len (fun (a : Nat) => nrmI ws i a) 4 (fun a => nrmI_len ws i a) ((ar : Int)).toNat
            omega
          refine ⟨r, Dl, vs, us, rfl, rfl, hR2, hD2, Nat.le_of_lt (big_lt (by omega)), ?_⟩
          refine ⟨_, rfl, ((hs.trans s1).trans hs2).upd hr0, ?_⟩
          rw [range_flat, List.map_append, e]
          exact LsM.put hR2 ((him.mono (.same (s1.trans hs2))).app im2)
    · rintro σ H' ⟨st, rfl, hs, hR⟩
      exact ⟨_, rfl, k r H' hr0 hs hR⟩
end
end Tw

set_option maxHeartbeats 400000
namespace Tw
open PySem PySem.Spec PyProof.Rows L2
section
variable {P : Program} {w : World} {K : Fg} {mg : Str → Option Value} {base : Heap}
theorem sc_has_way : FnScope ["ways", "way"] ["ways", "way"] (defScope s_has_way) := ⟨rfl, rfl, rfl, by decide +kernel, rfl, by decide +kernel, by decide +kernel⟩
theorem ok_has_way (D : Gd K mg "has_way" s_has_way ["ways", "way"]) : Ld P w K mg base CX0 1 "has_way" (spHas K) := by
  have sc := sc_has_way
  refine D.ld fun f F => F.fo sc (fun vs H Q E h => ?_) (fun cdv A outer s H vs Q E hr h => ?_)
  · obtain ⟨l, v, w, rows, rfl, _⟩ := h
    rfl
  · obtain ⟨l, v, w, rows, rfl, hl, hv, k⟩ := h
    have hu := hu65 hr
    refine ⟨_, (pss_one (ps_ret (pe_or (pe_cmpR (op_inD hu) (pv 1) (pv 0) rfl) (pe_one (pe_cmpR (op_inD hu) (pe_slice sl_tupA (pv 1) po_none (po_some pe_int)) (pv 0) rfl))))), ?_⟩
    refine ⟨_, rfl, _, rfl, inW hv hl ⟨_, rfl, ?_⟩⟩
    refine ite2 (fun h => ?_) (fun h => ?_)
    · have e : hasW rows w = true := by unfold hasW; rw [h]; rfl
      rw [e] at k
      exact k H fun _ _ e => e
    · refine ⟨_, rfl, _, rfl, im_cut hv fun v' H' s' hv' => ?_⟩
      rw [cutW_1] at hv'
      refine ⟨_, rfl, inW hv' (hl.mono s') ?_⟩
      have e : hasW rows w = decide (w.take 1 ∈ rows) := by unfold hasW; rw [Bool.eq_false_iff.mpr h]; rfl
      rw [e] at k
      exact k H' s'
theorem sc_Ability___init__ : FnScope ["self", "arity", "ways", "way"] ["self", "arity", "ways"] (defScope s_Ability___init__) := ⟨rfl, rfl, rfl, by decide +kernel, rfl, by decide +kernel, by decide +kernel⟩
theorem ok_Ability___init__ {C : Addr} (D : Ini K mg "Ability" C "Ability.__init__" s_Ability___init__ ["self", "arity", "ways"]) (AC : AbC K C) (G_is_way : Ld P w K mg base CX0 1 "is_way" (spIsWay K)) (G_normal_ways : Ld P w K mg base CX0 1 "normal_ways" (spNormal K)) :
    Nw P w K mg base CX0 2 "Ability" C (spAbInit K C) := by
  have sc := sc_Ability___init__
  refine D.nw fun f F => F.fo sc (fun vs H Q E h => ?_) (fun cdv A outer s H vs Q E hr h => ?_)
  · obtain ⟨p, dx, l, ar, ws, rfl, _⟩ := h
    rfl
  · obtain ⟨p, dx, l, ar, ws, rfl, hp, ⟨us, hl, him⟩, hlen, hw, har, k⟩ := h
    refine ⟨_, (pss_cons (ps_for PassesOwn.never rfl (pi_list (pv 2)) (pg_name (i := 3) sc.nd rfl (Or.inl rfl))
        (pss_one (ps_if (pt_not (pt_val (pe_ld G_is_way hr (by rfl) pass0 (pa_cons (pv 1) (pa_cons (pv 3) pa_nil)))))
          (pss_one ps_never)
          pss_nil)))
      (pss_cons (ps_fld (pv 0) (pv 1) rfl)
      (pss_one (ps_fld (pv 0) (pe_ld G_normal_ways hr (by rfl) pass0 (pa_cons (pv 1) (pa_cons (pv 2) pa_nil))) rfl)))), ?_⟩
    refine ⟨_, rfl, l, rfl, ⟨_, hl⟩, for_list (K := K) (a := l) (xs := us) (fun i σ H' => H' = H ∧ ∃ z, σ = [some (.ref p), some (.int ar), some (.ref l), z]) ⟨rfl, none, rfl⟩ (fun i σ H' _ ⟨e, _⟩ => by rw [e]; exact hl) ?_ ?_⟩
    · rintro i x σ H' hi ⟨rfl, z, rfl⟩
      obtain ⟨d, ed, hd⟩ := him.of_at hi
      rw [List.getElem?_map] at ed
      cases ew : ws[i]? with
      | none => rw [ew] at ed; cases ed
      | some w =>
        rw [ew] at ed
        cases ed
        refine ⟨_, rfl, _, rfl, ar, x, w, rfl, hd, ?_⟩
        rw [hw w (List.mem_of_getElem? ew)]
        exact ⟨_, rfl, ite_f rfl ⟨rfl, _, rfl⟩⟩
    · rintro σ H' ⟨rfl, z, rfl⟩
      refine ⟨_, rfl, _, rfl, p, C, dx, [], rfl, hp, AC.cl, AC.nt, (by show 0 < 1000; decide), ?_⟩
      have hl2 := sqL_off (o := .ins C dx (putF "taken" (.int ar) [])) hl hp
      have t1 : Tups K H' (upd H' p (.ins C dx (putF "taken" (.int ar) []))) := .ins hp
      refine ⟨_, rfl, _, rfl, ar, l, ws, rfl, ⟨us, hl2, him.mono t1⟩, har, fun r H2 hr0 s2 hR => ?_⟩
      have hp2 := s2 p _ upd_same
      refine ⟨_, rfl, p, C, dx, _, rfl, hp2, AC.cl, AC.nr, (by show 1 < 1000; decide), ?_⟩
      have hrp : r ≠ p := fun e => by rw [e, upd_same] at hr0; cases hr0
      rw [abF_put]
      refine k r _ (by rw [upd_ne hrp] at hr0; exact hr0) (fun b o e hb => ?_) ⟨dx, upd_same, ?_⟩
      · rw [upd_ne hb]
        exact s2 _ _ (by rw [upd_ne hb]; exact e)
      · obtain ⟨vs2, h1, h2⟩ := hR
        exact ⟨vs2, by rw [upd_ne hrp]; exact h1, h2.mono (.ins hp2)⟩
theorem sc_Ability_command : FnScope ["cls", "states", "state"] ["cls", "states"] (defScope s_Ability_command) := ⟨rfl, rfl, rfl, by decide +kernel, rfl, by decide +kernel, by decide +kernel⟩
theorem ok_Ability_command {C : Addr} (D : Cme K mg "Ability" C "command" "Ability.command" s_Ability_command ["cls", "states"]) (N_Ability : Nw P w K mg base CX0 2 "Ability" C (spAbInit K C)) : Cm P w K mg base CX0 4 "Ability" C "command" (spCommand K C) := by
  have sc := sc_Ability_command
  refine D.cm fun f F => F.fo sc (fun vs H Q E h => ?_) (fun cdv A outer s H vs Q E hr h => ?_)
  · obtain ⟨l, ps, rfl, _⟩ := h
    rfl
  · obtain ⟨l, ps, rfl, hl, hlen, hps, k⟩ := h
    refine ⟨_, (pss_one (ps_ret (pe_mkL (i := 0) N_Ability hr rfl (Or.inl rfl) pass0 (pa_cons pe_int (pa_cons (pe_lc (own := [("state", 2)]) rfl sc.nd (pi_list (pv 1)) (blkOk_by (own := [("state", 2)]) (N := ["cls", "states", "state"]) (sc := defScope s_Ability_command) (by decide +kernel)) (fun _ _ _ _ _ => (pg_name (i := 2) sc.nd rfl (Or.inl rfl))) (fun _ _ _ _ _ => pts_nil) (fun _ _ _ _ _ => (pe_tup (pa_cons (pv 2) pa_nil)))) pa_nil))))), ?_⟩
    refine ⟨rfl, _, rfl, l, rfl, ⟨_, hl⟩, lcI (K := K) (ds := ps.map .int) (fun _ => true) (fun d => .tuple [d]) hl (im_ints ps) (by rw [List.length_map]; omega) (fun x => rfl) (fun x d hx hd H1 s1 Q q => q H1 fun _ _ e => e) (fun x d hx hd _ H1 s1 Q q => ?_) fun r H1 hr0 s1 hR => ?_⟩
    · refine ⟨_, rfl, (by show 1 ≤ sizeLine; decide), fun t ht => q _ _ (.new ht) (tup_new ht (.cons (hx.mono (.same s1)) .nil))⟩
    · have e : ((ps.map PyData.int).filter fun _ => true).map (fun d => PyData.tuple [d]) = (ps.map fun x => [x]).map tI := by
        rw [List.filter_eq_self.mpr (fun _ _ => rfl), List.map_map, List.map_map]
        rfl
      rw [e] at hR
      intro x dx nx ndx ne
      have hx1 : H x = none := s1.free nx
      have s2 : Same H1 (upd (upd H1 dx (.own x)) x (.ins C dx [])) := fun b o e => by
        rw [upd_ne (ne_of_none e nx), upd_ne (ne_of_none e ndx)]
        exact e
      refine ⟨x, dx, r, 0, ps.map fun x => [x], rfl, upd_same, (hR.mono s2).r, by rw [List.length_map]; exact hlen, fun w hw => ?_, by decide, fun r' H' hr' kp hA => ⟨rfl, ?_⟩⟩
      · obtain ⟨p, hp, rfl⟩ := List.mem_map.mp hw
        have := hps p hp
        simp [isW, this.1, this.2]
      · exact k x r' H' hx1 ((s1.trans s2).free hr') (s1.trans (Same.made nx ndx kp)) hA
theorem sc_Ability_arity : FnScope ["self"] ["self"] (defScope s_Ability_arity) := ⟨rfl, rfl, rfl, by decide +kernel, rfl, by decide +kernel, by decide +kernel⟩
theorem ok_Ability_arity {C : Addr} (D : Pro K C "arity" "Ability.arity" s_Ability_arity ["self"]) (AC : AbC K C) : Pr P w K mg base CX0 1 C "arity" (spArity K C) := by
  have sc := sc_Ability_arity
  refine D.pr fun f F => F.fo sc (fun vs H Q E h => ?_) (fun cdv A outer s H vs Q E hr h => ?_)
  · obtain ⟨a, ar, rows, rfl, _⟩ := h
    rfl
  · obtain ⟨a, ar, rows, rfl, ⟨dx, l, ha, hl⟩, k⟩ := h
    refine ⟨_, (pss_one (ps_ret (pe_fld (pv 0) rfl))), ?_⟩
    exact ⟨_, rfl, a, C, dx, _, _, rfl, ha, AC.cl, AC.nt, abF_taken _ _, k⟩
theorem sc_Ability_ways : FnScope ["self"] ["self"] (defScope s_Ability_ways) := ⟨rfl, rfl, rfl, by decide +kernel, rfl, by decide +kernel, by decide +kernel⟩
theorem ok_Ability_ways {C : Addr} (D : Pro K C "ways" "Ability.ways" s_Ability_ways ["self"]) (AC : AbC K C) (T : Bi mg) : Pr P w K mg base CX0 1 C "ways" (spWays K C) := by
  have sc := sc_Ability_ways
  refine D.pr fun f F => F.fo sc (fun vs H Q E h => ?_) (fun cdv A outer s H vs Q E hr h => ?_)
  · obtain ⟨a, ar, rows, rfl, _⟩ := h
    rfl
  · obtain ⟨a, ar, rows, rfl, ⟨dx, l, ha, vs, hl, him⟩, k⟩ := h
    refine ⟨_, (pss_one (ps_ret (pe_callTy call_list_of (by rfl) T.list boot_list (pa_cons (pe_fld (pv 0) rfl) pa_nil)))), ?_⟩
    refine ⟨_, rfl, a, C, dx, _, _, rfl, ha, AC.cl, AC.nr, abF_rows _ _, _, _, rfl, .inl (SqL.of hl), fun r hr0 => ?_⟩
    exact k r _ hr0 (.new hr0) (LsM.new hr0 him)
theorem sc_Ability___contains__ : FnScope ["self", "way"] ["self", "way"] (defScope s_Ability___contains__) := ⟨rfl, rfl, rfl, by decide +kernel, rfl, by decide +kernel, by decide +kernel⟩
theorem ok_Ability___contains__ {C : Addr} (D : Me K C "__contains__" "Ability.__contains__" s_Ability___contains__ ["self", "way"]) (AC : AbC K C) (G_has_way : Ld P w K mg base CX0 1 "has_way" (spHas K)) : Md P w K mg base CX0 2 C "__contains__" (spHasA K C) := by
  have sc := sc_Ability___contains__
  refine D.md fun f F => F.fo sc (fun vs H Q E h => ?_) (fun cdv A outer s H vs Q E hr h => ?_)
  · obtain ⟨a, ar, rows, v, w, rfl, _⟩ := h
    rfl
  · obtain ⟨a, ar, rows, v, w, rfl, ⟨dx, l, ha, hl⟩, hv, k⟩ := h
    refine ⟨_, (pss_one (ps_ret (pe_ld G_has_way hr (by rfl) pass0 (pa_cons (pe_fld (pv 0) rfl) (pa_cons (pv 1) pa_nil))))), ?_⟩
    exact ⟨_, rfl, a, C, dx, _, _, rfl, ha, AC.cl, AC.nr, abF_rows _ _, _, rfl, l, v, w, rows, rfl, hl.r, hv, k⟩
theorem sc_Ability___or__ : FnScope ["self", "other"] ["self", "other"] (defScope s_Ability___or__) := ⟨rfl, rfl, rfl, by decide +kernel, rfl, by decide +kernel, by decide +kernel⟩
theorem ok_Ability___or__ {C : Addr} (D : Me K C "__or__" "Ability.__or__" s_Ability___or__ ["self", "other"]) (AC : AbC K C) (N_Ability : Nw P w K mg base CX0 2 "Ability" C (spAbInit K C)) : Md P w K mg base CX0 4 C "__or__" (spOr K C) := by
  have sc := sc_Ability___or__
  refine D.md fun f F => F.fo sc (fun vs H Q E h => ?_) (fun cdv A outer s H vs Q E hr h => ?_)
  · obtain ⟨a, b, ar, r1, r2, rfl, _⟩ := h
    rfl
  · obtain ⟨a, b, ar, r1, r2, rfl, ⟨dx, l, ha, v1, hl, i1⟩, ⟨dy, m, hb, v2, hm, i2⟩, har, n1, n2, w1, w2, k⟩ := h
    have hr3 := hr.mono (show 3 ≤ 3 by decide)
    refine ⟨_, (pss_cons (ps_if (pt_cmpR op_ne (pe_fld (pv 0) rfl) (pe_fld (pv 1) rfl) (nomark _))
        (pss_one ps_never)
        pss_nil)
      (pss_one (ps_ret (pe_mk N_Ability hr3 (by rfl) pass0 (pa_cons (pe_fld (pv 0) rfl) (pa_cons (pe_op op_cat (pe_fld (pv 0) rfl) (pe_fld (pv 1) rfl)) pa_nil)))))), ?_⟩
    refine ⟨_, rfl, a, C, dx, _, _, rfl, ha, AC.cl, AC.nt, abF_taken _ _, _, rfl, b, C, dy, _, _, rfl, hb, AC.cl, AC.nt, abF_taken _ _, rfl, _, rfl, ite_f (int_neq rfl) ?_⟩
    have e1 := i1.length
    have e2 := i2.length
    rw [List.length_map] at e1 e2
    refine ⟨_, rfl, a, C, dx, _, _, rfl, ha, AC.cl, AC.nt, abF_taken _ _, _, rfl, a, C, dx, _, _, rfl, ha, AC.cl, AC.nr, abF_rows _ _, _, rfl, b, C, dy, _, _, rfl, hb, AC.cl, AC.nr, abF_rows _ _, l, m, v1, v2, rfl, rfl, hl, hm, Nat.le_trans (show v1.length + v2.length ≤ 2000 by omega) (by decide), fun t ht => ?_⟩
    have s1 : Same H (upd H t (.lst (v1 ++ v2))) := .new ht
    have hT : (upd H t (.lst (v1 ++ v2))) t = some (.lst (v1 ++ v2)) := upd_same
    generalize upd H t (.lst (v1 ++ v2)) = H1 at s1 hT ⊢
    intro x dx' nx ndx ne
    have s2 : Same H1 (upd (upd H1 dx' (.own x)) x (.ins C dx' [])) := fun b o e => by
      rw [upd_ne (ne_of_none e nx), upd_ne (ne_of_none e ndx)]
      exact e
    have hx1 : H x = none := s1.free nx
    refine ⟨x, dx', t, ar, r1 ++ r2, rfl, upd_same, ⟨_, SqL.of (s2 _ _ hT), ?_⟩, by rw [List.length_append]; omega, fun w hw => ?_, har, fun r' H' hr' kp hA => ⟨rfl, ?_⟩⟩
    · rw [List.map_append]
      exact (i1.app i2).mono (.same (s1.trans s2))
    · rcases List.mem_append.mp hw with h | h
      · exact w1 w h
      · exact w2 w h
    · exact k x r' H' hx1 ((s1.trans s2).free hr') (s1.trans (Same.made nx ndx kp)) hA
theorem sc_Ability___le__ : FnScope ["self", "other", "way"] ["self", "other"] (defScope s_Ability___le__) := ⟨rfl, rfl, rfl, by decide +kernel, rfl, by decide +kernel, by decide +kernel⟩
theorem ok_Ability___le__ {C : Addr} (D : Me K C "__le__" "Ability.__le__" s_Ability___le__ ["self", "other"]) (T : Bi mg) (AC : AbC K C) (G_has_way : Ld P w K mg base CX0 1 "has_way" (spHas K)) : Md P w K mg base CX0 2 C "__le__" (spLe K C) := by
  have sc := sc_Ability___le__
  refine D.md fun f F => F.fo sc (fun vs H Q E h => ?_) (fun cdv A outer s H vs Q E hr h => ?_)
  · obtain ⟨a, b, ar, r1, r2, rfl, _⟩ := h
    rfl
  · obtain ⟨a, b, ar, r1, r2, rfl, ⟨dx, l, ha, v1, hl, i1⟩, ⟨dy, m, hb, hm⟩, n1, k⟩ := h
    refine ⟨_, (pss_cons (ps_if (pt_cmpR op_ne (pe_fld (pv 0) rfl) (pe_fld (pv 1) rfl) (nomark _))
        (pss_one ps_never)
        pss_nil)
      (pss_one (ps_ret (pe_callB (cr_all rfl) (by rfl) T.all (by decide +kernel) (pa_cons (pe_lc (own := [("way", 2)]) rfl sc.nd (pi_list (pe_fld (pv 0) rfl)) (blkOk_by (own := [("way", 2)]) (N := ["self", "other", "way"]) (sc := defScope s_Ability___le__) (by decide +kernel)) (fun _ _ _ _ _ => (pg_name (i := 2) sc.nd rfl (Or.inl rfl))) (fun _ _ _ _ _ => pts_nil) (fun _ _ _ _ _ => (pe_ld G_has_way hr (by rfl) pass0 (pa_cons (pe_fldK (K := K) rfl (pv 1) rfl) (pa_cons (pv 2) pa_nil))))) pa_nil))))), ?_⟩
    refine ⟨_, rfl, a, C, dx, _, _, rfl, ha, AC.cl, AC.nt, abF_taken _ _, _, rfl, b, C, dy, _, _, rfl, hb, AC.cl, AC.nt, abF_taken _ _, rfl, _, rfl, ite_f (int_neq rfl) ?_⟩
    have e1 := i1.length
    rw [List.length_map] at e1
    refine ⟨_, rfl, a, C, dx, _, _, rfl, ha, AC.cl, AC.nr, abF_rows _ _, l, rfl, ⟨_, SqL.of hl⟩, lcI (K := K) (ds := r1.map tI) (fun _ => true) (fun d => .bool (hasW r2 (unT d))) (SqL.of hl) i1 (by omega) (fun x => rfl) (fun x d hx hd H1 s1 Q q => q H1 fun _ _ e => e) (fun x d hx hd _ H1 s1 Q q => ?_) fun t H1 ht s1 hR => ?_⟩
    · obtain ⟨w, hw, rfl⟩ := List.mem_map.mp hd
      refine ⟨_, rfl, b, C, dy, _, _, rfl, s1 _ _ hb, AC.cl, AC.nr, abF_rows _ _, _, rfl, m, x, w, r2, rfl, (hm.mono s1).r, hx.mono (.same s1), fun H2 s2 => ?_⟩
      refine q _ H2 s2 ?_
      rw [unT_tI]
      exact .bl _
    · obtain ⟨us, h1, h2⟩ := hR
      have e : ((r1.map tI).filter fun _ => true).map (fun d => PyData.bool (hasW r2 (unT d))) = (r1.map fun w => hasW r2 w).map .bool := by
        rw [List.filter_eq_self.mpr (fun _ _ => rfl), List.map_map, List.map_map]
        refine List.map_congr_left fun w _ => ?_
        show PyData.bool (hasW r2 (unT (tI w))) = _
        rw [unT_tI]; rfl
      rw [e] at h2
      rw [im_bls h2] at h1
      refine ⟨t, _, rfl, SqL.of h1, ?_⟩
      have e3 : ((r1.map fun w => hasW r2 w).all id) = r1.all fun w => hasW r2 w := by rw [List.all_map]; rfl
      rw [e3]
      exact k H1 s1
theorem sc_Ability___eq__ : FnScope ["self", "other"] ["self", "other"] (defScope s_Ability___eq__) := ⟨rfl, rfl, rfl, by decide +kernel, rfl, by decide +kernel, by decide +kernel⟩
theorem ok_Ability___eq__ {C : Addr} (D : Me K C "__eq__" "Ability.__eq__" s_Ability___eq__ ["self", "other"]) (T : Bi mg) (gC : mg "Ability" = some (.ref C)) (AC : AbC K C) (O : OwnC K C) : Md P w K mg base CX0 1 C "__eq__" (spEqA K C) := by
  have sc := sc_Ability___eq__
  refine D.md fun f F => F.fo sc (fun vs H Q E h => ?_) (fun cdv A outer s H vs Q E hr h => ?_)
  · obtain ⟨a, y, ar, r1, rfl, _⟩ := h
    rfl
  · obtain ⟨a, y, ar, r1, rfl, ⟨dx, l, ha, hl⟩, k⟩ := h
    have hu := hu65 hr
    refine ⟨_, (pss_one (ps_ret (pe_and (pe_callB call_isi (by rfl) T.isi (by decide +kernel) (pa_cons (pv 1) (pa_cons (pe_glob (v := .ref C) (by rfl) gC rfl (by decide)) pa_nil))) (pe_and (pe_cmpR op_eq (pe_fld (pv 0) rfl) (pe_fld (pv 1) rfl) (nomark _)) (pe_one (pe_cmpR (op_eqD (Nat.lt_trans (Nat.lt_succ_self _) hu)) (pe_fld (pv 0) rfl) (pe_fld (pv 1) rfl) rfl)))))), ?_⟩
    rcases k with ⟨b, ar2, r2, rfl, ⟨dy, m, hb, hm⟩, k⟩ | ⟨rfl, k⟩ | ⟨l2, xs, rfl, hl2, k⟩
    · refine ⟨_, rfl, _, _, _, _, _, rfl, .own C, O.ty hb, OwnC.self, _, rfl, ite_t rfl ?_⟩
      refine ⟨_, rfl, a, C, dx, _, _, rfl, ha, AC.cl, AC.nt, abF_taken _ _, _, rfl, b, C, dy, _, _, rfl, hb, AC.cl, AC.nt, abF_taken _ _, rfl, _, rfl, ?_⟩
      by_cases he : ar = ar2
      · rw [int_eq (show ((ar : Nat) : Int) = (ar2 : Int) by rw [he])]
        refine ite_t rfl ⟨_, rfl, a, C, dx, _, _, rfl, ha, AC.cl, AC.nr, abF_rows _ _, _, rfl, b, C, dy, _, _, rfl, hb, AC.cl, AC.nr, abF_rows _ _, _, _, hl.r.dp, hm.r.dp, shaped_ways _, shaped_ways _, ?_⟩
        rw [eqv_ways]
        rw [decide_eq_true he] at k
        exact k
      · rw [int_ne (show ¬ ((ar : Nat) : Int) = (ar2 : Int) by omega)]
        rw [decide_eq_false he] at k
        exact ite_f rfl k
    · exact ⟨_, rfl, _, _, _, _, _, rfl, .own C, .base .non, O.kn, _, rfl, ite_f rfl k⟩
    · exact ⟨_, rfl, _, _, _, _, _, rfl, .own C, .base (.lst hl2), O.kl, _, rfl, ite_f rfl k⟩
theorem sc_Ability___call__ : FnScope ["self", "commands", "one", "way"] ["self", "commands"] (defScope s_Ability___call__) := ⟨rfl, rfl, rfl, by decide +kernel, rfl, by decide +kernel, by decide +kernel⟩
theorem ok_Ability___call__ {C : Addr} (D : Me K C "__call__" "Ability.__call__" s_Ability___call__ ["self", "commands"]) (T : Bi mg) (AC : AbC K C) (N_Ability : Nw P w K mg base CX0 2 "Ability" C (spAbInit K C)) (P_arity : Pr P w K mg base CX0 1 C "arity" (spArity K C)) (M_has : Md P w K mg base CX0 2 C "__contains__" (spHasA K C)) : Md P w K mg base CX0 4 C "__call__" (spCall K C) := by
  have sc := sc_Ability___call__
  refine D.md fun f F => F.fo sc (fun vs H Q E h => ?_) (fun cdv A outer s H vs Q E hr h => ?_)
  · obtain ⟨a, l, ar, rows, cs, rs, rfl, _⟩ := h
    rfl
  · obtain ⟨a, l, ar, rows, cs, rs, rfl, hA, hl, hc, hcs, hw, hn, k⟩ := h
    have hr2 := hr.mono (show 2 ≤ 3 by decide)
    refine ⟨_, (pss_cons (ps_if (pt_cmpR op_ne (pe_callB call_len_seq (by rfl) T.len PySem.boot_len (pa_cons (pv 1) pa_nil)) (pe_fld (pv 0) rfl) (nomark _))
        (pss_one ps_never)
        pss_nil)
      (pss_cons (ps_for PassesOwn.never rfl (pi_list (pv 1)) (pg_name (i := 2) sc.nd rfl (Or.inl rfl))
        (pss_one (ps_if (pt_cmpR op_ne (pe_pr P_arity hr2 pass0 (pv 2)) pe_int (nomark _))
          (pss_one ps_never)
          pss_nil)))
      (pss_one (ps_ret (pe_mk N_Ability hr (by rfl) pass0 (pa_cons pe_int (pa_cons (pe_lc (own := [("way", 3)]) rfl sc.nd (pi_list (pe_fld (pv 0) rfl)) (blkOk_by (own := [("way", 3)]) (N := ["self", "commands", "one", "way"]) (sc := defScope s_Ability___call__) (by decide +kernel)) (fun _ _ _ _ _ => (pg_name (i := 3) sc.nd rfl (Or.inl rfl))) (fun _ _ _ _ _ => (pts_one (PW.pt (pw_or (pt_cmpR op_eq (pe_callB (len_seqK (K := K) rfl) (by rfl) T.len PySem.boot_len (pa_cons (pv 3) pa_nil)) pe_int (nomark _)) (pw_or1 (pt_cmpR (op_inO M_has hr2 pass0) (pe_slice (sl_tupAK (K := K) rfl) (pv 3) (po_some pe_int) po_none) (pe_ix (ix_listK (K := K) rfl) (pv 1) (pe_ix (ix_tupK (K := K) rfl) (pv 3) pe_int (fun _ _ => rfl)) (fun _ _ => rfl)) rfl)))))) (fun _ _ _ _ _ => (pe_slice (sl_tupAK (K := K) rfl) (pv 3) po_none (po_some pe_int)))) pa_nil))))))), ?_⟩
    obtain ⟨dx, m, ha, v1, hm, i1⟩ := id hA
    have e1 := i1.length
    rw [List.length_map] at e1
    refine ⟨_, rfl, _, _, rfl, .inl hl, _, rfl, a, C, dx, _, _, rfl, ha, AC.cl, AC.nt, abF_taken _ _, rfl, _, rfl, ite_f (int_neq (by rw [List.length_map, hc])) ?_⟩
    refine ⟨_, rfl, l, rfl, ⟨_, hl⟩, for_list (K := K) (a := l) (xs := cs.map V.ref) (fun i σ H' => H' = H ∧ ∃ z, σ = [some (.ref a), some (.ref l), z, none]) ⟨rfl, none, rfl⟩ (fun i σ H' _ ⟨e, _⟩ => by rw [e]; exact hl) ?_ ?_⟩
    · rintro i x σ H' hi ⟨rfl, z, rfl⟩
      rw [List.getElem?_map] at hi
      cases ec : cs[i]? with
      | none => rw [ec] at hi; cases hi
      | some c =>
        rw [ec] at hi
        cases hi
        have hC := hcs i c ec
        refine ⟨_, rfl, c, _, _, rfl, hC.choose_spec.choose_spec.1, c, 0, _, rfl, hC, rfl, _, rfl, ite_f (int_neq rfl) ⟨rfl, _, rfl⟩⟩
    · rintro σ H' ⟨rfl, z, rfl⟩
      refine ⟨_, rfl, a, C, dx, _, _, rfl, ha, AC.cl, AC.nr, abF_rows _ _, m, rfl, ⟨_, SqL.of hm⟩, lcI (K := K) (ds := rows.map tI) (fun d => condR rs (unT d)) (fun d => tI ((unT d).take 1)) (SqL.of hm) i1 (by omega) (fun x => rfl) (fun x d hx hd H1 s1 Q q => ?_) (fun x d hx hd hp H1 s1 Q q => ?_) fun t H1 ht s1 hR => ?_⟩
      · obtain ⟨w, hw', rfl⟩ := List.mem_map.mp hd
        rw [unT_tI] at q
        have hx1 := hx.mono (.same s1)
        obtain ⟨b, rfl, hT⟩ := im_tI hx1
        rcases isW_cases (hw w hw') with ⟨p, hp, rfl⟩ | ⟨p, i, q', hp, hi, hq, rfl⟩
        · exact ⟨_, rfl, _, _, rfl, .inr hT, rfl, _, rfl, ite_t rfl (q H1 fun _ _ e => e)⟩
        · refine ⟨_, rfl, _, _, rfl, .inr hT, rfl, _, rfl, ite_f rfl ?_⟩
          have hi' : i < cs.length := by omega
          refine ⟨_, rfl, _, rfl, ?_⟩
          delta tNoPart
          refine im_cut hx1 fun v' H2 s2 hv' => ?_
          rw [cutW_2] at hv'
          have hcc := hcs i cs[i] (List.getElem?_eq_getElem hi')
          have s12 := s1.trans s2
          refine ⟨_, rfl, _, rfl, _, _, _, _, rfl, rfl, sqT_same s2 hT, atI_nat (j := 1) rfl, _, _, _, _, rfl, rfl, s12.seq hl, atI_nat (j := i) (by rw [List.getElem?_map, List.getElem?_eq_getElem hi']; rfl), ?_⟩
          have e2 : (([(p : Int), (i : Int), (q' : Int)] : Wy).drop 2) = [(q' : Int)] := rfl
          rw [e2] at hv'
          have hC2 := hcc.same s12
          refine ⟨cs[i], _, _, rfl, hC2.choose_spec.choose_spec.1, cs[i], 0, _, v', [(q' : Int)], rfl, hC2, hv', fun H3 s3 => ⟨_, rfl, _, rfl, q H3 (s2.trans s3)⟩⟩
      · obtain ⟨w, hw', rfl⟩ := List.mem_map.mp hd
        rw [unT_tI] at q
        have hx1 := hx.mono (.same s1)
        refine ⟨_, rfl, _, rfl, im_cut hx1 fun v' H2 s2 hv' => ?_⟩
        rw [cutW_1] at hv'
        exact q v' H2 s2 hv'
      · rw [filt_app] at hR
        refine rd_new hR (Nat.le_trans (app_len rs rows) (by omega)) (app_valid hw) (by decide) fun x r H2 hx0 hr0 s2 hX => ?_
        exact k x r H2 (s1.free hx0) (s1.free hr0) (s1.trans s2) hX
end
end Tw

set_option maxHeartbeats 400000
namespace Tw
open PySem PySem.Spec PyProof.Rows L2
section
variable {P : Program} {w : World} {K : Fg} {mg : Str → Option Value} {base : Heap}
def spAny (K : Fg) : Sp := fun vs H Q _ => ∃ (row cell : Addr) (ar : Nat), vs = [.ref row, .ref cell, .int ar] ∧ Drw K H row cell ∧ ar ≤ 4 ∧
  ∀ l H' (ws : List Wy), H l = none → Fra cell H H' → Drw K H' row cell → LsM K H' l (ws.map tI) → ws.length ≤ 20 → (∀ w ∈ ws, isW ar w = true) → Q (.ref l) H'
theorem sc_law_any_ways : FnScope ["_law_row_here", "_law_at", "_law_arity", "_law_ways", "_law_k", "_law_state"] ["_law_row_here", "_law_at", "_law_arity"] (defScope s_law_any_ways) := ⟨rfl, rfl, rfl, by decide +kernel, rfl, by decide +kernel, by decide +kernel⟩
theorem ok_law_any_ways (D : Gd K mg "_law_any_ways" s_law_any_ways ["_law_row_here", "_law_at", "_law_arity"]) (T : Bi mg) (G_take : Ld P w K mg base CX0 1 "_law_take" (spTake K)) : Ld P w K mg base CX0 2 "_law_any_ways" (spAny K) := by
  have sc := sc_law_any_ways
  refine D.ld fun f F => F.fo sc (fun vs H Q E h => ?_) (fun cdv A outer s H vs Q E hr h => ?_)
  · obtain ⟨row, cell, ar, rfl, _⟩ := h
    rfl
  · obtain ⟨row, cell, ar, rfl, d, har, k⟩ := h
    refine ⟨_, (pss_cons (ps_set (i := 3) sc.nd rfl (Or.inl rfl) (pe_lst pa_nil))
      (pss_cons (ps_for PassesOwn.never rfl (pi_range1 (by rfl) T.range (pa_cons (pe_ld G_take hr (by rfl) pass0 (pa_cons (pv 0) (pa_cons (pv 1) (pa_cons pe_int pa_nil)))) pa_nil)) (pg_name (i := 4) sc.nd rfl (Or.inl rfl))
        (pss_cons (ps_set (i := 5) sc.nd rfl (Or.inl rfl) (pe_ld G_take hr (by rfl) pass0 (pa_cons (pv 0) (pa_cons (pv 1) (pa_cons pe_int pa_nil)))))
        (pss_one (ps_if (PW.pt (pw_or (pt_cmpR op_eq (pv 2) pe_int (nomark _)) (pw_or1 (pt_cmpR op_eq (pe_ld G_take hr (by rfl) pass0 (pa_cons (pv 0) (pa_cons (pv 1) (pa_cons pe_int pa_nil)))) pe_int (nomark _)))))
          (pss_one (ps_expr (pe_bm PySem.F.plainAttrs_list PySem.F.slot_list_append PySem.F.type_list_append mt_append (pv 3) (pa_cons (pe_tup (pa_cons (pv 5) pa_nil)) pa_nil))))
          (pss_one (ps_expr (pe_bm PySem.F.plainAttrs_list PySem.F.slot_list_append PySem.F.type_list_append mt_append (pv 3) (pa_cons (pe_tup (pa_cons (pv 5) (pa_cons (pe_ld G_take hr (by rfl) pass0 (pa_cons (pv 0) (pa_cons (pv 1) (pa_cons (pv 2) pa_nil)))) (pa_cons (pe_ld G_take hr (by rfl) pass0 (pa_cons (pv 0) (pa_cons (pv 1) (pa_cons pe_int pa_nil)))) pa_nil)))) pa_nil))))))))
      (pss_one (ps_ret (pv 3))))), ?_⟩
    refine ⟨Nat.zero_le _, fun l hl => ?_⟩
    obtain ⟨c0, hc0, hcell⟩ := d.cnt
    obtain ⟨ms, hrow⟩ := d.rws
    have nlc : cell ≠ l := ne_of_none hcell hl
    have nlr : row ≠ l := ne_of_none hrow hl
    refine ⟨_, rfl, _, rfl, row, cell, 20, rfl, d.new hl, by decide, fun n c hn0 hn1 hc => ?_⟩
    have d1 : Drw K (upd (upd H l (.lst [])) cell (.lst [.int c])) row cell := (d.new hl).put hc
    refine ⟨n, rfl, by omega, by omega, for_range (n := n.toNat) (fun i σ H' => ∃ (kk st : Option V) (ws : List Wy) (vs : List V), σ = [some (.ref row), some (.ref cell), some (.int ar), some (.ref l), kk, st] ∧ Fra cell H H' ∧ Drw K H' row cell ∧ H' l = some (.lst vs) ∧ ImAll K H' vs (ws.map tI) ∧ ws.length ≤ i ∧ ∀ w ∈ ws, isW ar w = true)
      ⟨none, none, [], [], rfl, (Fra.new hl).trans .put, d1, by rw [upd_ne nlc.symm, upd_same], .nil, Nat.le_refl _, fun w hw => (nomatch hw)⟩ ?_ ?_⟩
    · rintro i σ H' hi ⟨kk, st, ws, vs, rfl, fr, d', hL, him, hlen, hw⟩
      have vlen : vs.length ≤ 100 := by have e := him.length; rw [List.length_map] at e; omega
      refine ⟨_, rfl, _, rfl, row, cell, 4, rfl, d', by decide, fun p c1 hp0 hp1 hc1 => ?_⟩
      obtain ⟨z, _, hz⟩ := d'.cnt
      have d2 := d'.put hc1
      have hL2 : (upd H' cell (.lst [.int c1])) l = some (.lst vs) := by rw [upd_ne nlc.symm]; exact hL
      have f2 : Fra cell H (upd H' cell (.lst [.int c1])) := fr.trans .put
      have m2 := him.mono (Tups.lst (o := .lst [.int c1]) hz)
      have one : ∀ (H2 : Hp), Fra cell H H2 → Drw K H2 row cell → H2 l = some (.lst vs) → ImAll K H2 vs (ws.map tI) → ∀ t, H2 t = none →
          ∃ (kk st : Option V) (ws' : List Wy) (vs' : List V), [some (V.ref row), some (V.ref cell), some (V.int ar), some (V.ref l), some (V.int (0 + (i : Int))), some (V.int p)] = [some (.ref row), some (.ref cell), some (.int ar), some (.ref l), kk, st] ∧ Fra cell H (upd (upd H2 t (.tup [.int p])) l (.lst (vs ++ [.ref t]))) ∧ Drw K (upd (upd H2 t (.tup [.int p])) l (.lst (vs ++ [.ref t]))) row cell ∧
            (upd (upd H2 t (.tup [.int p])) l (.lst (vs ++ [.ref t]))) l = some (.lst vs') ∧ ImAll K (upd (upd H2 t (.tup [.int p])) l (.lst (vs ++ [.ref t]))) vs' (ws'.map tI) ∧ ws'.length ≤ i + 1 ∧ ∀ w ∈ ws', isW ar w = true := by
        intro H2 g1 g2 g3 g4 t ht
        have g3' : (upd H2 t (.tup [V.int p])) l = some (.lst vs) := by rw [upd_ne (ne_of_none g3 ht)]; exact g3
        refine ⟨_, _, ws ++ [[p]], _, rfl, (g1.trans (.new ht)).mut hl, (g2.new ht).mut nlr nlc, upd_same, ?_, by rw [List.length_append, List.length_singleton]; omega, fun w hw' => ?_⟩
        · rw [List.map_append]
          exact ((g4.mono (.new ht)).snoc (im_new [p] ht)).mono (.lst g3')
        · rcases List.mem_append.mp hw' with h | h
          · exact hw w h
          · rw [List.mem_singleton.mp h]
            simp [isW, hp0, hp1]
      refine ⟨_, rfl, rfl, _, rfl, ?_⟩
      by_cases ha : (ar : Int) = 0
      · rw [int_eq ha]
        refine ⟨_, rfl, .inl ⟨rfl, _, SqL.of hL2⟩, _, rfl, (by show 1 ≤ sizeLine; decide), fun t ht => ⟨l, vs, _, rfl, rfl, by rw [upd_ne (ne_of_none hL2 ht)]; exact hL2, big_lt (by omega), ?_⟩⟩
        exact one _ f2 d2 hL2 m2 t ht
      · rw [int_ne ha]
        refine ⟨_, rfl, _, rfl, row, cell, 3, rfl, d2, by decide, fun b c2 hb0 hb1 hc2 => ?_⟩
        obtain ⟨z2, _, hz2⟩ := d2.cnt
        have d3 := d2.put hc2
        have hL3 : (upd (upd H' cell (.lst [.int c1])) cell (.lst [.int c2])) l = some (.lst vs) := by rw [upd_ne nlc.symm]; exact hL2
        have f3 := f2.trans (Fra.put (o := .lst [.int c2]))
        have m3 := m2.mono (Tups.lst (o := .lst [.int c2]) hz2)
        refine ⟨rfl, _, rfl, ?_⟩
        refine ite2 (fun _ => ?_) (fun _ => ?_)
        · refine ⟨_, rfl, .inl ⟨rfl, _, SqL.of hL3⟩, _, rfl, (by show 1 ≤ sizeLine; decide), fun t ht => ⟨l, vs, _, rfl, rfl, by rw [upd_ne (ne_of_none hL3 ht)]; exact hL3, big_lt (by omega), ?_⟩⟩
          exact one _ f3 d3 hL3 m3 t ht
        · refine ⟨_, rfl, .inl ⟨rfl, _, SqL.of hL3⟩, ?_⟩
          refine ⟨_, rfl, _, rfl, _, rfl, _, rfl, row, cell, ar, rfl, d3, by omega, fun q c3 hq0 hq1 hc3 => ?_⟩
          obtain ⟨z3, _, hz3⟩ := d3.cnt
          have d4 := d3.put hc3
          refine ⟨_, rfl, _, rfl, row, cell, 4, rfl, d4, by decide, fun to c4 ht0 ht1 hc4 => ?_⟩
          obtain ⟨z4, _, hz4⟩ := d4.cnt
          have d5 := d4.put hc4
          have hL5 : (upd (upd (upd (upd H' cell (.lst [.int c1])) cell (.lst [.int c2])) cell (.lst [.int c3])) cell (.lst [.int c4])) l = some (.lst vs) := by rw [upd_ne nlc.symm, upd_ne nlc.symm]; exact hL3
          have f5 := (f3.trans (Fra.put (o := .lst [.int c3]))).trans (Fra.put (o := .lst [.int c4]))
          have m5 := (m3.mono (Tups.lst (o := .lst [.int c3]) hz3)).mono (Tups.lst (o := .lst [.int c4]) hz4)
          refine ⟨(by show 3 ≤ sizeLine; decide), fun t ht => ⟨l, vs, _, rfl, rfl, by rw [upd_ne (ne_of_none hL5 ht)]; exact hL5, big_lt (by omega), ?_⟩⟩
          have g3' : (upd (upd (upd (upd (upd H' cell (.lst [.int c1])) cell (.lst [.int c2])) cell (.lst [.int c3])) cell (.lst [.int c4])) t (.tup [V.int p, V.int q, V.int to])) l = some (.lst vs) := by rw [upd_ne (ne_of_none hL5 ht)]; exact hL5
          refine ⟨_, _, ws ++ [[p, q, to]], _, rfl, (f5.trans (.new ht)).mut hl, (d5.new ht).mut nlr nlc, upd_same, ?_, by rw [List.length_append, List.length_singleton]; omega, fun w hw' => ?_⟩
          · rw [List.map_append]
            exact ((m5.mono (.new ht)).snoc (im_new [p, q, to] ht)).mono (.lst g3')
          · rcases List.mem_append.mp hw' with h | h
            · exact hw w h
            · rw [List.mem_singleton.mp h]
              simp [isW, hp0, hp1, hq0, hq1, ht0, ht1]
    · rintro σ H' ⟨kk, st, ws, vs, rfl, fr, d', hL, him, hlen, hw⟩
      exact ⟨_, rfl, k l H' ws hl fr d' ⟨vs, hL, him⟩ (by omega) hw⟩
end
end Tw

set_option maxHeartbeats 400000
namespace Tw
open PySem PySem.Spec PyProof.Rows L2
section
variable {P : Program} {w : World} {K : Fg} {mg : Str → Option Value} {base : Heap}
theorem sc_law_equal : FnScope ["_law_first", "_law_second"] ["_law_first", "_law_second"] (defScope s_law_equal) := ⟨rfl, rfl, rfl, by decide +kernel, rfl, by decide +kernel, by decide +kernel⟩
theorem ok_law_equal {C : Addr} (D : Gd K mg "_law_equal" s_law_equal ["_law_first", "_law_second"]) (O : OwnC K C) (G_same : Ld P w K mg base CX0 4 "_law_same" (spSame K 3)) (P_ways : Pr P w K mg base CX0 1 C "ways" (spWays K C)) (M_le : Md P w K mg base CX0 2 C "__le__" (spLe K C)) (M_eq : Md P w K mg base CX0 1 C "__eq__" (spEqA K C)) :
    Ld P w K mg base CX0 5 "_law_equal" (spEqual K C) := by
  have sc := sc_law_equal
  refine D.ld fun f F => F.fo sc (fun vs H Q E h => ?_) (fun cdv A outer s H vs Q E hr h => ?_)
  · obtain ⟨a, b, ar, W, rfl, _⟩ := h
    rfl
  · obtain ⟨a, b, ar, W, rfl, hA, hB, har, k⟩ := h
    have hr2 := hr.mono (show 2 ≤ 4 by decide)
    have hr1 := hr.mono (show 1 ≤ 4 by decide)
    refine ⟨_, (pss_cons (ps_if (PW.pt (pw_or (pt_not (pt_val (pe_ld G_same hr (by rfl) pass0 (pa_cons (pe_cmpR (op_eqO M_eq hr1 pass0) (pv 0) (pv 1) rfl) (pa_cons pe_bl pa_nil))))) (pw_or1 (pt_not (pt_val (pe_ld G_same hr (by rfl) pass0 (pa_cons (pe_cmpR (op_eqO M_eq hr1 pass0) (pv 1) (pv 0) rfl) (pa_cons pe_bl pa_nil))))))))
        (pss_one (ps_ret pe_bl))
        pss_nil)
      (pss_one (ps_ret (pe_and (pe_ld G_same hr (by rfl) pass0 (pa_cons (pe_pr P_ways hr2 pass0 (pv 0)) (pa_cons (pe_pr P_ways hr2 pass0 (pv 1)) pa_nil))) (pe_and (pe_ld G_same hr (by rfl) pass0 (pa_cons (pe_cmpR (op_leO M_le hr2 pass0) (pv 0) (pv 1) rfl) (pa_cons pe_bl pa_nil))) (pe_one (pe_ld G_same hr (by rfl) pass0 (pa_cons (pe_cmpR (op_leO M_le hr2 pass0) (pv 1) (pv 0) rfl) (pa_cons pe_bl pa_nil))))))))), ?_⟩
    have hT : (decide (ar = ar) && decide (nrm ar W = nrm ar W)) = true := by simp
    have hL : ((nrm ar W).all fun w => hasW (nrm ar W) w) = true := le_self ar W
    have nW : (nrm ar W).length ≤ 10000 := Nat.le_trans (nrm_rows_len har) (by decide)
    refine ⟨_, rfl, _, rfl, rd_eq O hA hB ⟨_, _, .bool _, rfl, dp_b _, dp_e hT, dep_b _, sm_b _, _, rfl, ?_⟩⟩
    refine ite_f rfl ⟨_, rfl, _, rfl, rd_eq O hB hA ⟨_, _, .bool _, rfl, dp_b _, dp_e hT, dep_b _, sm_b _, _, rfl, ite_f rfl ?_⟩⟩
    refine ⟨_, rfl, a, _, _, rfl, hA.choose_spec.choose_spec.1, a, ar, _, rfl, hA, fun l2 H2 hl2 s2 hL2 => ?_⟩
    have hB2 := hB.same s2
    refine ⟨_, rfl, b, _, _, rfl, hB2.choose_spec.choose_spec.1, b, ar, _, rfl, hB2, fun l3 H3 hl3 s3 hL3 => ⟨_, _, _, rfl, (hL2.mono s3).r.dp, hL3.r.dp, depth_w3 _, sm_nrm har, _, rfl, ite_t rfl ?_⟩⟩
    have hA3 := hA.same (s2.trans s3)
    have hB3 := hB2.same s3
    refine ⟨_, rfl, _, rfl, rd_le O hA3 hB3 nW fun H4 s4 => ⟨_, _, .bool _, rfl, dp_b _, dp_e hL, dep_b _, sm_b _, _, rfl, ite_t rfl ?_⟩⟩
    exact ⟨_, rfl, _, rfl, rd_le O (hB3.same s4) (hA3.same s4) nW fun H5 s5 => ⟨_, _, .bool _, rfl, dp_b _, dp_e hL, dep_b _, sm_b _, k H5 (((s2.trans s3).trans s4).trans s5)⟩⟩
end
end Tw

set_option maxHeartbeats 400000
namespace Tw
open PySem PySem.Spec PyProof.Rows L2
section
variable {P : Program} {w : World} {K : Fg} {mg : Str → Option Value} {base : Heap}
theorem sc_law_linear : FnScope ["_law_first", "_law_second", "_law_some", "_law_others", "_law_both", "_law_one", "_law_k"] ["_law_first", "_law_second", "_law_some", "_law_others"] (defScope s_law_linear) := ⟨rfl, rfl, rfl, by decide +kernel, rfl, by decide +kernel, by decide +kernel⟩
theorem ok_law_linear {C : Addr} (D : Gd K mg "_law_linear" s_law_linear ["_law_first", "_law_second", "_law_some", "_law_others"]) (T : Bi mg) (O : OwnC K C) (G_same : Ld P w K mg base CX0 4 "_law_same" (spSame K 3)) (G_equal : Ld P w K mg base CX0 5 "_law_equal" (spEqual K C)) (M_or : Md P w K mg base CX0 4 C "__or__" (spOr K C)) (M_le : Md P w K mg base CX0 2 C "__le__" (spLe K C)) (M_call : Md P w K mg base CX0 4 C "__call__" (spCall K C)) :
    Ld P w K mg base CX0 6 "_law_linear" (spLinear K C) := by
  have sc := sc_law_linear
  refine D.ld fun fA F => F.fo sc (fun vs H Q E h => ?_) (fun cdv A outer s H vs Q E hr h => ?_)
  · obtain ⟨a, b, l, m, ar, W, M, cs, ds, f, g, rfl, _⟩ := h
    rfl
  · obtain ⟨a, b, l, m, ar, W, M, cs, ds, f, g, rfl, hA, hB, har, hl, hm, hc, hd, hcs, hds, k⟩ := h
    have hr4 := hr.mono (show 4 ≤ 5 by decide)
    have hr2 := hr.mono (show 2 ≤ 5 by decide)
    refine ⟨_, (pss_cons (ps_setLc (i := 4) (own := [("_law_k", 6)]) rfl sc.nd rfl rfl (sw_true rfl rfl rfl (by decide +kernel)) (pi_range1 (by rfl) T.range (pa_cons (pe_callB call_len_seq (by rfl) T.len PySem.boot_len (pa_cons (pv 2) pa_nil)) pa_nil)) (blkOk_by (own := [("_law_k", 6)]) (N := ["_law_first", "_law_second", "_law_some", "_law_others", "_law_both", "_law_one", "_law_k"]) (sc := defScope s_law_linear) (by decide +kernel)) (fun _ _ _ _ _ => (pg_name (i := 6) sc.nd rfl (Or.inl rfl))) (fun _ _ _ _ _ => pts_nil) (fun _ _ _ _ _ => (pe_op (op_orO M_or O.sf hr4 pass0) (pe_ix (ix_listK (K := K) rfl) (pv 2) (pv 6) (fun _ _ => rfl)) (pe_ix (ix_listK (K := K) rfl) (pv 3) (pv 6) (fun _ _ => rfl)))))
      (pss_cons (ps_if (pt_not (pt_val (pe_ld G_equal hr (by rfl) pass0 (pa_cons (pe_io M_call hr4 pass0 (pe_op (op_orO M_or O.sf hr4 pass0) (pv 0) (pv 1)) (pa_cons (pv 2) pa_nil)) (pa_cons (pe_op (op_orO M_or O.sf hr4 pass0) (pe_io M_call hr4 pass0 (pv 0) (pa_cons (pv 2) pa_nil)) (pe_io M_call hr4 pass0 (pv 1) (pa_cons (pv 2) pa_nil))) pa_nil)))))
        (pss_one (ps_ret pe_bl))
        pss_nil)
      (pss_cons (ps_if (pt_not (pt_val (pe_ld G_equal hr (by rfl) pass0 (pa_cons (pe_io M_call hr4 pass0 (pv 0) (pa_cons (pv 4) pa_nil)) (pa_cons (pe_op (op_orO M_or O.sf hr4 pass0) (pe_io M_call hr4 pass0 (pv 0) (pa_cons (pv 2) pa_nil)) (pe_io M_call hr4 pass0 (pv 0) (pa_cons (pv 3) pa_nil))) pa_nil)))))
        (pss_one (ps_ret pe_bl))
        pss_nil)
      (pss_cons (ps_for PassesOwn.never rfl (pi_list (pe_lst (pa_cons (pe_io M_call hr4 pass0 (pv 0) (pa_cons (pv 2) pa_nil)) (pa_cons (pe_io M_call hr4 pass0 (pv 0) (pa_cons (pv 3) pa_nil)) (pa_cons (pe_io M_call hr4 pass0 (pv 1) (pa_cons (pv 2) pa_nil)) pa_nil))))) (pg_name (i := 5) sc.nd rfl (Or.inl rfl))
        (pss_one (ps_if (pt_not (pt_val (pe_ld G_same hr4 (by rfl) pass0 (pa_cons (pe_cmpR (op_leO M_le hr2 pass0) (pv 5) (pe_io M_call hr4 pass0 (pe_op (op_orO M_or O.sf hr4 pass0) (pv 0) (pv 1)) (pa_cons (pv 4) pa_nil)) rfl) (pa_cons pe_bl pa_nil)))))
          (pss_one (ps_ret pe_bl))
          pss_nil)))
      (pss_cons (ps_if (PW.pt (pw_and (pt_cmpR (op_leO M_le hr2 pass0) (pv 0) (pv 1) rfl) (pw_and1 (pt_not (pt_val (pe_ld G_same hr4 (by rfl) pass0 (pa_cons (pe_cmpR (op_leO M_le hr2 pass0) (pe_io M_call hr4 pass0 (pv 0) (pa_cons (pv 2) pa_nil)) (pe_io M_call hr4 pass0 (pv 1) (pa_cons (pv 4) pa_nil)) rfl) (pa_cons pe_bl pa_nil))))))))
        (pss_one (ps_ret pe_bl))
        pss_nil)
      (pss_one (ps_ret (pe_and (pe_ld G_equal hr (by rfl) pass0 (pa_cons (pe_op (op_orO M_or O.sf hr4 pass0) (pv 0) (pv 1)) (pa_cons (pe_op (op_orO M_or O.sf hr4 pass0) (pv 1) (pv 0)) pa_nil))) (pe_one (pe_ld G_equal hr (by rfl) pass0 (pa_cons (pe_op (op_orO M_or O.sf hr4 pass0) (pv 0) (pv 0)) (pa_cons (pv 0) pa_nil)))))))))))), ?_⟩
    have nW : ∀ {ws : List Wy}, (nrm ar ws).length ≤ 1000 := Nat.le_trans (nrm_rows_len har) (by decide)
    have n0 : ∀ {ws : List Wy}, (nrm 0 ws).length ≤ 1000 := Nat.le_trans (nrm_rows_len (by decide)) (by decide)
    have n0' : ∀ {ws : List Wy}, (nrm 0 ws).length ≤ 10000 := Nat.le_trans n0 (by decide)
    -- both
    refine ⟨_, rfl, _, _, rfl, .inl hl, ?_⟩
    rw [List.length_map]
    refine ⟨(cs.length : Int), rfl, by omega, by omega, lcR (K := K) (n := cs.length) (fun D i ys H' => ∃ es : List Addr, ys = es.map V.ref ∧ es.length = i ∧ CmL K C H' D es fun i => nrm 0 (f i ++ g i)) (by omega) (fun x => rfl) (fun D hD => ⟨[], rfl, rfl, fun k c h => by simp at h⟩) (fun D i ys H' hD hi s hDs hp Q q => ?_) fun bt ys H1 hbt0 s1 hbt hlen hes => ?_⟩
    · obtain ⟨es, rfl, hel, hes⟩ := hp
      rw [Int.zero_add]
      have hid : i < ds.length := by omega
      have ec : (cs.map V.ref)[i]? = some (.ref cs[i]) := by rw [List.getElem?_map, List.getElem?_eq_getElem hi]; rfl
      have ed : (ds.map V.ref)[i]? = some (.ref ds[i]) := by rw [List.getElem?_map, List.getElem?_eq_getElem hid]; rfl
      have hC := (hcs i cs[i] (List.getElem?_eq_getElem hi)).same s
      have hD' := (hds i ds[i] (List.getElem?_eq_getElem hid)).same s
      refine ⟨_, rfl, _, rfl, _, _, _, _, rfl, rfl, s.seq hl, atI_nat (j := i) ec, _, rfl, _, rfl, _, _, _, _, rfl, rfl, s.seq hm, atI_nat (j := i) ed, rd_or hC hD' (by decide) n0 n0 nrm_valid nrm_valid fun c r H4 hc0 hr0 s4 hC4 => ?_⟩
      rw [nrm_app] at hC4
      exact q (.ref c) H4 (s.trans s4) (s4 _ _ hDs) ⟨es ++ [c], by rw [List.map_append]; rfl, by rw [List.length_append, hel]; rfl, hes.step (fun _ _ e => e) s4 hDs hc0 hr0 (by rw [hel]; exact hC4)⟩
    obtain ⟨es, rfl, hel, hes⟩ := hes
    have hE : ∀ i c, es[i]? = some c → AbAt K C H1 c 0 (nrm 0 (f i ++ g i)) := fun i c h => let ⟨_, h1, _⟩ := hes i c h; h1.at'
    have hee : es.length = ar := by omega
    clear hes hlen hel
    -- the joined one, applied
    have hA1 := hA.same s1
    have hB1 := hB.same s1
    refine ⟨_, rfl, _, rfl, rd_or hA1 hB1 har nW nW nrm_valid nrm_valid fun j rj H2 _ _ s2 hJ => ?_⟩
    rw [nrm_app] at hJ
    have sA := s1.trans s2
    refine ⟨j, rfl, _, rfl, rd_call hJ.at' har (sA.seq hl) hc (fun i c h => (hcs i c h).same sA) fun u ru H3 _ _ s3 hU => ?_⟩
    have sB := sA.trans s3
    refine ⟨_, rfl, a, rfl, _, rfl, rd_call (hA.same sB) har (sB.seq hl) hc (fun i c h => (hcs i c h).same sB) fun v rv H4 _ _ s4 hV => ?_⟩
    have sC := sB.trans s4
    refine ⟨_, rfl, b, rfl, _, rfl, rd_call (hB.same sC) har (sC.seq hl) hc (fun i c h => (hcs i c h).same sC) fun z rz H5 _ _ s5 hZ => ?_⟩
    refine rd_or (hV.at'.same s5) hZ.at' (by decide) n0 n0 nrm_valid nrm_valid fun y ry H6 _ _ s6 hY => ?_
    rw [ap_or] at hY
    refine ⟨u, y, 0, _, rfl, hU.at'.same ((s4.trans s5).trans s6), hY.at', by decide, fun H7 s7 => ⟨_, rfl, ite_f rfl ?_⟩⟩
    have sD := ((sC.trans s5).trans s6).trans s7
    have s17 : Same H1 H7 := ((((s2.trans s3).trans s4).trans s5).trans s6).trans s7
    have hbt7 := s17 _ _ hbt
    -- the joined commands
    refine ⟨_, rfl, a, rfl, _, rfl, rd_call (hA.same sD) har (SqL.of hbt7) hee (fun i c h => (hE i c h).same s17) fun u2 ru2 H8 _ _ s8 hU2 => ?_⟩
    have sE := sD.trans s8
    refine ⟨_, rfl, a, rfl, _, rfl, rd_call (hA.same sE) har (sE.seq hl) hc (fun i c h => (hcs i c h).same sE) fun v2 rv2 H9 _ _ s9 hV2 => ?_⟩
    have sF := sE.trans s9
    refine ⟨_, rfl, a, rfl, _, rfl, rd_call (hA.same sF) har (sF.seq hm) hd (fun i c h => (hds i c h).same sF) fun z2 rz2 H10 _ _ s10 hZ2 => ?_⟩
    refine rd_or (hV2.at'.same s10) hZ2.at' (by decide) n0 n0 nrm_valid nrm_valid fun y2 ry2 H11 _ _ s11 hY2 => ?_
    rw [ap_both] at hY2
    refine ⟨u2, y2, 0, _, rfl, hU2.at'.same ((s9.trans s10).trans s11), hY2.at', by decide, fun H12 s12 => ⟨_, rfl, ite_f rfl ?_⟩⟩
    have sG := ((sF.trans s10).trans s11).trans s12
    -- three that are at most the joined one of the joined commands
    refine ⟨_, rfl, a, rfl, _, rfl, rd_call (hA.same sG) har (sG.seq hl) hc (fun i c h => (hcs i c h).same sG) fun o1 ro1 H13 _ _ s13 hO1 => ?_⟩
    have sH := sG.trans s13
    refine ⟨_, rfl, a, rfl, _, rfl, rd_call (hA.same sH) har (sH.seq hm) hd (fun i c h => (hds i c h).same sH) fun o2 ro2 H14 _ _ s14 hO2 => ?_⟩
    have sI := sH.trans s14
    refine ⟨_, rfl, b, rfl, _, rfl, rd_call (hB.same sI) har (sI.seq hl) hc (fun i c h => (hcs i c h).same sI) fun o3 ro3 H15 _ _ s15 hO3 => ?_⟩
    have sJ := sI.trans s15
    refine ⟨(by show 3 ≤ sizeLine; decide), fun q hq0 => ?_⟩
    have s16 : Same H15 (upd H15 q (.lst [.ref o1, .ref o2, .ref o3])) := .new hq0
    have hq : (upd H15 q (.lst [.ref o1, .ref o2, .ref o3])) q = some (.lst [.ref o1, .ref o2, .ref o3]) := upd_same
    have hP1 := hO1.at'.same ((s14.trans s15).trans s16)
    have hP2 := hO2.at'.same (s15.trans s16)
    have hP3 := hO3.at'.same s16
    have sK := sJ.trans s16
    generalize upd H15 q (.lst [.ref o1, .ref o2, .ref o3]) = H16 at hq hP1 hP2 hP3 sK s16 ⊢
    have s1J : Same H1 H16 := (((((((s17.trans s8).trans s9).trans s10).trans s11).trans s12).trans s13).trans s14).trans (s15.trans s16)
    have hel : ∀ z ∈ [V.ref o1, V.ref o2, V.ref o3], ∃ o X, z = .ref o ∧ AbAt K C H16 o 0 (nrm 0 X) ∧ leW 0 X (apF ar (fun i => f i ++ g i) (W ++ M)) = true := by
      intro z hz
      simp only [List.mem_cons, List.mem_nil_iff, or_false] at hz
      rcases hz with rfl | rfl | rfl
      · exact ⟨_, _, rfl, hP1, ap_le (le_app_l ar W M) fun i x h => List.mem_append_left _ h⟩
      · exact ⟨_, _, rfl, hP2, ap_le (le_app_l ar W M) fun i x h => List.mem_append_right _ h⟩
      · exact ⟨_, _, rfl, hP3, ap_le (le_app_r ar W M) fun i x h => List.mem_append_left _ h⟩
    refine ⟨q, rfl, ⟨_, SqL.of hq⟩, for_list (K := K) (a := q) (xs := [V.ref o1, V.ref o2, V.ref o3]) (fun i σ H' => ∃ on, σ = [some (.ref a), some (.ref b), some (.ref l), some (.ref m), some (.ref bt), on, none] ∧ Same H16 H') ⟨_, rfl, fun _ _ e => e⟩ (fun i σ H' _ ⟨_, _, s⟩ => SqL.of (s _ _ hq)) ?_ ?_⟩
    · rintro n z σ H' hz ⟨on, rfl, s18⟩
      obtain ⟨o, X, rfl, hO, hle⟩ := hel z (List.mem_of_getElem? hz)
      have sL := sK.trans s18
      have s1L := s1J.trans s18
      refine ⟨_, rfl, _, rfl, _, rfl, rd_or (hA.same sL) (hB.same sL) har nW nW nrm_valid nrm_valid fun j rj H17 _ _ s19 hJ => ?_⟩
      rw [nrm_app] at hJ
      have s1M := s1L.trans s19
      refine ⟨j, rfl, _, rfl, rd_call hJ.at' har (SqL.of (s1M _ _ hbt)) hee (fun i c h => (hE i c h).same s1M) fun u ru H18 _ _ s20 hU => ?_⟩
      exact rd_le O (((hO.same s18).same s19).same s20) hU.at' n0' fun H19 s21 => ⟨_, _, .bool _, rfl, dp_b _, dp_e hle, dep_b _, sm_b _, _, rfl, ite_f rfl ⟨_, rfl, ((s18.trans s19).trans s20).trans s21⟩⟩
    · rintro σ H' ⟨on, rfl, s18⟩
      have j1 : ∃ Pm : L2.St → Hp → Prop, Pm = fun σ' H'' => σ' = [some (.ref a), some (.ref b), some (.ref l), some (.ref m), some (.ref bt), on, none] ∧ Same H16 H'' := ⟨_, rfl⟩
      obtain ⟨Pm, hPm⟩ := j1
      dsimp only
      refine seq_cut Pm ?_ fun nx => ?_
      rotate_left
      · have sL := sK.trans s18
        have s1L := s1J.trans s18
        refine ⟨_, rfl, _, rfl, rd_le O (hA.same sL) (hB.same sL) (Nat.le_trans nW (by decide)) fun H17 s19 => ⟨_, rfl, ite2 (fun hle => ?_) (fun _ => ?_)⟩⟩
        · have sM := sL.trans s19
          have s1M := s1L.trans s19
          refine ⟨_, rfl, a, rfl, _, rfl, rd_call (hA.same sM) har (sM.seq hl) hc (fun i c h => (hcs i c h).same sM) fun u ru H18 _ _ s20 hU => ?_⟩
          have sN := sM.trans s20
          have s1N := s1M.trans s20
          refine ⟨_, rfl, b, rfl, _, rfl, rd_call (hB.same sN) har (SqL.of (s1N _ _ hbt)) hee (fun i c h => (hE i c h).same s1N) fun v rv H19 _ _ s21 hV => ?_⟩
          refine rd_le O (hU.at'.same s21) hV.at' n0' fun H20 s22 => ⟨_, _, .bool _, rfl, dp_b _, dp_e (ap_le hle fun i x h => List.mem_append_left _ h), dep_b _, sm_b _, _, rfl, ite_f rfl (nx _ _ ?_)⟩
          rw [hPm]
          exact ⟨rfl, (((s18.trans s19).trans s20).trans s21).trans s22⟩
        · refine ite_f rfl (nx _ _ ?_)
          rw [hPm]
          exact ⟨rfl, s18.trans s19⟩
      intro σ' H17 h17
      rw [hPm] at h17
      obtain ⟨rfl, s19⟩ := h17
      have sL := sK.trans s19
      refine ⟨_, rfl, _, rfl, rd_or (hA.same sL) (hB.same sL) har nW nW nrm_valid nrm_valid fun j rj H18 _ _ s20 hJ => ?_⟩
      have sM := sL.trans s20
      refine ⟨_, rfl, _, rfl, rd_or (hB.same sM) (hA.same sM) har nW nW nrm_valid nrm_valid fun t rt H19 _ _ s21 hT => ?_⟩
      rw [nrm_app] at hJ
      rw [nrm_app, nrm_comm] at hT
      refine ⟨j, t, ar, _, rfl, hJ.at'.same s21, hT.at', har, fun H20 s22 => ⟨_, rfl, ite_t rfl ?_⟩⟩
      have sN := (sM.trans s21).trans s22
      refine ⟨_, rfl, _, rfl, rd_or (hA.same sN) (hA.same sN) har nW nW nrm_valid nrm_valid fun j2 rj2 H21 _ _ s23 hJ2 => ?_⟩
      rw [nrm_app, nrm_mem_eq (ms := W) (fun w => by simp)] at hJ2
      have sO := sN.trans s23
      exact ⟨_, rfl, j2, a, ar, W, rfl, hJ2.at', hA.same sO, har, fun H22 s24 => k H22 (sO.trans s24)⟩
end
end Tw

set_option maxHeartbeats 400000
namespace Tw
open PySem PySem.Spec PyProof.Rows L2
section
variable {P : Program} {w : World} {K : Fg} {mg : Str → Option Value} {base : Heap}
def spCommands (K : Fg) (C : Addr) : Sp := fun vs H Q _ => ∃ (row cell : Addr) (ar : Nat), vs = [.ref row, .ref cell, .int ar] ∧ Drw K H row cell ∧ ar ≤ 4 ∧
  ∀ l H' (cs : List Addr) (f : Nat → List Wy), H l = none → Fra cell H H' → Drw K H' row cell → H' l = some (.lst (cs.map V.ref)) → cs.length = ar → CmL K C H' cell cs (fun i => nrm 0 (f i)) → Q (.ref l) H'
theorem sc_law_commands : FnScope ["_law_row_here", "_law_at", "_law_arity", "_law_commands_here", "_law_k", "_law_one"] ["_law_row_here", "_law_at", "_law_arity"] (defScope s_law_commands) := ⟨rfl, rfl, rfl, by decide +kernel, rfl, by decide +kernel, by decide +kernel⟩
theorem ok_law_commands {C : Addr} (D : Gd K mg "_law_commands" s_law_commands ["_law_row_here", "_law_at", "_law_arity"]) (T : Bi mg) (G_take : Ld P w K mg base CX0 1 "_law_take" (spTake K)) (C_command : Cm P w K mg base CX0 4 "Ability" C "command" (spCommand K C)) : Ld P w K mg base CX0 5 "_law_commands" (spCommands K C) := by
  have sc := sc_law_commands
  refine D.ld fun f F => F.fo sc (fun vs H Q E h => ?_) (fun cdv A outer s H vs Q E hr h => ?_)
  · obtain ⟨row, cell, ar, rfl, _⟩ := h
    rfl
  · obtain ⟨row, cell, ar, rfl, d, har, k⟩ := h
    have hr1 := hr.mono (show 1 ≤ 4 by decide)
    refine ⟨_, (pss_cons (ps_set (i := 3) sc.nd rfl (Or.inl rfl) (pe_lst pa_nil))
      (pss_cons (ps_for PassesOwn.never rfl (pi_range1 (by rfl) T.range (pa_cons (pv 2) pa_nil)) (pg_name (i := 4) sc.nd rfl (Or.inl rfl))
        (pss_one (ps_expr (pe_bm PySem.F.plainAttrs_list PySem.F.slot_list_append PySem.F.type_list_append mt_append (pv 3) (pa_cons (pe_cm C_command hr (by rfl) pass0 (pa_cons (pe_lc (own := [("_law_one", 5)]) rfl sc.nd (pi_range1 (by rfl) T.range (pa_cons (pe_ld G_take hr1 (by rfl) pass0 (pa_cons (pv 0) (pa_cons (pv 1) (pa_cons pe_int pa_nil)))) pa_nil)) (blkOk_by (own := [("_law_one", 5)]) (N := ["_law_row_here", "_law_at", "_law_arity", "_law_commands_here", "_law_k", "_law_one"]) (sc := defScope s_law_commands) (by decide +kernel)) (fun _ _ _ _ _ => (pg_name (i := 5) sc.nd rfl (Or.inl rfl))) (fun _ _ _ _ _ => pts_nil) (fun _ _ _ _ _ => (pe_ld G_take hr1 (by rfl) pass0 (pa_cons (pv 0) (pa_cons (pv 1) (pa_cons pe_int pa_nil)))))) pa_nil)) pa_nil)))))
      (pss_one (ps_ret (pv 3))))), ?_⟩
    have hdc : ∀ {H : Hp}, Drw K H row cell → ∃ o, H cell = some o := fun d => let ⟨c, _, h⟩ := d.cnt; ⟨_, h⟩
    have hdr : ∀ {H : Hp}, Drw K H row cell → ∃ o, H row = some o := fun d => let ⟨c, h⟩ := d.rws; ⟨_, h⟩
    refine ⟨Nat.zero_le _, fun l hl0 => ?_⟩
    have nlc : l ≠ cell := by
      obtain ⟨o, ho⟩ := hdc d
      exact (ne_of_none ho hl0).symm
    have nlr : l ≠ row := by
      obtain ⟨o, ho⟩ := hdr d
      exact (ne_of_none ho hl0).symm
    refine ⟨_, rfl, ar, rfl, by omega, by omega, for_range (n := ((ar : Int)).toNat) (fun i σ H' => ∃ (kk : Option V) (cs : List Addr), σ = [some (.ref row), some (.ref cell), some (.int ar), some (.ref l), kk, none] ∧ Fra cell H H' ∧ Drw K H' row cell ∧ H' l = some (.lst (cs.map V.ref)) ∧ cs.length = i ∧ ∀ (k : Nat) c, cs[k]? = some c → ∃ r X, AbL K C H' c r 0 (nrm 0 X) ∧ r ≠ cell ∧ c ≠ cell ∧ r ≠ l ∧ c ≠ l) ⟨none, [], rfl, .new hl0, d.new hl0, upd_same, rfl, fun k c h => (nomatch List.mem_of_getElem? h)⟩ ?_ ?_⟩
    · rintro i σ H6 hi ⟨kk, cs, rfl, f6, d6, hl6, hc6, hcs⟩
      refine ⟨_, rfl, .inl ⟨rfl, _, SqL.of hl6⟩, ?_⟩
      refine ⟨_, rfl, _, rfl, row, cell, 5, rfl, d6, by decide, fun n c3 hn0 hn1 hc3 => ?_⟩
      have g7 : Fra cell H6 (upd H6 cell (.lst [.int c3])) := .put
      have d7 := d6.put hc3
      generalize upd H6 cell (.lst [.int c3]) = H7 at g7 d7 ⊢
      refine ⟨n, rfl, by omega, by omega, fun st hst0 => ?_⟩
      have nstc : cell ≠ st := by
        obtain ⟨o, ho⟩ := hdc d7
        exact ne_of_none ho hst0
      have nstr : row ≠ st := by
        obtain ⟨o, ho⟩ := hdr d7
        exact ne_of_none ho hst0
      refine walk_rng (n := n.toNat) (fun i H' => ∃ ps : List Int, Fra cell H7 H' ∧ Drw K H' row cell ∧ H' st = some (.lst (ps.map V.int)) ∧ ps.length ≤ i ∧ ∀ q ∈ ps, 0 ≤ q ∧ q < 4) ⟨[], .new hst0, d7.new hst0, upd_same, Nat.le_refl _, fun q h => (nomatch h)⟩ ?_ ?_
      · rintro i H' hi ⟨ps, fr, d', hst, pl, hps⟩
        refine ⟨rfl, ?_⟩
        refine ⟨_, rfl, _, rfl, row, cell, 4, rfl, d', by decide, fun q c4 hq0 hq1 hc4 => ⟨ps.map V.int, by rw [upd_ne nstc.symm]; exact hst, big_lt (by rw [List.length_map]; omega), ?_⟩⟩
        refine ⟨ps ++ [q], (fr.trans .put).mut hst0, (d'.put hc4).mut nstr nstc, by rw [upd_same, List.map_append]; rfl, by rw [List.length_append, List.length_singleton]; omega, fun z hz => ?_⟩
        rcases List.mem_append.mp hz with h | h
        · exact hps z h
        · rw [List.mem_singleton.mp h]; exact ⟨hq0, hq1⟩
      · rintro H8 ⟨ps, f8, d8, hst, pl, hps⟩
        have f68 := g7.trans f8
        have t68 := d6.tups f68
        refine ⟨st, ps, rfl, SqL.of hst, by omega, hps, fun c r H9 hc0 hr0 s9 hC => ?_⟩
        have f69 := f68.trans (.same s9)
        have d9 := d8.same s9
        have hl9 : H9 l = some (.lst (cs.map V.ref)) := f69 _ _ nlc hl6
        have hl8 : H8 l = some (.lst (cs.map V.ref)) := f68 _ _ nlc hl6
        refine ⟨l, cs.map V.ref, _, rfl, rfl, hl9, big_lt (by rw [List.length_map]; omega), ?_⟩
        have g : Fra l H9 (upd H9 l (.lst (cs.map V.ref ++ [.ref c]))) := .put
        have t9 := d6.tups f69
        obtain ⟨oc, hoc⟩ := hdc d8
        refine ⟨_, cs ++ [c], rfl, (f6.trans f69).mut hl0, d9.mut nlr.symm nlc.symm, by rw [upd_same, List.map_append]; rfl, by rw [List.length_append, hc6]; rfl, fun j e he => ?_⟩
        by_cases hj : j < cs.length
        · rw [List.getElem?_append_left hj] at he
          obtain ⟨r', X, h1, h2, h3, h4, h5⟩ := hcs j e he
          exact ⟨r', X, (h1.fra f69 t9 h3 h2).fra g (.lst hl9) h5 h4, h2, h3, h4, h5⟩
        · have hj' : j = cs.length := by
            have := (List.getElem?_eq_some_iff.mp he).1
            rw [List.length_append, List.length_singleton] at this
            omega
          subst hj'
          rw [List.getElem?_append_right (Nat.le_refl _), Nat.sub_self] at he
          cases he
          have nrl : r ≠ l := (ne_of_none hl8 hr0).symm
          have ncl : c ≠ l := (ne_of_none hl8 hc0).symm
          exact ⟨r, _, hC.fra g (.lst hl9) ncl nrl, (ne_of_none hoc hr0).symm, (ne_of_none hoc hc0).symm, nrl, ncl⟩
    · rintro σ H6 ⟨kk, cs, rfl, f6, d6, hl6, hc6, hcs⟩
      rw [Int.toNat_natCast] at hc6
      have ch : ∀ k : Nat, ∃ X : List Wy, ∀ c, cs[k]? = some c → ∃ r, AbL K C H6 c r 0 (nrm 0 X) ∧ r ≠ cell ∧ c ≠ cell := fun k => by
        cases e : cs[k]? with
        | none => exact ⟨[], fun c h => by cases h⟩
        | some c =>
          obtain ⟨r, X, h1, h2, h3, _⟩ := hcs k c e
          exact ⟨X, fun c' h => by cases h; exact ⟨r, h1, h2, h3⟩⟩
      obtain ⟨f, hf⟩ := Classical.axiomOfChoice ch
      exact ⟨_, rfl, k l H6 cs f hl0 f6 d6 hl6 hc6 hf⟩
end
end Tw

set_option maxHeartbeats 400000
namespace Tw
open PySem PySem.Spec PyProof.Rows L2
section
variable {P : Program} {w : World} {K : Fg} {mg : Str → Option Value} {base : Heap}
def spLaw (K : Fg) : Sp := fun vs H Q _ => ∃ (a : Addr) (ns : List Int), vs = [.ref a] ∧ SqL K H a (ns.map V.int) ∧ ∀ H', Q (.bl true) H'
abbrev nL : List Str := ["_law_script", "_law_row_here", "_law_at", "_law_arity", "_law_first", "_law_second", "_law_third", "_law_some", "_law_others", "_law_deed", "_law_pick"]
theorem sc_law : FnScope nL ["_law_script"] (defScope s_law) := ⟨rfl, rfl, rfl, by decide +kernel, rfl, by decide +kernel, by decide +kernel⟩
def Ab3 (K : Fg) (C cell : Addr) (ar : Nat) (H : Hp) (a : Addr) (W : List Wy) : Prop := ∃ r, AbL K C H a r ar (nrm ar W) ∧ a ≠ cell ∧ r ≠ cell
theorem Ab3.fra {C cell : Addr} {ar : Nat} {H H' : Hp} {a : Addr} {W : List Wy} (f : Fra cell H H') (t : Tups K H H') (h : Ab3 K C cell ar H a W) : Ab3 K C cell ar H' a W := let ⟨r, h1, h2, h3⟩ := h; ⟨r, h1.fra f t h2 h3, h2, h3⟩
theorem Ab3.same {C cell : Addr} {ar : Nat} {H H' : Hp} {a : Addr} {W : List Wy} (s : Same H H') (h : Ab3 K C cell ar H a W) : Ab3 K C cell ar H' a W := let ⟨r, h1, h2, h3⟩ := h; ⟨r, h1.same s, h2, h3⟩
theorem Ab3.at' {C cell : Addr} {ar : Nat} {H : Hp} {a : Addr} {W : List Wy} (h : Ab3 K C cell ar H a W) : AbAt K C H a ar (nrm ar W) := let ⟨_, h1, _⟩ := h; h1.at'
structure Cm3 (K : Fg) (C cell : Addr) (ar : Nat) (H : Hp) (l : Addr) (cs : List Addr) (f : Nat → List Wy) : Prop where
  lst : H l = some (.lst (cs.map V.ref))
  ne : l ≠ cell
  len : cs.length = ar
  at_ : CmL K C H cell cs (fun i => nrm 0 (f i))
theorem Cm3.fra {C cell : Addr} {ar : Nat} {H H' : Hp} {l : Addr} {cs : List Addr} {g : Nat → List Wy} (f : Fra cell H H') (t : Tups K H H') (h : Cm3 K C cell ar H l cs g) : Cm3 K C cell ar H' l cs g :=
  ⟨f _ _ h.ne h.lst, h.ne, h.len, fun k c hk => let ⟨r, h1, h2, h3⟩ := h.at_ k c hk; ⟨r, h1.fra f t h3 h2, h2, h3⟩⟩
theorem Cm3.same {C cell : Addr} {ar : Nat} {H H' : Hp} {l : Addr} {cs : List Addr} {g : Nat → List Wy} (s : Same H H') (h : Cm3 K C cell ar H l cs g) : Cm3 K C cell ar H' l cs g :=
  ⟨s _ _ h.lst, h.ne, h.len, fun k c hk => let ⟨r, h1, h2, h3⟩ := h.at_ k c hk; ⟨r, h1.same s, h2, h3⟩⟩
theorem Cm3.at' {C cell : Addr} {ar : Nat} {H : Hp} {l : Addr} {cs : List Addr} {g : Nat → List Wy} (h : Cm3 K C cell ar H l cs g) : ∀ i c, cs[i]? = some c → AbAt K C H c 0 (nrm 0 (g i)) := fun i c hi => let ⟨_, h1, _⟩ := h.at_ i c hi; h1.at'
theorem rd_lin {C cell a b l m : Addr} {ar : Nat} {H : Hp} {W M : List Wy} {cs ds : List Addr} {f g : Nat → List Wy} {E : XK} {Q : VK} (har : ar ≤ 4) (hA : Ab3 K C cell ar H a W) (hB : Ab3 K C cell ar H b M) (hl : Cm3 K C cell ar H l cs f) (hm : Cm3 K C cell ar H m ds g) (q : ∀ H', Same H H' → Q (.bl true) H') : spLinear K C [.ref a, .ref b, .ref l, .ref m] H Q E :=
  ⟨a, b, l, m, ar, W, M, cs, ds, f, g, rfl, hA.at', hB.at', har, SqL.of hl.lst, SqL.of hm.lst, hl.len, hm.len, hl.at', hm.at', q⟩
theorem ok_law {C : Addr} (D : Gd K mg "law" s_law ["_law_script"]) (T : Bi mg) (O : OwnC K C) (G_row : Ld P w K mg base CX0 1 "_law_row" (spRow K)) (G_take : Ld P w K mg base CX0 1 "_law_take" (spTake K)) (G_any : Ld P w K mg base CX0 2 "_law_any_ways" (spAny K)) (G_equal : Ld P w K mg base CX0 5 "_law_equal" (spEqual K C)) (G_linear : Ld P w K mg base CX0 6 "_law_linear" (spLinear K C))
    (G_commands : Ld P w K mg base CX0 5 "_law_commands" (spCommands K C)) (N_Ability : Nw P w K mg base CX0 2 "Ability" C (spAbInit K C)) (M_or : Md P w K mg base CX0 4 C "__or__" (spOr K C)) :
    La P w K mg base CX0 7 s_law (spLaw K) := by
  have sc := sc_law
  refine D.law sc (fun vs H Q E h => ?_) (fun f cdv A outer s H vs Q E hr h => ?_)
  · obtain ⟨a, ns, rfl, _⟩ := h
    rfl
  · obtain ⟨a, ns, rfl, hS, k⟩ := h
    have hr1 := hr.mono (show 1 ≤ 6 by decide)
    have hr2 := hr.mono (show 2 ≤ 6 by decide)
    have hr3 := hr.mono (show 3 ≤ 6 by decide)
    have hr4 := hr.mono (show 4 ≤ 6 by decide)
    have hr5 := hr.mono (show 5 ≤ 6 by decide)
    refine ⟨_, (pss_cons (ps_set (i := 1) sc.nd rfl (Or.inl rfl) (pe_ld G_row hr1 (by rfl) pass0 (pa_cons (pv 0) pa_nil)))
      (pss_cons (ps_set (i := 2) sc.nd rfl (Or.inl rfl) (pe_lst (pa_cons pe_int pa_nil)))
      (pss_cons (ps_set (i := 3) sc.nd rfl (Or.inl rfl) (pe_ld G_take hr1 (by rfl) pass0 (pa_cons (pv 1) (pa_cons (pv 2) (pa_cons pe_int pa_nil)))))
      (pss_cons (ps_set (i := 4) sc.nd rfl (Or.inl rfl) (pe_mk N_Ability hr3 (by rfl) pass0 (pa_cons (pv 3) (pa_cons (pe_ld G_any hr2 (by rfl) pass0 (pa_cons (pv 1) (pa_cons (pv 2) (pa_cons (pv 3) pa_nil)))) pa_nil))))
      (pss_cons (ps_set (i := 5) sc.nd rfl (Or.inl rfl) (pe_mk N_Ability hr3 (by rfl) pass0 (pa_cons (pv 3) (pa_cons (pe_ld G_any hr2 (by rfl) pass0 (pa_cons (pv 1) (pa_cons (pv 2) (pa_cons (pv 3) pa_nil)))) pa_nil))))
      (pss_cons (ps_set (i := 6) sc.nd rfl (Or.inl rfl) (pe_mk N_Ability hr3 (by rfl) pass0 (pa_cons (pv 3) (pa_cons (pe_ld G_any hr2 (by rfl) pass0 (pa_cons (pv 1) (pa_cons (pv 2) (pa_cons (pv 3) pa_nil)))) pa_nil))))
      (pss_cons (ps_set (i := 7) sc.nd rfl (Or.inl rfl) (pe_ld G_commands hr5 (by rfl) pass0 (pa_cons (pv 1) (pa_cons (pv 2) (pa_cons (pv 3) pa_nil)))))
      (pss_cons (ps_set (i := 8) sc.nd rfl (Or.inl rfl) (pe_ld G_commands hr5 (by rfl) pass0 (pa_cons (pv 1) (pa_cons (pv 2) (pa_cons (pv 3) pa_nil)))))
      (pss_cons (ps_if (PW.pt (pw_or (pt_not (pt_val (pe_ld G_linear hr (by rfl) pass0 (pa_cons (pv 4) (pa_cons (pv 5) (pa_cons (pv 7) (pa_cons (pv 8) pa_nil))))))) (pw_or1 (pt_not (pt_val (pe_ld G_linear hr (by rfl) pass0 (pa_cons (pv 5) (pa_cons (pv 4) (pa_cons (pv 8) (pa_cons (pv 7) pa_nil))))))))))
        (pss_one (ps_ret pe_bl))
        pss_nil)
      (pss_cons (ps_for PassesOwn.never rfl (pi_range1 (by rfl) T.range (pa_cons (pe_op op_add pe_int (pe_ld G_take hr1 (by rfl) pass0 (pa_cons (pv 1) (pa_cons (pv 2) (pa_cons pe_int pa_nil))))) pa_nil)) (pg_name (i := 9) sc.nd rfl (Or.inl rfl))
        (pss_cons (ps_set (i := 10) sc.nd rfl (Or.inl rfl) (pe_ld G_take hr1 (by rfl) pass0 (pa_cons (pv 1) (pa_cons (pv 2) (pa_cons pe_int pa_nil)))))
        (pss_cons (ps_if (pt_not (pt_val (pe_ld G_equal hr5 (by rfl) pass0 (pa_cons (pe_op (op_orO M_or O.sf hr4 pass0) (pe_op (op_orO M_or O.sf hr4 pass0) (pv 4) (pv 5)) (pv 6)) (pa_cons (pe_op (op_orO M_or O.sf hr4 pass0) (pv 4) (pe_op (op_orO M_or O.sf hr4 pass0) (pv 5) (pv 6))) pa_nil)))))
          (pss_one (ps_ret pe_bl))
          pss_nil)
        (pss_cons (ps_if (pt_cmpR op_eq (pv 10) pe_int (nomark _))
          (pss_one (ps_set (i := 4) sc.nd rfl (Or.inl rfl) (pe_op (op_orO M_or O.sf hr4 pass0) (pv 4) (pv 5))))
          pss_nil)
        (pss_cons (ps_if (pt_cmpR op_eq (pv 10) pe_int (nomark _))
          (pss_one (ps_set (i := 6) sc.nd rfl (Or.inl rfl) (pe_op (op_orO M_or O.sf hr4 pass0) (pv 5) (pv 6))))
          pss_nil)
        (pss_cons (ps_if (pt_cmpR op_eq (pv 10) pe_int (nomark _))
          (pss_one (ps_set (i := 5) sc.nd rfl (Or.inl rfl) (pe_op (op_orO M_or O.sf hr4 pass0) (pv 5) (pv 4))))
          pss_nil)
        (pss_one (ps_if (PW.pt (pw_or (pt_not (pt_val (pe_ld G_linear hr (by rfl) pass0 (pa_cons (pv 4) (pa_cons (pv 5) (pa_cons (pv 7) (pa_cons (pv 8) pa_nil))))))) (pw_or1 (pt_not (pt_val (pe_ld G_linear hr (by rfl) pass0 (pa_cons (pv 5) (pa_cons (pv 6) (pa_cons (pv 8) (pa_cons (pv 7) pa_nil))))))))))
          (pss_one (ps_ret pe_bl))
          pss_nil))))))))
      (pss_one (ps_ret pe_bl)))))))))))), ?_⟩
    refine ⟨_, rfl, a, ns, rfl, hS, fun row ms H1 hrow0 s1 hrow => ?_⟩
    refine ⟨(by show 1 ≤ sizeLine; decide), fun cell hcell0 => ?_⟩
    have d2 : Drw K (upd H1 cell (.lst [.int 0])) row cell := ⟨⟨ms, by rw [upd_ne (ne_of_none hrow hcell0)]; exact hrow⟩, ne_of_none hrow hcell0, 0, Int.le_refl _, upd_same⟩
    generalize upd H1 cell (.lst [.int 0]) = H2 at d2 ⊢
    have hdc : ∀ {H : Hp}, Drw K H row cell → ∃ o, H cell = some o := fun d => let ⟨c, _, h⟩ := d.cnt; ⟨_, h⟩
    have newc : ∀ {H : Hp} {q : Addr}, Drw K H row cell → H q = none → q ≠ cell := fun d h0 => by
      obtain ⟨o, ho⟩ := hdc d
      exact (ne_of_none ho h0).symm
    refine ⟨_, rfl, _, rfl, row, cell, 4, rfl, d2, by decide, fun ar' c1 ha0 ha1 hc1 => ?_⟩
    obtain ⟨ar, rfl⟩ : ∃ n : Nat, ar' = (n : Int) := ⟨ar'.toNat, by omega⟩
    have har : ar ≤ 4 := by omega
    have d3 := d2.put hc1
    generalize upd H2 cell (.lst [.int c1]) = H3 at d3 ⊢
    refine ⟨_, rfl, _, rfl, _, rfl, _, rfl, row, cell, ar, rfl, d3, har, fun l4 H4 W1 hl40 f4 d4 hL4 wl4 hw4 => ?_⟩
    refine rd_new hL4 (by omega) hw4 har fun a1 r1 H5 ha10 hr10 s5 hA5 => ?_
    have d5 := d4.same s5
    have hA5 : Ab3 K C cell ar H5 a1 W1 := ⟨r1, hA5, newc d4 ha10, newc d4 hr10⟩
    refine ⟨_, rfl, _, rfl, _, rfl, _, rfl, row, cell, ar, rfl, d5, har, fun l6 H6 W2 hl60 f6 d6 hL6 wl6 hw6 => ?_⟩
    have hA6 := hA5.fra f6 (d5.tups f6)
    refine rd_new hL6 (by omega) hw6 har fun a2 r2 H7 ha20 hr20 s7 hB7 => ?_
    have d7 := d6.same s7
    have hA7 := hA6.same s7
    have hB7 : Ab3 K C cell ar H7 a2 W2 := ⟨r2, hB7, newc d6 ha20, newc d6 hr20⟩
    refine ⟨_, rfl, _, rfl, _, rfl, _, rfl, row, cell, ar, rfl, d7, har, fun l8 H8 W3 hl80 f8 d8 hL8 wl8 hw8 => ?_⟩
    have hA8 := hA7.fra f8 (d7.tups f8)
    have hB8 := hB7.fra f8 (d7.tups f8)
    refine rd_new hL8 (by omega) hw8 har fun a3 r3 H9 ha30 hr30 s9 hC9 => ?_
    have d9 := d8.same s9
    have hA9 := hA8.same s9
    have hB9 := hB8.same s9
    have hC9 : Ab3 K C cell ar H9 a3 W3 := ⟨r3, hC9, newc d8 ha30, newc d8 hr30⟩
    refine ⟨_, rfl, _, rfl, _, rfl, row, cell, ar, rfl, d9, har, fun l H10 cs f hl0 f10 d10 hl10 hlc hcs => ?_⟩
    have t10 := d9.tups f10
    have hA10 := hA9.fra f10 t10
    have hB10 := hB9.fra f10 t10
    have hC10 := hC9.fra f10 t10
    have hl10 : Cm3 K C cell ar H10 l cs f := ⟨hl10, newc d9 hl0, hlc, hcs⟩
    refine ⟨_, rfl, _, rfl, _, rfl, row, cell, ar, rfl, d10, har, fun m H11 ds g hm0 f11 d11 hm11 hmc hds => ?_⟩
    have t11 := d10.tups f11
    have hA11 := hA10.fra f11 t11
    have hB11 := hB10.fra f11 t11
    have hC11 := hC10.fra f11 t11
    have hl11 := hl10.fra f11 t11
    have hm11 : Cm3 K C cell ar H11 m ds g := ⟨hm11, newc d10 hm0, hmc, hds⟩
    refine ⟨_, rfl, _, rfl, _, rfl, _, rfl, ?_⟩
    delta tNil
    refine rd_lin har hA11 hB11 hl11 hm11 fun H12 s12 => ⟨_, rfl, ?_⟩
    refine ite_f rfl ⟨_, rfl, _, rfl, _, rfl, _, rfl, ?_⟩
    refine rd_lin har (hB11.same s12) (hA11.same s12) (hm11.same s12) (hl11.same s12) fun H13 s13 => ⟨_, rfl, ite_f rfl ?_⟩
    have s12 := s12.trans s13
    have d13 := d11.same s12
    have hA13 := hA11.same s12
    have hB13 := hB11.same s12
    have hC13 := hC11.same s12
    have hl13 := hl11.same s12
    have hm13 := hm11.same s12
    clear hA11 hB11 hC11 hl11 hm11 hA10 hB10 hC10 hl10 hA9 hB9 hC9 hA8 hB8 hA7 hB7 hA6 hA5
    have nW : ∀ {ws : List Wy}, (nrm ar ws).length ≤ 1000 := Nat.le_trans (nrm_rows_len har) (by decide)
    refine ⟨_, rfl, _, rfl, row, cell, 4, rfl, d13, by decide, fun n c3 hn0 hn1 hc3 => ?_⟩
    have f14 : Fra cell H13 (upd H13 cell (.lst [.int c3])) := .put
    have t14 := d13.tups f14
    have d14 := d13.put hc3
    have hA14 := hA13.fra f14 t14
    have hB14 := hB13.fra f14 t14
    have hC14 := hC13.fra f14 t14
    have hl14 := hl13.fra f14 t14
    have hm14 := hm13.fra f14 t14
    generalize upd H13 cell (.lst [.int c3]) = H14 at d14 hA14 hB14 hC14 hl14 hm14 ⊢
    have j1 : ∃ Iv : L2.St → Hp → Option V → Option V → Prop, Iv = fun σ' H' de pk => ∃ a1 a2 a3 W1 W2 W3, σ' = [some (.ref a), some (.ref row), some (.ref cell), some (.int ar), some (.ref a1), some (.ref a2), some (.ref a3), some (.ref l), some (.ref m), de, pk] ∧ Drw K H' row cell ∧ Ab3 K C cell ar H' a1 W1 ∧ Ab3 K C cell ar H' a2 W2 ∧ Ab3 K C cell ar H' a3 W3 ∧ Cm3 K C cell ar H' l cs f ∧ Cm3 K C cell ar H' m ds g := ⟨_, rfl⟩
    obtain ⟨Iv, hIv⟩ := j1
    refine ⟨_, _, rfl, rfl, 1 + n, rfl, by omega, by omega, for_range (n := (1 + n).toNat) (fun i σ H' => ∃ de pk, Iv σ H' de pk) ⟨none, none, by rw [hIv]; exact ⟨_, _, _, _, _, _, rfl, d14, hA14, hB14, hC14, hl14, hm14⟩⟩ ?_ fun σ H' _ => k H'⟩
    clear hA14 hB14 hC14 hl14 hm14 d14 t14 hA13 hB13 hC13 hl13 hm13 d13
    rintro i σ H1 hi ⟨de, pk, h⟩
    rw [hIv] at h
    obtain ⟨a1, a2, a3, W1, W2, W3, rfl, d1, hA, hB, hC, hl, hm⟩ := h
    refine ⟨_, rfl, _, rfl, row, cell, 3, rfl, d1, by decide, fun pk' c hp0 hp1 hc => ?_⟩
    have f2 : Fra cell H1 (upd H1 cell (.lst [.int c])) := .put
    have t2 := d1.tups f2
    have d2 := d1.put hc
    have hA := hA.fra f2 t2
    have hB := hB.fra f2 t2
    have hC := hC.fra f2 t2
    have hl := hl.fra f2 t2
    have hm := hm.fra f2 t2
    generalize upd H1 cell (.lst [.int c]) = H2 at d2 hA hB hC hl hm ⊢
    refine ⟨_, rfl, _, rfl, rd_or hA.at' hB.at' har nW nW nrm_valid nrm_valid fun x rx H3 _ _ s3 hX => ?_⟩
    rw [nrm_app] at hX
    refine ⟨_, rfl, rd_or hX.at' (hC.at'.same s3) har nW nW nrm_valid nrm_valid fun y ry H4 _ _ s4 hY => ?_⟩
    rw [nrm_app] at hY
    have s24 := s3.trans s4
    refine ⟨_, rfl, _, rfl, _, rfl, rd_or (hB.at'.same s24) (hC.at'.same s24) har nW nW nrm_valid nrm_valid fun z rz H5 _ _ s5 hZ => ?_⟩
    rw [nrm_app] at hZ
    refine rd_or (hA.at'.same (s24.trans s5)) hZ.at' har nW nW nrm_valid nrm_valid fun u ru H6 _ _ s6 hU => ?_
    rw [nrm_app, ← List.append_assoc] at hU
    refine ⟨y, u, ar, _, rfl, hY.at'.same (s5.trans s6), hU.at', har, fun H7 s7 => ⟨_, rfl, ite_f rfl ?_⟩⟩
    have s27 := ((s24.trans s5).trans s6).trans s7
    have d7 := d2.same s27
    have hA := hA.same s27
    have hB := hB.same s27
    have hC := hC.same s27
    have hl := hl.same s27
    have hm := hm.same s27
    clear hX hY hZ hU
    have stp : ∀ {σ' : L2.St} {H' : Hp} {de pk : Option V} {a1 a2 a3 : Addr} {W1 W2 W3 : List Wy}, σ' = [some (.ref a), some (.ref row), some (.ref cell), some (.int ar), some (.ref a1), some (.ref a2), some (.ref a3), some (.ref l), some (.ref m), de, pk] → Drw K H' row cell → Ab3 K C cell ar H' a1 W1 → Ab3 K C cell ar H' a2 W2 → Ab3 K C cell ar H' a3 W3 → Cm3 K C cell ar H' l cs f → Cm3 K C cell ar H' m ds g → Iv σ' H' de pk := fun e h1 h2 h3 h4 h5 h6 => by
      rw [hIv]
      exact ⟨_, _, _, _, _, _, e, h1, h2, h3, h4, h5, h6⟩
    delta tNext
    dsimp only
    refine seq_cut (fun σ' H' => Iv σ' H' (some (.int (0 + (i : Int)))) (some (.int pk'))) ?_ fun nx => ?_
    rotate_left
    · refine ⟨_, rfl, rfl, _, rfl, ite2 (fun _ => ?_) (fun _ => ?_)⟩
      · refine ⟨_, rfl, _, rfl, rd_or hA.at' hB.at' har nW nW nrm_valid nrm_valid fun x rx H8 hx0 hrx0 s8 hX => nx _ _ ?_⟩
        rw [nrm_app] at hX
        exact stp rfl (d7.same s8) ⟨rx, hX, newc d7 hx0, newc d7 hrx0⟩ (hB.same s8) (hC.same s8) (hl.same s8) (hm.same s8)
      · exact nx _ _ (stp rfl d7 hA hB hC hl hm)
    clear hA hB hC hl hm d7
    intro σ8 H8 h8
    rw [hIv] at h8
    obtain ⟨a1, a2, a3, W1, W2, W3, rfl, d8, hA, hB, hC, hl, hm⟩ := h8
    refine seq_cut (fun σ' H' => Iv σ' H' (some (.int (0 + (i : Int)))) (some (.int pk'))) ?_ fun nx => ?_
    rotate_left
    · refine ⟨_, rfl, rfl, _, rfl, ite2 (fun _ => ?_) (fun _ => ?_)⟩
      · refine ⟨_, rfl, _, rfl, rd_or hB.at' hC.at' har nW nW nrm_valid nrm_valid fun x rx H9 hx0 hrx0 s9 hX => nx _ _ ?_⟩
        rw [nrm_app] at hX
        exact stp rfl (d8.same s9) (hA.same s9) (hB.same s9) ⟨rx, hX, newc d8 hx0, newc d8 hrx0⟩ (hl.same s9) (hm.same s9)
      · exact nx _ _ (stp rfl d8 hA hB hC hl hm)
    clear hA hB hC hl hm d8
    intro σ9 H9 h9
    rw [hIv] at h9
    obtain ⟨a1, a2, a3, W1, W2, W3, rfl, d9, hA, hB, hC, hl, hm⟩ := h9
    refine seq_cut (fun σ' H' => Iv σ' H' (some (.int (0 + (i : Int)))) (some (.int pk'))) ?_ fun nx => ?_
    rotate_left
    · refine ⟨_, rfl, rfl, _, rfl, ite2 (fun _ => ?_) (fun _ => ?_)⟩
      · refine ⟨_, rfl, _, rfl, rd_or hB.at' hA.at' har nW nW nrm_valid nrm_valid fun x rx H10 hx0 hrx0 s10 hX => nx _ _ ?_⟩
        rw [nrm_app] at hX
        exact stp rfl (d9.same s10) (hA.same s10) ⟨rx, hX, newc d9 hx0, newc d9 hrx0⟩ (hC.same s10) (hl.same s10) (hm.same s10)
      · exact nx _ _ (stp rfl d9 hA hB hC hl hm)
    clear hA hB hC hl hm d9
    intro σ10 H10 h10
    rw [hIv] at h10
    obtain ⟨a1, a2, a3, W1, W2, W3, rfl, d10, hA, hB, hC, hl, hm⟩ := h10
    refine ⟨_, rfl, _, rfl, _, rfl, _, rfl, ?_⟩
    refine rd_lin har hA hB hl hm fun H12 s12 => ⟨_, rfl, ?_⟩
    refine ite_f rfl ⟨_, rfl, _, rfl, _, rfl, _, rfl, ?_⟩
    refine rd_lin har (hB.same s12) (hC.same s12) (hm.same s12) (hl.same s12) fun H13 s13 => ⟨_, rfl, ite_f rfl ?_⟩
    have s := s12.trans s13
    exact ⟨_, _, stp rfl (d10.same s) (hA.same s) (hB.same s) (hC.same s) (hl.same s) (hm.same s)⟩
theorem law_in {H : Hp} {a : Addr} {ns : List Int} (_ : ns.length ≤ 63) (h : SqL K H a (ns.map V.int)) : spLaw K [.ref a] H (fun v _ => v = .bl true) fun _ _ _ => False := ⟨a, ns, rfl, h, fun _ => rfl⟩
end
end Tw

set_option maxHeartbeats 0
namespace Tw
open PySem PySem.Spec PyProof.Rows L2
/-! ### the head -/
def dz0 : Dz := ⟨.glo "law", "law", "law", s_law⟩
def dz1 : Dz := ⟨.glo "_law_row", "_law_row", "_law_row", s_law_row⟩
def dz2 : Dz := ⟨.glo "_law_take", "_law_take", "_law_take", s_law_take⟩
def dz3 : Dz := ⟨.glo "_law_any_ways", "_law_any_ways", "_law_any_ways", s_law_any_ways⟩
def dz4 : Dz := ⟨.glo "_law_same", "_law_same", "_law_same", s_law_same⟩
def dz5 : Dz := ⟨.glo "_law_commands", "_law_commands", "_law_commands", s_law_commands⟩
def dz6 : Dz := ⟨.glo "_law_equal", "_law_equal", "_law_equal", s_law_equal⟩
def dz7 : Dz := ⟨.glo "_law_linear", "_law_linear", "_law_linear", s_law_linear⟩
def dz8 : Dz := ⟨.glo "is_way", "is_way", "is_way", s_is_way⟩
def dz9 : Dz := ⟨.glo "normal_ways", "normal_ways", "normal_ways", s_normal_ways⟩
def dz10 : Dz := ⟨.glo "has_way", "has_way", "has_way", s_has_way⟩
def dz11 : Dz := ⟨.met "Ability" "__init__", "__init__", "Ability.__init__", s_Ability___init__⟩
def dz12 : Dz := ⟨.cme "Ability" "command", "command", "Ability.command", s_Ability_command⟩
def dz13 : Dz := ⟨.pro "Ability" "arity", "arity", "Ability.arity", s_Ability_arity⟩
def dz14 : Dz := ⟨.pro "Ability" "ways", "ways", "Ability.ways", s_Ability_ways⟩
def dz15 : Dz := ⟨.met "Ability" "__contains__", "__contains__", "Ability.__contains__", s_Ability___contains__⟩
def dz16 : Dz := ⟨.met "Ability" "__eq__", "__eq__", "Ability.__eq__", s_Ability___eq__⟩
def dz17 : Dz := ⟨.met "Ability" "__or__", "__or__", "Ability.__or__", s_Ability___or__⟩
def dz18 : Dz := ⟨.met "Ability" "__le__", "__le__", "Ability.__le__", s_Ability___le__⟩
def dz19 : Dz := ⟨.met "Ability" "__call__", "__call__", "Ability.__call__", s_Ability___call__⟩
def dzs : List Dz := [dz0, dz1, dz2, dz3, dz4, dz5, dz6, dz7, dz8, dz9, dz10, dz11, dz12, dz13, dz14, dz15, dz16, dz17, dz18, dz19]
def fzs : List Fz := [.fa (.free "len"),
  .fa (.free "int"),
  .fa (.free "list"),
  .fa (.free "range"),
  .fa (.free "any"),
  .fa (.free "all"),
  .fa (.free "isinstance"),
  .fa (.free "str"),
  .fa (.free "tuple"),
  .fa (.free "bool"),
  .fa (.free "iter"),
  .fa (.free "dict"),
  .fa (.free "sum"),
  .fa (.glo "law"),
  .fa (.glo "_law_row"),
  .fa (.glo "_law_take"),
  .fa (.glo "_law_any_ways"),
  .fa (.glo "_law_same"),
  .fa (.glo "_law_commands"),
  .fa (.glo "_law_equal"),
  .fa (.glo "_law_linear"),
  .fa (.glo "is_way"),
  .fa (.glo "normal_ways"),
  .fa (.glo "has_way"),
  .fa (.glo "Ability"),
  .fa (.mkr "Ability"),
  .cme "Ability" "command",
  .fa (.cls "Ability"),
  .pro "Ability" "arity",
  .pro "Ability" "ways",
  .fa (.meth "Ability" "__contains__"),
  .fa (.meth "Ability" "__eq__"),
  .fa (.meth "Ability" "__or__"),
  .fa (.meth "Ability" "__le__"),
  .fa (.meth "Ability" "__call__"),
  .fa (.noat "Ability" "taken"),
  .fa (.noat "Ability" "rows"),
  .chk (fun K => ownB K (He.ga K "Ability")),
  .fa (.glo "Watcher"),
  .con "Watcher" "MOST" (.int 4)]
abbrev RW0 : PySem.W.OpenRow := PySem.W.OpenLaw.row PySem.Challenge.rw_tailwatch_k11_ability_class_whole
abbrev hk : PySem.W.Hook := hookZ 7 fzs dzs
def ob (s : PySem.W.SharedT) : AlZ := obsZG 7 fzs dzs (HandSHeadRun.getT s)
theorem ob_eq (s : PySem.W.SharedT) : ob s = hk.obs s.abs := obsZG_eq (HandSHeadRun.getT_eq s)
abbrev loose : List Str := ["_wall", "TailwatchError", "BadWatcher", "BadWay", "KindMismatch", "check_parts", "Watcher", "is_way", "normal_ways", "has_way", "Ability", "_law_row", "_law_take", "_law_any_ways", "_law_same", "_law_commands", "_law_equal", "_law_linear"]
theorem run (w : World) : HandSHeadRun.RunEq RW0 (PySem.W.view RW0.prog [22]) hk ob 6000 loose w := by
  intro os
  kernel_rfl
theorem facts_law {P : Program} {w : World} {K : Fg} {h : Heap} {mg : Str → Option Value} (X : K.In h) (G : h.Ns mainGlobals mg) (c : SaysZ fzs dzs K) (base : Heap) : La P w K mg base CX0 7 s_law (spLaw K) := by
  have T : Bi mg := ⟨He.free_ok X G (c.fact 0 (f := .fa (.free "len"))), He.free_ok X G (c.fact 1 (f := .fa (.free "int"))), He.free_ok X G (c.fact 2 (f := .fa (.free "list"))), He.free_ok X G (c.fact 3 (f := .fa (.free "range"))), He.free_ok X G (c.fact 4 (f := .fa (.free "any"))), He.free_ok X G (c.fact 5 (f := .fa (.free "all"))), He.free_ok X G (c.fact 6 (f := .fa (.free "isinstance"))), He.free_ok X G (c.fact 7 (f := .fa (.free "str"))), He.free_ok X G (c.fact 8 (f := .fa (.free "tuple"))), He.free_ok X G (c.fact 9 (f := .fa (.free "bool"))), He.free_ok X G (c.fact 10 (f := .fa (.free "iter"))), He.free_ok X G (c.fact 11 (f := .fa (.free "dict"))), He.free_ok X G (c.fact 12 (f := .fa (.free "sum")))⟩
  have D_law := gd_mk X G (c.fact 13 (f := .fa (.glo "law"))) (df_mk (ps := ["_law_script"]) (c.def_ 0 (d := dz0)).1 (fun _ _ _ _ _ _ us hl => match us, hl with | [_], _ => rfl))
  have D_law_row := gd_mk X G (c.fact 14 (f := .fa (.glo "_law_row"))) (df_mk (ps := ["_law_script"]) (c.def_ 1 (d := dz1)).1 (fun _ _ _ _ _ _ us hl => match us, hl with | [_], _ => rfl))
  have D_law_take := gd_mk X G (c.fact 15 (f := .fa (.glo "_law_take"))) (df_mk (ps := ["_law_row_here", "_law_at", "_law_many"]) (c.def_ 2 (d := dz2)).1 (fun _ _ _ _ _ _ us hl => match us, hl with | [_, _, _], _ => rfl))
  have D_law_any_ways := gd_mk X G (c.fact 16 (f := .fa (.glo "_law_any_ways"))) (df_mk (ps := ["_law_row_here", "_law_at", "_law_arity"]) (c.def_ 3 (d := dz3)).1 (fun _ _ _ _ _ _ us hl => match us, hl with | [_, _, _], _ => rfl))
  have D_law_same := gd_mk X G (c.fact 17 (f := .fa (.glo "_law_same"))) (df_mk (ps := ["_law_actual", "_law_expected"]) (c.def_ 4 (d := dz4)).1 (fun _ _ _ _ _ _ us hl => match us, hl with | [_, _], _ => rfl))
  have D_law_commands := gd_mk X G (c.fact 18 (f := .fa (.glo "_law_commands"))) (df_mk (ps := ["_law_row_here", "_law_at", "_law_arity"]) (c.def_ 5 (d := dz5)).1 (fun _ _ _ _ _ _ us hl => match us, hl with | [_, _, _], _ => rfl))
  have D_law_equal := gd_mk X G (c.fact 19 (f := .fa (.glo "_law_equal"))) (df_mk (ps := ["_law_first", "_law_second"]) (c.def_ 6 (d := dz6)).1 (fun _ _ _ _ _ _ us hl => match us, hl with | [_, _], _ => rfl))
  have D_law_linear := gd_mk X G (c.fact 20 (f := .fa (.glo "_law_linear"))) (df_mk (ps := ["_law_first", "_law_second", "_law_some", "_law_others"]) (c.def_ 7 (d := dz7)).1 (fun _ _ _ _ _ _ us hl => match us, hl with | [_, _, _, _], _ => rfl))
  have D_is_way := gd_mk X G (c.fact 21 (f := .fa (.glo "is_way"))) (df_mk (ps := ["arity", "way"]) (c.def_ 8 (d := dz8)).1 (fun _ _ _ _ _ _ us hl => match us, hl with | [_, _], _ => rfl))
  have D_normal_ways := gd_mk X G (c.fact 22 (f := .fa (.glo "normal_ways"))) (df_mk (ps := ["arity", "ways"]) (c.def_ 9 (d := dz9)).1 (fun _ _ _ _ _ _ us hl => match us, hl with | [_, _], _ => rfl))
  have D_has_way := gd_mk X G (c.fact 23 (f := .fa (.glo "has_way"))) (df_mk (ps := ["ways", "way"]) (c.def_ 10 (d := dz10)).1 (fun _ _ _ _ _ _ us hl => match us, hl with | [_, _], _ => rfl))
  have D_Ability___init__ := ini_mk X G (c.fact 24 (f := .fa (.glo "Ability"))) (c.fact 25 (f := .fa (.mkr "Ability"))) (df_mk (ps := ["self", "arity", "ways"]) (c.def_ 11 (d := dz11)).1 (fun _ _ _ _ _ _ us hl => match us, hl with | [_, _, _], _ => rfl))
  have D_Ability_command := cme_mk X G (C := "Ability") (m := "command") (c.fact 24 (f := .fa (.glo "Ability"))) (c.fact 26 (f := .cme "Ability" "command")) (df_mk (ps := ["cls", "states"]) (c.def_ 12 (d := dz12)).1 (fun _ _ _ _ _ _ us hl => match us, hl with | [_, _], _ => rfl))
  have D_Ability_arity := pro_mk (C := "Ability") (m := "arity") (He.cls_ok (c.fact 27 (f := .fa (.cls "Ability")))) (c.fact 28 (f := .pro "Ability" "arity")) (df_mk (ps := ["self"]) (c.def_ 13 (d := dz13)).1 (fun _ _ _ _ _ _ us hl => match us, hl with | [_], _ => rfl))
  have D_Ability_ways := pro_mk (C := "Ability") (m := "ways") (He.cls_ok (c.fact 27 (f := .fa (.cls "Ability")))) (c.fact 29 (f := .pro "Ability" "ways")) (df_mk (ps := ["self"]) (c.def_ 14 (d := dz14)).1 (fun _ _ _ _ _ _ us hl => match us, hl with | [_], _ => rfl))
  have D_Ability___contains__ := me_mk (C := "Ability") (m := "__contains__") (He.cls_ok (c.fact 27 (f := .fa (.cls "Ability")))) (c.fact 30 (f := .fa (.meth "Ability" "__contains__"))) (c.def_ 15 (d := dz15)).2 (df_mk (ps := ["self", "way"]) (c.def_ 15 (d := dz15)).1 (fun _ _ _ _ _ _ us hl => match us, hl with | [_, _], _ => rfl))
  have D_Ability___eq__ := me_mk (C := "Ability") (m := "__eq__") (He.cls_ok (c.fact 27 (f := .fa (.cls "Ability")))) (c.fact 31 (f := .fa (.meth "Ability" "__eq__"))) (c.def_ 16 (d := dz16)).2 (df_mk (ps := ["self", "other"]) (c.def_ 16 (d := dz16)).1 (fun _ _ _ _ _ _ us hl => match us, hl with | [_, _], _ => rfl))
  have D_Ability___or__ := me_mk (C := "Ability") (m := "__or__") (He.cls_ok (c.fact 27 (f := .fa (.cls "Ability")))) (c.fact 32 (f := .fa (.meth "Ability" "__or__"))) (c.def_ 17 (d := dz17)).2 (df_mk (ps := ["self", "other"]) (c.def_ 17 (d := dz17)).1 (fun _ _ _ _ _ _ us hl => match us, hl with | [_, _], _ => rfl))
  have D_Ability___le__ := me_mk (C := "Ability") (m := "__le__") (He.cls_ok (c.fact 27 (f := .fa (.cls "Ability")))) (c.fact 33 (f := .fa (.meth "Ability" "__le__"))) (c.def_ 18 (d := dz18)).2 (df_mk (ps := ["self", "other"]) (c.def_ 18 (d := dz18)).1 (fun _ _ _ _ _ _ us hl => match us, hl with | [_, _], _ => rfl))
  have D_Ability___call__ := me_mk (C := "Ability") (m := "__call__") (He.cls_ok (c.fact 27 (f := .fa (.cls "Ability")))) (c.fact 34 (f := .fa (.meth "Ability" "__call__"))) (c.def_ 19 (d := dz19)).2 (df_mk (ps := ["self", "commands"]) (c.def_ 19 (d := dz19)).1 (fun _ _ _ _ _ _ us hl => match us, hl with | [_, _], _ => rfl))
  have K_Ability := He.cls_ok (x := "Ability") (c.fact 27 (f := .fa (.cls "Ability")))
  have g_Ability := He.glo_ok X G (c.fact 24 (f := .fa (.glo "Ability")))
  have A_Ability_taken := He.noat_ok (x := "Ability") (f := "taken") (c.fact 35 (f := .fa (.noat "Ability" "taken")))
  have A_Ability_rows := He.noat_ok (x := "Ability") (f := "rows") (c.fact 36 (f := .fa (.noat "Ability" "rows")))
  have OB := (c.fact 37 (f := .chk (fun K => ownB K (He.ga K "Ability"))))
  have M : Most K mg := most_mk X G (c.fact 38 (f := .fa (.glo "Watcher"))) (c.fact 39 (f := .con "Watcher" "MOST" (.int 4)))
  have AC : AbC K (He.ga K "Ability") := ⟨K_Ability, A_Ability_taken, A_Ability_rows⟩
  have O : OwnC K (He.ga K "Ability") := ownB_ok K_Ability OB
  have L_row := ok_law_row (P := P) (w := w) (mg := mg) (base := base) D_law_row T
  have L_take := ok_law_take (P := P) (w := w) (mg := mg) (base := base) D_law_take T
  have L_any := ok_law_any_ways D_law_any_ways T L_take
  have L_same := ok_law_same (P := P) (w := w) (mg := mg) (base := base) D_law_same T 3
  have G1 := ok_is_way (P := P) (w := w) (mg := mg) (base := base) D_is_way T M
  have G2 := ok_normal_ways (P := P) (w := w) (mg := mg) (base := base) D_normal_ways T M
  have G3 := ok_has_way (P := P) (w := w) (mg := mg) (base := base) D_has_way
  have N1 := ok_Ability___init__ D_Ability___init__ AC G1 G2
  have P1 := ok_Ability_arity (P := P) (w := w) (mg := mg) (base := base) D_Ability_arity AC
  have P2 := ok_Ability_ways (P := P) (w := w) (mg := mg) (base := base) D_Ability_ways AC T
  have M1 := ok_Ability___contains__ D_Ability___contains__ AC G3
  have M2 := ok_Ability___call__ D_Ability___call__ T AC N1 P1 M1
  have M3 := ok_Ability___eq__ (P := P) (w := w) (mg := mg) (base := base) D_Ability___eq__ T g_Ability AC O
  have M4 := ok_Ability___or__ D_Ability___or__ AC N1
  have M5 := ok_Ability___le__ D_Ability___le__ T AC G3
  have C2 := ok_Ability_command D_Ability_command N1
  have L_com := ok_law_commands D_law_commands T L_take C2
  have L_equal := ok_law_equal D_law_equal O L_same P2 M5 M3
  have L_linear := ok_law_linear D_law_linear T O L_same L_equal M4 M5 M2
  exact ok_law D_law T O L_row L_take L_any L_equal L_linear L_com N1 M4
theorem facts_bind {K : Fg} (c : SaysZ fzs dzs K) : ∃ fd, FunD K "law" "law" (defArgs s_law) (defBody s_law) (defScope s_law) [] [] (He.ga K "law") fd ∧ ∀ (s : Shared) (v : Value), BindsTo s fd ⟨[v], []⟩ [("_law_script", v)] := by
  obtain ⟨fd, F⟩ := (c.def_ 0 (d := dz0)).1
  have b := FunD.bindsA (ps := ["_law_script"]) F fun _ _ _ _ _ _ us hl => match us, hl with | [_], _ => rfl
  exact ⟨fd, F, fun s v => b s [v] rfl⟩
end Tw
open PySem PySem.W PySem.Calls PyProof.Rows
theorem PySem.Challenge.cw_tailwatch_k11_ability_class_whole_holds : PySem.Challenge.rw_tailwatch_k11_ability_class_whole.Holds := by
  w_on; o_law
  refine HandSHeadRun.head_any (r := Tw.RW0) (q := view Tw.RW0.prog [22]) (H := Tw.hk) (ob := Tw.ob) (M := 6000) (loose := Tw.loose) (d := HandSHeadRun.topDef (Tw.RW0).prog 22) (kwd := []) Tw.ob_eq
    (by kernel_rfl) (fun s => by kernel_rfl) Tw.run (by kernel_rfl) (by kernel_rfl) (by kernel_rfl) (by rfl) (by first | assumption | decide +kernel) (by decide +kernel) ⟨rfl, rfl, rfl, rfl, rfl, by decide +kernel⟩ ?hw ?hc
  case hw => w_witness2
  case hc =>
    refine L2.walk_ofE (l := PySem.Challenge.rw_tailwatch_k11_ability_class_whole) (n := 63) (k := 7) (x := "_law_script") (CX := L2.CX0) rfl (by decide) (by kernel_rfl) ⟨rfl, by decide, by decide⟩ ?F (fun _ _ _ _ z => z)
    intro w mg fa h Y G hmg0
    obtain ⟨K, KX, c⟩ := Y
    have hmg : mg ("law" : PySem.Str) = some (.ref fa) := by
      have e : (HandSHeadRun.topDef (Tw.RW0).prog 22).name = ("law" : PySem.Str) := by kernel_rfl
      rw [← e]
      exact hmg0
    obtain ⟨fd, F, b⟩ := Tw.facts_bind c
    have e := hmg.symm.trans (He.glo_ok KX G (c.fact 13 (f := .fa (.glo "law"))))
    cases e
    exact ⟨K, fd, Tw.spLaw K, KX, b, fun H a ns hl _ hS => Tw.law_in hl hS, fun base kb gb => Tw.la_fn (Tw.facts_law (P := (PySem.Challenge.rw_tailwatch_k11_ability_class_whole).prog) (w := w) KX G c base) hmg F⟩
