import PyProof.Rows.All
import Wide.All
import OpenK.AllK
import Wide.FinOn
import HandS.ForMost
import HandS.StrMore
import HandS.IsInst
import HandS.SetKeys
import HandS.More
import HandS.TupAny
import KE.KDictPairs
import HandS.Defaults
import PySem.Challenge.RW_actsawake_k57_references_and_said
set_option Elab.async false
set_option linter.all false
set_option maxRecDepth 100000
set_option maxHeartbeats 8000000
namespace M
open PySem PySem.Spec PyProof.Rows L2

/-! ## 1. Forgetting -/
/-- what may be tracked while things are forgotten -/
def okO : HO → Bool
  | .dT _ => false
  | .frz _ (.lst _) => true
  | .frz _ (.tup _) => true
  | .frz _ (.dK _) => true
  | .frz _ _ => false
  | _ => true
def insO : HO → Bool
  | .ins _ _ _ => true
  | _ => false
def ownO : HO → Bool
  | .own _ => true
  | _ => false
structure Gd (H : Hp) : Prop where
  ok : ∀ a o, H a = some o → okO o = true
  cl : ∀ a C dx fs, H a = some (.ins C dx fs) → H dx = some (.own a)
theorem Gd.new {H : Hp} (g : Gd H) {p : Addr} {o : HO} (hp : H p = none) (ho : okO o = true) (hi : insO o = false) : Gd (upd H p o) where
  ok := fun b u e => by
    by_cases hb : b = p
    · subst hb; rw [upd_same] at e; cases e; exact ho
    · rw [upd_ne hb] at e; exact g.ok b u e
  cl := fun b C dx fs e => by
    by_cases hb : b = p
    · subst hb; rw [upd_same] at e; cases e; cases hi
    · rw [upd_ne hb] at e
      have q := g.cl b C dx fs e
      rw [upd_ne (ne_of_none q hp)]; exact q
theorem Gd.mut {H : Hp} (g : Gd H) {p : Addr} {u o : HO} (hp : H p = some u) (hu : ownO u = false) (ho : okO o = true) (hi : insO o = false) : Gd (upd H p o) where
  ok := fun b u e => by
    by_cases hb : b = p
    · subst hb; rw [upd_same] at e; cases e; exact ho
    · rw [upd_ne hb] at e; exact g.ok b u e
  cl := fun b C dx fs e => by
    by_cases hb : b = p
    · subst hb; rw [upd_same] at e; cases e; cases hi
    · rw [upd_ne hb] at e
      have q := g.cl b C dx fs e
      have hd : dx ≠ p := fun z => by subst z; rw [hp] at q; cases q; cases hu
      rw [upd_ne hd]; exact q
theorem Gd.fld {H : Hp} (g : Gd H) {p C dx : Addr} {fs fs' : List (Str × V)} (hp : H p = some (.ins C dx fs)) : Gd (upd H p (.ins C dx fs')) where
  ok := fun b u e => by
    by_cases hb : b = p
    · subst hb; rw [upd_same] at e; cases e; rfl
    · rw [upd_ne hb] at e; exact g.ok b u e
  cl := fun b C' dx' gs e => by
    have hd : ∀ d y, H d = some (.own y) → d ≠ p := fun d y q z => by subst z; rw [hp] at q; cases q
    by_cases hb : b = p
    · subst hb; rw [upd_same] at e; cases e
      have q := g.cl b C dx fs hp
      rw [upd_ne (hd _ _ q)]; exact q
    · rw [upd_ne hb] at e
      have q := g.cl b C' dx' gs e
      rw [upd_ne (hd _ _ q)]; exact q
theorem Gd.make {H : Hp} (g : Gd H) {x dx C : Addr} {fs : List (Str × V)} (hx : H x = none) (hd : H dx = none) (ne : dx ≠ x) : Gd (upd (upd H dx (.own x)) x (.ins C dx fs)) where
  ok := fun b u e => by
    by_cases hb : b = x
    · subst hb; rw [upd_same] at e; cases e; rfl
    · rw [upd_ne hb] at e
      by_cases hb' : b = dx
      · subst hb'; rw [upd_same] at e; cases e; rfl
      · rw [upd_ne hb'] at e; exact g.ok b u e
  cl := fun b C' dx' gs e => by
    by_cases hb : b = x
    · subst hb; rw [upd_same] at e; cases e
      rw [upd_ne ne, upd_same]
    · rw [upd_ne hb] at e
      by_cases hb' : b = dx
      · subst hb'; rw [upd_same] at e; cases e
      · rw [upd_ne hb'] at e
        have q := g.cl b C' dx' gs e
        rw [upd_ne (ne_of_none q hx), upd_ne (ne_of_none q hd)]; exact q

/-- H'' is what is left of H' when some of what is new since H is forgotten -/
structure Shr (H H' H'' : Hp) : Prop where
  sub : ∀ a o, H'' a = some o → H' a = some o
  tup : ∀ a xs, H a = some (.tup xs) → H'' a = some (.tup xs)
  frz : ∀ a o u, H a = some (.frz o u) → H'' a = some (.frz o u)
  tbl : ∀ a ps, H a = some (.tbl ps) → H'' a = H' a
  gd : Gd H''

section
variable {P : Program} {w : World} {H H' H'' : Hp} {h h' : Heap} {a : Addr} {o : HO} {fs ex : List Addr}
theorem Shr.none (e : Shr H H' H'') {b : Addr} (q : H' b = Option.none) : H'' b = Option.none := by
  cases r : H'' b with
  | none => rfl
  | some u => rw [e.sub b u r] at q; cases q
theorem objOk_shr (x : ObjOk P w H' h a o) (ho : okO o = true) (hi : ∀ C dx fs, o = .ins C dx fs → H'' dx = some (.own a)) : ObjOk P w H'' h a o := by
  cases o with
  | lst xs => exact x
  | tup xs => exact x
  | dK kvs => exact x
  | dT kvs => cases ho
  | set S n => exact x
  | ins C dx fs =>
    obtain ⟨d, z⟩ := x
    exact ⟨hi C dx fs rfl, z⟩
  | own y => exact x
  | xd fs => exact x
  | rng lo hi => exact x
  | frz ob u =>
    cases u with
    | lst xs => exact x
    | tup xs => exact x
    | dK kvs => exact x
    | _ => cases ho
  | tbl ps => exact x
  | met f y => exact x
  | ext φ => exact x
theorem HOk.shr (x : HOk P w H' h) (e : Shr H H' H'') : HOk P w H'' h := fun b u q =>
  objOk_shr (x b u (e.sub b u q)) (e.gd.ok b u q) fun C dx fs r => e.gd.cl b C dx fs (by rw [q, r])
theorem Un.shr (u : Un fs ex H H' h h') (e : Shr H H' H'') : Un fs ex H H'' h h' where
  keep := u.keep
  slot := u.slot
  free := fun b o q n hx => e.none (u.free b o q n hx)
  there := u.there
  tups := e.tup
  frzs := e.frz
  tbls := fun b ps q => by rw [e.tbl b ps q]; exact u.tbls b ps q
end

section
variable {X : Cx} {pins : List (Addr × Obj)} {σ : List (Option V)} {H H' H'' : Hp} {s s' : Shared}
/-- within a body: forget what is new since H -/
theorem Inv.shr {σ0 : List (Option V)} (I : Inv X pins σ0 H s) (J : Inv X pins σ H' s') (e : Shr H H' H'') : Inv X pins σ H'' s' where
  ok := J.ok
  os := J.os
  bare := J.bare
  base := { keep := J.base.keep, slot := J.base.slot, there := J.base.there, free := fun b o q n hx => e.none (J.base.free b o q n hx),
            tups := fun b xs q => e.tup b xs (I.base.tups b xs q), frzs := fun b o u q => e.frz b o u (I.base.frzs b o u q),
            tbls := fun b ps q => by
              obtain ⟨m1, e1⟩ := I.base.tbls b ps q
              rw [e.tbl b _ e1]
              exact J.base.tbls b ps q }
  loc := J.loc
  cell := J.cell
  free := e.none J.free
  freeC := fun x c q => e.none (J.freeC x c q)
  pin := fun p hp => let ⟨a, b, c⟩ := J.pin p hp; ⟨a, e.none b, c⟩
  hok := HOk.shr J.hok e
  len := J.len
end

section
variable {X : Cx} {e : Expr} {t : TE}
def tSh (t : TE) : TE := fun σ H Q => t σ H fun v H' => ∃ H'', Shr H H' H'' ∧ Q v H''
theorem pe_sh (h : PE X e t) : PE X e (tSh t) := by
  refine ⟨fun pins s σ H Q I q => ?_⟩
  refine thn (h.run pins s σ H _ I q) fun u s' ⟨v, H', J, r, H'', e, q'⟩ => ?_
  exact ⟨v, H'', Inv.shr I J e, r, q'⟩
def tShT (t : TT) : TT := fun σ H Q => t σ H fun v H' => ∃ H'', Shr H H' H'' ∧ Q v H''
theorem pt_sh {t : TT} (h : PT X e t) : PT X e (tShT t) := by
  refine ⟨fun pins s σ H Q I q => ?_⟩
  refine thn (h.run pins s σ H _ I q) fun u s' ⟨H', J, H'', e, q'⟩ => ?_
  exact ⟨H'', Inv.shr I J e, q'⟩
theorem pe_imp {t' : TE} (h : PE X e t) (hi : ∀ σ H Q, t' σ H Q → t σ H Q) : PE X e t' := ⟨fun pins s σ H Q I q => h.run pins s σ H Q I (hi σ H Q q)⟩
theorem pe_or {t' : TE} (h : PE X e t) (h' : PE X e t') : PE X e (fun σ H Q => t σ H Q ∨ t' σ H Q) := ⟨fun pins s σ H Q I q => q.elim (h.run pins s σ H Q I) (h'.run pins s σ H Q I)⟩
theorem pi_or {tg iter : Expr} {t t' : TI} (h : PI X tg iter t) (h' : PI X tg iter t') : PI X tg iter (fun σ H R => t σ H R ∨ t' σ H R) :=
  ⟨fun pins s σ H R I q => q.elim (h.run pins s σ H R I) (h'.run pins s σ H R I)⟩
theorem op_or {f : Value → Value → Sem Value} {r r' : R2} (h : OpR X f r) (h' : OpR X f r') : OpR X f (fun x y H Q => r x y H Q ∨ r' x y H Q) := fun pins s σ H x y u v Q I rx ry q => q.elim (h pins s σ H x y u v Q I rx ry) (h' pins s σ H x y u v Q I rx ry)
end

/-- a def of the text with its promise, for callers -/
structure Callee (P : Program) (w : World) (K : PySem.W.Frag) (mg : Str → Option Value) (base : Heap) (x : Str) (k : Nat) (ps : List Str) (dvs : List V) (sp : Sp) : Prop where
  ex : ∃ (f : Addr) (fd : FuncData) (ds : List Value), FnOk P w K mg base CX0 k f fd ps sp ∧ mg x = some (.ref f) ∧ PySem.W.keepIn K (.ref f) = true ∧ Binds K fd ps ds ∧ Vals dvs ds
theorem pe_callC {X : Cx} {x : Str} {k : Nat} {ps : List Str} {dvs : List V} {sp : Sp} {e : Expr} {es : List Expr} {p pos : Pos} {t : TA} (C : Callee X.prog X.w X.K X.mg X.base x k ps dvs sp) (hr : Room k X.A) (ha : PA X (e :: es) t) (hg : Gl X x := by rfl)
    (hdb : (x == ("__debug__" : Str)) = false := by decide) (he : starEach (e :: es) X.env = (false, eval e X.env) :: starEach es X.env := by rfl) (hpl : (backTo pos (starEach es X.env)).any (·.1) = false := by rfl) :
    PE X (.Call (.Name x p) (e :: es) [] pos) (tCall sp dvs E0 t) := by
  obtain ⟨f, fd, ds, F, hm, hk, hb, hd⟩ := C.ex
  exact pe_call F hr hg hm hk hb hd pass0 ha hdb he hpl
theorem pe_callC0 {X : Cx} {x : Str} {k : Nat} {ps : List Str} {dvs : List V} {sp : Sp} {p pos : Pos} (C : Callee X.prog X.w X.K X.mg X.base x k ps dvs sp) (hr : Room k X.A) (hg : Gl X x := by rfl)
    (hdb : (x == ("__debug__" : Str)) = false := by decide) :
    PE X (.Call (.Name x p) [] [] pos) (tCall sp dvs E0 tNil) := by
  obtain ⟨f, fd, ds, F, hm, hk, hb, hd⟩ := C.ex
  exact pe_call0 F hr hg hm hk hb hd pass0 hdb

section
variable {P : Program} {w : World} {K : PySem.W.Frag} {mg : Str → Option Value} {base : Heap}
theorem ce_shr {outer : List Env} {H : Hp} {s s' : Shared} {Q : VK} {u : Value} (h : CE outer P w H s (fun v H' => ∃ H'', Shr H H' H'' ∧ Q v H'') u s') : CE outer P w H s Q u s' := by
  obtain ⟨v, H', a, b, un, ok, r, H'', e, q⟩ := h
  exact ⟨v, H'', a, b, Un.shr un e, HOk.shr ok e, r, q⟩
/-- THE RULE for a def, things forgotten at its end -/
theorem okS {x qual : Str} {st : Stmt} {f : Addr} {fd : FuncData} {N ps : List Str} {k : Nat} {sp : Sp} (F : Fun K x qual st f fd) (S : FnScope N ps (defScope st)) (len : ∀ vs H Q E, sp vs H Q E → vs.length = ps.length)
    (hbody : ∀ (cdv : Value) (A : Around) (outer : List Env) (s : Shared) (H : Hp) (vs : List V) (Q : VK) (E : XK), Room k (A.deeper (envOfC qual (defScope st) s.heap.objs.size f cdv)) → sp vs H Q E →
      ∃ t, PSs (cxOf CX0 P w K mg base N qual (defScope st) f cdv A outer s H E).nox (defBody st) t ∧ t { nx := fun _ H' => ∃ H'', Shr H H' H'' ∧ Q .non H'', rt := fun v H' => ∃ H'', Shr H H' H'' ∧ Q v H'' } (start N vs) H) : FnOk P w K mg base CX0 (k + 1) f fd ps sp := by
  have G : FnOk P w K mg base CX0 (k + 1) f fd ps (fun vs H Q1 E => ∃ Q : VK, sp vs H Q E ∧ Q1 = fun v H' => ∃ H'', Shr H H' H'' ∧ Q v H'') := by
    refine F.ok S (fun vs H Q E ⟨Q0, h, _⟩ => len vs H Q0 E h) (fun cdv A outer s H vs Q1 E hr h => ?_)
    obtain ⟨Q, h, rfl⟩ := h
    exact hbody cdv A outer s H vs Q E hr h
  refine ⟨len, fun A outer s H args us vs Q E hr e0 hb r hsp => ?_⟩
  refine codeAny_mono (G.run A outer s H args us vs _ E hr e0 hb r ⟨Q, hsp, rfl⟩) fun r s' hq => ?_
  cases r with
  | ok v =>
    cases v with
    | ret u => exact ce_shr hq
    | _ => exact hq
  | error e => exact hq
end

/-! ## 2. Growing heaps -/
def Xt (H H' : Hp) : Prop := (∀ a o, H a = some o → H' a = some o) ∧ (Gd H → Gd H')
theorem Xt.refl (H : Hp) : Xt H H := ⟨fun _ _ h => h, fun g => g⟩
theorem Xt.trans {H H1 H2 : Hp} (a : Xt H H1) (b : Xt H1 H2) : Xt H H2 := ⟨fun x o h => b.1 x o (a.1 x o h), fun g => b.2 (a.2 g)⟩
theorem Xt.new {H : Hp} {p : Addr} {o : HO} (h : H p = none) (ho : okO o = true) (hi : insO o = false) : Xt H (upd H p o) :=
  ⟨fun a u e => by rw [upd_ne (ne_of_none e h)]; exact e, fun g => g.new h ho hi⟩
theorem Xt.free {H H' : Hp} (e : Xt H H') {p : Addr} (h : H' p = none) : H p = none := by
  cases q : H p with
  | none => rfl
  | some o => rw [e.1 p o q] at h; cases h
/-- all that is new is forgotten -/
theorem Xt.back {H H' : Hp} (e : Xt H H') (g : Gd H) : Shr H H' H :=
  ⟨e.1, fun _ _ h => h, fun _ _ _ h => h, fun a ps h => by rw [h, e.1 a _ h], g⟩
/-- .. but for p -/
theorem Xt.backN {H H' : Hp} (e : Xt H H') (g : Gd H) {p : Addr} {o : HO} (hp : H p = none) (hp' : H' p = some o) (ho : okO o = true) (hi : insO o = false) : Shr H H' (upd H p o) where
  sub := fun a u h => by
    by_cases ha : a = p
    · subst ha; rw [upd_same] at h; cases h; exact hp'
    · rw [upd_ne ha] at h; exact e.1 a u h
  tup := fun a xs h => by rw [upd_ne (ne_of_none h hp)]; exact h
  frz := fun a o u h => by rw [upd_ne (ne_of_none h hp)]; exact h
  tbl := fun a ps h => by rw [upd_ne (ne_of_none h hp), h, e.1 a _ h]
  gd := g.new hp ho hi
theorem Shr.refl {H H' : Hp} (e : Xt H H') (g : Gd H) : Shr H H' H' :=
  ⟨fun _ _ h => h, fun a _ h => e.1 a _ h, fun a _ _ h => e.1 a _ h, fun a ps h => rfl, e.2 g⟩
theorem xt_rd {H H' : Hp} {a : Addr} {u : HO} (e : Xt H H') (h : Rd H a u) : Rd H' a u := by
  rcases h with h | ⟨o, h⟩
  · exact Or.inl (e.1 a _ h)
  · exact Or.inr ⟨o, e.1 a _ h⟩
theorem xt_l {K : PySem.W.Frag} {H H' : Hp} {a : Addr} {xs : List V} (e : Xt H H') (h : SqL K H a xs) : SqL K H' a xs := by
  rcases h with h | h
  · exact Or.inl (xt_rd e h)
  · exact Or.inr h
theorem xt_t {K : PySem.W.Frag} {H H' : Hp} {a : Addr} {xs : List V} (e : Xt H H') (h : SqT K H a xs) : SqT K H' a xs := by
  rcases h with h | h
  · exact Or.inl (xt_rd e h)
  · exact Or.inr h
theorem sz_of {n : Nat} (h : n ≤ 100000) : n ≤ sizeLine := Nat.le_trans h (by decide)
theorem sz_lt {n : Nat} (h : n < 100000) : n < sizeLine := Nat.lt_of_lt_of_le h (by decide)
end M
namespace M
open PySem PySem.Spec PyProof.Rows L2

/-! ## 3. Data made of tuples -/
mutual
inductive DpT (K : PySem.W.Frag) (H : Hp) : V → PyData → Prop
  | non : DpT K H .non .none
  | bl (b : Bool) : DpT K H (.bl b) (.bool b)
  | int (i : Int) : DpT K H (.int i) (.int i)
  | str (x : Str) : DpT K H (.str x) (.str x)
  | tup {a : Addr} {xs : List V} {ds : List PyData} : SqT K H a xs → DpTs K H xs ds → DpT K H (.ref a) (.tuple ds)
inductive DpTs (K : PySem.W.Frag) (H : Hp) : List V → List PyData → Prop
  | nil : DpTs K H [] []
  | cons {v : V} {vs : List V} {d : PyData} {ds : List PyData} : DpT K H v d → DpTs K H vs ds → DpTs K H (v :: vs) (d :: ds)
end
section
variable {K : PySem.W.Frag} {H H' : Hp}
mutual
theorem DpT.mono (k : ∀ a xs, SqT K H a xs → SqT K H' a xs) : ∀ {v : V} {d : PyData}, DpT K H v d → DpT K H' v d
  | _, _, .non => .non
  | _, _, .bl b => .bl b
  | _, _, .int i => .int i
  | _, _, .str x => .str x
  | _, _, .tup h hs => .tup (k _ _ h) (DpTs.mono k hs)
theorem DpTs.mono (k : ∀ a xs, SqT K H a xs → SqT K H' a xs) : ∀ {vs : List V} {ds : List PyData}, DpTs K H vs ds → DpTs K H' vs ds
  | _, _, .nil => .nil
  | _, _, .cons h hs => .cons (DpT.mono k h) (DpTs.mono k hs)
end
mutual
theorem DpT.dp : ∀ {v : V} {d : PyData}, DpT K H v d → Dp K H v d
  | _, _, .non => .non
  | _, _, .bl b => .bl b
  | _, _, .int i => .int i
  | _, _, .str x => .str x
  | _, _, .tup h hs => .tup h (DpTs.dp hs)
theorem DpTs.dp : ∀ {vs : List V} {ds : List PyData}, DpTs K H vs ds → DpAll K H vs ds
  | _, _, .nil => .nil
  | _, _, .cons h hs => .cons (DpT.dp h) (DpTs.dp hs)
end
theorem DpT.xt (e : Xt H H') {v : V} {d : PyData} (h : DpT K H v d) : DpT K H' v d := h.mono fun _ _ q => xt_t e q
theorem DpTs.xt (e : Xt H H') {v : List V} {d : List PyData} (h : DpTs K H v d) : DpTs K H' v d := h.mono fun _ _ q => xt_t e q
theorem DpT.none_ {v : V} (h : DpT K H v .none) : v = .non := by cases h; rfl
theorem DpT.bl_ {v : V} {b : Bool} (h : DpT K H v (.bool b)) : v = .bl b := by cases h; rfl
theorem DpT.int_ {v : V} {i : Int} (h : DpT K H v (.int i)) : v = .int i := by cases h; rfl
theorem DpT.str_ {v : V} {x : Str} (h : DpT K H v (.str x)) : v = .str x := by cases h; rfl
theorem DpT.tup_ {v : V} {ds : List PyData} (h : DpT K H v (.tuple ds)) : ∃ a xs, v = .ref a ∧ SqT K H a xs ∧ DpTs K H xs ds := by
  cases h with
  | tup h hs => exact ⟨_, _, rfl, h, hs⟩
theorem DpTs.nil_ {vs : List V} (h : DpTs K H vs []) : vs = [] := by cases h; rfl
theorem DpTs.cons_ {vs : List V} {d : PyData} {ds : List PyData} (h : DpTs K H vs (d :: ds)) : ∃ v r, vs = v :: r ∧ DpT K H v d ∧ DpTs K H r ds := by
  cases h with
  | cons h hs => exact ⟨_, _, rfl, h, hs⟩
theorem DpTs.len : ∀ {vs : List V} {ds : List PyData}, DpTs K H vs ds → vs.length = ds.length
  | _, _, .nil => rfl
  | _, _, .cons _ h => by rw [List.length_cons, List.length_cons, DpTs.len h]
theorem DpTs.app : ∀ {vs ws : List V} {ds es : List PyData}, DpTs K H vs ds → DpTs K H ws es → DpTs K H (vs ++ ws) (ds ++ es)
  | _, _, _, _, .nil, h => h
  | _, _, _, _, .cons a h, h2 => .cons a (DpTs.app h h2)
theorem DpTs.one {v : V} {d : PyData} (h : DpT K H v d) : DpTs K H [v] [d] := .cons h .nil
theorem DpTs.get : ∀ {vs : List V} {ds : List PyData} {i : Nat} {v : V}, DpTs K H vs ds → vs[i]? = some v → ∃ d, ds[i]? = some d ∧ DpT K H v d
  | _, _, _, _, .nil, e => by simp at e
  | _, _, 0, _, .cons a h, e => by simp at e; subst e; exact ⟨_, rfl, a⟩
  | _, _, i + 1, v, .cons a h, e => by
    obtain ⟨d, h1, h2⟩ := DpTs.get (i := i) (v := v) h (by simpa using e)
    exact ⟨d, by simpa using h1, h2⟩
theorem DpTs.getD : ∀ {vs : List V} {ds : List PyData} {i : Nat} {d : PyData}, DpTs K H vs ds → ds[i]? = some d → ∃ v, vs[i]? = some v ∧ DpT K H v d
  | _, _, _, _, .nil, e => by simp at e
  | _, _, 0, _, .cons a h, e => by simp at e; subst e; exact ⟨_, rfl, a⟩
  | _, _, i + 1, v, .cons a h, e => by
    obtain ⟨d, h1, h2⟩ := DpTs.getD (i := i) (d := v) h (by simpa using e)
    exact ⟨d, by simpa using h1, h2⟩
theorem DpTs.strs : ∀ (xs : List Str), DpTs K H (xs.map V.str) (xs.map PyData.str)
  | [] => .nil
  | x :: r => .cons (.str x) (DpTs.strs r)
theorem DpTs.strs_ : ∀ {vs : List V} {xs : List Str}, DpTs K H vs (xs.map PyData.str) → vs = xs.map V.str
  | _, [], h => by cases h; rfl
  | _, x :: r, h => by
    obtain ⟨v, t, rfl, h1, h2⟩ := DpTs.cons_ h
    rw [h1.str_, DpTs.strs_ h2] <;> rfl
theorem DpTs.bls_ : ∀ {vs : List V} {xs : List Bool}, DpTs K H vs (xs.map PyData.bool) → vs = xs.map V.bl
  | _, [], h => by cases h; rfl
  | _, x :: r, h => by
    obtain ⟨v, t, rfl, h1, h2⟩ := DpTs.cons_ h
    rw [h1.bl_, DpTs.bls_ h2] <;> rfl
theorem DpTs.ints_ : ∀ {vs : List V} {xs : List Int}, DpTs K H vs (xs.map PyData.int) → vs = xs.map V.int
  | _, [], h => by cases h; rfl
  | _, x :: r, h => by
    obtain ⟨v, t, rfl, h1, h2⟩ := DpTs.cons_ h
    rw [h1.int_, DpTs.ints_ h2] <;> rfl
theorem DpTs.ints : ∀ (xs : List Int), DpTs K H (xs.map V.int) (xs.map PyData.int)
  | [] => .nil
  | x :: r => .cons (.int x) (DpTs.ints r)
theorem sqT_mut {l : Addr} {u o : HO} (hl : H l = some u) (hu : ∀ xs, u ≠ .tup xs) (hf : ∀ ob xs, u ≠ .frz ob (.tup xs)) {a : Addr} {xs : List V} (h : SqT K H a xs) : SqT K (upd H l o) a xs := by
  rcases h with (h | ⟨ob, h⟩) | h
  · refine .inl (.inl ?_)
    rw [upd_ne (fun z => by subst z; rw [hl] at h; cases h; exact hu xs rfl)]; exact h
  · refine .inl (.inr ⟨ob, ?_⟩)
    rw [upd_ne (fun z => by subst z; rw [hl] at h; cases h; exact hf ob xs rfl)]; exact h
  · exact .inr h
theorem sqT_new {l : Addr} {o : HO} (hl : H l = none) {a : Addr} {xs : List V} (h : SqT K H a xs) : SqT K (upd H l o) a xs := by
  rcases h with (h | ⟨ob, h⟩) | h
  · refine .inl (.inl ?_)
    rw [upd_ne (ne_of_none h hl)]; exact h
  · refine .inl (.inr ⟨ob, ?_⟩)
    rw [upd_ne (ne_of_none h hl)]; exact h
  · exact .inr h
end

/-! ## 4. Statements: forget at each -/
section
variable {X : Cx}
def shE (H : Hp) (D : Ends) : Ends where
  nx := fun σ' H' => ∃ H'', Shr H H' H'' ∧ D.nx σ' H''
  rt := fun v H' => ∃ H'', Shr H H' H'' ∧ D.rt v H''
  bk := fun σ' H' => ∃ H'', Shr H H' H'' ∧ D.bk σ' H''
  ct := fun σ' H' => ∃ H'', Shr H H' H'' ∧ D.ct σ' H''
def tShS (t : TS) : TS := fun D σ H => t (shE H D) σ H
theorem ps_sh {st : Stmt} {t : TS} (h : PS X st t) : PS X st (tShS t) := by
  refine ⟨fun pins s σ H D I q => ?_⟩
  refine thn (h.run pins s σ H _ I q) fun f s' q' => ?_
  cases f with
  | next =>
    obtain ⟨σ', H', J, H'', e, q'⟩ := q'
    exact ⟨σ', H'', Inv.shr I J e, q'⟩
  | brk =>
    obtain ⟨σ', H', J, H'', e, q'⟩ := q'
    exact ⟨σ', H'', Inv.shr I J e, q'⟩
  | cont =>
    obtain ⟨σ', H', J, H'', e, q'⟩ := q'
    exact ⟨σ', H'', Inv.shr I J e, q'⟩
  | ret u =>
    obtain ⟨v, σ', H', J, r, H'', e, q'⟩ := q'
    exact ⟨v, σ', H'', Inv.shr I J e, r, q'⟩
def iSh (wi : TI) : TI := fun σ H R => wi σ H fun J H' => ∃ H'', Shr H H' H'' ∧ R J H''
theorem pi_sh {tg iter : Expr} {wi : TI} (h : PI X tg iter wi) : PI X tg iter (iSh wi) := by
  refine ⟨fun pins s σ H R I q => ?_⟩
  refine thn (h.run pins s σ H _ I q) fun v s1 q1 => thn q1 fun u s2 q2 => ?_
  obtain ⟨it, fp, tn, J, H', rfl, I2, T, t0, hf, H'', e, q⟩ := q2
  exact ⟨it, fp, tn, J, H'', rfl, Inv.shr I I2 e, T, t0, fun b hb => let ⟨a, r⟩ := hf b hb; ⟨e.none a, r⟩, q⟩
def iSeq (K : PySem.W.Frag) (t : TE) : TI := fun σ H R => iList K t σ H R ∨ iTup K t σ H R
theorem pi_seq {tg e : Expr} {t : TE} (h : PE X e t) : PI X tg e (iSeq X.K t) := pi_or (pi_list h) (pi_tup h)
end

/-! ## 5. Rules for operations of more than one kind -/
def rLtS : R2 := fun x y H Q => ∃ i j, x = .str i ∧ y = .str j ∧ Q (.bl (decide (i.cps.toList < j.cps.toList))) H
def rLeS : R2 := fun x y H Q => ∃ i j, x = .str i ∧ y = .str j ∧ Q (.bl (!decide (j.cps.toList < i.cps.toList))) H
def rGtS : R2 := fun x y H Q => ∃ i j, x = .str i ∧ y = .str j ∧ Q (.bl (decide (j.cps.toList < i.cps.toList))) H
def rGeS : R2 := fun x y H Q => ∃ i j, x = .str i ∧ y = .str j ∧ Q (.bl (!decide (i.cps.toList < j.cps.toList))) H
def rAddS : R2 := fun x y H Q => ∃ i j, x = .str i ∧ y = .str j ∧ i.length + j.length ≤ sizeLine ∧ Q (.str (i ++ j)) H
def rInS (neg : Bool) : R2 := fun x y H Q => ∃ (c : Nat) (z : Str), x = .str ⟨#[c]⟩ ∧ y = .str z ∧ Q (.bl (if neg then !decide (c ∈ z.cps.toList) else decide (c ∈ z.cps.toList))) H
def rAddI : R2 := rI0 fun i j => .int (i + j)
def rLtI : R2 := rI0 fun i j => .bl (decide (i < j))
def rLeI : R2 := rI0 fun i j => .bl (decide (i ≤ j))
def rGtI : R2 := rI0 fun i j => .bl (decide (j < i))
def rGeI : R2 := rI0 fun i j => .bl (decide (j ≤ i))
def rOr (r r' : R2) : R2 := fun x y H Q => r x y H Q ∨ r' x y H Q
section
variable {X : Cx}
theorem op_addA : OpR X (binaryOp .Add) (rOr rAddI (rOr rAddS (rOr rCat (rCatT X.K)))) := op_or op_add (op_or op_add_str (op_or op_cat op_catT))
theorem op_eqA (hu : X.A.units + 64 < cLine) : OpR X (compareOp .Eq) (rOr rEq (rEqD X.K)) := op_or op_eq (op_eqD hu)
theorem op_neA (hu : X.A.units + 64 < cLine) : OpR X (compareOp .NotEq) (rOr rNe (rNeD X.K)) := op_or op_ne (op_neD hu)
theorem op_ltA : OpR X (compareOp .Lt) (rOr rLtI rLtS) := op_or op_lt op_lt_str
theorem op_leA : OpR X (compareOp .LtE) (rOr rLeI rLeS) := op_or op_le op_le_str
theorem op_gtA : OpR X (compareOp .Gt) (rOr rGtI rGtS) := op_or op_gt op_gt_str
theorem op_geA : OpR X (compareOp .GtE) (rOr rGeI rGeS) := op_or op_ge op_ge_str
theorem op_inA : OpR X (compareOp .In) (rOr (rIn X.K false) (rInS false)) := op_or op_in_seq op_in_sign
theorem op_niA : OpR X (compareOp .NotIn) (rOr (rIn X.K true) (rInS true)) := op_or op_notIn_seq op_notIn_sign
def rLenS (K : PySem.W.Frag) : List V → Hp → VK → Prop := fun xs H Q => ∃ p ys, xs = [.ref p] ∧ (SqL K H p ys ∨ SqT K H p ys) ∧ Q (.int ys.length) H
def rLenT : List V → Hp → VK → Prop := fun xs H Q => ∃ z, xs = [.str z] ∧ z.length ≤ sizeLine ∧ Q (.int z.length) H
def rLenD : List V → Hp → VK → Prop := fun xs H Q => ∃ a kvs, xs = [V.ref a] ∧ H a = some (.dK kvs) ∧ Q (.int kvs.length) H
def rcOr (r r' : List V → Hp → VK → Prop) : List V → Hp → VK → Prop := fun xs H Q => r xs H Q ∨ r' xs H Q
theorem call_lenA : CallR X (.builtin "len") (rcOr (rLenS X.K) (rcOr rLenT rLenD)) := call_len_seq.or (call_len_str.or call_lenD)
def rInt1 : List V → Hp → VK → Prop := fun xs H Q => (∃ i, xs = [.int i] ∧ Q (.int i) H) ∨ ∃ k, xs = [.bl k] ∧ Q (.int (if k then 1 else 0)) H
def rIntS : List V → Hp → VK → Prop := fun xs H Q => ∃ a n, xs = [.str a] ∧ PySem.intText? a = some n ∧ a.length ≤ 640 ∧ Q (.int n) H
theorem call_intA : CallR X (.type "int") (rcOr rInt1 rIntS) := call_int1.or call_int_str
def rSortD : List V → Hp → VK → Prop := fun xs H Q => ∃ (a : Addr) (kvs : List (Key × V)) (ks : List Str), xs = [.ref a] ∧ Rd H a (.dK kvs) ∧ kvs.map (·.1) = ks.map Sum.inr ∧ ks.length < 64 ∧ ∀ ys p, ys.Perm ks → sortedS ys = true → H p = none → Q (.ref p) (upd H p (.lst (ys.map V.str)))
theorem call_sortedA (hc : X.calm = true) : CallR X (.builtin "sorted") (rcOr (rSortedS X.K) rSortD) := cr_sortedS.or (call_sortedD hc)
theorem call_isiA : CallR X (.builtin "isinstance") (rcOr (rIsi X.K) (rIsiT X.K)) := call_isi.or call_isiT
def rsOr (r r' : V → Option Int → Option Int → Hp → VK → Prop) : V → Option Int → Option Int → Hp → VK → Prop := fun x lo hi H Q => r x lo hi H Q ∨ r' x lo hi H Q
theorem sl_A : SlR X (rsOr (rSlL X.K) (rsOr (rSlA X.K) rSlS)) := sl_list.or (sl_tupA.or sl_str)
def rAbs : List V → Hp → VK → Prop := fun xs H Q => ∃ i, xs = [.int i] ∧ Q (.int (if i < 0 then -i else i)) H
def rStrI : List V → Hp → VK → Prop := fun xs H Q => ∃ i, xs = [.int i] ∧ i.natAbs.log2 < 1920 ∧ Q (.str (toString i)) H
def rListS (K : PySem.W.Frag) : List V → Hp → VK → Prop := fun xs H Q => ∃ p ys, xs = [.ref p] ∧ (SqL K H p ys ∨ SqT K H p ys) ∧ ∀ l, H l = none → Q (.ref l) (upd H l (.lst ys))
def rTupS (K : PySem.W.Frag) : List V → Hp → VK → Prop := fun xs H Q => ∃ p ys, xs = [.ref p] ∧ ((SqL K H p ys ∧ ∀ l, H l = none → Q (.ref l) (upd H l (.tup ys))) ∨ (SqT K H p ys ∧ Q (.ref p) H))
end
end M
namespace M
open PySem PySem.Spec PyProof.Rows L2

/-! ## 6. Tuples that are known to have no dict of their own -/
def SqF (K : PySem.W.Frag) (H : Hp) (a : Addr) (xs : List V) : Prop :=
  (∃ o : Obj, H a = some (.frz o (.tup xs)) ∧ o.dict = none) ∨
    ∃ (o : Obj) (its : Array Value) (n : Nat), K.lookup a = some o ∧ o.cls = .type "tuple" ∧ o.dict = none ∧ o.data = .seq its n ∧ its.size ≤ sizeLine ∧ Vals xs its.toList
theorem SqF.t {K : PySem.W.Frag} {H : Hp} {a : Addr} {xs : List V} (h : SqF K H a xs) : SqT K H a xs := by
  rcases h with ⟨o, h, _⟩ | ⟨o, its, n, h1, h2, _, h3, h4, h5⟩
  · exact .inl (.inr ⟨o, h⟩)
  · exact .inr ⟨o, its, n, h1, h2, h3, h4, h5⟩
theorem SqF.xt {K : PySem.W.Frag} {H H' : Hp} (e : Xt H H') {a : Addr} {xs : List V} (h : SqF K H a xs) : SqF K H' a xs := by
  rcases h with ⟨o, h, d⟩ | h
  · exact .inl ⟨o, e.1 _ _ h, d⟩
  · exact .inr h
section
variable {X : Cx}
/-- tuple(list), exactly -/
def rTupF (K : PySem.W.Frag) : List V → Hp → VK → Prop := fun xs H Q => ∃ p ys, xs = [.ref p] ∧ ((SqL K H p ys ∧ ∀ l o, H l = none → o.dict = none → Q (.ref l) (upd H l (.frz o (.tup ys)))) ∨ (SqT K H p ys ∧ Q (.ref p) H))
theorem call_tupF : CallR X (.type "tuple") (rTupF X.K) := by
  intro pins s σ H xs us Q I r h
  obtain ⟨p, ys, rfl, h⟩ := h
  obtain ⟨u, rfl, rx⟩ := vals1 r
  cases rx
  rcases h with ⟨hq, q⟩ | ⟨hq, q⟩
  · obtain ⟨its, r', pl, hz⟩ := I.list hq
    have hlen := r'.length
    refine call_tuple_list pl.isList (fun h' kp => ?_) (by simp only [List.size_toArray] <;> omega)
    have I1 : Inv X pins σ H { s with heap := h' } := I.kept (t' := s.toks) kp
    have I2 : Inv X pins σ (upd H h'.objs.size (.frz { cls := .type "tuple", data := .seq its.toArray } (.tup ys))) { s with heap := h'.push { cls := .type "tuple", data := .seq its.toArray } } :=
      I1.laid (t' := s.toks) (fun b o e => Heap.get?_push_of_some _ e) (Nat.le_refl _) (show ObjOk X.prog X.w _ _ _ (.frz _ (.tup ys)) from ⟨Heap.get?_push_size _ rfl, hz, its, r', IsTup.new _ _⟩)
    exact ⟨.ref h'.objs.size, _, I2, rfl, q _ _ (I1.hok.fresh (Nat.le_refl _)) rfl⟩
  · obtain ⟨its, r', pl, hz⟩ := I.tuple hq
    exact call_tuple_same pl ⟨.ref p, H, I, rfl, q⟩
/-- (a, b, ..), exactly -/
def tTupF (t : TA) : TE := fun σ H Q => t σ H fun xs H1 => xs.length ≤ sizeLine ∧ ∀ p o, H1 p = none → o.dict = none → Q (.ref p) (upd H1 p (.frz o (.tup xs)))
theorem pe_tupF {es : List Expr} {x1 : Nat} {pos : Pos} {t : TA} (h : PA X es t) : PE X (.Tuple es x1 pos) (tTupF t) := by
  refine ⟨fun pins s σ H Q I hq => ?_⟩
  refine wpAny_Tuple_spliced (thn (h.run pos pins s σ H _ I hq) fun us s1 ⟨xs, H1, I1, r, z, q⟩ => ⟨by rw [← r.length]; exact z, ?_⟩)
  have hf : H1 s1.heap.objs.size = none := I1.hok.fresh (Nat.le_refl _)
  refine ⟨.ref s1.heap.objs.size, upd H1 s1.heap.objs.size (.frz { cls := .type "tuple", data := .seq us.toArray } (.tup xs)), I1.laid (t' := s1.toks) (fun b u e => Heap.get?_push_of_some _ e) (Nat.le_refl _) ?_, rfl, q _ _ hf rfl⟩
  exact ⟨Heap.get?_push_size _ rfl, z, us, r, ⟨_, Heap.get?_push_size _ rfl, rfl, _, rfl⟩⟩
/-- dict(pairs), the pairs in such a tuple -/
def rDictF (K : PySem.W.Frag) : List V → Hp → VK → Prop := fun xs H Q => ∃ (a : Addr) (ps : List Addr) (kvs : List (Key × V)), xs = [.ref a] ∧ SqF K H a (ps.map V.ref) ∧ Paired (fun p kv => SqT K H p [kV kv.1, kv.2]) ps kvs ∧
    ∀ p, H p = none → Q (.ref p) (upd H p (.dK (mergeK [] kvs)))
theorem plain_of {pins : List (Addr × Obj)} {σ : L2.St} {H : Hp} {s : Shared} (I : Inv X pins σ H s) {a : Addr} {xs : List V} (h : SqF X.K H a xs) : ∃ its : List Value, Vals xs its ∧ PlainSeq "tuple" s.heap a its.toArray ∧ xs.length ≤ sizeLine := by
  rcases h with ⟨o, h, d⟩ | ⟨o, its, n, h1, h2, d, h3, h4, h5⟩
  · obtain ⟨e, z, its, r, o', e', c, n, dd⟩ := (show ObjOk X.prog X.w H s.heap a (.frz o (.tup xs)) from I.hok a _ h)
    rw [e] at e'; cases e'
    exact ⟨its, r, ⟨o, n, e, c, d, dd⟩, z⟩
  · refine ⟨its.toList, h5, ⟨o, n, I.kIn a o h1, h2, d, by simpa using h3⟩, ?_⟩
    have e := h5.length
    simp only [Array.length_toList] at e
    omega
theorem call_dictF (hcalm : X.calm = true) : CallR X (.type "dict") (rDictF X.K) := by
  intro pins s σ H xs us Q I r q
  obtain ⟨a, ps, kvs, ex, hq, hp, q⟩ := q
  subst ex
  obtain ⟨u, eu, rx⟩ := vals1 r
  subst eu
  cases rx
  obtain ⟨its, rv, pl, hz⟩ := plain_of I hq
  have ei := refs_at rv
  subst ei
  rw [List.length_map] at hz
  obtain ⟨prs, rel, hl, hpr⟩ := pairs_of I hp
  have hTs : ∀ (j : Nat) (q' : Key × Value), prs[j]? = some q' → ∃ (b : Addr) (u : Value), ps[j]? = some b ∧ IsTup s.heap b #[u, q'.2] ∧ keyIs q'.1 u = true := hpr
  let us2 : List (Value × Value) := (List.range prs.length).map fun j => ((match prs[j]?, ps[j]? with
    | some _, some b => (match s.heap.get? b with
      | some o => (match o.data with
        | .seq xs _ => xs.getD 0 .none
        | _ => .none)
      | none => .none)
    | _, _ => .none), ((prs[j]?).map (·.2)).getD .none)
  have hus : ∀ (j : Nat) (q' : Key × Value), prs[j]? = some q' → ∃ (b : Addr) (u : Value), ps[j]? = some b ∧ IsTup s.heap b #[u, q'.2] ∧ keyIs q'.1 u = true ∧ us2[j]? = some (u, q'.2) := fun j q' e => by
    obtain ⟨b, u, e1, e2, e3⟩ := hpr j q' e
    refine ⟨b, u, e1, e2, e3, ?_⟩
    obtain ⟨o, ho, _, n, hd⟩ := e2
    have hj : j < prs.length := (List.getElem?_eq_some_iff.mp e).1
    show ((List.range prs.length).map _)[j]? = _
    rw [List.getElem?_map, List.getElem?_range hj]
    simp only [Option.map_some, e, e1, ho, hd]
    rfl
  have hlen2 : us2.length = prs.length := by simp [us2]
  have P := PairArg.tuple (prog := X.prog) (w := X.w) a (ps.map Value.ref).toArray (fun j => ps.getD j 0) us2
  refine PySem.call_dict_pairs (knd := mixKind X.prog X.w) (kvs := prs) P (I.ok.hd hcalm) ⟨pl, by simp [hlen2, hl], fun j k v hj => ?_⟩ ⟨hlen2.symm, fun i key v hi => ?_⟩ (by rw [hlen2, hl]; exact hz) fun h' tk hd' k => ?_
  · have hj' : j < prs.length := by rw [← hlen2]; exact (List.getElem?_eq_some_iff.mp hj).1
    obtain ⟨b, u, e1, ⟨o, ho, hc, n, hd⟩, e3, e4⟩ := hus j prs[j] (List.getElem?_eq_getElem hj')
    rw [e4] at hj
    cases hj
    refine ⟨by simp [e1], .inl ⟨o, by simpa [e1] using ho, hc, n, hd⟩⟩
  · have hi' : i < prs.length := by rw [← hlen2]; exact (List.getElem?_eq_some_iff.mp hi).1
    obtain ⟨b, u, e1, e2, e3, e4⟩ := hus i prs[i] (List.getElem?_eq_getElem hi')
    rw [show us2[i]? = some (key, v) from hi] at e4
    cases e4
    exact ⟨prs[i].1, by rw [List.getElem?_eq_getElem hi'], e3⟩
  · have hm : (s.heap.objs.size == sysModules) = false := beq_eq_false_iff_ne.mpr (Nat.ne_of_gt I.big)
    have hlen : (mergeK [] kvs).length ≤ sizeLine := by
      refine Nat.le_trans (length_mergeK kvs []) ?_
      rw [List.length_nil, Nat.zero_add, rel.length, hl]
      exact hz
    exact ⟨.ref s.heap.objs.size, upd H s.heap.objs.size (.dK (mergeK [] kvs)), I.laid (t' := tk) (fun b o e => k b o (by simp) e) (Nat.le_refl _) (show ObjOk X.prog X.w _ _ _ (.dK (mergeK [] kvs)) from ⟨hlen, hm, merged [] prs, KV.merge rel .nil, hd'⟩), rfl, q _ (I.hok.fresh (Nat.le_refl _))⟩
end
end M
namespace M
open PySem PySem.Spec PyProof.Rows L2

/-! ## 7. What evaluates to what -/
def Ev (te : TE) (σ : L2.St) (H : Hp) (v : V) : Prop := ∀ H1, Xt H H1 → ∀ Q : VK, (∀ H2, Xt H1 H2 → Q v H2) → te σ H1 Q
/-- a new object -/
def EvO (te : TE) (σ : L2.St) (H : Hp) (o : HO) : Prop := ∀ H1, Xt H H1 → ∀ Q : VK, (∀ p H2, H1 p = none → Xt H1 H2 → H2 p = some o → Q (.ref p) H2) → te σ H1 Q
/-- data -/
def EvD (K : PySem.W.Frag) (te : TE) (σ : L2.St) (H : Hp) (d : PyData) : Prop := ∀ H1, Xt H H1 → ∀ Q : VK, (∀ v H2, Xt H1 H2 → DpT K H2 v d → Q v H2) → te σ H1 Q
/-- a new list of data -/
def EvL (K : PySem.W.Frag) (te : TE) (σ : L2.St) (H : Hp) (ds : List PyData) : Prop := ∀ H1, Xt H H1 → ∀ Q : VK, (∀ p ys H2, H1 p = none → Xt H1 H2 → H2 p = some (.lst ys) → DpTs K H2 ys ds → Q (.ref p) H2) → te σ H1 Q
/-- a tuple of data without a dict of its own -/
def EvF (K : PySem.W.Frag) (te : TE) (σ : L2.St) (H : Hp) (ds : List PyData) : Prop := ∀ H1, Xt H H1 → ∀ Q : VK, (∀ p ys H2, Xt H1 H2 → SqF K H2 p ys → DpTs K H2 ys ds → Q (.ref p) H2) → te σ H1 Q
def EvT (tt : TT) (σ : L2.St) (H : Hp) (b : Bool) : Prop := ∀ H1, Xt H H1 → ∀ Q : Bool → Hp → Prop, (∀ H2, Xt H1 H2 → Q b H2) → tt σ H1 Q
def EvA (ta : TA) (σ : L2.St) (H : Hp) (vs : List V) : Prop := ∀ H1, Xt H H1 → ∀ Q : List V → Hp → Prop, (∀ H2, Xt H1 H2 → Q vs H2) → ta σ H1 Q
def EvAD (K : PySem.W.Frag) (ta : TA) (σ : L2.St) (H : Hp) (ds : List PyData) : Prop := ∀ H1, Xt H H1 → ∀ Q : List V → Hp → Prop, (∀ vs H2, Xt H1 H2 → DpTs K H2 vs ds → Q vs H2) → ta σ H1 Q
def EvP (to : TO) (σ : L2.St) (H : Hp) (o : Option Int) : Prop := ∀ H1, Xt H H1 → ∀ Q : Option Int → Hp → Prop, (∀ H2, Xt H1 H2 → Q o H2) → to σ H1 Q
def RV (r : R2) (x y : V) (H : Hp) (z : V) : Prop := ∀ H1, Xt H H1 → ∀ Q : VK, (∀ H2, Xt H1 H2 → Q z H2) → r x y H1 Q
def RC (r : List V → Hp → VK → Prop) (vs : List V) (H : Hp) (z : V) : Prop := ∀ H1, Xt H H1 → ∀ Q : VK, (∀ H2, Xt H1 H2 → Q z H2) → r vs H1 Q

section
variable {K : PySem.W.Frag} {σ : L2.St} {H H' : Hp} {ta tb te tx : TE} {t u : TT} {x y z v : V} {r r' : R2} {d d1 d2 : PyData} {ds : List PyData}
theorem Ev.mono (e : Xt H H') (h : Ev te σ H v) : Ev te σ H' v := fun H1 a Q q => h H1 (e.trans a) Q q
theorem EvD.mono (e : Xt H H') (h : EvD K te σ H d) : EvD K te σ H' d := fun H1 a Q q => h H1 (e.trans a) Q q
theorem EvT.mono {b : Bool} (e : Xt H H') (h : EvT t σ H b) : EvT t σ H' b := fun H1 a Q q => h H1 (e.trans a) Q q
theorem EvF.toD (h : EvF K te σ H ds) : EvD K te σ H (.tuple ds) := fun H1 e Q q => h H1 e Q fun p ys H2 e2 hf hd => q _ H2 e2 (.tup hf.t hd)
theorem ev_var {i : Nat} (h : σ[i]? = some (some v)) : Ev (tVar i) σ H v := fun H1 _ _ q => ⟨v, h, q H1 (Xt.refl H1)⟩
theorem evd_var {i : Nat} (h : σ[i]? = some (some v)) (hd : DpT K H v d) : EvD K (tVar i) σ H d := fun H1 e _ q => ⟨v, h, q v H1 (Xt.refl H1) (hd.xt e)⟩
theorem ev_c : Ev (tC v) σ H v := fun H1 _ _ q => q H1 (Xt.refl H1)
theorem ev_is {w : V} (h : Ev te σ H v) (e : v = w) : Ev te σ H w := e ▸ h
theorem et_is {a b : Bool} (h : EvT t σ H a) (e : a = b) : EvT t σ H b := e ▸ h
theorem ev_bl {a b : Bool} (h : Ev te σ H (.bl a)) (e : a = b) : Ev te σ H (.bl b) := e ▸ h
theorem EvD.of (h : Ev te σ H v) (hd : DpT K H v d) : EvD K te σ H d := fun H1 e Q q => h H1 e Q fun H2 e2 => q v H2 e2 (hd.xt (e.trans e2))
theorem Ev.dStr {s : Str} (h : Ev te σ H (.str s)) : EvD K te σ H (.str s) := .of h (.str s)
theorem Ev.dInt {s : Int} (h : Ev te σ H (.int s)) : EvD K te σ H (.int s) := .of h (.int s)
theorem Ev.dBl {s : Bool} (h : Ev te σ H (.bl s)) : EvD K te σ H (.bool s) := .of h (.bl s)
theorem Ev.dNon (h : Ev te σ H .non) : EvD K te σ H .none := .of h .non
theorem EvD.str {s : Str} (h : EvD K te σ H (.str s)) : Ev te σ H (.str s) := fun H1 e Q q => h H1 e Q fun w H2 e2 hd => by rw [hd.str_]; exact q H2 e2
theorem EvD.int {s : Int} (h : EvD K te σ H (.int s)) : Ev te σ H (.int s) := fun H1 e Q q => h H1 e Q fun w H2 e2 hd => by rw [hd.int_]; exact q H2 e2
theorem ev_op (ha : Ev ta σ H x) (hb : Ev tb σ H y) (hr : RV r x y H z) : Ev (tOp r ta tb) σ H z := fun H1 e Q q =>
  ha H1 e _ fun H2 e2 => hb H2 (e.trans e2) _ fun H3 e3 => hr H3 ((e.trans e2).trans e3) Q fun H4 e4 => q H4 ((e2.trans e3).trans e4)
theorem RV.ll (h : RV r x y H z) : RV (rOr r r') x y H z := fun H1 e Q q => .inl (h H1 e Q q)
theorem RV.rr (h : RV r' x y H z) : RV (rOr r r') x y H z := fun H1 e Q q => .inr (h H1 e Q q)
theorem rv_I0 {g : Int → Int → V} {i j : Int} : RV (rI0 g) (.int i) (.int j) H (g i j) := fun H1 _ _ q => ⟨i, j, rfl, rfl, q H1 (Xt.refl H1)⟩
theorem rv_I {C : Int → Int → Prop} {g : Int → Int → V} {i j : Int} (hc : C i j) : RV (rI C g) (.int i) (.int j) H (g i j) := fun H1 _ _ q => ⟨i, j, rfl, rfl, hc, q H1 (Xt.refl H1)⟩
theorem rv_addI {i j : Int} : RV (rOr rAddI r') (.int i) (.int j) H (.int (i + j)) := RV.ll (rv_I0 (g := fun i j => .int (i + j)))
theorem rv_addS {i j : Str} (h : i.length + j.length ≤ 100000) : RV (rOr r (rOr rAddS r')) (.str i) (.str j) H (.str (i ++ j)) := RV.rr (RV.ll fun H1 _ _ q => ⟨i, j, rfl, rfl, sz_of h, q H1 (Xt.refl H1)⟩)
theorem rv_ltI {i j : Int} : RV (rOr rLtI r') (.int i) (.int j) H (.bl (decide (i < j))) := RV.ll (rv_I0 (g := fun i j => .bl (decide (i < j))))
theorem rv_leI {i j : Int} : RV (rOr rLeI r') (.int i) (.int j) H (.bl (decide (i ≤ j))) := RV.ll (rv_I0 (g := fun i j => .bl (decide (i ≤ j))))
theorem rv_gtI {i j : Int} : RV (rOr rGtI r') (.int i) (.int j) H (.bl (decide (j < i))) := RV.ll (rv_I0 (g := fun i j => .bl (decide (j < i))))
theorem rv_geI {i j : Int} : RV (rOr rGeI r') (.int i) (.int j) H (.bl (decide (j ≤ i))) := RV.ll (rv_I0 (g := fun i j => .bl (decide (j ≤ i))))
theorem rv_ltS {i j : Str} : RV (rOr r rLtS) (.str i) (.str j) H (.bl (decide (i.cps.toList < j.cps.toList))) := RV.rr fun H1 _ _ q => ⟨i, j, rfl, rfl, q H1 (Xt.refl H1)⟩
theorem rv_leS {i j : Str} : RV (rOr r rLeS) (.str i) (.str j) H (.bl (!decide (j.cps.toList < i.cps.toList))) := RV.rr fun H1 _ _ q => ⟨i, j, rfl, rfl, q H1 (Xt.refl H1)⟩
theorem rv_eq (h : scal x y = true) : RV (rOr rEq r') x y H (.bl (decide (x = y))) := RV.ll fun H1 _ _ q => ⟨h, q H1 (Xt.refl H1)⟩
theorem rv_ne (h : scal x y = true) : RV (rOr rNe r') x y H (.bl (!decide (x = y))) := RV.ll fun H1 _ _ q => ⟨h, q H1 (Xt.refl H1)⟩
theorem rv_inL {neg : Bool} {p : Addr} {xs : List V} (h : SqL K H p xs) (hx : flatV x = true) (ha : xs.all flatV = true) : RV (rOr (rIn K neg) r') x (.ref p) H (.bl (if neg then !inV x xs else inV x xs)) :=
  RV.ll fun H1 e _ q => ⟨p, xs, rfl, Or.inl (xt_l e h), hx, ha, q H1 (Xt.refl H1)⟩
theorem rv_inT {neg : Bool} {p : Addr} {xs : List V} (h : SqT K H p xs) (hx : flatV x = true) (ha : xs.all flatV = true) : RV (rOr (rIn K neg) r') x (.ref p) H (.bl (if neg then !inV x xs else inV x xs)) :=
  RV.ll fun H1 e _ q => ⟨p, xs, rfl, Or.inr (xt_t e h), hx, ha, q H1 (Xt.refl H1)⟩
theorem rv_inS {neg : Bool} {c : Nat} {w : Str} : RV (rOr r (rInS neg)) (.str ⟨#[c]⟩) (.str w) H (.bl (if neg then !decide (c ∈ w.cps.toList) else decide (c ∈ w.cps.toList))) := RV.rr fun H1 _ _ q => ⟨c, w, rfl, rfl, q H1 (Xt.refl H1)⟩
theorem rv_ixL {p : Addr} {xs : List V} {i : Int} (h : SqL K H p xs) (ha : atI xs i = some v) : RV (rIx K) (.ref p) (.int i) H v := fun H1 e _ q => .inl ⟨p, xs, i, v, rfl, rfl, xt_l e h, ha, q H1 (Xt.refl H1)⟩
theorem rv_ixT {p : Addr} {xs : List V} {i : Int} (h : SqT K H p xs) (ha : atI xs i = some v) : RV (rIx K) (.ref p) (.int i) H v := fun H1 e _ q => .inr (.inl ⟨p, xs, i, v, rfl, rfl, xt_t e h, ha, q H1 (Xt.refl H1)⟩)
theorem rv_ixS {w : Str} {i : Int} {c : Nat} (h : w.length ≤ 100000) (ha : atI w.cps.toList i = some c) : RV (rIx K) (.str w) (.int i) H (.str ⟨#[c]⟩) := fun H1 _ _ q => .inr (.inr ⟨w, i, c, rfl, rfl, sz_of h, ha, q H1 (Xt.refl H1)⟩)
/-- x == y, data -/
theorem ev_eqD (ha : EvD K ta σ H d1) (hb : EvD K tb σ H d2) (h1 : SeqAt.shaped d1 = true) (h2 : SeqAt.shaped d2 = true) : Ev (tOp (rOr r (rEqD K)) ta tb) σ H (.bl (PyData.eqv d1 d2)) := fun H1 e Q q =>
  ha H1 e _ fun v H2 e2 hv => hb H2 (e.trans e2) _ fun w H3 e3 hw => .inr ⟨d1, d2, (hv.xt e3).dp, hw.dp, h1, h2, q H3 (e2.trans e3)⟩
theorem ev_neD (ha : EvD K ta σ H d1) (hb : EvD K tb σ H d2) (h1 : SeqAt.shaped d1 = true) (h2 : SeqAt.shaped d2 = true) : Ev (tOp (rOr r (rNeD K)) ta tb) σ H (.bl (!PyData.eqv d1 d2)) := fun H1 e Q q =>
  ha H1 e _ fun v H2 e2 hv => hb H2 (e.trans e2) _ fun w H3 e3 hw => .inr ⟨d1, d2, (hv.xt e3).dp, hw.dp, h1, h2, q H3 (e2.trans e3)⟩
/-- t[i], data -/
theorem evd_ix {i : Nat} (ha : EvD K ta σ H (.tuple ds)) (hb : Ev tb σ H (.int (i : Int))) (hi : ds[i]? = some d) : EvD K (tOp (rIx K) ta tb) σ H d := fun H1 e Q q =>
  ha H1 e _ fun v H2 e2 hv => hb H2 (e.trans e2) _ fun H3 e3 => by
    obtain ⟨a, xs, rfl, ht, hs⟩ := (hv.xt e3).tup_
    obtain ⟨w, h1, h2⟩ := hs.getD hi
    exact .inr (.inl ⟨a, xs, i, w, rfl, rfl, ht, atI_nat h1, q w H3 (e2.trans e3) h2⟩)

theorem et_test {b : Bool} (h : Ev te σ H (.bl b)) : EvT (tTest te) σ H b := fun H1 e _ q => h H1 e _ fun H2 e2 => ⟨b, rfl, q H2 e2⟩
theorem et_B {b : Bool} (h : Ev te σ H (.bl b)) : EvT (tB te) σ H b := fun H1 e _ q => h H1 e _ fun H2 e2 => ⟨b, rfl, q H2 e2⟩
theorem et_tru {b : Bool} (h : Ev te σ H (.bl b)) : EvT (fun σ H Q => te σ H fun x H' => ∃ k, TruV K x H' k ∧ Q k H') σ H b := fun H1 e _ q => h H1 e _ fun H2 e2 => ⟨b, rfl, q H2 e2⟩
theorem et_truL {p : Addr} {xs : List V} (h : Ev te σ H (.ref p)) (hl : SqL K H p xs) : EvT (fun σ H Q => te σ H fun x H' => ∃ k, TruV K x H' k ∧ Q k H') σ H (!xs.isEmpty) := fun H1 e _ q => h H1 e _ fun H2 e2 => ⟨_, .inl ⟨xs, xt_l (e.trans e2) hl, rfl⟩, q H2 e2⟩
theorem et_and {a b : Bool} (h1 : EvT t σ H a) (h2 : a = true → EvT u σ H b) : EvT (tAnd t u) σ H (a && b) := fun H1 e Q q => h1 H1 e _ fun H2 e2 => by
  cases a with
  | true =>
    show u σ H2 Q
    exact h2 rfl H2 (e.trans e2) Q fun H3 e3 => q H3 (e2.trans e3)
  | false =>
    show Q false H2
    exact q H2 e2
theorem et_or {a b : Bool} (h1 : EvT t σ H a) (h2 : a = false → EvT u σ H b) : EvT (tOr t u) σ H (a || b) := fun H1 e Q q => h1 H1 e _ fun H2 e2 => by
  cases a with
  | true =>
    show Q true H2
    exact q H2 e2
  | false =>
    show u σ H2 Q
    exact h2 rfl H2 (e.trans e2) Q fun H3 e3 => q H3 (e2.trans e3)
theorem et_not {a : Bool} (h1 : EvT t σ H a) : EvT (tNot t) σ H (!a) := fun H1 e _ q => h1 H1 e _ fun H2 e2 => q H2 e2
theorem ev_andV {a b : Bool} (h1 : Ev ta σ H (.bl a)) (h2 : a = true → Ev tb σ H (.bl b)) : Ev (tAndV ta tb) σ H (.bl (a && b)) := fun H1 e Q q => h1 H1 e _ fun H2 e2 => ⟨a, rfl, by
  cases a with
  | true =>
    show tb σ H2 Q
    exact h2 rfl H2 (e.trans e2) Q fun H3 e3 => q H3 (e2.trans e3)
  | false =>
    show Q (.bl false) H2
    exact q H2 e2⟩
theorem ev_orV {a b : Bool} (h1 : Ev ta σ H (.bl a)) (h2 : a = false → Ev tb σ H (.bl b)) : Ev (tOrV ta tb) σ H (.bl (a || b)) := fun H1 e Q q => h1 H1 e _ fun H2 e2 => ⟨a, rfl, by
  cases a with
  | true =>
    show Q (.bl true) H2
    exact q H2 e2
  | false =>
    show tb σ H2 Q
    exact h2 rfl H2 (e.trans e2) Q fun H3 e3 => q H3 (e2.trans e3)⟩
theorem ev_notV {a : Bool} (h1 : Ev ta σ H (.bl a)) : Ev (tNotV ta) σ H (.bl (!a)) := fun H1 e _ q => h1 H1 e _ fun H2 e2 => ⟨a, rfl, q H2 e2⟩
theorem ev_if {b : Bool} (h : EvT t σ H b) (h1 : b = true → Ev ta σ H v) (h2 : b = false → Ev tb σ H v) : Ev (tIf t ta tb) σ H v := fun H1 e Q q => h H1 e _ fun H2 e2 => by
  cases b with
  | true =>
    show ta σ H2 Q
    exact h1 rfl H2 (e.trans e2) Q fun H3 e3 => q H3 (e2.trans e3)
  | false =>
    show tb σ H2 Q
    exact h2 rfl H2 (e.trans e2) Q fun H3 e3 => q H3 (e2.trans e3)
/-- a < b < c -/
theorem ev_chain {tc : TE} {w : V} {a b : Bool} (ha : Ev ta σ H x) (hb : Ev tb σ H y) (hr : RV r x y H (.bl a)) (hc : a = true → Ev tc σ H w) (hr' : a = true → RV r' y w H (.bl b)) : Ev (tChain r r' ta tb tc) σ H (.bl (a && b)) := fun H1 e Q q =>
  ha H1 e _ fun H2 e2 => hb H2 (e.trans e2) _ fun H3 e3 => hr H3 ((e.trans e2).trans e3) _ fun H4 e4 => ⟨a, rfl, by
    cases a with
    | true =>
      show tc σ H4 _
      exact hc rfl H4 (((e.trans e2).trans e3).trans e4) _ fun H5 e5 => hr' rfl H5 ((((e.trans e2).trans e3).trans e4).trans e5) _ fun H6 e6 => q H6 ((((e2.trans e3).trans e4).trans e5).trans e6)
    | false =>
      show Q (.bl false) H4
      exact q H4 ((e2.trans e3).trans e4)⟩
theorem ea_nil : EvA tNil σ H [] := fun H1 _ _ q => q H1 (Xt.refl H1)
theorem ea_cons {tr : TA} {vs : List V} (h : Ev ta σ H x) (hr : EvA tr σ H vs) : EvA (tCons ta tr) σ H (x :: vs) := fun H1 e _ q =>
  h H1 e _ fun H2 e2 => hr H2 (e.trans e2) _ fun H3 e3 => q H3 (e2.trans e3)
theorem ead_nil : EvAD K tNil σ H [] := fun H1 _ _ q => q [] H1 (Xt.refl H1) .nil
theorem ead_cons {tr : TA} (h : EvD K ta σ H d) (hr : EvAD K tr σ H ds) : EvAD K (tCons ta tr) σ H (d :: ds) := fun H1 e _ q =>
  h H1 e _ fun v H2 e2 hv => hr H2 (e.trans e2) _ fun vs H3 e3 hs => q (v :: vs) H3 (e2.trans e3) (.cons (hv.xt e3) hs)
theorem evd_tup {tr : TA} (h : EvAD K tr σ H ds) (hl : ds.length ≤ 100000) : EvD K (tTup tr) σ H (.tuple ds) := fun H1 e Q q =>
  h H1 e _ fun vs H2 e2 hs => ⟨by rw [hs.len]; exact sz_of hl, fun p hp => q _ _ (e2.trans (Xt.new hp rfl rfl)) (.tup (.inl (.inl upd_same)) (hs.mono fun _ _ h => sqT_new hp h))⟩
theorem evf_tup {tr : TA} (h : EvAD K tr σ H ds) (hl : ds.length ≤ 100000) : EvF K (tTupF tr) σ H ds := fun H1 e Q q =>
  h H1 e _ fun vs H2 e2 hs => ⟨by rw [hs.len]; exact sz_of hl, fun p o hp hd => q p vs _ (e2.trans (Xt.new hp rfl rfl)) (.inl ⟨o, upd_same, hd⟩) (hs.mono fun _ _ h => sqT_new hp h)⟩
theorem evl_lst {tr : TA} (h : EvAD K tr σ H ds) (hl : ds.length ≤ 100000) : EvL K (tLst tr) σ H ds := fun H1 e Q q =>
  h H1 e _ fun vs H2 e2 hs => ⟨by rw [hs.len]; exact sz_of hl, fun p hp => q p vs _ (e2.free hp) (e2.trans (Xt.new hp rfl rfl)) upd_same (hs.mono fun _ _ h => sqT_new hp h)⟩
theorem evo_lst {tr : TA} {vs : List V} (h : EvA tr σ H vs) (hl : vs.length ≤ 100000) : EvO (tLst tr) σ H (.lst vs) := fun H1 e Q q =>
  h H1 e _ fun H2 e2 => ⟨sz_of hl, fun p hp => q p _ (e2.free hp) (e2.trans (Xt.new hp rfl rfl)) upd_same⟩
theorem evo_dnew : EvO tDNewK σ H (.dK []) := fun H1 e Q q p hp => q p _ hp (Xt.new hp rfl rfl) upd_same
theorem EvL.o {xs : List V} (h : EvL K te σ H ds) (hx : ∀ H2 vs, DpTs K H2 vs ds → vs = xs) : EvO te σ H (.lst xs) := fun H1 e Q q =>
  h H1 e Q fun p ys H2 hp e2 h2 hd => q p H2 hp e2 (by rw [h2, hx H2 ys hd])
theorem ep_none : EvP tNoPart σ H none := fun H1 _ _ q => q H1 (Xt.refl H1)
theorem ep_some {i : Int} (h : Ev te σ H (.int i)) : EvP (tPart te) σ H (some i) := fun H1 e _ q => h H1 e _ fun H2 e2 => ⟨i, rfl, q H2 e2⟩
theorem ev_slS {tl th : TO} {w : Str} {lo hi : Option Int} {r1 r2 : V → Option Int → Option Int → Hp → VK → Prop} (h : Ev te σ H (.str w)) (h1 : EvP tl σ H lo) (h2 : EvP th σ H hi) (hz : w.length ≤ 100000) : Ev (tSl (rsOr r1 (rsOr r2 rSlS)) te tl th) σ H (.str (cutS w lo hi)) := fun H1 e _ q =>
  h H1 e _ fun H2 e2 => h1 H2 (e.trans e2) _ fun H3 e3 => h2 H3 ((e.trans e2).trans e3) _ fun H4 e4 => .inr (.inr ⟨w, rfl, sz_of hz, q H4 ((e2.trans e3).trans e4)⟩)
theorem evo_slL {tl th : TO} {a : Addr} {xs : List V} {lo hi : Option Int} {r2 : V → Option Int → Option Int → Hp → VK → Prop} (h : Ev te σ H (.ref a)) (h1 : EvP tl σ H lo) (h2 : EvP th σ H hi) (hs : SqL K H a xs) : EvO (tSl (rsOr (rSlL K) r2) te tl th) σ H (.lst (cutV xs lo hi)) := fun H1 e _ q =>
  h H1 e _ fun H2 e2 => h1 H2 (e.trans e2) _ fun H3 e3 => h2 H3 ((e.trans e2).trans e3) _ fun H4 e4 =>
    .inl ⟨a, xs, rfl, xt_l (((e.trans e2).trans e3).trans e4) hs, fun p hp => q p _ (((e2.trans e3).trans e4).free hp) (((e2.trans e3).trans e4).trans (Xt.new hp rfl rfl)) upd_same⟩
theorem ev_cb {rc : List V → Hp → VK → Prop} {tr : TA} {vs : List V} (h : EvA tr σ H vs) (hr : RC rc vs H z) : Ev (tCB rc tr) σ H z := fun H1 e Q q =>
  h H1 e _ fun H2 e2 => hr H2 (e.trans e2) Q fun H3 e3 => q H3 (e2.trans e3)
theorem ev_call {sp : Sp} {dvs vs : List V} {E : XK} {tr : TA} (h : EvA tr σ H vs) (hs : ∀ H1, Xt H H1 → ∀ Q : VK, (∀ H2, Xt H1 H2 → Q z H2) → ∀ E, sp (vs ++ dvs) H1 Q E) : Ev (tCall sp dvs E tr) σ H z := fun H1 e Q q =>
  h H1 e _ fun H2 e2 => hs H2 (e.trans e2) Q (fun H3 e3 => q H3 (e2.trans e3)) E
theorem evd_call {sp : Sp} {dvs vs : List V} {E : XK} {tr : TA} (h : EvA tr σ H vs) (hs : ∀ H1, Xt H H1 → ∀ Q : VK, (∀ v H2, Xt H1 H2 → DpT K H2 v d → Q v H2) → ∀ E, sp (vs ++ dvs) H1 Q E) : EvD K (tCall sp dvs E tr) σ H d := fun H1 e Q q =>
  h H1 e _ fun H2 e2 => hs H2 (e.trans e2) Q (fun v H3 e3 => q v H3 (e2.trans e3)) E
theorem evf_call {sp : Sp} {dvs vs : List V} {E : XK} {tr : TA} (h : EvA tr σ H vs) (hs : ∀ H1, Xt H H1 → ∀ Q : VK, (∀ p ys H2, Xt H1 H2 → SqF K H2 p ys → DpTs K H2 ys ds → Q (.ref p) H2) → ∀ E, sp (vs ++ dvs) H1 Q E) : EvF K (tCall sp dvs E tr) σ H ds := fun H1 e Q q =>
  h H1 e _ fun H2 e2 => hs H2 (e.trans e2) Q (fun p ys H3 e3 => q p ys H3 (e2.trans e3)) E
/-- .. one argument that is data -/
theorem ev_callD {sp : Sp} {dvs : List V} {E : XK} (h : EvD K ta σ H d) (hs : ∀ v H1, Xt H H1 → DpT K H1 v d → ∀ Q : VK, (∀ H2, Xt H1 H2 → Q z H2) → ∀ E, sp (v :: dvs) H1 Q E) : Ev (tCall sp dvs E (tCons ta tNil)) σ H z := fun H1 e Q q =>
  h H1 e _ fun v H2 e2 hv => hs v H2 (e.trans e2) hv Q (fun H3 e3 => q H3 (e2.trans e3)) E
/-! builtins -/
theorem ev_lenS {rc : List V → Hp → VK → Prop} {p : Addr} {xs : List V} (ha : Ev ta σ H (.ref p)) (h : SqL K H p xs ∨ SqT K H p xs) : Ev (tCB (rcOr (rLenS K) rc) (tCons ta tNil)) σ H (.int (xs.length : Int)) := fun H1 e Q q =>
  ha H1 e _ fun H2 e2 => .inl ⟨p, xs, rfl, h.imp (xt_l (e.trans e2)) (xt_t (e.trans e2)), q H2 e2⟩
theorem ev_lenT {r1 rc : List V → Hp → VK → Prop} {w : Str} (ha : Ev ta σ H (.str w)) (h : w.length ≤ 100000) : Ev (tCB (rcOr r1 (rcOr rLenT rc)) (tCons ta tNil)) σ H (.int (w.length : Int)) := fun H1 e Q q =>
  ha H1 e _ fun H2 e2 => .inr (.inl ⟨w, rfl, sz_of h, q H2 e2⟩)
theorem ev_lenU {rc : List V → Hp → VK → Prop} (ha : EvD K ta σ H (.tuple ds)) : Ev (tCB (rcOr (rLenS K) rc) (tCons ta tNil)) σ H (.int (ds.length : Int)) := fun H1 e Q q =>
  ha H1 e _ fun v H2 e2 hv => by
    obtain ⟨a, xs, rfl, ht, hs⟩ := hv.tup_
    exact .inl ⟨a, xs, rfl, .inr ht, by rw [hs.len]; exact q H2 e2⟩
theorem ev_lenL {rc : List V → Hp → VK → Prop} (ha : EvL K ta σ H ds) : Ev (tCB (rcOr (rLenS K) rc) (tCons ta tNil)) σ H (.int (ds.length : Int)) := fun H1 e Q q =>
  ha H1 e _ fun p ys H2 hp e2 h2 hs => .inl ⟨p, ys, rfl, .inl (.inl (.inl h2)), by rw [hs.len]; exact q H2 e2⟩
theorem evf_tupL (ha : EvL K ta σ H ds) : EvF K (tCB (rTupF K) (tCons ta tNil)) σ H ds := fun H1 e Q q =>
  ha H1 e _ fun p ys H2 hp e2 h2 hs => ⟨p, ys, rfl, .inl ⟨.inl (.inl h2), fun l o hl hd => q l ys _ (e2.trans (Xt.new hl rfl rfl)) (.inl ⟨o, upd_same, hd⟩) (hs.mono fun _ _ h => sqT_new hl h)⟩⟩
theorem evf_tupV {p : Addr} {xs : List V} (ha : Ev ta σ H (.ref p)) (hl : SqL K H p xs) (hd : DpTs K H xs ds) : EvF K (tCB (rTupF K) (tCons ta tNil)) σ H ds := fun H1 e Q q =>
  ha H1 e _ fun H2 e2 => ⟨p, xs, rfl, .inl ⟨xt_l (e.trans e2) hl, fun l o hl' hdo => q l xs _ (e2.trans (Xt.new hl' rfl rfl)) (.inl ⟨o, upd_same, hdo⟩) ((hd.xt (e.trans e2)).mono fun _ _ h => sqT_new hl' h)⟩⟩
theorem ev_all {bs : List Bool} (ha : EvL K ta σ H (bs.map PyData.bool)) : Ev (tCB (rAll K) (tCons ta tNil)) σ H (.bl (bs.all id)) := fun H1 e Q q =>
  ha H1 e _ fun p ys H2 hp e2 h2 hs => ⟨p, bs, rfl, .inl (.inl (by rw [h2, hs.bls_])), q H2 e2⟩
theorem evo_list {p : Addr} {xs : List V} (ha : Ev ta σ H (.ref p)) (h : SqL K H p xs ∨ SqT K H p xs) : EvO (tCB (rListS K) (tCons ta tNil)) σ H (.lst xs) := fun H1 e Q q =>
  ha H1 e _ fun H2 e2 => ⟨p, xs, rfl, h.imp (xt_l (e.trans e2)) (xt_t (e.trans e2)), fun l hl => q l _ (e2.free hl) (e2.trans (Xt.new hl rfl rfl)) upd_same⟩
theorem ev_int {rc : List V → Hp → VK → Prop} {i : Int} (ha : Ev ta σ H (.int i)) : Ev (tCB (rcOr rInt1 rc) (tCons ta tNil)) σ H (.int i) := fun H1 e Q q =>
  ha H1 e _ fun H2 e2 => .inl (.inl ⟨i, rfl, q H2 e2⟩)
theorem ev_abs {i : Int} (ha : Ev ta σ H (.int i)) : Ev (tCB rAbs (tCons ta tNil)) σ H (.int (if i < 0 then -i else i)) := fun H1 e Q q =>
  ha H1 e _ fun H2 e2 => ⟨i, rfl, q H2 e2⟩
theorem ev_sum {ns : List Int} (ha : EvL K ta σ H (ns.map PyData.int)) : Ev (tCB (rSum K) (tCons ta tNil)) σ H (.int ns.sum) := fun H1 e Q q =>
  ha H1 e _ fun p ys H2 hp e2 h2 hs => ⟨p, ns, rfl, .inl (.inl (by rw [h2, hs.ints_])), q H2 e2⟩
theorem ev_strI {i : Int} (ha : Ev ta σ H (.int i)) (hz : i.natAbs.log2 < 1920) : Ev (tCB rStrI (tCons ta tNil)) σ H (.str (toString i)) := fun H1 e Q q =>
  ha H1 e _ fun H2 e2 => ⟨i, rfl, hz, q H2 e2⟩
end
end M
namespace M
open PySem PySem.Spec PyProof.Rows L2

theorem Xt.mut {H H' : Hp} {p : Addr} {u o : HO} (e : Xt H H') (h : H p = none) (h' : H' p = some u) (hu : ownO u = false) (ho : okO o = true) (hi : insO o = false) : Xt H (upd H' p o) :=
  ⟨fun a w ha => by rw [upd_ne (ne_of_none ha h)]; exact e.1 a w ha, fun g => (e.2 g).mut h' hu ho hi⟩

theorem pe_globR {X : Cx} {x : Str} {pos : Pos} {a : Addr} (hg : Gl X x) (hm : X.mg x = some (.ref a)) (hd : (x == ("__debug__" : Str)) = false := by decide) : PE X (.Name x pos) (tC (.ref a)) := pe_glob (v := .ref a) hg hm rfl hd
/-! ## 8. isinstance -/
section
variable {K : PySem.W.Frag} {σ : L2.St} {H H' : Hp} {ta tb te : TE} {x : V} {d : PyData} {ds : List PyData}
def pyTy : PyData → String
  | .none => "NoneType"
  | .bool _ => "bool"
  | .int _ => "int"
  | .str _ => "str"
  | .list _ => "list"
  | .tuple _ => "tuple"
  | .dict _ => "dict"
theorem tyX_t {a : Addr} {xs : List V} (h : SqT K H a xs) : TyX K H (.ref a) (.type "tuple") := by
  rcases h with (h | ⟨o, h⟩) | ⟨o, its, n, h1, h2, _⟩
  · exact .base (.tup h)
  · exact .fTuple h
  · exact .kTuple h1 h2
theorem tyX_l {a : Addr} {xs : List V} (h : SqL K H a xs) : TyX K H (.ref a) (.type "list") := by
  rcases h with (h | ⟨o, h⟩) | ⟨o, its, n, h1, h2, _⟩
  · exact .base (.lst h)
  · exact .base (.frz h)
  · exact .kList h1 h2
theorem DpT.ty : ∀ {v : V} {d : PyData}, DpT K H v d → TyX K H v (.type (pyTy d))
  | _, _, .non => .base .non
  | _, _, .bl b => .base (.bl b)
  | _, _, .int i => .base (.int i)
  | _, _, .str x => .base (.str x)
  | _, _, .tup h hs => tyX_t h
theorem ev_isi {T : String} {b : Bool} (ha : EvD K ta σ H d) (hb : kitB (pyTy d) T = some b) : Ev (tCB (rcOr (rIsi K) (rIsiT K)) (tCons ta (tCons (tC (.ty T)) tNil))) σ H (.bl b) := fun H1 e Q q =>
  ha H1 e _ fun v H2 e2 hv => .inl ⟨v, .ty T, _, _, b, rfl, .ty T, hv.ty, kit_ty hb, q H2 e2⟩
theorem ev_isiL {T : String} {b : Bool} {p : Addr} {xs : List V} (ha : Ev ta σ H (.ref p)) (hp : SqL K H p xs) (hb : kitB "list" T = some b) : Ev (tCB (rcOr (rIsi K) (rIsiT K)) (tCons ta (tCons (tC (.ty T)) tNil))) σ H (.bl b) := fun H1 e Q q =>
  ha H1 e _ fun H2 e2 => .inl ⟨_, .ty T, _, _, b, rfl, .ty T, tyX_l (xt_l (e.trans e2) hp), kit_ty hb, q H2 e2⟩
theorem kit_two {t : String} {T1 T2 : String} {b1 b2 : Bool} (h1 : kitB t T1 = some b1) (h2 : kitB t T2 = some b2) : PySem.W.kitAny K (.type t) [.type T1, .type T2] = some (b1 || b2) := by
  refine kitAny_cons (kit_ty h1) (fun e => ?_) (fun e => by rw [e]; rfl)
  rw [e]
  refine kitAny_cons (kit_ty h2) (fun e2 => ?_) (fun e2 => by rw [e2]; rfl)
  rw [e2]; rfl
theorem ev_isi2 {T1 T2 : String} {b1 b2 : Bool} (ha : EvD K ta σ H d) (h1 : kitB (pyTy d) T1 = some b1) (h2 : kitB (pyTy d) T2 = some b2) :
    Ev (tCB (rcOr (rIsi K) (rIsiT K)) (tCons ta (tCons (tTup (tCons (tC (.ty T1)) (tCons (tC (.ty T2)) tNil))) tNil))) σ H (.bl (b1 || b2)) := fun H1 e Q q =>
  ha H1 e _ fun v H2 e2 hv => ⟨by show 2 ≤ sizeLine; decide, fun p hp => .inr ⟨v, p, [.ty T1, .ty T2], _, [.type T1, .type T2], _, rfl, upd_same, .cons (.ty T1) (.cons (.ty T2) .nil), (hv.xt (Xt.new hp rfl rfl)).ty, kit_two h1 h2, q _ (e2.trans (Xt.new hp rfl rfl))⟩⟩
theorem ev_isi2L {T1 T2 : String} {b1 b2 : Bool} {p : Addr} {xs : List V} (ha : Ev ta σ H (.ref p)) (hp : SqL K H p xs) (h1 : kitB "list" T1 = some b1) (h2 : kitB "list" T2 = some b2) :
    Ev (tCB (rcOr (rIsi K) (rIsiT K)) (tCons ta (tCons (tTup (tCons (tC (.ty T1)) (tCons (tC (.ty T2)) tNil))) tNil))) σ H (.bl (b1 || b2)) := fun H1 e Q q =>
  ha H1 e _ fun H2 e2 => ⟨by show 2 ≤ sizeLine; decide, fun p' hp' => .inr ⟨_, p', [.ty T1, .ty T2], _, [.type T1, .type T2], _, rfl, upd_same, .cons (.ty T1) (.cons (.ty T2) .nil), tyX_l (xt_l (e.trans (e2.trans (Xt.new hp' rfl rfl))) hp), kit_two h1 h2, q _ (e2.trans (Xt.new hp' rfl rfl))⟩⟩

/-! ## 9. Methods of texts -/
theorem ev_m0 {C : Str → Prop} {g : Str → V} {w : Str} (ha : Ev ta σ H (.str w)) (hc : C w) : Ev (tM0 (fun x xs H Q => ∃ a, x = .str a ∧ xs = [] ∧ C a ∧ Q (g a) H) ta) σ H (g w) := fun H1 e Q q =>
  ha H1 e _ fun H2 e2 => ⟨⟨w, rfl⟩, w, rfl, rfl, hc, q H2 e2⟩
theorem ev_m1 {g : Str → Str → V} {w z : Str} (ha : Ev ta σ H (.str w)) (hb : Ev tb σ H (.str z)) : Ev (tM1 (fun x xs H Q => ∃ a b, x = .str a ∧ xs = [.str b] ∧ Q (g a b) H) ta tb) σ H (g w z) := fun H1 e Q q =>
  ha H1 e _ fun H2 e2 => ⟨⟨w, rfl⟩, hb H2 (e.trans e2) _ fun H3 e3 => ⟨w, z, rfl, rfl, q H3 (e2.trans e3)⟩⟩
theorem evo_split {w z : Str} (ha : Ev ta σ H (.str w)) (hb : Ev tb σ H (.str z)) (hz : (z.length == 0) = false) (hw : w.length ≤ 99000) :
    EvO (tM1 (fun x xs H Q => ∃ a b, x = .str a ∧ xs = [.str b] ∧ (b.length == 0) = false ∧ a.length + 2 ≤ sizeLine ∧ rNewStrs (Txt.split a b) H Q) ta tb) σ H (.lst ((Txt.split w z).map V.str)) := fun H1 e Q q =>
  ha H1 e _ fun H2 e2 => ⟨⟨w, rfl⟩, hb H2 (e.trans e2) _ fun H3 e3 => ⟨w, z, rfl, rfl, hz, sz_of (by omega), fun p hp => q p _ ((e2.trans e3).free hp) ((e2.trans e3).trans (Xt.new hp rfl rfl)) upd_same⟩⟩

/-! ## 10. What is walked, and list comprehensions -/
def EvI {α : Type} (K : PySem.W.Frag) (wi : TI) (σ : L2.St) (H : Hp) (rel : Hp → V → α → Prop) (ws : List α) : Prop := ∀ H1, Xt H H1 → ∀ R : It → Hp → Prop,
  (∀ a xs H2, Xt H1 H2 → Paired (rel H2) xs ws → SqL K H2 a xs → R (Itl K a) H2) → (∀ a xs H2, Xt H1 H2 → Paired (rel H2) xs ws → SqT K H2 a xs → R (Itt K a) H2) → wi σ H1 R
def relD {α : Type} (K : PySem.W.Frag) (enc : α → PyData) : Hp → V → α → Prop := fun H x a => DpT K H x (enc a)
def Mono {α : Type} (rel : Hp → V → α → Prop) : Prop := ∀ H H' x a, Xt H H' → rel H x a → rel H' x a
theorem relD_mono {α : Type} {enc : α → PyData} : Mono (relD K enc) := fun _ _ _ _ e h => DpT.xt e h
theorem paired_of {α : Type} {enc : α → PyData} : ∀ {xs : List V} {ws : List α}, DpTs K H xs (ws.map enc) → Paired (relD K enc H) xs ws
  | _, [], h => by cases h; exact .nil
  | _, w :: r, h => by
    obtain ⟨v, t, rfl, h1, h2⟩ := DpTs.cons_ h
    exact .cons h1 (paired_of h2)
theorem paired_to {α : Type} {enc : α → PyData} : ∀ {xs : List V} {ws : List α}, Paired (relD K enc H) xs ws → DpTs K H xs (ws.map enc)
  | _, _, .nil => .nil
  | _, _, .cons h1 h2 => .cons h1 (paired_to h2)
theorem paired_mono {α : Type} {rel : Hp → V → α → Prop} (hm : Mono rel) (e : Xt H H') {xs : List V} {ws : List α} (h : Paired (rel H) xs ws) : Paired (rel H') xs ws := Paired.mapP h fun x a r => hm H H' x a e r
theorem paired_get {α : Type} {rel : V → α → Prop} : ∀ {xs : List V} {ws : List α} {i : Nat} {x : V}, Paired rel xs ws → xs[i]? = some x → ∃ a, ws[i]? = some a ∧ rel x a
  | _, _, _, _, .nil, e => by simp at e
  | _, _, 0, _, .cons r _, e => by simp at e; subst e; exact ⟨_, rfl, r⟩
  | _, _, i + 1, x, .cons _ t, e => by
    obtain ⟨u, h1, h2⟩ := paired_get (i := i) (x := x) t (by simpa using e)
    exact ⟨u, by simpa using h1, h2⟩
theorem ei_L {α : Type} {enc : α → PyData} {ws : List α} (h : EvL K te σ H (ws.map enc)) : EvI K (iSeq K te) σ H (relD K enc) ws := fun H1 e R kl _ =>
  .inl (h H1 e _ fun p ys H2 hp e2 h2 hd => ⟨p, rfl, ⟨ys, .inl (.inl h2)⟩, kl p ys H2 e2 (paired_of hd) (.inl (.inl h2))⟩)
theorem ei_D {α : Type} {enc : α → PyData} {ws : List α} (h : EvD K te σ H (.tuple (ws.map enc))) : EvI K (iSeq K te) σ H (relD K enc) ws := fun H1 e R _ kt =>
  .inr (h H1 e _ fun v H2 e2 hv => by
    obtain ⟨a, xs, rfl, ht, hs⟩ := hv.tup_
    exact ⟨a, rfl, ⟨xs, ht⟩, kt a xs H2 e2 (paired_of hs) ht⟩)
theorem ei_R {α : Type} {rel : Hp → V → α → Prop} {ws : List α} {a : Addr} {xs : List V} (hm : Mono rel) (h : Ev te σ H (.ref a)) (hx : SqL K H a xs ∨ SqT K H a xs) (hd : Paired (rel H) xs ws) : EvI K (iSeq K te) σ H rel ws := fun H1 e R kl kt =>
  hx.elim (fun hl => .inl (h H1 e _ fun H2 e2 => ⟨a, rfl, ⟨xs, xt_l (e.trans e2) hl⟩, kl a xs H2 e2 (paired_mono hm (e.trans e2) hd) (xt_l (e.trans e2) hl)⟩))
    fun hl => .inr (h H1 e _ fun H2 e2 => ⟨a, rfl, ⟨xs, xt_t (e.trans e2) hl⟩, kt a xs H2 e2 (paired_mono hm (e.trans e2) hd) (xt_t (e.trans e2) hl)⟩)
theorem ei_V {α : Type} {enc : α → PyData} {ws : List α} {a : Addr} {xs : List V} (h : Ev te σ H (.ref a)) (hx : SqL K H a xs ∨ SqT K H a xs) (hd : DpTs K H xs (ws.map enc)) : EvI K (iSeq K te) σ H (relD K enc) ws :=
  ei_R relD_mono h hx (paired_of hd)
theorem ei_O {ws : List Str} (h : EvO te σ H (.lst (ws.map V.str))) : EvI K (iSeq K te) σ H (relD K PyData.str) ws := fun H1 e R kl _ =>
  .inl (h H1 e _ fun p H2 hp e2 h2 => ⟨p, rfl, ⟨_, .inl (.inl h2)⟩, kl p _ H2 e2 (paired_of (DpTs.strs ws)) (.inl (.inl h2))⟩)
theorem filt_succ {α β : Type} {ws : List α} {p : α → Bool} {q : α → β} {i : Nat} {a : α} (h : ws[i]? = some a) :
    ((ws.take (i + 1)).filter p).map q = ((ws.take i).filter p).map q ++ (if p a = true then [q a] else []) := by
  rw [List.take_add_one, h]
  simp only [Option.toList, List.filter_append, List.map_append]
  congr 1
  simp only [List.filter_cons, List.filter_nil]
  split <;> rfl
theorem evl_lc {α : Type} {wi : TI} {g : TG} {tt : TT} {vs : List Nat} {ws : List α} {rel : Hp → V → α → Prop} (hm : Mono rel) (p : α → Bool) (qq : α → PyData) (hi : EvI K wi σ H rel ws) (hz : ws.length ≤ 40000)
    (hel : ∀ a, a ∈ ws → ∀ x H1, Xt H H1 → rel H1 x a → ∃ σ2, (∀ Q : L2.St → Hp → Prop, Q σ2 H1 → g x (wipe σ vs) H1 Q) ∧ wipe σ2 vs = wipe σ vs ∧ EvT tt σ2 H1 (p a) ∧ (p a = true → EvD K te σ2 H1 (qq a))) :
    EvL K (tLc wi g tt te vs) σ H ((ws.filter p).map qq) := by
  intro H1 e Q q
  have turn : ∀ (H2 : Hp) (Dl : Addr), Xt H1 H2 → H2 Dl = none → ∀ (i : Nat) (x : V) (H' : Hp) (a : α), ws[i]? = some a → rel H' x a →
      (Xt H2 H' ∧ ∃ ys, H' Dl = some (.lst ys) ∧ DpTs K H' ys (((ws.take i).filter p).map qq)) →
      g x (wipe σ vs) H' fun σ2 H3 => wipe σ2 vs = wipe σ vs ∧ tt σ2 H3 fun b H4 => if b = true then te σ2 H4 fun y H5 => ∃ acc, H5 Dl = some (.lst acc) ∧ acc.length < sizeLine ∧
        (Xt H2 (upd H5 Dl (.lst (acc ++ [y]))) ∧ ∃ ys, (upd H5 Dl (.lst (acc ++ [y]))) Dl = some (.lst ys) ∧ DpTs K (upd H5 Dl (.lst (acc ++ [y]))) ys (((ws.take (i + 1)).filter p).map qq))
        else (Xt H2 H4 ∧ ∃ ys, H4 Dl = some (.lst ys) ∧ DpTs K H4 ys (((ws.take (i + 1)).filter p).map qq)) := by
    intro H2 Dl e2 hD i x H' a ha hx hP
    obtain ⟨eP, ys, hy, hd⟩ := hP
    have hi' : i < ws.length := (List.getElem?_eq_some_iff.mp ha).1
    obtain ⟨σ2, hg, hw, ht, he⟩ := hel a (List.mem_of_getElem? ha) x H' ((e.trans e2).trans eP) hx
    refine hg _ ⟨hw, ht H' (Xt.refl H') _ fun H4 e4 => ?_⟩
    have hlen : ys.length ≤ i := by
      rw [hd.len, List.length_map]
      refine Nat.le_trans (List.length_filter_le _ _) ?_
      rw [List.length_take]; omega
    cases hp : p a with
    | true =>
      rw [if_pos rfl]
      refine he hp H4 e4 _ fun y H5 e5 hy5 => ⟨ys, (e4.trans e5).1 _ _ hy, sz_lt (by omega), Xt.mut (eP.trans (e4.trans e5)) hD ((e4.trans e5).1 _ _ hy) rfl rfl rfl, ys ++ [y], upd_same, ?_⟩
      have h5 := (e4.trans e5).1 _ _ hy
      rw [filt_succ ha, if_pos hp]
      exact DpTs.app ((hd.xt (e4.trans e5)).mono fun _ _ h => sqT_mut h5 (fun _ z => nomatch z) (fun _ _ z => nomatch z) h) (.one (hy5.mono fun _ _ h => sqT_mut h5 (fun _ z => nomatch z) (fun _ _ z => nomatch z) h))
    | false =>
      rw [if_neg Bool.false_ne_true]
      refine ⟨eP.trans e4, ys, e4.1 _ _ hy, ?_⟩
      rw [filt_succ ha, if_neg (by rw [hp]; exact Bool.false_ne_true), List.append_nil]
      exact hd.xt e4
  have fin : ∀ (H2 : Hp) (Dl : Addr) (xs : List V), Xt H1 H2 → H2 Dl = none → xs.length = ws.length → ∀ H', (Xt H2 H' ∧ ∃ ys, H' Dl = some (.lst ys) ∧ DpTs K H' ys (((ws.take xs.length).filter p).map qq)) → Q (.ref Dl) H' := by
    intro H2 Dl xs e2 hD hl H' ⟨eP, ys, hy, hd⟩
    rw [hl, List.take_length] at hd
    exact q Dl ys H' (e2.free hD) (e2.trans eP) hy hd
  have start : ∀ (H2 : Hp) (Dl : Addr), H2 Dl = none → Xt H2 (upd H2 Dl (.lst [])) ∧ ∃ ys, (upd H2 Dl (.lst [])) Dl = some (.lst ys) ∧ DpTs K (upd H2 Dl (.lst [])) ys (((ws.take 0).filter p).map qq) :=
    fun H2 Dl hD => ⟨Xt.new hD rfl rfl, [], upd_same, .nil⟩
  have item : ∀ {xs : List V} {H2 H' : Hp} {i : Nat} {x : V}, Paired (rel H2) xs ws → Xt H2 H' → xs[i]? = some x → ∃ a, ws[i]? = some a ∧ rel H' x a :=
    fun hd eP hx => paired_get (paired_mono hm eP hd) hx
  refine hi H1 e _ (fun a xs H2 e2 hd hl => fun Dl hD => ?_) (fun a xs H2 e2 hd hl => fun Dl hD => ?_)
  · have hlen : xs.length = ws.length := Paired.length hd
    exact lc_list (xs := xs) (fun i H' => Xt H2 H' ∧ ∃ ys, H' Dl = some (.lst ys) ∧ DpTs K H' ys (((ws.take i).filter p).map qq)) (start H2 Dl hD) (fun i H' _ hP => xt_l hP.1 hl)
      (fun i x H' hx hP => by
        obtain ⟨a', ha, hxd⟩ := item hd hP.1 hx
        exact turn H2 Dl e2 hD i x H' a' ha hxd hP) (fin H2 Dl xs e2 hD hlen)
  · have hlen : xs.length = ws.length := Paired.length hd
    exact lc_tup (xs := xs) (fun i H' => Xt H2 H' ∧ ∃ ys, H' Dl = some (.lst ys) ∧ DpTs K H' ys (((ws.take i).filter p).map qq)) (start H2 Dl hD) (fun i H' _ hP => xt_t hP.1 hl)
      (fun i x H' hx hP => by
        obtain ⟨a', ha, hxd⟩ := item hd hP.1 hx
        exact turn H2 Dl e2 hD i x H' a' ha hxd hP) (fin H2 Dl xs e2 hD hlen)
/-- the target is a name, no if -/
theorem evl_lc1 {α : Type} {wi : TI} {j : Nat} {vs : List Nat} {ws : List α} {rel : Hp → V → α → Prop} (hm : Mono rel) (qq : α → PyData) (hi : EvI K wi σ H rel ws) (hz : ws.length ≤ 40000) (hw : ∀ x, wipe ((wipe σ vs).set j (some x)) vs = wipe σ vs)
    (hel : ∀ a, a ∈ ws → ∀ x H1, Xt H H1 → rel H1 x a → EvD K te ((wipe σ vs).set j (some x)) H1 (qq a)) :
    EvL K (tLc wi (gName j) tYes te vs) σ H (ws.map qq) := by
  have h := evl_lc (K := K) (σ := σ) (H := H) (te := te) (tt := tYes) (g := gName j) (vs := vs) hm (fun _ : α => true) qq hi hz (fun a ha x H1 e hx => ⟨_, fun Q q => q, hw x, fun H2 e2 Q q => q H2 (Xt.refl H2), fun _ => hel a ha x H1 e hx⟩)
  rwa [List.filter_eq_self.mpr (fun _ _ => rfl)] at h

/-! ## 10b. Lists and tuples at any depth, told as tuples -/
mutual
inductive DpA (K : PySem.W.Frag) (H : Hp) : V → PyData → Prop
  | non : DpA K H .non .none
  | bl (b : Bool) : DpA K H (.bl b) (.bool b)
  | int (i : Int) : DpA K H (.int i) (.int i)
  | str (x : Str) : DpA K H (.str x) (.str x)
  | seq {a : Addr} {xs : List V} {ds : List PyData} : (SqL K H a xs ∨ SqT K H a xs) → DpAs K H xs ds → DpA K H (.ref a) (.tuple ds)
inductive DpAs (K : PySem.W.Frag) (H : Hp) : List V → List PyData → Prop
  | nil : DpAs K H [] []
  | cons {v : V} {vs : List V} {d : PyData} {ds : List PyData} : DpA K H v d → DpAs K H vs ds → DpAs K H (v :: vs) (d :: ds)
end
mutual
theorem DpA.xt (e : Xt H H') : ∀ {v : V} {d : PyData}, DpA K H v d → DpA K H' v d
  | _, _, .non => .non
  | _, _, .bl b => .bl b
  | _, _, .int i => .int i
  | _, _, .str x => .str x
  | _, _, .seq h hs => .seq (h.imp (xt_l e) (xt_t e)) (DpAs.xt e hs)
theorem DpAs.xt (e : Xt H H') : ∀ {vs : List V} {ds : List PyData}, DpAs K H vs ds → DpAs K H' vs ds
  | _, _, .nil => .nil
  | _, _, .cons h hs => .cons (DpA.xt e h) (DpAs.xt e hs)
end
mutual
theorem DpT.toA : ∀ {v : V} {d : PyData}, DpT K H v d → DpA K H v d
  | _, _, .non => .non
  | _, _, .bl b => .bl b
  | _, _, .int i => .int i
  | _, _, .str x => .str x
  | _, _, .tup h hs => .seq (.inr h) (DpTs.toA hs)
theorem DpTs.toA : ∀ {vs : List V} {ds : List PyData}, DpTs K H vs ds → DpAs K H vs ds
  | _, _, .nil => .nil
  | _, _, .cons h hs => .cons (DpT.toA h) (DpTs.toA hs)
end
def relA (K : PySem.W.Frag) : Hp → V → PyData → Prop := fun H x d => DpA K H x d
theorem relA_mono : Mono (relA K) := fun _ _ _ _ e h => DpA.xt e h
theorem DpAs.paired : ∀ {xs : List V} {ds : List PyData}, DpAs K H xs ds → Paired (relA K H) xs ds
  | _, _, .nil => .nil
  | _, _, .cons h hs => .cons h (DpAs.paired hs)
end

/-! ## 11. Statements -/
/-- tuples may be new -/
def tupsOf (H H2 : Hp) : Hp := fun b => match H b with
  | some o => some o
  | none => match H2 b with
    | some (.tup xs) => some (.tup xs)
    | some (.frz o (.tup xs)) => some (.frz o (.tup xs))
    | _ => none
theorem tupsOf_old {H H2 : Hp} {a : Addr} {o : HO} (h : H a = some o) : tupsOf H H2 a = some o := by unfold tupsOf; rw [h]
theorem tupsOf_cases {H H2 : Hp} {a : Addr} {o : HO} (h : tupsOf H H2 a = some o) : H a = some o ∨ (H a = none ∧ H2 a = some o ∧ ((∃ xs, o = .tup xs) ∨ ∃ ob xs, o = .frz ob (.tup xs))) := by
  unfold tupsOf at h
  split at h
  · rename_i o' e; cases h; exact .inl e
  · rename_i e
    refine .inr ⟨e, ?_⟩
    split at h
    · rename_i xs e2; cases h; exact ⟨e2, .inl ⟨xs, rfl⟩⟩
    · rename_i ob xs e2; cases h; exact ⟨e2, .inr ⟨ob, xs, rfl⟩⟩
    · cases h
theorem tupsOf_xt {H H2 : Hp} : Xt H (tupsOf H H2) := ⟨fun a o h => tupsOf_old h, fun g =>
  ⟨fun a o h => (tupsOf_cases h).elim (g.ok a o) fun h => by
    rcases h.2.2 with ⟨xs, rfl⟩ | ⟨ob, xs, rfl⟩ <;> rfl,
   fun a C dx fs h => (tupsOf_cases h).elim (fun h => tupsOf_old (g.cl a C dx fs h)) fun h => by
    rcases h.2.2 with ⟨xs, z⟩ | ⟨ob, xs, z⟩ <;> cases z⟩⟩
theorem tupsOf_shr {H H2 : Hp} (e : Xt H H2) (g : Gd H) : Shr H H2 (tupsOf H H2) where
  sub := fun a o h => (tupsOf_cases h).elim (e.1 a o) fun h => h.2.1
  tup := fun a xs h => tupsOf_old h
  frz := fun a o u h => tupsOf_old h
  tbl := fun a ps h => by rw [tupsOf_old h, e.1 _ _ h]
  gd := tupsOf_xt.2 g
theorem tupsOf_sq {K : PySem.W.Frag} {H H2 : Hp} (e : Xt H H2) {a : Addr} {xs : List V} (h : SqT K H2 a xs) : SqT K (tupsOf H H2) a xs := by
  rcases h with (h | ⟨ob, h⟩) | h
  · refine .inl (.inl ?_)
    unfold tupsOf
    cases q : H a with
    | some o => have := e.1 _ _ q; rw [h] at this; cases this; rfl
    | none => simp only [h]
  · refine .inl (.inr ⟨ob, ?_⟩)
    unfold tupsOf
    cases q : H a with
    | some o => have := e.1 _ _ q; rw [h] at this; cases this; rfl
    | none => simp only [h]
  · exact .inr h
theorem tupsOf_sqF {K : PySem.W.Frag} {H H2 : Hp} (e : Xt H H2) {a : Addr} {xs : List V} (h : SqF K H2 a xs) : SqF K (tupsOf H H2) a xs := by
  rcases h with ⟨ob, h, d⟩ | h
  · refine .inl ⟨ob, ?_, d⟩
    unfold tupsOf
    cases q : H a with
    | some o => have := e.1 _ _ q; rw [h] at this; cases this; rfl
    | none => simp only [h]
  · exact .inr h
/-- only tuples are new -/
structure Tx (H H' : Hp) : Prop where
  xt : Xt H H'
  new : ∀ a o, H' a = some o → H a = some o ∨ (H a = none ∧ ((∃ xs, o = .tup xs) ∨ ∃ ob xs, o = .frz ob (.tup xs)))
theorem Tx.refl (H : Hp) : Tx H H := ⟨.refl H, fun _ _ h => .inl h⟩
theorem Tx.trans {H H1 H2 : Hp} (a : Tx H H1) (b : Tx H1 H2) : Tx H H2 := ⟨a.xt.trans b.xt, fun x o h => by
  rcases b.new x o h with h | ⟨h, z⟩
  · exact a.new x o h
  · exact .inr ⟨a.xt.free h, z⟩⟩
theorem tupsOf_tx {H H2 : Hp} : Tx H (tupsOf H H2) := ⟨tupsOf_xt, fun a o h => (tupsOf_cases h).imp id fun h => ⟨h.1, h.2.2⟩⟩

section
variable {K : PySem.W.Frag} {σ : L2.St} {H H0 : Hp} {te tl : TE} {tt : TT} {v : V} {d : PyData} {ds : List PyData} {D : Ends} {tu tw tz : TS} {g : TG} {o : HO}
theorem s_set {i : Nat} (gd : Gd H) (h : Ev te σ H v) (k : D.nx (σ.set i (some v)) H) : tShS (tAsg te (gName i)) D σ H := h H (Xt.refl H) _ fun H1 e => ⟨H, e.back gd, k⟩
theorem s_setO {i : Nat} (gd : Gd H) (h : EvO te σ H o) (ho : okO o = true) (hi : insO o = false) (k : ∀ p, H p = none → D.nx (σ.set i (some (.ref p))) (upd H p o)) : tShS (tAsg te (gName i)) D σ H :=
  h H (Xt.refl H) _ fun p H1 hp e h1 => ⟨_, e.backN gd hp h1 ho hi, k p hp⟩
theorem s_setD {i : Nat} (gd : Gd H) (h : EvD K te σ H d) (k : ∀ v H', Tx H H' → DpT K H' v d → D.nx (σ.set i (some v)) H') : tShS (tAsg te (gName i)) D σ H :=
  h H (Xt.refl H) _ fun v H1 e hv => ⟨_, tupsOf_shr e gd, k v _ tupsOf_tx (hv.mono fun _ _ q => tupsOf_sq e q)⟩
theorem s_setF {i : Nat} (gd : Gd H) (h : EvF K te σ H ds) (k : ∀ p ys H', Tx H H' → SqF K H' p ys → DpTs K H' ys ds → D.nx (σ.set i (some (.ref p))) H') : tShS (tAsg te (gName i)) D σ H :=
  h H (Xt.refl H) _ fun p ys H1 e hf hv => ⟨_, tupsOf_shr e gd, k p ys _ tupsOf_tx (tupsOf_sqF e hf) (hv.mono fun _ _ q => tupsOf_sq e q)⟩
theorem s_ret (gd : Gd H) (h : Ev te σ H v) (k : D.rt v H) : tShS (tRet te) D σ H := h H (Xt.refl H) _ fun H1 e => ⟨H, e.back gd, k⟩
theorem s_retO (gd : Gd H) (h : EvO te σ H o) (ho : okO o = true) (hi : insO o = false) (k : ∀ p, H p = none → D.rt (.ref p) (upd H p o)) : tShS (tRet te) D σ H :=
  h H (Xt.refl H) _ fun p H1 hp e h1 => ⟨_, e.backN gd hp h1 ho hi, k p hp⟩
theorem s_retD (gd : Gd H) (h : EvD K te σ H d) (k : ∀ v H', Tx H H' → DpT K H' v d → D.rt v H') : tShS (tRet te) D σ H :=
  h H (Xt.refl H) _ fun v H1 e hv => ⟨_, tupsOf_shr e gd, k v _ tupsOf_tx (hv.mono fun _ _ q => tupsOf_sq e q)⟩
theorem s_retF (gd : Gd H) (h : EvF K te σ H ds) (k : ∀ p ys H', Tx H H' → SqF K H' p ys → DpTs K H' ys ds → D.rt (.ref p) H') : tShS (tRet te) D σ H :=
  h H (Xt.refl H) _ fun p ys H1 e hf hv => ⟨_, tupsOf_shr e gd, k p ys _ tupsOf_tx (tupsOf_sqF e hf) (hv.mono fun _ _ q => tupsOf_sq e q)⟩
theorem s_if {b : Bool} (gd : Gd H) (h : EvT tt σ H b) (h1 : b = true → tu D σ H) (h2 : b = false → tw D σ H) : tIfS (tShT tt) tu tw D σ H := h H (Xt.refl H) _ fun H1 e => ⟨H, e.back gd, by
  cases b with
  | true =>
    show tu D σ H
    exact h1 rfl
  | false =>
    show tw D σ H
    exact h2 rfl⟩
/-- told.append(e) -/
theorem s_app {l : Addr} {xs : List V} {ta : TE} (gd : Gd H) (hl : H l = some (.lst xs)) (ha : Ev ta σ H (.ref l)) (h : Ev te σ H v) (hz : xs.length < 100000) (k : D.nx σ (upd H l (.lst (xs ++ [v])))) :
    tShS (tDrop (tBM K "list" rAppend ta (tCons te tNil))) D σ H := ha H (Xt.refl H) _ fun H1 e1 => ⟨.inl ⟨rfl, xs, .inl (.inl (e1.1 l _ hl))⟩, h H1 e1 _ fun H2 e2 =>
    ⟨l, xs, v, rfl, rfl, (e1.trans e2).1 l _ hl, sz_lt hz, upd H l (.lst (xs ++ [v])),
      { sub := fun a u q => by
          by_cases h : a = l
          · subst h; rw [upd_same] at q ⊢; exact q
          · rw [upd_ne h] at q ⊢; exact (e1.trans e2).1 a u q
        tup := fun a ys q => by rw [upd_ne (fun z => by subst z; rw [hl] at q; cases q)]; exact q
        frz := fun a ob u q => by rw [upd_ne (fun z => by subst z; rw [hl] at q; cases q)]; exact q
        tbl := fun a ps q => by
          have hne : a ≠ l := fun z => by subst z; rw [hl] at q; cases q
          rw [upd_ne hne, upd_ne hne, q, (e1.trans e2).1 _ _ q]
        gd := gd.mut hl rfl rfl rfl }, k⟩⟩
/-- .. of data -/
theorem s_appD {l : Addr} {xs : List V} {ta : TE} (gd : Gd H) (hl : H l = some (.lst xs)) (ha : Ev ta σ H (.ref l)) (h : EvD K te σ H d) (hz : xs.length < 100000) (k : ∀ v H', Tx H H' → DpT K H' v d → D.nx σ (upd H' l (.lst (xs ++ [v])))) :
    tShS (tDrop (tBM K "list" rAppend ta (tCons te tNil))) D σ H := ha H (Xt.refl H) _ fun H1 e1 => ⟨.inl ⟨rfl, xs, .inl (.inl (e1.1 l _ hl))⟩, h H1 e1 _ fun v H2 e2 hv => by
    have e := e1.trans e2
    have g' : Gd (tupsOf H H2) := tupsOf_xt.2 gd
    have hl' : tupsOf H H2 l = some (.lst xs) := tupsOf_old hl
    refine ⟨l, xs, v, rfl, rfl, e.1 l _ hl, sz_lt hz, upd (tupsOf H H2) l (.lst (xs ++ [v])), ?_, k v _ tupsOf_tx (hv.mono fun _ _ q => tupsOf_sq e q)⟩
    have S := tupsOf_shr e gd
    exact {
      sub := fun a u q => by
          by_cases h : a = l
          · subst h; rw [upd_same] at q ⊢; exact q
          · rw [upd_ne h] at q ⊢; exact S.sub a u q
      tup := fun a ys q => by rw [upd_ne (fun z => by subst z; rw [hl] at q; cases q)]; exact S.tup a ys q
      frz := fun a ob u q => by rw [upd_ne (fun z => by subst z; rw [hl] at q; cases q)]; exact S.frz a ob u q
      tbl := fun a ps q => by
          have hne : a ≠ l := fun z => by subst z; rw [hl] at q; cases q
          rw [upd_ne hne, upd_ne hne]; exact S.tbl a ps q
      gd := g'.mut hl' rfl rfl rfl }⟩
theorem s_while (W : Nat → L2.St → Hp → Prop) (m0 : Nat) (h0 : W m0 σ H)
    (hs : ∀ m σ' H', W m σ' H' → Gd H' ∧ ∃ b, EvT tt σ' H' b ∧ (b = true → ∃ N : L2.St → Hp → Prop, (∀ σ2 H2, N σ2 H2 → ∃ m', m' < m ∧ W m' σ2 H2) ∧ tu { D with nx := N, ct := N, bk := D.nx } σ' H') ∧ (b = false → D.nx σ' H')) : tWhile (tShT tt) tu D σ H :=
  ⟨W, ⟨m0, h0⟩, fun m σ' H' hw => by
    obtain ⟨gd, b, hb, h1, h2⟩ := hs m σ' H' hw
    refine hb H' (Xt.refl H') _ fun H1 e => ⟨H', e.back gd, ?_⟩
    cases b with
    | true => exact h1 rfl
    | false => exact h2 rfl⟩
/-- for over a list that stands -/
theorem s_forL {a : Addr} {xs : List V} (gd : Gd H) (h : Ev tl σ H (.ref a)) (hx : SqL K H a xs) (Pv : Nat → L2.St → Hp → Prop) (h0 : Pv 0 σ H) (hl : ∀ i σ' H', i ≤ xs.length → Pv i σ' H' → SqL K H' a xs)
    (hs : ∀ i x σ' H', xs[i]? = some x → Pv i σ' H' → g x σ' H' fun σ2 H2 => tu { D with nx := Pv (i + 1), ct := Pv (i + 1), bk := D.nx } σ2 H2) (hd : ∀ σ' H', Pv xs.length σ' H' → D.nx σ' H') : tFor (iSh (iSeq K tl)) g tu D σ H :=
  .inl (h H (Xt.refl H) _ fun H1 e => ⟨a, rfl, ⟨xs, xt_l e hx⟩, H, e.back gd, for_list Pv h0 hl hs hd⟩)
theorem s_forT {a : Addr} {xs : List V} (gd : Gd H) (h : Ev tl σ H (.ref a)) (hx : SqT K H a xs) (Pv : Nat → L2.St → Hp → Prop) (h0 : Pv 0 σ H) (hl : ∀ i σ' H', i ≤ xs.length → Pv i σ' H' → SqT K H' a xs)
    (hs : ∀ i x σ' H', xs[i]? = some x → Pv i σ' H' → g x σ' H' fun σ2 H2 => tu { D with nx := Pv (i + 1), ct := Pv (i + 1), bk := D.nx } σ2 H2) (hd : ∀ σ' H', Pv xs.length σ' H' → D.nx σ' H') : tFor (iSh (iSeq K tl)) g tu D σ H :=
  .inr (h H (Xt.refl H) _ fun H1 e => ⟨a, rfl, ⟨xs, xt_t e hx⟩, H, e.back gd, for_tup Pv h0 hl hs hd⟩)
/-- for over a new list -/
theorem s_forO {xs : List V} (gd : Gd H) (h : EvO tl σ H (.lst xs)) (Pv : Addr → Nat → L2.St → Hp → Prop) (h0 : ∀ p, H p = none → Pv p 0 σ (upd H p (.lst xs))) (hl : ∀ p i σ' H', i ≤ xs.length → Pv p i σ' H' → SqL K H' p xs)
    (hs : ∀ p i x σ' H', xs[i]? = some x → Pv p i σ' H' → g x σ' H' fun σ2 H2 => tu { D with nx := Pv p (i + 1), ct := Pv p (i + 1), bk := D.nx } σ2 H2) (hd : ∀ p σ' H', Pv p xs.length σ' H' → D.nx σ' H') : tFor (iSh (iSeq K tl)) g tu D σ H :=
  .inl (h H (Xt.refl H) _ fun p H1 hp e h1 => ⟨p, rfl, ⟨xs, .inl (.inl h1)⟩, _, e.backN gd hp h1 rfl rfl, for_list (Pv p) (h0 p hp) (hl p) (hs p) (hd p)⟩)
theorem s_forR1 {ta : TA} {j : Nat} {n : Int} (gd : Gd H) (h : EvA ta σ H [.int n]) (hn : -100000 ≤ n ∧ n ≤ 100000) (Pv : Nat → L2.St → Hp → Prop) (h0 : Pv 0 σ H)
    (hs : ∀ (i : Nat) σ' H', (i : Int) < n → Pv i σ' H' → tu { D with nx := Pv (i + 1), ct := Pv (i + 1), bk := D.nx } (σ'.set j (some (.int (i : Int)))) H') (hd : ∀ σ' H', Pv n.toNat σ' H' → D.nx σ' H') : tFor (iSh (iRng1 ta)) (gName j) tu D σ H :=
  h H (Xt.refl H) _ fun H1 e => ⟨n, rfl, by omega, by omega, H, e.back gd, for_range (lo := 0) (n := n.toNat) Pv h0 (fun i σ' H' hi p => by
    have e0 : (0 : Int) + (i : Int) = (i : Int) := Int.zero_add _
    show tu { D with nx := Pv (i + 1), ct := Pv (i + 1), bk := D.nx } (σ'.set j (some (.int ((0 : Int) + (i : Int))))) H'
    rw [e0]
    exact hs i σ' H' (by omega) p) hd⟩
theorem s_forR2 {ta : TA} {j : Nat} {lo n : Int} (gd : Gd H) (h : EvA ta σ H [.int lo, .int n]) (hn : 0 ≤ lo ∧ lo ≤ 100000 ∧ -100000 ≤ n ∧ n ≤ 100000) (Pv : Nat → L2.St → Hp → Prop) (h0 : Pv 0 σ H)
    (hs : ∀ (i : Nat) σ' H', lo + (i : Int) < n → Pv i σ' H' → tu { D with nx := Pv (i + 1), ct := Pv (i + 1), bk := D.nx } (σ'.set j (some (.int (lo + (i : Int))))) H') (hd : ∀ σ' H', Pv (n - lo).toNat σ' H' → D.nx σ' H') : tFor (iSh (iRng2 ta)) (gName j) tu D σ H :=
  h H (Xt.refl H) _ fun H1 e => ⟨lo, n, rfl, ⟨by omega, by omega, by omega, by omega⟩, H, e.back gd, for_range (lo := lo) (n := (n - lo).toNat) Pv h0 (fun i σ' H' hi p => hs i σ' H' (by omega) p) hd⟩
/-- a pair as the target -/
theorem g_pair {i j : Nat} {a : Addr} {x y : V} {Q : L2.St → Hp → Prop} (h : SqT K H a [x, y]) (q : Q ((σ.set i (some x)).set j (some y)) H) : gTup K 2 (gCons (gName i) (gCons (gName j) gNil)) (.ref a) σ H Q :=
  ⟨a, [x, y], rfl, h, rfl, x, [y], rfl, y, [], rfl, rfl, q⟩
/-! ### the same, something behind -/
theorem q_set {i : Nat} (gd : Gd H) (h : Ev te σ H v) (k : tz D (σ.set i (some v)) H) : tSeq (tShS (tAsg te (gName i))) tz D σ H := s_set (D := { D with nx := tz D }) gd h k
theorem q_setO {i : Nat} (gd : Gd H) (h : EvO te σ H o) (ho : okO o = true) (hi : insO o = false) (k : ∀ p, H p = none → tz D (σ.set i (some (.ref p))) (upd H p o)) : tSeq (tShS (tAsg te (gName i))) tz D σ H := s_setO (D := { D with nx := tz D }) gd h ho hi k
theorem q_setD {i : Nat} (gd : Gd H) (h : EvD K te σ H d) (k : ∀ v H', Tx H H' → DpT K H' v d → tz D (σ.set i (some v)) H') : tSeq (tShS (tAsg te (gName i))) tz D σ H := s_setD (D := { D with nx := tz D }) gd h k
theorem q_setF {i : Nat} (gd : Gd H) (h : EvF K te σ H ds) (k : ∀ p ys H', Tx H H' → SqF K H' p ys → DpTs K H' ys ds → tz D (σ.set i (some (.ref p))) H') : tSeq (tShS (tAsg te (gName i))) tz D σ H := s_setF (D := { D with nx := tz D }) gd h k
theorem q_if {b : Bool} (gd : Gd H) (h : EvT tt σ H b) (h1 : b = true → tu { D with nx := tz D } σ H) (h2 : b = false → tw { D with nx := tz D } σ H) : tSeq (tIfS (tShT tt) tu tw) tz D σ H := s_if (D := { D with nx := tz D }) gd h h1 h2
theorem q_when {b : Bool} (gd : Gd H) (h : EvT tt σ H b) (h1 : b = true → tu { D with nx := tz D } σ H) (h2 : b = false → tz D σ H) : tSeq (tIfS (tShT tt) tu tNext) tz D σ H := s_if (D := { D with nx := tz D }) gd h h1 h2
theorem s_when {b : Bool} (gd : Gd H) (h : EvT tt σ H b) (h1 : b = true → tu D σ H) (h2 : b = false → D.nx σ H) : tIfS (tShT tt) tu tNext D σ H := s_if gd h h1 h2
theorem q_app {l : Addr} {xs : List V} {ta : TE} (gd : Gd H) (hl : H l = some (.lst xs)) (ha : Ev ta σ H (.ref l)) (h : Ev te σ H v) (hz : xs.length < 100000) (k : tz D σ (upd H l (.lst (xs ++ [v])))) :
    tSeq (tShS (tDrop (tBM K "list" rAppend ta (tCons te tNil)))) tz D σ H := s_app (D := { D with nx := tz D }) gd hl ha h hz k
theorem q_appD {l : Addr} {xs : List V} {ta : TE} (gd : Gd H) (hl : H l = some (.lst xs)) (ha : Ev ta σ H (.ref l)) (h : EvD K te σ H d) (hz : xs.length < 100000) (k : ∀ v H', Tx H H' → DpT K H' v d → tz D σ (upd H' l (.lst (xs ++ [v])))) :
    tSeq (tShS (tDrop (tBM K "list" rAppend ta (tCons te tNil)))) tz D σ H := s_appD (D := { D with nx := tz D }) gd hl ha h hz k
theorem q_while (W : Nat → L2.St → Hp → Prop) (m0 : Nat) (h0 : W m0 σ H)
    (hs : ∀ m σ' H', W m σ' H' → Gd H' ∧ ∃ b, EvT tt σ' H' b ∧ (b = true → ∃ N : L2.St → Hp → Prop, (∀ σ2 H2, N σ2 H2 → ∃ m', m' < m ∧ W m' σ2 H2) ∧ tu { D with nx := N, ct := N, bk := tz D } σ' H') ∧ (b = false → tz D σ' H')) : tSeq (tWhile (tShT tt) tu) tz D σ H := s_while (D := { D with nx := tz D }) W m0 h0 hs
theorem q_forL {a : Addr} {xs : List V} (gd : Gd H) (h : Ev tl σ H (.ref a)) (hx : SqL K H a xs) (Pv : Nat → L2.St → Hp → Prop) (h0 : Pv 0 σ H) (hl : ∀ i σ' H', i ≤ xs.length → Pv i σ' H' → SqL K H' a xs)
    (hs : ∀ i x σ' H', xs[i]? = some x → Pv i σ' H' → g x σ' H' fun σ2 H2 => tu { D with nx := Pv (i + 1), ct := Pv (i + 1), bk := tz D } σ2 H2) (hd : ∀ σ' H', Pv xs.length σ' H' → tz D σ' H') : tSeq (tFor (iSh (iSeq K tl)) g tu) tz D σ H := s_forL (D := { D with nx := tz D }) gd h hx Pv h0 hl hs hd
theorem q_forT {a : Addr} {xs : List V} (gd : Gd H) (h : Ev tl σ H (.ref a)) (hx : SqT K H a xs) (Pv : Nat → L2.St → Hp → Prop) (h0 : Pv 0 σ H) (hl : ∀ i σ' H', i ≤ xs.length → Pv i σ' H' → SqT K H' a xs)
    (hs : ∀ i x σ' H', xs[i]? = some x → Pv i σ' H' → g x σ' H' fun σ2 H2 => tu { D with nx := Pv (i + 1), ct := Pv (i + 1), bk := tz D } σ2 H2) (hd : ∀ σ' H', Pv xs.length σ' H' → tz D σ' H') : tSeq (tFor (iSh (iSeq K tl)) g tu) tz D σ H := s_forT (D := { D with nx := tz D }) gd h hx Pv h0 hl hs hd
theorem q_forO {xs : List V} (gd : Gd H) (h : EvO tl σ H (.lst xs)) (Pv : Addr → Nat → L2.St → Hp → Prop) (h0 : ∀ p, H p = none → Pv p 0 σ (upd H p (.lst xs))) (hl : ∀ p i σ' H', i ≤ xs.length → Pv p i σ' H' → SqL K H' p xs)
    (hs : ∀ p i x σ' H', xs[i]? = some x → Pv p i σ' H' → g x σ' H' fun σ2 H2 => tu { D with nx := Pv p (i + 1), ct := Pv p (i + 1), bk := tz D } σ2 H2) (hd : ∀ p σ' H', Pv p xs.length σ' H' → tz D σ' H') : tSeq (tFor (iSh (iSeq K tl)) g tu) tz D σ H := s_forO (D := { D with nx := tz D }) gd h Pv h0 hl hs hd
theorem q_forR1 {ta : TA} {j : Nat} {n : Int} (gd : Gd H) (h : EvA ta σ H [.int n]) (hn : -100000 ≤ n ∧ n ≤ 100000) (Pv : Nat → L2.St → Hp → Prop) (h0 : Pv 0 σ H)
    (hs : ∀ (i : Nat) σ' H', (i : Int) < n → Pv i σ' H' → tu { D with nx := Pv (i + 1), ct := Pv (i + 1), bk := tz D } (σ'.set j (some (.int (i : Int)))) H') (hd : ∀ σ' H', Pv n.toNat σ' H' → tz D σ' H') : tSeq (tFor (iSh (iRng1 ta)) (gName j) tu) tz D σ H := s_forR1 (D := { D with nx := tz D }) gd h hn Pv h0 hs hd
theorem q_forR2 {ta : TA} {j : Nat} {lo n : Int} (gd : Gd H) (h : EvA ta σ H [.int lo, .int n]) (hn : 0 ≤ lo ∧ lo ≤ 100000 ∧ -100000 ≤ n ∧ n ≤ 100000) (Pv : Nat → L2.St → Hp → Prop) (h0 : Pv 0 σ H)
    (hs : ∀ (i : Nat) σ' H', lo + (i : Int) < n → Pv i σ' H' → tu { D with nx := Pv (i + 1), ct := Pv (i + 1), bk := tz D } (σ'.set j (some (.int (lo + (i : Int))))) H') (hd : ∀ σ' H', Pv (n - lo).toNat σ' H' → tz D σ' H') : tSeq (tFor (iSh (iRng2 ta)) (gName j) tu) tz D σ H := s_forR2 (D := { D with nx := tz D }) gd h hn Pv h0 hs hd
end
end M
namespace M
open PySem PySem.Spec PyProof.Rows L2
theorem k_NoneType_bool : kitB "NoneType" "bool" = some false := by decide +kernel
theorem k_NoneType_int : kitB "NoneType" "int" = some false := by decide +kernel
theorem k_NoneType_str : kitB "NoneType" "str" = some false := by decide +kernel
theorem k_NoneType_list : kitB "NoneType" "list" = some false := by decide +kernel
theorem k_NoneType_tuple : kitB "NoneType" "tuple" = some false := by decide +kernel
theorem k_NoneType_dict : kitB "NoneType" "dict" = some false := by decide +kernel
theorem k_bool_bool : kitB "bool" "bool" = some true := by decide +kernel
theorem k_bool_int : kitB "bool" "int" = some true := by decide +kernel
theorem k_bool_str : kitB "bool" "str" = some false := by decide +kernel
theorem k_bool_list : kitB "bool" "list" = some false := by decide +kernel
theorem k_bool_tuple : kitB "bool" "tuple" = some false := by decide +kernel
theorem k_bool_dict : kitB "bool" "dict" = some false := by decide +kernel
theorem k_int_bool : kitB "int" "bool" = some false := by decide +kernel
theorem k_int_int : kitB "int" "int" = some true := by decide +kernel
theorem k_int_str : kitB "int" "str" = some false := by decide +kernel
theorem k_int_list : kitB "int" "list" = some false := by decide +kernel
theorem k_int_tuple : kitB "int" "tuple" = some false := by decide +kernel
theorem k_int_dict : kitB "int" "dict" = some false := by decide +kernel
theorem k_str_bool : kitB "str" "bool" = some false := by decide +kernel
theorem k_str_int : kitB "str" "int" = some false := by decide +kernel
theorem k_str_str : kitB "str" "str" = some true := by decide +kernel
theorem k_str_list : kitB "str" "list" = some false := by decide +kernel
theorem k_str_tuple : kitB "str" "tuple" = some false := by decide +kernel
theorem k_str_dict : kitB "str" "dict" = some false := by decide +kernel
theorem k_list_bool : kitB "list" "bool" = some false := by decide +kernel
theorem k_list_int : kitB "list" "int" = some false := by decide +kernel
theorem k_list_str : kitB "list" "str" = some false := by decide +kernel
theorem k_list_list : kitB "list" "list" = some true := by decide +kernel
theorem k_list_tuple : kitB "list" "tuple" = some false := by decide +kernel
theorem k_list_dict : kitB "list" "dict" = some false := by decide +kernel
theorem k_tuple_bool : kitB "tuple" "bool" = some false := by decide +kernel
theorem k_tuple_int : kitB "tuple" "int" = some false := by decide +kernel
theorem k_tuple_str : kitB "tuple" "str" = some false := by decide +kernel
theorem k_tuple_list : kitB "tuple" "list" = some false := by decide +kernel
theorem k_tuple_tuple : kitB "tuple" "tuple" = some true := by decide +kernel
theorem k_tuple_dict : kitB "tuple" "dict" = some false := by decide +kernel
theorem k_dict_bool : kitB "dict" "bool" = some false := by decide +kernel
theorem k_dict_int : kitB "dict" "int" = some false := by decide +kernel
theorem k_dict_str : kitB "dict" "str" = some false := by decide +kernel
theorem k_dict_list : kitB "dict" "list" = some false := by decide +kernel
theorem k_dict_tuple : kitB "dict" "tuple" = some false := by decide +kernel
theorem k_dict_dict : kitB "dict" "dict" = some true := by decide +kernel
end M
namespace M
open PySem PySem.Spec PyProof.Rows L2 TL
/-! ## 12. Slices and splits, plainly -/
theorem cutV_from (xs : List V) (n : Nat) : cutV xs (some (n : Int)) none = xs.drop n := by
  unfold cutV
  rw [HT.sIx_nat, HT.sIx_none]
  by_cases h : n ≤ xs.length
  · rw [Nat.min_eq_left h, List.take_of_length_le (by rw [List.length_drop]; exact Nat.le_refl _)]
  · rw [Nat.min_eq_right (by omega), List.drop_of_length_le (by omega : xs.length ≤ n), List.drop_of_length_le (Nat.le_refl _), List.take_nil]
theorem cutV_to (xs : List V) (n : Nat) : cutV xs none (some (n : Int)) = xs.take n := by
  unfold cutV
  rw [HT.sIx_nat, HT.sIx_none, List.drop_zero, Nat.sub_zero]
  by_cases h : n ≤ xs.length
  · rw [Nat.min_eq_left h]
  · rw [Nat.min_eq_right (by omega), List.take_of_length_le (Nat.le_refl _), List.take_of_length_le (by omega)]
theorem tl_cut_from (z : Str) (n : Nat) : tl (cutS z (some (n : Int)) none) = (tl z).drop n := by
  show ((tl z).drop (HT.sIx z.length 0 (some (n : Int)))).take (HT.sIx z.length z.length none - HT.sIx z.length 0 (some (n : Int))) = _
  have hl := len_tl z
  rw [HT.sIx_nat, HT.sIx_none]
  by_cases h : n ≤ z.length
  · rw [Nat.min_eq_left h, List.take_of_length_le (by rw [List.length_drop, ← hl]; exact Nat.le_refl _)]
  · rw [Nat.min_eq_right (by omega), List.drop_of_length_le (by omega : (tl z).length ≤ n), List.drop_of_length_le (by omega), List.take_nil]
theorem tl_cut_to (z : Str) (n : Nat) : tl (cutS z none (some (n : Int))) = (tl z).take n := by
  show ((tl z).drop (HT.sIx z.length 0 none)).take (HT.sIx z.length z.length (some (n : Int)) - HT.sIx z.length 0 none) = _
  have hl := len_tl z
  rw [HT.sIx_nat, HT.sIx_none, List.drop_zero, Nat.sub_zero]
  by_cases h : n ≤ z.length
  · rw [Nat.min_eq_left h]
  · rw [Nat.min_eq_right (by omega), List.take_of_length_le (by omega), List.take_of_length_le (by omega)]
theorem spl_len (S : List Nat) : ∀ (l acc : List Nat) (k : Nat), ∀ p ∈ spl S k acc l, p.length ≤ acc.length + l.length
  | [], acc, k, p, h => by rw [spl_nil] at h; cases h with
    | head => omega
    | tail _ h => cases h
  | c :: r, acc, 0, p, h => by
    cases hp : pre S (c :: r) with
    | true =>
      rw [spl_hit hp] at h
      rcases List.mem_cons.mp h with rfl | h
      · omega
      · have := spl_len S r [] _ p h
        simp at this ⊢; omega
    | false =>
      rw [spl_miss hp] at h
      have := spl_len S r (acc ++ [c]) 0 p h
      simp at this ⊢; omega
  | c :: r, acc, k + 1, p, h => by
    have h' : p ∈ spl S k acc r := h
    have := spl_len S r acc k p h'
    simp at this ⊢; omega
theorem split_len {x y : Str} (hy : tl y ≠ []) (hk : y.cps.all (· < 256) = true) {p : Str} (h : p ∈ Txt.split x y) : p.length ≤ x.length := by
  have e := split_spl x y hy (kind_ok hk)
  have h1 : tl p ∈ (Txt.split x y).map tl := List.mem_map_of_mem h
  rw [e] at h1
  have := spl_len _ _ _ _ _ h1
  rw [len_tl, len_tl x]
  simpa using this
theorem spl_ne (S : List Nat) : ∀ (l acc : List Nat) (k : Nat), spl S k acc l ≠ []
  | [], acc, k => by rw [spl_nil]; simp
  | c :: r, acc, 0 => by
    cases hp : pre S (c :: r) with
    | true => rw [spl_hit hp]; simp
    | false => rw [spl_miss hp]; exact spl_ne S r _ 0
  | c :: r, acc, k + 1 => spl_ne S r acc k
theorem spl_count (S : List Nat) : ∀ (l acc : List Nat) (k : Nat), (spl S k acc l).length ≤ l.length + 1
  | [], acc, k => by rw [spl_nil]; simp
  | c :: r, acc, 0 => by
    cases hp : pre S (c :: r) with
    | true => rw [spl_hit hp]; have := spl_count S r [] (S.length - 1); simp; omega
    | false => rw [spl_miss hp]; have := spl_count S r (acc ++ [c]) 0; simp; omega
  | c :: r, acc, k + 1 => by
    have := spl_count S r acc k
    show (spl S k acc r).length ≤ _
    simp; omega
theorem split_count {x y : Str} (hy : tl y ≠ []) (hk : y.cps.all (· < 256) = true) : (Txt.split x y).length ≤ x.length + 1 := by
  have e := split_spl x y hy (kind_ok hk)
  have h := congrArg List.length e
  rw [List.length_map] at h
  rw [h, len_tl x]
  exact spl_count _ _ _ _
theorem split_ne {x y : Str} (hy : tl y ≠ []) (hk : y.cps.all (· < 256) = true) : Txt.split x y ≠ [] := by
  intro h
  have e := split_spl x y hy (kind_ok hk)
  rw [h] at e
  exact spl_ne _ _ _ _ e.symm
theorem slash_ne : tl ("/" : Str) ≠ [] := by decide +kernel
theorem slash_k : ("/" : Str).cps.all (· < 256) = true := by decide +kernel
theorem atI_headS {x : Str} {c : Nat} {r : List Nat} (h : x.cps.toList = c :: r) : atI x.cps.toList (0 : Int) = some c := atI_nat (j := 0) (by rw [h]; rfl)
end M
namespace M
open PySem PySem.Spec PyProof.Rows L2 TL
/-! ## 13. Dicts of texts, sorted texts -/
def kvS (dk : List (Str × Str)) : List (Key × V) := dk.map fun p => (Sum.inr p.1, V.str p.2)
def look (dk : List (Str × Str)) (k : Str) : Option Str := (dk.find? fun p => decide (p.1 = k)).map (·.2)
def putS (dk : List (Str × Str)) (k v : Str) : List (Str × Str) := if (dk.any fun p => decide (p.1 = k)) = true then dk.map (fun p => if p.1 = k then (p.1, v) else p) else dk ++ [(k, v)]
def mergeS (ps : List (Str × Str)) : List (Str × Str) := ps.foldl (fun acc p => putS acc p.1 p.2) []
theorem look_nil {k : Str} : look [] k = none := rfl
theorem look_cons {p : Str × Str} {r : List (Str × Str)} {k : Str} : look (p :: r) k = if p.1 = k then some p.2 else look r k := by
  unfold look
  by_cases h : p.1 = k
  · rw [if_pos h]; simp [List.find?_cons, h]
  · rw [if_neg h]; simp [List.find?_cons, h]
theorem look_any {k : Str} : ∀ {dk : List (Str × Str)}, (dk.any fun p => decide (p.1 = k)) = (look dk k).isSome
  | [] => rfl
  | p :: r => by
    rw [List.any_cons, look_cons, look_any (dk := r)]
    by_cases h : p.1 = k
    · rw [if_pos h, decide_eq_true h]; rfl
    · rw [if_neg h, decide_eq_false h]; rfl
theorem look_mem {k : Str} : ∀ {dk : List (Str × Str)}, (look dk k).isSome = true ↔ k ∈ dk.map (·.1)
  | [] => by simp [look_nil]
  | p :: r => by
    rw [look_cons, List.map_cons, List.mem_cons]
    by_cases h : p.1 = k
    · rw [if_pos h]; simp [h]
    · rw [if_neg h, look_mem (dk := r)]
      constructor
      · intro q; exact .inr q
      · rintro (q | q)
        · exact absurd q.symm h
        · exact q
theorem valV_kvS (k : Str) : ∀ dk : List (Str × Str), valV (kvS dk) (Sum.inr k : Key) = (look dk k).map V.str
  | [] => rfl
  | p :: r => by
    show valV ((Sum.inr p.1, V.str p.2) :: kvS r) _ = _
    rw [look_cons]
    by_cases h : p.1 = k
    · rw [if_pos h, valV_pos (by rw [h])]; rfl
    · rw [if_neg h, valV_neg (fun z => h (Sum.inr.inj z)), valV_kvS k r]
theorem putK_kvS (dk : List (Str × Str)) (k v : Str) : putK (kvS dk) (Sum.inr k : Key) (V.str v) = kvS (putS dk k v) := by
  have e : ((kvS dk).any fun kv => decide (kv.1 = (Sum.inr k : Key))) = (dk.any fun p => decide (p.1 = k)) := by
    unfold kvS
    rw [List.any_map]
    congr 1
    funext p
    show decide ((Sum.inr p.1 : Key) = Sum.inr k) = decide (p.1 = k)
    rw [key_rr]
  unfold putK putS
  rw [e]
  by_cases h : (dk.any fun p => decide (p.1 = k)) = true
  · rw [if_pos h, if_pos h]
    unfold kvS
    rw [List.map_map, List.map_map]
    refine List.map_congr_left fun p _ => ?_
    show (if (Sum.inr p.1 : Key) = Sum.inr k then ((Sum.inr p.1 : Key), V.str v) else (Sum.inr p.1, V.str p.2)) = ((Sum.inr (if p.1 = k then (p.1, v) else p).1 : Key), V.str (if p.1 = k then (p.1, v) else p).2)
    by_cases h2 : p.1 = k
    · rw [if_pos (by rw [h2]), if_pos h2]
    · rw [if_neg (fun z => h2 (Sum.inr.inj z)), if_neg h2]
  · rw [if_neg h, if_neg h]
    unfold kvS
    rw [List.map_append]
    rfl
theorem look_put {dk : List (Str × Str)} {k v x : Str} : look (putS dk k v) x = if x = k then some v else look dk x := by
  unfold putS
  by_cases h : (dk.any fun p => decide (p.1 = k)) = true
  · rw [if_pos h]
    induction dk with
    | nil => cases h
    | cons p r ih =>
      rw [List.map_cons, look_cons, look_cons]
      by_cases hp : p.1 = k
      · rw [if_pos hp]
        show (if p.1 = x then some v else _) = _
        by_cases hx : x = k
        · rw [if_pos (by rw [hp, hx]), if_pos hx]
        · rw [if_neg (by rw [hp]; exact fun z => hx z.symm), if_neg hx, if_neg (by rw [hp]; exact fun z => hx z.symm)]
          by_cases hr : (r.any fun p => decide (p.1 = k)) = true
          · have := ih hr; rw [if_neg hx] at this; exact this
          · have : r.map (fun p => if p.1 = k then (p.1, v) else p) = r := by
              conv => rhs; rw [← List.map_id r]
              refine List.map_congr_left fun q hq => ?_
              rw [if_neg]
              · rfl
              · intro z
                exact hr (List.any_eq_true.mpr ⟨q, hq, decide_eq_true z⟩)
            rw [this]
      · rw [if_neg hp]
        have hr : (r.any fun p => decide (p.1 = k)) = true := by
          rw [List.any_cons, decide_eq_false hp, Bool.false_or] at h; exact h
        by_cases hx : p.1 = x
        · rw [if_pos hx, if_pos hx, if_neg (by rw [← hx]; exact hp)]
        · rw [if_neg hx, if_neg hx]; exact ih hr
  · rw [if_neg h]
    induction dk with
    | nil =>
      show look [(k, v)] x = _
      rw [look_cons, look_nil]
      by_cases hx : x = k
      · rw [if_pos hx.symm, if_pos hx]
      · rw [if_neg (fun z => hx z.symm), if_neg hx]
    | cons p r ih =>
      rw [List.any_cons, Bool.or_eq_true, not_or] at h
      rw [List.cons_append, look_cons, look_cons, ih h.2]
      have hp : ¬ p.1 = k := fun z => h.1 (decide_eq_true z)
      by_cases hx : p.1 = x
      · rw [if_pos hx, if_pos hx, if_neg (by rw [← hx]; exact hp)]
      · rw [if_neg hx, if_neg hx]
theorem keys_put {dk : List (Str × Str)} {k v : Str} : (putS dk k v).map (·.1) = if k ∈ dk.map (·.1) then dk.map (·.1) else dk.map (·.1) ++ [k] := by
  unfold putS
  rw [look_any]
  by_cases h : k ∈ dk.map (·.1)
  · rw [if_pos (look_mem.mpr h), if_pos h, List.map_map]
    refine List.map_congr_left fun p _ => ?_
    show (if p.1 = k then (p.1, v) else p).1 = p.1
    split <;> rfl
  · rw [if_neg (fun z => h (look_mem.mp z)), if_neg h, List.map_append]
    rfl
theorem nodup_put {dk : List (Str × Str)} {k v : Str} (h : (dk.map (·.1)).Nodup) : ((putS dk k v).map (·.1)).Nodup := by
  rw [keys_put]
  split
  · exact h
  · rename_i hk
    rw [List.nodup_append]
    refine ⟨h, by simp, fun a ha b hb => ?_⟩
    rw [List.mem_singleton] at hb
    intro z; subst z; subst hb; exact hk ha
theorem len_put {dk : List (Str × Str)} {k v : Str} : (putS dk k v).length ≤ dk.length + 1 := by
  have h := congrArg List.length (keys_put (dk := dk) (k := k) (v := v))
  rw [List.length_map] at h
  rw [h]
  split <;> simp
theorem mergeK_kvS_aux : ∀ (ps acc : List (Str × Str)), (kvS ps).foldl (fun acc kv => putK acc kv.1 kv.2) (kvS acc) = kvS (ps.foldl (fun acc p => putS acc p.1 p.2) acc)
  | [], acc => rfl
  | p :: r, acc => by
    show (kvS r).foldl _ (putK (kvS acc) (Sum.inr p.1) (V.str p.2)) = _
    rw [putK_kvS]
    exact mergeK_kvS_aux r (putS acc p.1 p.2)
theorem mergeK_kvS (ps : List (Str × Str)) : mergeK [] (kvS ps) = kvS (mergeS ps) := mergeK_kvS_aux ps []
theorem mergeS_append (ps : List (Str × Str)) (p : Str × Str) : mergeS (ps ++ [p]) = putS (mergeS ps) p.1 p.2 := by
  unfold mergeS
  rw [List.foldl_append]
  rfl
theorem look_merge_aux {x : Str} : ∀ (ps acc : List (Str × Str)), (ps.map (·.1)).Nodup → look (ps.foldl (fun acc p => putS acc p.1 p.2) acc) x = (look ps x).or (look acc x)
  | [], acc, _ => rfl
  | p :: r, acc, h => by
    rw [List.map_cons, List.nodup_cons] at h
    show look (r.foldl _ (putS acc p.1 p.2)) x = _
    rw [look_merge_aux r _ h.2, look_put, look_cons]
    by_cases hx : p.1 = x
    · rw [if_pos hx, if_pos hx.symm]
      have : look r x = none := by
        cases e : look r x with
        | none => rfl
        | some v => exact absurd (look_mem.mp (by rw [e]; rfl)) (by rw [← hx]; exact h.1)
      rw [this]; rfl
    · rw [if_neg hx, if_neg (fun z => hx z.symm)]
/-- of pairs with different keys -/
theorem look_merge {ps : List (Str × Str)} {x : Str} (h : (ps.map (·.1)).Nodup) : look (mergeS ps) x = look ps x := by
  unfold mergeS
  rw [look_merge_aux ps [] h]
  cases look ps x <;> rfl
theorem look_of_mem {ps : List (Str × Str)} {k v : Str} (h : (ps.map (·.1)).Nodup) (hm : (k, v) ∈ ps) : look ps k = some v := by
  induction ps with
  | nil => cases hm
  | cons p r ih =>
    rw [List.map_cons, List.nodup_cons] at h
    rw [look_cons]
    rcases List.mem_cons.mp hm with e | hm
    · subst e; rw [if_pos rfl]
    · rw [if_neg, ih h.2 hm]
      intro z
      exact h.1 (by rw [z]; exact List.mem_map_of_mem (f := (·.1)) hm)

theorem ltCps_iff : ∀ a b : List Nat, ltCps a b = true ↔ a < b
  | [], [] => by simp [ltCps]
  | [], _ :: _ => by simp [ltCps]
  | _ :: _, [] => by simp [ltCps]
  | a :: r, b :: t => by
    rw [List.cons_lt_cons_iff]
    simp [ltCps, ltCps_iff r t]
def leS (a b : Str) : Bool := !decide (b.cps.toList < a.cps.toList)
theorem leS_trans (a b c : Str) : leS a b = true → leS b c = true → leS a c = true := by
  unfold leS
  simp only [Bool.not_eq_true', decide_eq_false_iff_not]
  intro h1 h2 h3
  have h1' : a.cps.toList ≤ b.cps.toList := h1
  exact h2 (Std.lt_of_lt_of_le h3 h1')
theorem leS_total (a b : Str) : (leS a b || leS b a) = true := by
  unfold leS
  by_cases h : b.cps.toList < a.cps.toList
  · rw [decide_eq_true h, decide_eq_false (List.lt_asymm h)]; rfl
  · rw [decide_eq_false h]; rfl
theorem leS_antisymm {a b : Str} (h1 : leS a b = true) (h2 : leS b a = true) : a = b := by
  unfold leS at h1 h2
  simp only [Bool.not_eq_true', decide_eq_false_iff_not] at h1 h2
  exact ext_tl (List.le_antisymm (show tl a ≤ tl b from h1) (show tl b ≤ tl a from h2))
def sortS (l : List Str) : List Str := l.mergeSort leS
theorem risingS_pair : ∀ (l : List Str) (p : Str), risingS p l = true → (∀ x ∈ l, leS p x = true) ∧ l.Pairwise fun a b => leS a b = true
  | [], _, _ => ⟨fun x h => (by cases h), List.Pairwise.nil⟩
  | x :: r, p, h => by
    have h' : (!ltCps x.cps.toList p.cps.toList && risingS x r) = true := h
    rw [Bool.and_eq_true] at h'
    obtain ⟨h1, h2⟩ := risingS_pair r x h'.2
    have hpx : leS p x = true := by
      unfold leS
      have := h'.1
      simp only [Bool.not_eq_true', decide_eq_false_iff_not] at this ⊢
      intro z
      rw [(ltCps_iff _ _).mpr z] at this
      cases this
    refine ⟨fun y hy => ?_, List.Pairwise.cons h1 h2⟩
    rcases List.mem_cons.mp hy with rfl | hy
    · exact hpx
    · exact leS_trans _ _ _ hpx (h1 y hy)
theorem sortedS_pair {l : List Str} (h : sortedS l = true) : l.Pairwise fun a b => leS a b = true := by
  cases l with
  | nil => exact List.Pairwise.nil
  | cons x r =>
    obtain ⟨h1, h2⟩ := risingS_pair r x h
    exact List.Pairwise.cons h1 h2
theorem sortS_pair (l : List Str) : (sortS l).Pairwise fun a b => leS a b = true := List.pairwise_mergeSort leS_trans leS_total l
theorem sortS_perm (l : List Str) : (sortS l).Perm l := List.mergeSort_perm l leS
theorem sortS_eq {ys l : List Str} (hp : ys.Perm l) (hs : sortedS ys = true) : ys = sortS l :=
  List.Perm.eq_of_pairwise (le := fun a b => leS a b = true) (fun a b _ _ => leS_antisymm) (sortedS_pair hs) (sortS_pair l) (hp.trans (sortS_perm l).symm)
theorem sortS_mem {l : List Str} {x : Str} : x ∈ sortS l ↔ x ∈ l := (sortS_perm l).mem_iff
theorem sortS_congr {l m : List Str} (h : l.Perm m) : sortS l = sortS m :=
  List.Perm.eq_of_pairwise (le := fun a b => leS a b = true) (fun a b _ _ => leS_antisymm) (sortS_pair l) (sortS_pair m) ((sortS_perm l).trans (h.trans (sortS_perm m).symm))

/-! ### evaluation -/
section
variable {K : PySem.W.Frag} {σ : L2.St} {H H' : Hp} {ta tb te td ty tx : TE} {x z v : V} {kvs : List (Key × V)} {k : Key} {D : Ends}
theorem ev_dget {a : Addr} (hd : Ev td σ H (.ref a)) (hk : Ev ty σ H (kV k)) (hH : H a = some (.dK kvs)) (hv : valV kvs k = some v) : Ev (tDGet td ty) σ H v := fun H1 e Q q =>
  hd H1 e _ fun H2 e2 => hk H2 (e.trans e2) _ fun H3 e3 => ⟨a, v, rfl, by rw [← hv]; exact DGet.k (((e.trans e2).trans e3).1 _ _ hH), q H3 (e2.trans e3)⟩
theorem ev_dget2 {a : Addr} (hd : Ev td σ H (.ref a)) (hk : Ev ty σ H (kV k)) (hx : Ev tx σ H z) (hH : H a = some (.dK kvs)) : Ev (tDGet2 td ty tx) σ H ((valV kvs k).getD z) := fun H1 e Q q =>
  hd H1 e _ fun H2 e2 => ⟨a, rfl, .inl ⟨kvs, .inl ((e.trans e2).1 _ _ hH)⟩, hk H2 (e.trans e2) _ fun H3 e3 => hx H3 ((e.trans e2).trans e3) _ fun H4 e4 => ⟨_, DGet.k ((((e.trans e2).trans e3).trans e4).1 _ _ hH), q H4 ((e2.trans e3).trans e4)⟩⟩
theorem ev_din {a : Addr} (hk : Ev ty σ H (kV k)) (hd : Ev td σ H (.ref a)) (hH : H a = some (.dK kvs)) : Ev (tDIn ty td) σ H (.bl (valV kvs k).isSome) := fun H1 e Q q =>
  hk H1 e _ fun H2 e2 => hd H2 (e.trans e2) _ fun H3 e3 => ⟨a, _, rfl, DGet.k (((e.trans e2).trans e3).1 _ _ hH), q H3 (e2.trans e3)⟩
theorem ev_dni {a : Addr} (hk : Ev ty σ H (kV k)) (hd : Ev td σ H (.ref a)) (hH : H a = some (.dK kvs)) : Ev (tDNotIn ty td) σ H (.bl (!(valV kvs k).isSome)) := fun H1 e Q q =>
  hk H1 e _ fun H2 e2 => hd H2 (e.trans e2) _ fun H3 e3 => ⟨a, _, rfl, DGet.k (((e.trans e2).trans e3).1 _ _ hH), q H3 (e2.trans e3)⟩
theorem evo_sortD {rc : List V → Hp → VK → Prop} {a : Addr} {dk : List (Str × Str)} (ha : Ev ta σ H (.ref a)) (hH : H a = some (.dK (kvS dk))) (hz : dk.length < 64) : EvO (tCB (rcOr rc rSortD) (tCons ta tNil)) σ H (.lst ((sortS (dk.map (·.1))).map V.str)) := fun H1 e Q q =>
  ha H1 e _ fun H2 e2 => .inr ⟨a, kvS dk, dk.map (·.1), rfl, .inl ((e.trans e2).1 _ _ hH), by unfold kvS; rw [List.map_map, List.map_map]; rfl, by rw [List.length_map]; exact hz, fun ys p hp hs hn => by
    rw [sortS_eq hp hs]; exact q p _ (e2.free hn) (e2.trans (Xt.new hn rfl rfl)) upd_same⟩
theorem evo_sortL {rc : List V → Hp → VK → Prop} {a : Addr} {xs : List Str} (ha : Ev ta σ H (.ref a)) (hH : SqL K H a (xs.map V.str)) (hz : xs.length < 64) : EvO (tCB (rcOr (rSortedS K) rc) (tCons ta tNil)) σ H (.lst ((sortS xs).map V.str)) := fun H1 e Q q =>
  ha H1 e _ fun H2 e2 => .inl ⟨a, xs, rfl, xt_l (e.trans e2) hH, hz, fun ys p hp hs hn => by
    rw [sortS_eq hp hs]; exact q p _ (e2.free hn) (e2.trans (Xt.new hn rfl rfl)) upd_same⟩
/-- a store into a thing of the frame: what is new besides is forgotten -/
theorem shr_mut {H2 : Hp} {l : Addr} {u o : HO} (gd : Gd H) (e : Xt H H2) (hl : H l = some u) (hu : ownO u = false) (ht : ∀ xs, u ≠ .tup xs) (hf : ∀ ob w, u ≠ .frz ob w) (hb : ∀ ps, u ≠ .tbl ps) (ho : okO o = true) (hi : insO o = false) : Shr H (upd H2 l o) (upd H l o) where
  sub := fun a u q => by
    by_cases h : a = l
    · subst h; rw [upd_same] at q ⊢; exact q
    · rw [upd_ne h] at q ⊢; exact e.1 a u q
  tup := fun a ys q => by rw [upd_ne (fun z => by subst z; rw [hl] at q; cases q; exact ht _ rfl)]; exact q
  frz := fun a ob u q => by rw [upd_ne (fun z => by subst z; rw [hl] at q; cases q; exact hf _ _ rfl)]; exact q
  tbl := fun a ps q => by
    have hne : a ≠ l := fun z => by subst z; rw [hl] at q; cases q; exact hb _ rfl
    rw [upd_ne hne, upd_ne hne, q, e.1 _ _ q]
  gd := gd.mut hl hu ho hi
theorem s_dput {a : Addr} (gd : Gd H) (hv : Ev te σ H v) (hd : Ev td σ H (.ref a)) (hk : Ev ty σ H (kV k)) (hH : H a = some (.dK kvs)) (hz : kvs.length < 100000) (kk : D.nx σ (upd H a (.dK (putK kvs k v)))) : tShS (sDPut td ty te) D σ H :=
  hv H (Xt.refl H) _ fun H1 e1 => hd H1 e1 _ fun H2 e2 => hk H2 (e1.trans e2) _ fun H3 e3 => ⟨a, _, rfl, DPut.k (((e1.trans e2).trans e3).1 _ _ hH) (sz_lt hz), _,
    shr_mut gd ((e1.trans e2).trans e3) hH rfl (fun _ z => nomatch z) (fun _ _ z => nomatch z) (fun _ z => nomatch z) rfl rfl, kk⟩
theorem s_dsetd {a : Addr} (gd : Gd H) (hd : Ev td σ H (.ref a)) (hk : Ev ty σ H (kV k)) (hx : Ev tx σ H z) (hH : H a = some (.dK kvs)) (hz : kvs.length < 100000)
    (kk : D.nx σ (upd H a (.dK (if (valV kvs k).isSome = true then kvs else putK kvs k z)))) : tShS (tDrop (tDSetd td ty tx)) D σ H :=
  hd H (Xt.refl H) _ fun H1 e1 => ⟨a, rfl, .inl ⟨kvs, .inl (e1.1 _ _ hH)⟩, hk H1 e1 _ fun H2 e2 => hx H2 (e1.trans e2) _ fun H3 e3 => ⟨kvs, k, ((e1.trans e2).trans e3).1 _ _ hH, rfl, sz_lt hz, fun v hv => by
      rw [hv, if_pos (show (some v).isSome = true from rfl)] at kk
      have eH : upd H a (.dK kvs) = H := by
        funext b
        by_cases h : b = a
        · subst h; rw [upd_same, hH]
        · rw [upd_ne h]
      rw [eH] at kk
      exact ⟨H, ((e1.trans e2).trans e3).back gd, kk⟩, fun hn => by
      rw [hn, if_neg (by simp)] at kk
      exact ⟨_, shr_mut gd ((e1.trans e2).trans e3) hH rfl (fun _ z => nomatch z) (fun _ _ z => nomatch z) (fun _ z => nomatch z) rfl rfl, kk⟩⟩⟩
end
end M
namespace M
open PySem PySem.Spec PyProof.Rows L2 TL
/-! ## 14. More judgements: results that are objects, fields, new instances -/
def EvR {β : Type} (rr : Hp → V → β → Prop) (te : TE) (σ : L2.St) (H : Hp) (b : β) : Prop := ∀ H1, Xt H H1 → ∀ Q : VK, (∀ v H2, Xt H1 H2 → rr H2 v b → Q v H2) → te σ H1 Q
def EvLR {β : Type} (rr : Hp → V → β → Prop) (te : TE) (σ : L2.St) (H : Hp) (bs : List β) : Prop := ∀ H1, Xt H H1 → ∀ Q : VK, (∀ p ys H2, H1 p = none → Xt H1 H2 → H2 p = some (.lst ys) → Paired (rr H2) ys bs → Q (.ref p) H2) → te σ H1 Q
def MutL {β : Type} (rr : Hp → V → β → Prop) : Prop := ∀ H l ys zs x a, H l = some (.lst ys) → rr H x a → rr (upd H l (.lst zs)) x a
theorem paired_app {α : Type} {r : V → α → Prop} : ∀ {xs ys : List V} {as bs : List α}, Paired r xs as → Paired r ys bs → Paired r (xs ++ ys) (as ++ bs)
  | _, _, _, _, .nil, h => h
  | _, _, _, _, .cons a h, h2 => .cons a (paired_app h h2)
section
variable {K : PySem.W.Frag} {σ : L2.St} {H H' : Hp} {ta tb te tx tl : TE} {x z v : V} {D : Ends} {tu tz : TS}
theorem evl_lcR {α β : Type} {wi : TI} {g : TG} {tt : TT} {vs : List Nat} {ws : List α} {rel : Hp → V → α → Prop} {rr : Hp → V → β → Prop} (hm : Mono rel) (hr : Mono rr) (hl : MutL rr) (p : α → Bool) (qq : α → β) (hi : EvI K wi σ H rel ws) (hz : ws.length ≤ 40000)
    (hel : ∀ a, a ∈ ws → ∀ x H1, Xt H H1 → rel H1 x a → ∃ σ2, (∀ Q : L2.St → Hp → Prop, Q σ2 H1 → g x (wipe σ vs) H1 Q) ∧ wipe σ2 vs = wipe σ vs ∧ EvT tt σ2 H1 (p a) ∧ (p a = true → EvR rr te σ2 H1 (qq a))) :
    EvLR rr (tLc wi g tt te vs) σ H ((ws.filter p).map qq) := by
  intro H1 e Q q
  have turn : ∀ (H2 : Hp) (Dl : Addr), Xt H1 H2 → H2 Dl = none → ∀ (i : Nat) (x : V) (H' : Hp) (a : α), ws[i]? = some a → rel H' x a →
      (Xt H2 H' ∧ ∃ ys, H' Dl = some (.lst ys) ∧ Paired (rr H') ys (((ws.take i).filter p).map qq)) →
      g x (wipe σ vs) H' fun σ2 H3 => wipe σ2 vs = wipe σ vs ∧ tt σ2 H3 fun b H4 => if b = true then te σ2 H4 fun y H5 => ∃ acc, H5 Dl = some (.lst acc) ∧ acc.length < sizeLine ∧
        (Xt H2 (upd H5 Dl (.lst (acc ++ [y]))) ∧ ∃ ys, (upd H5 Dl (.lst (acc ++ [y]))) Dl = some (.lst ys) ∧ Paired (rr (upd H5 Dl (.lst (acc ++ [y])))) ys (((ws.take (i + 1)).filter p).map qq))
        else (Xt H2 H4 ∧ ∃ ys, H4 Dl = some (.lst ys) ∧ Paired (rr H4) ys (((ws.take (i + 1)).filter p).map qq)) := by
    intro H2 Dl e2 hD i x H' a ha hx hP
    obtain ⟨eP, ys, hy, hd⟩ := hP
    have hi' : i < ws.length := (List.getElem?_eq_some_iff.mp ha).1
    obtain ⟨σ2, hg, hw, ht, he⟩ := hel a (List.mem_of_getElem? ha) x H' ((e.trans e2).trans eP) hx
    refine hg _ ⟨hw, ht H' (Xt.refl H') _ fun H4 e4 => ?_⟩
    have hlen : ys.length ≤ i := by
      rw [Paired.length hd, List.length_map]
      refine Nat.le_trans (List.length_filter_le _ _) ?_
      rw [List.length_take]; omega
    cases hp : p a with
    | true =>
      rw [if_pos rfl]
      refine he hp H4 e4 _ fun y H5 e5 hy5 => ⟨ys, (e4.trans e5).1 _ _ hy, sz_lt (by omega), Xt.mut (eP.trans (e4.trans e5)) hD ((e4.trans e5).1 _ _ hy) rfl rfl rfl, ys ++ [y], upd_same, ?_⟩
      have h5 := (e4.trans e5).1 _ _ hy
      rw [filt_succ ha, if_pos hp]
      exact paired_app (Paired.mapP (paired_mono hr (e4.trans e5) hd) fun x a r => hl _ _ _ _ _ _ h5 r) (.cons (hl _ _ _ _ _ _ h5 hy5) .nil)
    | false =>
      rw [if_neg Bool.false_ne_true]
      refine ⟨eP.trans e4, ys, e4.1 _ _ hy, ?_⟩
      rw [filt_succ ha, if_neg (by rw [hp]; exact Bool.false_ne_true), List.append_nil]
      exact paired_mono hr e4 hd
  have fin : ∀ (H2 : Hp) (Dl : Addr) (xs : List V), Xt H1 H2 → H2 Dl = none → xs.length = ws.length → ∀ H', (Xt H2 H' ∧ ∃ ys, H' Dl = some (.lst ys) ∧ Paired (rr H') ys (((ws.take xs.length).filter p).map qq)) → Q (.ref Dl) H' := by
    intro H2 Dl xs e2 hD hl H' ⟨eP, ys, hy, hd⟩
    rw [hl, List.take_length] at hd
    exact q Dl ys H' (e2.free hD) (e2.trans eP) hy hd
  have start : ∀ (H2 : Hp) (Dl : Addr), H2 Dl = none → Xt H2 (upd H2 Dl (.lst [])) ∧ ∃ ys, (upd H2 Dl (.lst [])) Dl = some (.lst ys) ∧ Paired (rr (upd H2 Dl (.lst []))) ys (((ws.take 0).filter p).map qq) :=
    fun H2 Dl hD => ⟨Xt.new hD rfl rfl, [], upd_same, .nil⟩
  have item : ∀ {xs : List V} {H2 H' : Hp} {i : Nat} {x : V}, Paired (rel H2) xs ws → Xt H2 H' → xs[i]? = some x → ∃ a, ws[i]? = some a ∧ rel H' x a :=
    fun hd eP hx => paired_get (paired_mono hm eP hd) hx
  refine hi H1 e _ (fun a xs H2 e2 hd hl => fun Dl hD => ?_) (fun a xs H2 e2 hd hl => fun Dl hD => ?_)
  · have hlen : xs.length = ws.length := Paired.length hd
    exact lc_list (xs := xs) (fun i H' => Xt H2 H' ∧ ∃ ys, H' Dl = some (.lst ys) ∧ Paired (rr H') ys (((ws.take i).filter p).map qq)) (start H2 Dl hD) (fun i H' _ hP => xt_l hP.1 hl)
      (fun i x H' hx hP => by
        obtain ⟨a', ha, hxd⟩ := item hd hP.1 hx
        exact turn H2 Dl e2 hD i x H' a' ha hxd hP) (fin H2 Dl xs e2 hD hlen)
  · have hlen : xs.length = ws.length := Paired.length hd
    exact lc_tup (xs := xs) (fun i H' => Xt H2 H' ∧ ∃ ys, H' Dl = some (.lst ys) ∧ Paired (rr H') ys (((ws.take i).filter p).map qq)) (start H2 Dl hD) (fun i H' _ hP => xt_t hP.1 hl)
      (fun i x H' hx hP => by
        obtain ⟨a', ha, hxd⟩ := item hd hP.1 hx
        exact turn H2 Dl e2 hD i x H' a' ha hxd hP) (fin H2 Dl xs e2 hD hlen)
theorem rv_ixA {p : Addr} {xs : List V} {i : Int} (h : SqL K H p xs ∨ SqT K H p xs) (ha : atI xs i = some v) : RV (rIx K) (.ref p) (.int i) H v := h.elim (fun h => rv_ixL h ha) fun h => rv_ixT h ha
theorem atI_strs {ws : List Str} {i : Nat} {s : Str} (h : ws[i]? = some s) : atI (ws.map V.str) (i : Int) = some (.str s) := atI_nat (by rw [List.getElem?_map, h]; rfl)
theorem xt_a {p : Addr} {xs : List V} (e : Xt H H') (h : SqL K H p xs ∨ SqT K H p xs) : SqL K H' p xs ∨ SqT K H' p xs := h.imp (xt_l e) (xt_t e)
/-- o.f -/
theorem ev_fld {a C dx : Addr} {fs : List (Str × V)} {f : Str} (ha : Ev ta σ H (.ref a)) (hH : H a = some (.ins C dx fs)) (hc : Cls K C) (hn : NoAttr K C f) (hl : fs.lookup f = some v) : Ev (tFld K ta f) σ H v := fun H1 e Q q =>
  ha H1 e _ fun H2 e2 => ⟨a, C, dx, fs, v, rfl, (e.trans e2).1 _ _ hH, hc, hn, hl, q H2 e2⟩
theorem s_fld {a C dx : Addr} {fs : List (Str × V)} {f : Str} (gd : Gd H) (hv : Ev te σ H v) (ha : Ev ta σ H (.ref a)) (hH : H a = some (.ins C dx fs)) (hc : Cls K C) (hn : NoAttr K C f) (hl : fs.length < 1000) (k : D.nx σ (upd H a (.ins C dx (putF f v fs)))) : tShS (sFld K ta te f) D σ H :=
  hv H (Xt.refl H) _ fun H1 e1 => ha H1 e1 _ fun H2 e2 => ⟨a, C, dx, fs, rfl, (e1.trans e2).1 _ _ hH, hc, hn, hl, _,
    { sub := fun b u q => by
        by_cases h : b = a
        · subst h; rw [upd_same] at q ⊢; exact q
        · rw [upd_ne h] at q ⊢; exact (e1.trans e2).1 b u q
      tup := fun b ys q => by rw [upd_ne (fun z => by subst z; rw [hH] at q; cases q)]; exact q
      frz := fun b ob u q => by rw [upd_ne (fun z => by subst z; rw [hH] at q; cases q)]; exact q
      tbl := fun b ps q => by
        have hne : b ≠ a := fun z => by subst z; rw [hH] at q; cases q
        rw [upd_ne hne, upd_ne hne, q, (e1.trans e2).1 _ _ q]
      gd := gd.fld hH }, k⟩
end
section
variable {K : PySem.W.Frag} {σ : L2.St} {H : Hp} {te : TE} {x y : V} {D : Ends} {tz : TS}
theorem g_pairN {i j n : Nat} {a : Addr} {Q : L2.St → Hp → Prop} (h : SqT K H a [x, y]) (q : Q ((σ.set i (some x)).set j (some y)) H) (hn : n = 2 := by rfl) : gTup K n (gCons (gName i) (gCons (gName j) gNil)) (.ref a) σ H Q :=
  ⟨a, [x, y], rfl, h, hn.symm, x, [y], rfl, y, [], rfl, rfl, q⟩
/-- x, y = e -/
theorem s_asgP {i j n : Nat} {a : Addr} (gd : Gd H) (h : Ev te σ H (.ref a)) (hb : SqT K H a [x, y]) (k : D.nx ((σ.set i (some x)).set j (some y)) H) (hn : n = 2 := by rfl) : tShS (tAsg te (gTup K n (gCons (gName i) (gCons (gName j) gNil)))) D σ H :=
  h H (Xt.refl H) _ fun H1 e => g_pairN (xt_t e hb) ⟨H, e.back gd, k⟩ hn
theorem q_asgP {i j n : Nat} {a : Addr} (gd : Gd H) (h : Ev te σ H (.ref a)) (hb : SqT K H a [x, y]) (k : tz D ((σ.set i (some x)).set j (some y)) H) (hn : n = 2 := by rfl) : tSeq (tShS (tAsg te (gTup K n (gCons (gName i) (gCons (gName j) gNil))))) tz D σ H :=
  s_asgP (D := { D with nx := tz D }) gd h hb k hn
end
/-- a class of the text with its __init__'s promise, for callers -/
structure MkCallee (P : Program) (w : World) (K : PySem.W.Frag) (mg : Str → Option Value) (base : Heap) (x : Str) (C : Addr) (k : Nat) (ps : List Str) (dvs : List V) (sp : Sp) : Prop where
  ex : ∃ (f : Addr) (fd : FuncData) (ds : List Value), FnOk P w K mg base CX0 k f fd ps sp ∧ Mk K C f ∧ mg x = some (.ref C) ∧ Binds K fd ps ds ∧ Vals dvs ds
theorem pe_mkC {X : Cx} {x : Str} {C : Addr} {k : Nat} {ps : List Str} {dvs : List V} {sp : Sp} {e : Expr} {es : List Expr} {p pos : Pos} {t : TA} (c : MkCallee X.prog X.w X.K X.mg X.base x C k ps dvs sp) (hr : Room (k + 1) X.A) (ha : PA X (e :: es) t) (hg : Gl X x := by rfl)
    (hdb : (x == ("__debug__" : Str)) = false := by decide) (he : starEach (e :: es) X.env = (false, eval e X.env) :: starEach es X.env := by rfl) (hpl : (backTo pos (starEach es X.env)).any (·.1) = false := by rfl) :
    PE X (.Call (.Name x p) (e :: es) [] pos) (tMake C sp dvs E0 t) := by
  obtain ⟨f, fd, ds, F, M, hm, hb, hd⟩ := c.ex
  exact pe_make M F hr hg hm hb hd pass0 ha hdb he hpl
/-- C(): the defaults dvs -/
theorem pe_mkC0 {X : Cx} {x : Str} {C : Addr} {k : Nat} {ps : List Str} {dvs : List V} {sp : Sp} {p pos : Pos} (c : MkCallee X.prog X.w X.K X.mg X.base x C k ps dvs sp) (hr : Room (k + 1) X.A) (hg : Gl X x := by rfl)
    (hdb : (x == ("__debug__" : Str)) = false := by decide) : PE X (.Call (.Name x p) [] [] pos) (tMake C sp dvs E0 tNil) := by
  obtain ⟨f, fd, ds, F, M, hm, hb, hd⟩ := c.ex
  exact pe_make0 M F hr hg hm hb hd pass0 hdb
/-! ## 15. The rules with the written part named -/
section
variable {X : Cx} {K : PySem.W.Frag}
theorem op_addK (hK : X.K = K) : OpR X (binaryOp .Add) (rOr rAddI (rOr rAddS (rOr rCat (rCatT K)))) := hK ▸ op_addA
theorem op_eqK (hK : X.K = K) (hu : X.A.units + 64 < cLine) : OpR X (compareOp .Eq) (rOr rEq (rEqD K)) := hK ▸ op_eqA hu
theorem op_neK (hK : X.K = K) (hu : X.A.units + 64 < cLine) : OpR X (compareOp .NotEq) (rOr rNe (rNeD K)) := hK ▸ op_neA hu
theorem op_inK (hK : X.K = K) : OpR X (compareOp .In) (rOr (rIn K false) (rInS false)) := hK ▸ op_inA
theorem op_niK (hK : X.K = K) : OpR X (compareOp .NotIn) (rOr (rIn K true) (rInS true)) := hK ▸ op_niA
theorem ix_seqK (hK : X.K = K) : IxR X (rIx K) := hK ▸ ix_seq
theorem sl_AK (hK : X.K = K) : SlR X (rsOr (rSlL K) (rsOr (rSlA K) rSlS)) := hK ▸ sl_A
theorem call_lenK (hK : X.K = K) : CallR X (.builtin "len") (rcOr (rLenS K) (rcOr rLenT rLenD)) := hK ▸ call_lenA
theorem call_sortedK (hK : X.K = K) (hc : X.calm = true) : CallR X (.builtin "sorted") (rcOr (rSortedS K) rSortD) := hK ▸ call_sortedA hc
theorem call_isiK2 (hK : X.K = K) : CallR X (.builtin "isinstance") (rcOr (rIsi K) (rIsiT K)) := hK ▸ call_isiA
theorem call_tupK (hK : X.K = K) : CallR X (.type "tuple") (rTupF K) := hK ▸ call_tupF
theorem call_dictK (hK : X.K = K) (hc : X.calm = true) : CallR X (.type "dict") (rDictF K) := hK ▸ call_dictF hc
def rListDK : List V → Hp → VK → Prop := fun xs H Q => ∃ (a : Addr) (kvs : List (Key × V)), xs = [.ref a] ∧ Rd H a (.dK kvs) ∧ ∀ p, H p = none → Q (.ref p) (upd H p (.lst (kvs.map fun kv => kV kv.1)))
theorem call_listK (hK : X.K = K) (hc : X.calm = true) : CallR X (.type "list") (rcOr (rListS K) rListDK) := hK ▸ call_list_of.or (call_listD hc)
theorem cr_allK (hK : X.K = K) (hc : X.calm = true) : CallR X (.builtin "all") (rAll K) := hK ▸ cr_all hc
theorem cr_anyK (hK : X.K = K) (hc : X.calm = true) : CallR X (.builtin "any") (rAny K) := hK ▸ cr_any hc
theorem cr_sumK (hK : X.K = K) (hc : X.calm = true) : CallR X (.builtin "sum") (rSum K) := hK ▸ cr_sum hc
theorem pi_seqK (hK : X.K = K) {tg e : Expr} {t : TE} (h : PE X e t) : PI X tg e (iSeq K t) := hK ▸ pi_seq h
theorem pt_truthK (hK : X.K = K) {e : Expr} {ta : TE} (ha : PE X e ta) (he : ∀ whole, isTrue e X.env whole = (do let v ← whole; standAt e.pos; holding [v] (truthy v))) : PT X e (fun σ H Q => ta σ H fun x H' => ∃ k, TruV K x H' k ∧ Q k H') := hK ▸ pt_truth ha he
theorem pe_fldK (hK : X.K = K) {e : Expr} {f : Str} {pos : Pos} {ta : TE} (he : PE X e ta) (hb : attributeBase e f X.env (eval e X.env) = eval e X.env := by rfl) : PE X (.Attribute e f pos) (tFld K ta f) := hK ▸ pe_fld he hb
end
end M
namespace M
open PySem PySem.Spec PyProof.Rows L2 TL
/-! ## 16. Ends of defs, a heap of facts beneath the heap -/
section
variable {P : Program} {w : World} {K : PySem.W.Frag} {mg : Str → Option Value} {base : Heap}
/-- THE RULE for a def with defaults -/
theorem okSD {x qual : Str} {params : Arguments} {body : List Stmt} {scope : Scope} {dvs : List V} {kws : List (Str × V)} {f : Addr} {fd : FuncData} {N ps : List Str} {k : Nat} {sp : Sp} (F : FunD K x qual params body scope dvs kws f fd) (S : FnScope N ps scope) (len : ∀ vs H Q E, sp vs H Q E → vs.length = ps.length)
    (hbody : ∀ (cdv : Value) (A : Around) (outer : List Env) (s : Shared) (H : Hp) (vs : List V) (Q : VK) (E : XK), Room k (A.deeper (envOfC qual scope s.heap.objs.size f cdv)) → sp vs H Q E →
      ∃ t, PSs (cxOf CX0 P w K mg base N qual scope f cdv A outer s H E).nox body t ∧ t { nx := fun _ H' => ∃ H'', Shr H H' H'' ∧ Q .non H'', rt := fun v H' => ∃ H'', Shr H H' H'' ∧ Q v H'' } (L2.start N vs) H) : FnOk P w K mg base CX0 (k + 1) f fd ps sp := by
  have G : FnOk P w K mg base CX0 (k + 1) f fd ps (fun vs H Q1 E => ∃ Q : VK, sp vs H Q E ∧ Q1 = fun v H' => ∃ H'', Shr H H' H'' ∧ Q v H'') := by
    refine F.ok S (fun vs H Q E ⟨Q0, h, _⟩ => len vs H Q0 E h) (fun cdv A outer s H vs Q1 E hr h => ?_)
    obtain ⟨Q, h, rfl⟩ := h
    obtain ⟨t, h, q⟩ := hbody cdv A outer s H vs Q E hr h
    exact ⟨t, h.nox, q⟩
  refine ⟨len, fun A outer s H args us vs Q E hr e0 hb r hsp => ?_⟩
  refine codeAny_mono (G.run A outer s H args us vs _ E hr e0 hb r ⟨Q, hsp, rfl⟩) fun r s' hq => ?_
  cases r with
  | ok v =>
    cases v with
    | ret u => exact ce_shr hq
    | _ => exact hq
  | error e => exact hq
end
section
variable {K : PySem.W.Frag} {H H1 H2 G G' : Hp} {v : V} {d : PyData} {ds : List PyData} {Q : VK} {σ : L2.St} {ta te : TE} {D : Ends} {o : HO}
/-- what a call tells that gives back data | a tuple of data without a dict of its own -/
def RetD (K : PySem.W.Frag) (H : Hp) (Q : VK) (d : PyData) : Prop := ∀ v H', Tx H H' → DpT K H' v d → Q v H'
def RetF (K : PySem.W.Frag) (H : Hp) (Q : VK) (ds : List PyData) : Prop := ∀ p ys H', Tx H H' → SqF K H' p ys → DpTs K H' ys ds → Q (.ref p) H'
theorem finD (gd : Gd H) (x : Xt H H2) (hv : DpT K H2 v d) (q : RetD K H Q d) : ∃ H3, Shr H H2 H3 ∧ Q v H3 := ⟨tupsOf H H2, tupsOf_shr x gd, q v _ tupsOf_tx (hv.mono fun _ _ h => tupsOf_sq x h)⟩
theorem finF {p : Addr} {ys : List V} (gd : Gd H) (x : Xt H H2) (hf : SqF K H2 p ys) (hv : DpTs K H2 ys ds) (q : RetF K H Q ds) : ∃ H3, Shr H H2 H3 ∧ Q (.ref p) H3 := ⟨tupsOf H H2, tupsOf_shr x gd, q p ys _ tupsOf_tx (tupsOf_sqF x hf) (hv.mono fun _ _ h => tupsOf_sq x h)⟩
theorem finV (gd : Gd H) (x : Xt H H2) (q : Q v H) : ∃ H3, Shr H H2 H3 ∧ Q v H3 := ⟨H, x.back gd, q⟩
/-- a call whose promise ends so -/
theorem evd_ret {sp : Sp} {dvs vs : List V} {E : XK} {tr : TA} (h : EvA tr σ H vs) (hs : ∀ H1, Xt H H1 → ∀ Q : VK, RetD K H1 Q d → ∀ E, sp (vs ++ dvs) H1 Q E) : EvD K (tCall sp dvs E tr) σ H d :=
  evd_call h fun H1 e Q q E => hs H1 e Q (fun v H2 tx hv => q v H2 tx.xt hv) E
theorem evf_ret {sp : Sp} {dvs vs : List V} {E : XK} {tr : TA} (h : EvA tr σ H vs) (hs : ∀ H1, Xt H H1 → ∀ Q : VK, RetF K H1 Q ds → ∀ E, sp (vs ++ dvs) H1 Q E) : EvF K (tCall sp dvs E tr) σ H ds :=
  evf_call h fun H1 e Q q E => hs H1 e Q (fun p ys H2 tx hf hv => q p ys H2 tx.xt hf hv) E
/-- facts in G, the heap above it: data that is new in H2 -/
theorem tupsOf_up (x : Xt G H2) (g2 : Gd H2) : Xt (tupsOf G H2) H2 := ⟨fun a o h => (tupsOf_cases h).elim (x.1 a o) fun h => h.2.1, fun _ => g2⟩
theorem tupsOf_none {l : Addr} (h : G l = none) (h2 : H2 l = some o) (h3 : ∀ xs, o ≠ .tup xs) (h4 : ∀ ob xs, o ≠ .frz ob (.tup xs)) : tupsOf G H2 l = none := by
  cases e : tupsOf G H2 l with
  | none => rfl
  | some u =>
    rcases tupsOf_cases e with q | ⟨_, q, z⟩
    · rw [h] at q; cases q
    · rw [h2] at q; cases q
      rcases z with ⟨xs, z⟩ | ⟨ob, xs, z⟩
      · exact absurd z (h3 xs)
      · exact absurd z (h4 ob xs)
theorem evo_dict {a : Addr} {ys : List V} {ps : List (Str × Str)} (ha : Ev ta σ H (.ref a)) (hf : SqF K H a ys) (hd : DpTs K H ys (ps.map fun p => PyData.tuple [.str p.1, .str p.2])) : EvO (tCB (rDictF K) (tCons ta tNil)) σ H (.dK (kvS (mergeS ps))) := fun H1 e Q q =>
  ha H1 e _ fun H2 e2 => by
    have x := e.trans e2
    have key : ∀ {ys : List V} {ps : List (Str × Str)}, DpTs K H2 ys (ps.map fun p => PyData.tuple [.str p.1, .str p.2]) → ∃ as : List Addr, ys = as.map V.ref ∧ Paired (fun p (kv : Key × V) => SqT K H2 p [kV kv.1, kv.2]) as (kvS ps) := by
      intro ys ps
      induction ps generalizing ys with
      | nil => intro h; cases h; exact ⟨[], rfl, .nil⟩
      | cons p r ih =>
        intro h
        obtain ⟨v, t, rfl, h1, h2⟩ := DpTs.cons_ h
        obtain ⟨as, rfl, pr⟩ := ih h2
        obtain ⟨b, zs, rfl, hb, hz⟩ := h1.tup_
        obtain ⟨z1, r1, rfl, k1, k2⟩ := hz.cons_
        obtain ⟨z2, r2, rfl, k3, k4⟩ := k2.cons_
        obtain rfl := k4.nil_
        obtain rfl := k1.str_
        obtain rfl := k3.str_
        exact ⟨b :: as, rfl, .cons hb pr⟩
    obtain ⟨as, rfl, pr⟩ := key (hd.xt x)
    exact ⟨a, as, kvS ps, rfl, hf.xt x, pr, fun p hp => by rw [mergeK_kvS]; exact q p _ (e2.free hp) (e2.trans (Xt.new hp rfl rfl)) upd_same⟩
theorem s_fldO {a C dx : Addr} {fs : List (Str × V)} {f : Str} (gd : Gd H) (hv : EvO te σ H o) (ho : okO o = true) (hi : insO o = false) (ha : Ev ta σ H (.ref a)) (hH : H a = some (.ins C dx fs)) (hc : Cls K C) (hn : NoAttr K C f) (hl : fs.length < 1000)
    (k : ∀ p, H p = none → D.nx σ (upd (upd H p o) a (.ins C dx (putF f (.ref p) fs)))) : tShS (sFld K ta te f) D σ H :=
  hv H (Xt.refl H) _ fun p H1 hp e1 hp1 => ha H1 e1 _ fun H2 e2 => by
    have hp2 := e2.1 _ _ hp1
    have nap : a ≠ p := ne_of_none hH hp
    have S := (e1.trans e2).backN gd hp hp2 ho hi
    refine ⟨a, C, dx, fs, rfl, (e1.trans e2).1 _ _ hH, hc, hn, hl, _, ?_, k p hp⟩
    have hH' : (upd H p o) a = some (.ins C dx fs) := by rw [upd_ne nap]; exact hH
    exact {
      sub := fun b u q => by
        by_cases h : b = a
        · subst h; rw [upd_same] at q ⊢; exact q
        · rw [upd_ne h] at q ⊢; exact S.sub b u q
      tup := fun b ys q => by rw [upd_ne (fun z => by subst z; rw [hH] at q; cases q)]; exact S.tup b ys q
      frz := fun b ob u q => by rw [upd_ne (fun z => by subst z; rw [hH] at q; cases q)]; exact S.frz b ob u q
      tbl := fun b ps q => by
        have hne : b ≠ a := fun z => by subst z; rw [hH] at q; cases q
        rw [upd_ne hne, upd_ne hne]; exact S.tbl b ps q
      gd := S.gd.fld hH' }
end
theorem pg_tupK {X : Cx} {K : PySem.W.Frag} {n : Nat} (hK : X.K = K) (hc : X.calm = true) {es : List Expr} {k : Nat} {t : TGs} {pos : Pos} (h : PGs X es t) (hn : (assignEach es X.env).length = n) (hst : (assignEach es X.env).findIdx? (·.1) = none) : PG X (.Tuple es k pos) (gTup K n t) := hK ▸ pg_tup hc h hn hst
/-- tuple(l) of a new list of things -/
theorem evx_tupR {β : Type} {K : PySem.W.Frag} {σ : L2.St} {H : Hp} {ta : TE} {rr : Hp → V → β → Prop} {bs : List β} (hr : Mono rr) (ha : EvLR rr ta σ H bs) : ∀ H1, Xt H H1 → ∀ Q : VK, (∀ p ys H2, Xt H1 H2 → SqF K H2 p ys → Paired (rr H2) ys bs → Q (.ref p) H2) → tCB (rTupF K) (tCons ta tNil) σ H1 Q := fun H1 e Q q =>
  ha H1 e _ fun p ys H2 hp e2 h2 hs => ⟨p, ys, rfl, .inl ⟨.inl (.inl h2), fun l o hl hd => q l ys _ (e2.trans (Xt.new hl rfl rfl)) (.inl ⟨o, upd_same, hd⟩) (paired_mono hr (Xt.new hl rfl rfl) hs)⟩⟩
theorem s_retX {σ : L2.St} {H : Hp} {te : TE} {D : Ends} {P : V → Hp → Prop} (h : ∀ Q : VK, (∀ v H1, Xt H H1 → P v H1 → Q v H1) → te σ H Q) (k : ∀ v H1, Xt H H1 → P v H1 → ∃ H'', Shr H H1 H'' ∧ D.rt v H'') : tShS (tRet te) D σ H := h _ k
theorem q_fld {K : PySem.W.Frag} {σ : L2.St} {H : Hp} {ta te : TE} {v : V} {D : Ends} {tz : TS} {a C dx : Addr} {fs : List (Str × V)} {f : Str} (gd : Gd H) (hv : Ev te σ H v) (ha : Ev ta σ H (.ref a)) (hH : H a = some (.ins C dx fs)) (hc : Cls K C) (hn : NoAttr K C f) (hl : fs.length < 1000) (k : tz D σ (upd H a (.ins C dx (putF f v fs)))) : tSeq (tShS (sFld K ta te f)) tz D σ H :=
  s_fld (D := { D with nx := tz D }) gd hv ha hH hc hn hl k
end M
namespace M
open PySem PySem.Spec PyProof.Rows L2 TL
/-! ## 17. A list of three ints that is drawn from -/
def bagO (d s c : Int) : HO := .lst [.int d, .int s, .int c]
def BagAt (H : Hp) (b : Addr) : Prop := ∃ d s c, H b = some (bagO d s c)
theorem BagAt.xt {H H' : Hp} {b : Addr} (e : Xt H H') (h : BagAt H b) : BagAt H' b := let ⟨d, s, c, q⟩ := h; ⟨d, s, c, e.1 _ _ q⟩
theorem upd_self {H : Hp} {a : Addr} {o : HO} (h : H a = some o) : upd H a o = H := by
  funext b
  by_cases e : b = a
  · subst e; rw [upd_same, h]
  · rw [upd_ne e]
theorem upd_comm {H : Hp} {a b : Addr} {o u : HO} (h : a ≠ b) : upd (upd H a o) b u = upd (upd H b u) a o := by
  funext c
  by_cases h1 : c = b
  · subst h1; rw [upd_same, upd_ne (Ne.symm h), upd_same]
  · rw [upd_ne h1]
    by_cases h2 : c = a
    · subst h2; rw [upd_same, upd_same]
    · rw [upd_ne h2, upd_ne h2, upd_ne h1]
/-- all but b is kept -/
structure Sb (b : Addr) (H H' : Hp) : Prop where
  kp : ∀ a o, a ≠ b → H a = some o → H' a = some o
  gd : Gd H'
  bag : BagAt H' b
theorem Sb.refl {b : Addr} {H : Hp} (g : Gd H) (h : BagAt H b) : Sb b H H := ⟨fun _ _ _ h => h, g, h⟩
theorem Sb.trans {b : Addr} {H H1 H2 : Hp} (a : Sb b H H1) (c : Sb b H1 H2) : Sb b H H2 := ⟨fun x o n h => c.kp x o n (a.kp x o n h), c.gd, c.bag⟩
theorem Sb.of {b : Addr} {H H' : Hp} (e : Xt H H') (g : Gd H) (h : BagAt H b) : Sb b H H' := ⟨fun a o _ h => e.1 a o h, e.2 g, h.xt e⟩
theorem Sb.up {b : Addr} {G H H' : Hp} (s : Sb b H H') (e : Xt G H) (hG : G b = none) : Xt G H' := ⟨fun a o h => s.kp a o (ne_of_none h hG) (e.1 a o h), fun _ => s.gd⟩
theorem Sb.shr {b : Addr} {H H' : Hp} (s : Sb b H H') (h : BagAt H b) : Shr H H' H' := by
  obtain ⟨d, z, c, hb⟩ := h
  exact ⟨fun _ _ h => h, fun a xs q => s.kp a _ (fun e => by subst e; rw [hb] at q; cases q) q, fun a o u q => s.kp a _ (fun e => by subst e; rw [hb] at q; cases q) q, fun a ps q => rfl, s.gd⟩
/-- only the bag has changed -/
theorem Sb.end {b : Addr} {H H' : Hp} (s : Sb b H H') (g : Gd H) (h : BagAt H b) : ∃ d z c, Shr H H' (upd H b (bagO d z c)) := by
  obtain ⟨d0, z0, c0, hb⟩ := h
  obtain ⟨d, z, c, hb'⟩ := s.bag
  refine ⟨d, z, c, ⟨fun a u q => ?_, fun a xs q => ?_, fun a o u q => ?_, fun a ps q => ?_, g.mut hb rfl rfl rfl⟩⟩
  · by_cases e : a = b
    · subst e; rw [upd_same] at q; cases q; exact hb'
    · rw [upd_ne e] at q; exact s.kp a u e q
  · rw [upd_ne (fun e => by subst e; rw [hb] at q; cases q)]; exact q
  · rw [upd_ne (fun e => by subst e; rw [hb] at q; cases q)]; exact q
  · have e : a ≠ b := fun e => by subst e; rw [hb] at q; cases q
    rw [upd_ne e, q, s.kp a _ e q]
/-- .. and a new thing stays -/
theorem Sb.endN {b p : Addr} {o : HO} {H H' : Hp} (s : Sb b H H') (g : Gd H) (h : BagAt H b) (hp : H p = none) (hp' : H' p = some o) (ho : okO o = true) (hi : insO o = false) : ∃ d z c, Shr H H' (upd (upd H b (bagO d z c)) p o) := by
  obtain ⟨d0, z0, c0, hb⟩ := h
  obtain ⟨d, z, c, hb'⟩ := s.bag
  have nb : p ≠ b := fun e => by subst e; rw [hb] at hp; cases hp
  have g1 : Gd (upd H b (bagO d z c)) := g.mut hb rfl rfl rfl
  refine ⟨d, z, c, ⟨fun a u q => ?_, fun a xs q => ?_, fun a o u q => ?_, fun a ps q => ?_, g1.new (by rw [upd_ne nb]; exact hp) ho hi⟩⟩
  · by_cases e : a = p
    · subst e; rw [upd_same] at q; cases q; exact hp'
    · rw [upd_ne e] at q
      by_cases e : a = b
      · subst e; rw [upd_same] at q; cases q; exact hb'
      · rw [upd_ne e] at q; exact s.kp a u e q
  · rw [upd_ne (ne_of_none q hp), upd_ne (fun e => by subst e; rw [hb] at q; cases q)]; exact q
  · rw [upd_ne (ne_of_none q hp), upd_ne (fun e => by subst e; rw [hb] at q; cases q)]; exact q
  · have e : a ≠ b := fun e => by subst e; rw [hb] at q; cases q
    rw [upd_ne (ne_of_none q hp), upd_ne e, q, s.kp a _ e q]
/-- the value has P, the bag may have changed -/
def EvB (b : Addr) (te : TE) (σ : L2.St) (G : Hp) (P : V → Prop) : Prop := ∀ H1, Xt G H1 → Gd H1 → BagAt H1 b → ∀ Q : VK, (∀ v H2, Sb b H1 H2 → P v → Q v H2) → te σ H1 Q
def EvTB (b : Addr) (tt : TT) (σ : L2.St) (G : Hp) (P : Bool → Prop) : Prop := ∀ H1, Xt G H1 → Gd H1 → BagAt H1 b → ∀ Q : Bool → Hp → Prop, (∀ v H2, Sb b H1 H2 → P v → Q v H2) → tt σ H1 Q
def EvAB (b : Addr) (ta : TA) (σ : L2.St) (G : Hp) (P : List V → Prop) : Prop := ∀ H1, Xt G H1 → Gd H1 → BagAt H1 b → ∀ Q : List V → Hp → Prop, (∀ v H2, Sb b H1 H2 → P v → Q v H2) → ta σ H1 Q
section
variable {K : PySem.W.Frag} {σ : L2.St} {G H : Hp} {ta tb te : TE} {tt : TT} {b : Addr} {P P1 P2 : V → Prop} {D : Ends} {tu tw tz : TS}
theorem EvB.imp (h : EvB b te σ G P1) (hi : ∀ v, P1 v → P2 v) : EvB b te σ G P2 := fun H1 e g hb Q q => h H1 e g hb Q fun v H2 s p => q v H2 s (hi v p)
theorem evb_of {v : V} (h : Ev te σ G v) : EvB b te σ G (fun x => x = v) := fun H1 e g hb Q q => h H1 e Q fun H2 e2 => q v H2 (Sb.of e2 g hb) rfl
theorem etb_of {v : Bool} (h : EvT tt σ G v) : EvTB b tt σ G (fun x => x = v) := fun H1 e g hb Q q => h H1 e Q fun H2 e2 => q v H2 (Sb.of e2 g hb) rfl
/-- an operation -/
theorem evb_op {r : R2} (hG : G b = none) (ha : EvB b ta σ G P1) (hb : EvB b tb σ G P2) (hr : ∀ x y, P1 x → P2 y → ∃ z, P z ∧ RV r x y G z) : EvB b (tOp r ta tb) σ G P := fun H1 e g hB Q q =>
  ha H1 e g hB _ fun x H2 s2 px => hb H2 (s2.up e hG) s2.gd s2.bag _ fun y H3 s3 py => by
    obtain ⟨z, pz, h⟩ := hr x y px py
    exact h H3 (s3.up (s2.up e hG) hG) Q fun H4 e4 => q z H4 ((s2.trans s3).trans (Sb.of e4 s3.gd s3.bag)) pz
theorem eab_nil : EvAB b tNil σ G (fun vs => vs = []) := fun H1 e g hB Q q => q [] H1 (.refl g hB) rfl
theorem eab_cons {tr : TA} {PA PB : List V → Prop} (hG : G b = none) (ha : EvB b ta σ G P1) (hb : EvAB b tr σ G PA) (hp : ∀ x xs, P1 x → PA xs → PB (x :: xs)) : EvAB b (tCons ta tr) σ G PB := fun H1 e g hB Q q =>
  ha H1 e g hB _ fun x H2 s2 px => hb H2 (s2.up e hG) s2.gd s2.bag _ fun y H3 s3 py => q _ H3 (s2.trans s3) (hp x y px py)
/-- a call -/
theorem evb_call {sp : Sp} {dvs : List V} {E : XK} {tr : TA} {PA : List V → Prop} (hG : G b = none) (h : EvAB b tr σ G PA) (hs : ∀ vs, PA vs → ∀ H1, Xt G H1 → Gd H1 → BagAt H1 b → ∀ Q : VK, (∀ v H2, Sb b H1 H2 → P v → Q v H2) → ∀ E, sp (vs ++ dvs) H1 Q E) : EvB b (tCall sp dvs E tr) σ G P := fun H1 e g hB Q q =>
  h H1 e g hB _ fun vs H2 s2 pv => hs vs pv H2 (s2.up e hG) s2.gd s2.bag Q (fun v H3 s3 p => q v H3 (s2.trans s3) p) E
theorem evb_cb {rc : List V → Hp → VK → Prop} {tr : TA} {PA : List V → Prop} (hG : G b = none) (h : EvAB b tr σ G PA) (hs : ∀ vs, PA vs → ∃ z, P z ∧ RC rc vs G z) : EvB b (tCB rc tr) σ G P := fun H1 e g hB Q q =>
  h H1 e g hB _ fun vs H2 s2 pv => by
    obtain ⟨z, pz, hr⟩ := hs vs pv
    exact hr H2 (s2.up e hG) Q fun H3 e3 => q z H3 (s2.trans (Sb.of e3 s2.gd s2.bag)) pz
theorem etb_test {PB : Bool → Prop} (h : EvB b te σ G fun v => ∃ k, v = .bl k ∧ PB k) : EvTB b (tTest te) σ G PB := fun H1 e g hB Q q => h H1 e g hB _ fun v H2 s2 ⟨k, ek, pk⟩ => ⟨k, ek, q k H2 s2 pk⟩
theorem evb_if {PB : Bool → Prop} (hG : G b = none) (h : EvTB b tt σ G PB) (h1 : PB true → EvB b ta σ G P) (h2 : PB false → EvB b tb σ G P) : EvB b (tIf tt ta tb) σ G P := fun H1 e g hB Q q =>
  h H1 e g hB _ fun k H2 s2 pk => by
    cases k with
    | true =>
      show ta σ H2 Q
      exact h1 pk H2 (s2.up e hG) s2.gd s2.bag Q fun v H3 s3 p => q v H3 (s2.trans s3) p
    | false =>
      show tb σ H2 Q
      exact h2 pk H2 (s2.up e hG) s2.gd s2.bag Q fun v H3 s3 p => q v H3 (s2.trans s3) p
/-- a and b -/
theorem etb_and {tu : TT} {PB PC : Bool → Prop} (hG : G b = none) (h : EvTB b tt σ G PB) (h1 : PB true → EvTB b tu σ G PC) (h2 : PB false → PC false) : EvTB b (tAnd tt tu) σ G PC := fun H1 e g hB Q q =>
  h H1 e g hB _ fun k H2 s2 pk => by
    cases k with
    | true =>
      show tu σ H2 Q
      exact h1 pk H2 (s2.up e hG) s2.gd s2.bag Q fun v H3 s3 p => q v H3 (s2.trans s3) p
    | false =>
      show Q false H2
      exact q false H2 s2 (h2 pk)

/-! ### statements -/
theorem b_set {i : Nat} (e : Xt G H) (gd : Gd H) (hB : BagAt H b) (h : EvB b te σ G P) (k : ∀ v H', Sb b H H' → P v → D.nx (σ.set i (some v)) H') : tShS (tAsg te (gName i)) D σ H :=
  h H e gd hB _ fun v H' s p => ⟨H', s.shr hB, k v H' s p⟩
theorem bq_set {i : Nat} (e : Xt G H) (gd : Gd H) (hB : BagAt H b) (h : EvB b te σ G P) (k : ∀ v H', Sb b H H' → P v → tz D (σ.set i (some v)) H') : tSeq (tShS (tAsg te (gName i))) tz D σ H := b_set (D := { D with nx := tz D }) e gd hB h k
theorem b_ret (e : Xt G H) (gd : Gd H) (hB : BagAt H b) (h : EvB b te σ G P) (k : ∀ v H', Sb b H H' → P v → D.rt v H') : tShS (tRet te) D σ H :=
  h H e gd hB _ fun v H' s p => ⟨H', s.shr hB, k v H' s p⟩
theorem b_if {PB : Bool → Prop} (e : Xt G H) (gd : Gd H) (hB : BagAt H b) (h : EvTB b tt σ G PB) (h1 : ∀ H', Sb b H H' → PB true → tu D σ H') (h2 : ∀ H', Sb b H H' → PB false → tw D σ H') : tIfS (tShT tt) tu tw D σ H := h H e gd hB _ fun k H1 s p => ⟨H1, s.shr hB, by
  cases k with
  | true =>
    show tu D σ H1
    exact h1 H1 s p
  | false =>
    show tw D σ H1
    exact h2 H1 s p⟩
theorem bq_when {PB : Bool → Prop} (e : Xt G H) (gd : Gd H) (hB : BagAt H b) (h : EvTB b tt σ G PB) (h1 : ∀ H', Sb b H H' → PB true → tu { D with nx := tz D } σ H') (h2 : ∀ H', Sb b H H' → PB false → tz D σ H') : tSeq (tIfS (tShT tt) tu tNext) tz D σ H := b_if (D := { D with nx := tz D }) e gd hB h h1 h2
/-- xs[j] = e -/
theorem s_setIx {l : Addr} {xs : List V} {j : Nat} {v : V} (gd : Gd H) (hv : Ev te σ H v) (ho : Ev ta σ H (.ref l)) (hi : Ev tb σ H (.int (j : Int))) (hl : H l = some (.lst xs)) (hj : j < xs.length) (k : D.nx σ (upd H l (.lst (xs.set j v)))) : tShS (tAsg te (gSub ta tb rSetL)) D σ H :=
  hv H (Xt.refl H) _ fun H1 e1 => ho H1 e1 _ fun H2 e2 => hi H2 (e1.trans e2) _ fun H3 e3 => ⟨l, xs, (j : Int), j, rfl, rfl, ((e1.trans e2).trans e3).1 _ _ hl, by
      unfold ixN
      rw [if_pos (by omega), if_pos (by omega)]
      simp, _, shr_mut gd ((e1.trans e2).trans e3) hl rfl (fun _ z => nomatch z) (fun _ _ z => nomatch z) (fun _ z => nomatch z) rfl rfl, k⟩
theorem q_setIx {l : Addr} {xs : List V} {j : Nat} {v : V} (gd : Gd H) (hv : Ev te σ H v) (ho : Ev ta σ H (.ref l)) (hi : Ev tb σ H (.int (j : Int))) (hl : H l = some (.lst xs)) (hj : j < xs.length) (k : tz D σ (upd H l (.lst (xs.set j v)))) : tSeq (tShS (tAsg te (gSub ta tb rSetL))) tz D σ H :=
  s_setIx (D := { D with nx := tz D }) gd hv ho hi hl hj k
end
/-! ## 18. slashes -/
theorem cnt_count (c : Nat) : ∀ l : List Nat, cnt c l = (l.count c : Int)
  | [] => rfl
  | n :: r => by
    rw [cnt_cons, cnt_count c r, List.count_cons]
    by_cases h : n = c
    · subst h; simp; omega
    · rw [if_neg h, if_neg (by simpa using h)]; simp
theorem count_sign (x : Str) (c : Nat) : Txt.count x ⟨#[c]⟩ = ((tl x).count c : Int) := by rw [count_cnt, cnt_count]
theorem slash_eq : ("/" : Str) = ⟨#[47]⟩ := by decide +kernel
end M
namespace M
open PySem PySem.Spec PyProof.Rows L2 TL
/-! ## 19. The heap without the bag, as facts -/
def del (H : Hp) (b : Addr) : Hp := fun a => if a = b then none else H a
section
variable {K : PySem.W.Frag} {H H' : Hp} {a b : Addr} {o : HO} {xs : List V}
theorem del_at : del H b b = none := if_pos rfl
theorem del_ne (h : a ≠ b) : del H b a = H a := if_neg h
theorem del_xt (g : Gd H) : Xt (del H b) H := ⟨fun a o h => by
  by_cases e : a = b
  · subst e; rw [del_at] at h; cases h
  · rw [del_ne e] at h; exact h, fun _ => g⟩
theorem bag_ne (h : BagAt H b) (h2 : H a = some o) (h3 : ∀ d s c, o ≠ bagO d s c) : a ≠ b := fun e => by
  subst e
  obtain ⟨d, s, c, q⟩ := h
  rw [h2] at q
  cases q
  exact h3 _ _ _ rfl
theorem free_bag (h : BagAt H b) (h2 : H a = none) : a ≠ b := fun e => by
  subst e
  obtain ⟨d, s, c, q⟩ := h
  rw [h2] at q; cases q
theorem del_rd {u : HO} (n : a ≠ b) (h : Rd H a u) : Rd (del H b) a u := by
  rcases h with h | ⟨o, h⟩
  · exact .inl (by rw [del_ne n]; exact h)
  · exact .inr ⟨o, by rw [del_ne n]; exact h⟩
theorem del_l (n : a ≠ b) (h : SqL K H a xs) : SqL K (del H b) a xs := h.imp (del_rd n) id
theorem del_t (n : a ≠ b) (h : SqT K H a xs) : SqT K (del H b) a xs := h.imp (del_rd n) id
theorem del_a (n : a ≠ b) (h : SqL K H a xs ∨ SqT K H a xs) : SqL K (del H b) a xs ∨ SqT K (del H b) a xs := h.imp (del_l n) (del_t n)
theorem sb_rd {u : HO} (s : Sb b H H') (n : a ≠ b) (h : Rd H a u) : Rd H' a u := by
  rcases h with h | ⟨o, h⟩
  · exact .inl (s.kp _ _ n h)
  · exact .inr ⟨o, s.kp _ _ n h⟩
theorem sb_a (s : Sb b H H') (n : a ≠ b) (h : SqL K H a xs ∨ SqT K H a xs) : SqL K H' a xs ∨ SqT K H' a xs := by
  rcases h with (h | h) | (h | h)
  · exact .inl (.inl (sb_rd s n h))
  · exact .inl (.inr h)
  · exact .inr (.inl (sb_rd s n h))
  · exact .inr (.inr h)
/-- a store into a thing that is not the bag -/
theorem Sb.store {l : Addr} {u : HO} (s : Sb b H H') (hl : H l = none) (n : l ≠ b) (g : Gd (upd H' l u)) : Sb b H (upd H' l u) :=
  ⟨fun a o n1 h => by rw [upd_ne (fun e => by subst e; rw [hl] at h; cases h)]; exact s.kp a o n1 h, g, by
    obtain ⟨d, z, c, q⟩ := s.bag
    exact ⟨d, z, c, by rw [upd_ne (Ne.symm n)]; exact q⟩⟩
theorem BagAt.upd {l : Addr} {u : HO} (h : BagAt H b) (n : l ≠ b) : BagAt (upd H l u) b := by
  obtain ⟨d, z, c, q⟩ := h
  exact ⟨d, z, c, by rw [upd_ne (Ne.symm n)]; exact q⟩
theorem inV_strs (s : Str) (ns : List Str) : inV (.str s) (ns.map V.str) = decide (s ∈ ns) := by
  unfold inV
  rw [List.any_map]
  induction ns with
  | nil => rfl
  | cons x r ih =>
    rw [List.any_cons, ih]
    show ((x == s) || decide (s ∈ r)) = decide (s ∈ x :: r)
    by_cases h : x = s
    · subst h; simp
    · have h' : ¬ s = x := fun e => h e.symm
      simp [h, h']
theorem flat_strs (ns : List Str) : (ns.map V.str).all flatV = true := by
  rw [List.all_map]
  exact List.all_eq_true.mpr fun _ _ => rfl
end
/-- pigeonhole -/
theorem nodup_le {α : Type} [DecidableEq α] : ∀ {l m : List α}, l.Nodup → (∀ x ∈ l, x ∈ m) → l.length ≤ m.length
  | [], _, _, _ => Nat.zero_le _
  | x :: r, m, h, hs => by
    rw [List.nodup_cons] at h
    have hx := hs x (List.mem_cons_self ..)
    have h1 : r.length ≤ (m.erase x).length := nodup_le h.2 fun y hy => by
      have hne : y ≠ x := fun e => by subst e; exact h.1 hy
      exact (List.mem_erase_of_ne hne).mpr (hs y (List.mem_cons_of_mem _ hy))
    rw [List.length_erase_of_mem hx] at h1
    have : 0 < m.length := List.length_pos_of_mem hx
    simp only [List.length_cons]; omega
section
variable {K : PySem.W.Frag} {σ : L2.St} {G H : Hp} {ta tb te : TE} {tt : TT} {b : Addr} {P P1 P2 : V → Prop} {D : Ends} {tu tw tz : TS} {xs : List V}
/-- [..][e] -/
theorem evb_ixL (hG : G b = none) (ha : EvO ta σ G (.lst xs)) (hb : EvB b tb σ G fun v => ∃ r : Int, v = .int r ∧ 0 ≤ r ∧ r < xs.length) : EvB b (tOp (rIx K) ta tb) σ G fun v => v ∈ xs := fun H1 e g hB Q q =>
  ha H1 e _ fun p H2 hp e2 hp2 => hb H2 (e.trans e2) (e2.2 g) (hB.xt e2) _ fun y H3 s3 ⟨r, ey, h0, h1⟩ => by
    subst ey
    have np : p ≠ b := free_bag hB hp
    have h3 := s3.kp p _ np hp2
    have hr : r = ((r.toNat : Nat) : Int) := by omega
    rw [hr]
    exact .inl ⟨p, xs, _, xs[r.toNat]'(by omega), rfl, rfl, .inl (.inl h3), atI_nat (List.getElem?_eq_getElem (by omega)), q _ H3 ((Sb.of e2 g hB).trans s3) (List.getElem_mem _)⟩
theorem bq_forR1 {ta : TA} {j : Nat} {PA : List V → Prop} {PN : Int → Prop} (gd : Gd H) (hB : BagAt H b) (h : EvAB b ta σ (del H b) PA) (hp : ∀ vs, PA vs → ∃ n : Int, vs = [.int n] ∧ 0 ≤ n ∧ n ≤ 100000 ∧ PN n) (Pv : Nat → L2.St → Hp → Prop) (h0 : ∀ H', Sb b H H' → Pv 0 σ H')
    (hs : ∀ (n : Int), PN n → ∀ (i : Nat) σ' H', (i : Int) < n → Pv i σ' H' → tu { D with nx := Pv (i + 1), ct := Pv (i + 1), bk := tz D } (σ'.set j (some (.int (i : Int)))) H') (hd : ∀ (n : Int), PN n → ∀ σ' H', Pv n.toNat σ' H' → tz D σ' H') : tSeq (tFor (iSh (iRng1 ta)) (gName j) tu) tz D σ H :=
  h H (del_xt gd) gd hB _ fun vs H1 s pv => by
    obtain ⟨n, e, h1, h2, hn⟩ := hp vs pv
    subst e
    exact ⟨n, rfl, by omega, by omega, H1, s.shr hB, for_range (lo := 0) (n := n.toNat) Pv (h0 H1 s) (fun i σ' H' hi p => by
      have e0 : (0 : Int) + (i : Int) = (i : Int) := Int.zero_add _
      show tu { D with nx := Pv (i + 1), ct := Pv (i + 1), bk := tz D } (σ'.set j (some (.int ((0 : Int) + (i : Int))))) H'
      rw [e0]
      exact hs n hn i σ' H' (by omega) p) (hd n hn)⟩
/-- results that are things, the bag may have changed -/
def EvBR (b : Addr) (te : TE) (σ : L2.St) (G : Hp) (R : Hp → V → Prop) : Prop := ∀ H1, Xt G H1 → Gd H1 → BagAt H1 b → ∀ Q : VK, (∀ v H2, Sb b H1 H2 → R H2 v → Q v H2) → te σ H1 Q
def EvABR (b : Addr) (ta : TA) (σ : L2.St) (G : Hp) (R : Hp → V → Prop) (n : Nat) : Prop := ∀ H1, Xt G H1 → Gd H1 → BagAt H1 b → ∀ Q : List V → Hp → Prop, (∀ vs H2, Sb b H1 H2 → vs.length = n → (∀ v ∈ vs, R H2 v) → Q vs H2) → ta σ H1 Q
def MonoB (b : Addr) (R : Hp → V → Prop) : Prop := ∀ H H' v, Sb b H H' → R H v → R H' v
theorem evabr_nil {R : Hp → V → Prop} : EvABR b tNil σ G R 0 := fun H1 e g hB Q q => q [] H1 (.refl g hB) rfl fun _ h => nomatch h
theorem evabr_cons {R : Hp → V → Prop} {tr : TA} {n : Nat} (hm : MonoB b R) (hG : G b = none) (ha : EvBR b ta σ G R) (hr : EvABR b tr σ G R n) : EvABR b (tCons ta tr) σ G R (n + 1) := fun H1 e g hB Q q =>
  ha H1 e g hB _ fun v H2 s2 hv => hr H2 (s2.up e hG) s2.gd s2.bag _ fun vs H3 s3 hl hvs => q (v :: vs) H3 (s2.trans s3) (by rw [List.length_cons, hl]) fun u hu => by
    rcases List.mem_cons.mp hu with rfl | hu
    · exact hm _ _ _ s3 hv
    · exact hvs u hu
/-- [[..], [..]][e] -/
theorem evbr_ixL {R : Hp → V → Prop} {tr : TA} {n : Nat} (hm : MonoB b R) (hG : G b = none) (hr : EvABR b tr σ G R n) (hz : n ≤ 100000) (hb : EvB b tb σ G fun v => ∃ r : Int, v = .int r ∧ 0 ≤ r ∧ r < n) : EvBR b (tOp (rIx K) (tLst tr) tb) σ G R := fun H1 e g hB Q q =>
  hr H1 e g hB _ fun vs H2 s2 hl hvs => ⟨sz_of (by omega), fun p hp => by
    have e3 : Xt H2 (upd H2 p (.lst vs)) := Xt.new hp rfl rfl
    have s3 := Sb.of e3 s2.gd s2.bag
    refine hb _ ((s2.up e hG).trans e3) s3.gd s3.bag _ fun y H4 s4 ⟨r, ey, h0, h1⟩ => ?_
    subst ey
    have np : p ≠ b := free_bag s2.bag hp
    have h4 := s4.kp p _ np upd_same
    have hr : r = ((r.toNat : Nat) : Int) := by omega
    rw [hr]
    exact .inl ⟨p, vs, _, vs[r.toNat]'(by omega), rfl, rfl, .inl (.inl h4), atI_nat (List.getElem?_eq_getElem (by omega)), q _ H4 ((s2.trans s3).trans s4) (hm _ _ _ (s3.trans s4) (hvs _ (List.getElem_mem _)))⟩⟩
/-- a list of texts with a property, not the bag -/
def ListOf (b : Addr) (QQ : List Str → Prop) : Hp → V → Prop := fun H v => ∃ p ws, v = .ref p ∧ p ≠ b ∧ H p = some (.lst (ws.map V.str)) ∧ QQ ws
theorem listOf_mono {QQ : List Str → Prop} : MonoB b (ListOf b QQ) := fun H H' v s ⟨p, ws, h1, h2, h3, h4⟩ => ⟨p, ws, h1, h2, s.kp _ _ h2 h3, h4⟩
theorem evbr_lst {QQ : List Str → Prop} {tr : TA} {PA : List V → Prop} (h : EvAB b tr σ G PA) (hq : ∀ vs, PA vs → ∃ ws : List Str, vs = ws.map V.str ∧ ws.length ≤ 1000 ∧ QQ ws) : EvBR b (tLst tr) σ G (ListOf b QQ) := fun H1 e g hB Q q =>
  h H1 e g hB _ fun vs H2 s2 pv => by
    obtain ⟨ws, rfl, hl, qq⟩ := hq vs pv
    exact ⟨sz_of (by rw [List.length_map]; omega), fun p hp => q _ _ (s2.trans (Sb.of (Xt.new hp rfl rfl) s2.gd s2.bag)) ⟨p, ws, rfl, free_bag s2.bag hp, upd_same, qq⟩⟩
theorem br_set {i : Nat} {R : Hp → V → Prop} (gd : Gd H) (hB : BagAt H b) (h : EvBR b te σ (del H b) R) (k : ∀ v H', Sb b H H' → R H' v → D.nx (σ.set i (some v)) H') : tShS (tAsg te (gName i)) D σ H :=
  h H (del_xt gd) gd hB _ fun v H' s p => ⟨H', s.shr hB, k v H' s p⟩
theorem brq_set {i : Nat} {R : Hp → V → Prop} (gd : Gd H) (hB : BagAt H b) (h : EvBR b te σ (del H b) R) (k : ∀ v H', Sb b H H' → R H' v → tz D (σ.set i (some v)) H') : tSeq (tShS (tAsg te (gName i))) tz D σ H := br_set (D := { D with nx := tz D }) gd hB h k
/-- .. the facts are the heap without the bag -/
theorem d_set {i : Nat} (gd : Gd H) (hB : BagAt H b) (h : EvB b te σ (del H b) P) (k : ∀ v H', Sb b H H' → P v → D.nx (σ.set i (some v)) H') : tShS (tAsg te (gName i)) D σ H := b_set (del_xt gd) gd hB h k
theorem dq_set {i : Nat} (gd : Gd H) (hB : BagAt H b) (h : EvB b te σ (del H b) P) (k : ∀ v H', Sb b H H' → P v → tz D (σ.set i (some v)) H') : tSeq (tShS (tAsg te (gName i))) tz D σ H := bq_set (del_xt gd) gd hB h k
theorem d_ret (gd : Gd H) (hB : BagAt H b) (h : EvB b te σ (del H b) P) (k : ∀ v H', Sb b H H' → P v → D.rt v H') : tShS (tRet te) D σ H := b_ret (del_xt gd) gd hB h k
end
section
variable {K : PySem.W.Frag} {σ : L2.St} {H : Hp} {ta te : TE} {b l : Addr} {P : V → Prop} {D : Ends} {tz : TS} {xs : List V}
/-- l.append(e), e is drawn -/
theorem d_app (gd : Gd H) (hB : BagAt H b) (hl : H l = some (.lst xs)) (n : l ≠ b) (ha : Ev ta σ H (.ref l)) (h : EvB b te σ (del H b) P) (hz : xs.length < 100000) (k : ∀ v H', Sb b H H' → P v → D.nx σ (upd H' l (.lst (xs ++ [v])))) :
    tShS (tDrop (tBM K "list" rAppend ta (tCons te tNil))) D σ H := ha H (Xt.refl H) _ fun H1 e1 => ⟨.inl ⟨rfl, xs, .inl (.inl (e1.1 l _ hl))⟩, h H1 ((del_xt gd).trans e1) (e1.2 gd) (hB.xt e1) _ fun v H2 s2 hv => by
    have s : Sb b H H2 := (Sb.of e1 gd hB).trans s2
    have hl2 := s.kp _ _ n hl
    refine ⟨l, xs, v, rfl, rfl, hl2, sz_lt hz, upd H2 l (.lst (xs ++ [v])), ?_, k v H2 s hv⟩
    have S := s.shr hB
    exact {
      sub := fun a u q => q
      tup := fun a ys q => by rw [upd_ne (fun z => by subst z; rw [hl] at q; cases q)]; exact S.tup a ys q
      frz := fun a ob u q => by rw [upd_ne (fun z => by subst z; rw [hl] at q; cases q)]; exact S.frz a ob u q
      tbl := fun a ps q => rfl
      gd := s.gd.mut hl2 rfl rfl rfl }⟩
end
section
variable {σ : L2.St} {H : Hp} {tt : TT} {D : Ends} {tu tz : TS}
/-- if without else; both ways meet in J -/
theorem q_whenJ {b : Bool} (J : L2.St → Hp → Prop) (gd : Gd H) (h : EvT tt σ H b) (hJ : ∀ σ' H', J σ' H' → tz D σ' H') (h1 : b = true → (∀ σ' H', J σ' H' → tz D σ' H') → tu { D with nx := tz D } σ H) (h2 : b = false → J σ H) : tSeq (tIfS (tShT tt) tu tNext) tz D σ H :=
  q_when gd h (fun e => h1 e hJ) fun e => hJ _ _ (h2 e)
end
/-! ## 20. the last slash -/
theorem pre47 (l : List Nat) : pre [47] l = true ↔ ∃ r, l = 47 :: r := by
  cases l with
  | nil => simp [pre]
  | cons c r => simp [pre]
theorem rfind_slash {p q : Str} (h : 47 ∉ tl q) : Txt.rfind (p ++ "/" ++ q) "/" = ((tl p).length : Int) := by
  have e : tl (p ++ "/" ++ q) = tl p ++ 47 :: tl q := by
    rw [tl_append, tl_append, slash_eq]
    show tl p ++ [47] ++ tl q = _
    rw [List.append_assoc]; rfl
  have hs : tl ("/" : Str) = [47] := by decide +kernel
  have hat : ∀ i, StrLaws.At (p ++ "/" ++ q) "/" (p ++ "/" ++ q).length i ↔ ∃ r, (tl p ++ 47 :: tl q).drop i = 47 :: r := fun i => by
    rw [at_iff slash_ne, hs, e]; exact pre47 _
  rcases rfind_whole (p ++ "/" ++ q) "/" with ⟨_, hn⟩ | ⟨i, e1, hi, hn⟩
  · exact absurd ((hat (tl p).length).mpr ⟨tl q, by rw [List.drop_left]⟩) (hn _)
  · rw [e1]
    have h1 : (tl p).length ≤ i := by
      refine Nat.le_of_not_lt fun hlt => hn _ hlt ((hat _).mpr ⟨tl q, by rw [List.drop_left]⟩)
    obtain ⟨r, hr⟩ := (hat i).mp hi
    have h2 : ¬ (tl p).length < i := fun hlt => by
      have : (tl p ++ 47 :: tl q).drop i = (tl q).drop (i - (tl p).length - 1) := by
        rw [List.drop_append, List.drop_of_length_le (by omega : (tl p).length ≤ i), List.nil_append]
        obtain ⟨k, hk⟩ : ∃ k, i - (tl p).length = k + 1 := ⟨i - (tl p).length - 1, by omega⟩
        rw [hk]; rfl
      rw [this] at hr
      exact h (List.mem_of_mem_drop (by rw [hr]; exact List.mem_cons_self ..))
    congr 1; omega
end M
namespace M
open PySem PySem.Spec PyProof.Rows L2 TL
/-! ## 21. Plain data: texts, None and tuples of such -/
def plD : Nat → PyData → Prop
  | _, .str x => PyData.strOk x = true
  | _, .none => True
  | n + 1, .tuple ds => ds.length ≤ 40000 ∧ ∀ d ∈ ds, plD n d
  | _, _ => False
theorem canAll {ds : List PyData} (h : ∀ d ∈ ds, d.canLay0 = true) : PyData.canLayAll0 ds = true := by
  induction ds with
  | nil => simp [PyData.canLayAll0]
  | cons d r ih =>
    rw [PyData.canLayAll0, h d (List.mem_cons_self ..), ih fun e he => h e (List.mem_cons_of_mem _ he)]
    rfl
theorem depAll {n : Nat} {ds : List PyData} (h : ∀ d ∈ ds, d.depth ≤ n) : PyData.depthAll ds ≤ n := by
  induction ds with
  | nil => simp [PyData.depthAll]
  | cons d r ih =>
    have h1 := h d (List.mem_cons_self ..)
    have h2 := ih fun e he => h e (List.mem_cons_of_mem _ he)
    simp only [PyData.depthAll]; omega
theorem plD_can : ∀ {n : Nat} {d : PyData}, plD n d → d.canLay0 = true
  | n, .str _, h => by cases n <;> exact h
  | n, .none, _ => by simp [PyData.canLay0]
  | n + 1, .tuple ds, h => by
    simp only [PyData.canLay0]
    exact canAll fun d hd => plD_can (h.2 d hd)
  | n, .bool _, h => by cases n <;> exact h.elim
  | n, .int _, h => by cases n <;> exact h.elim
  | n, .list _, h => by cases n <;> exact h.elim
  | n, .dict _, h => by cases n <;> exact h.elim
  | 0, .tuple ds, h => h.elim
theorem plD_depth : ∀ {n : Nat} {d : PyData}, plD n d → d.depth ≤ n + 1
  | n, .str _, _ => by simp [PyData.depth]
  | n, .none, _ => by simp [PyData.depth]
  | n + 1, .tuple ds, h => by
    have := depAll fun d hd => plD_depth (h.2 d hd)
    simp only [PyData.depth]; omega
  | n, .bool _, h => by cases n <;> exact h.elim
  | n, .int _, h => by cases n <;> exact h.elim
  | n, .list _, h => by cases n <;> exact h.elim
  | n, .dict _, h => by cases n <;> exact h.elim
  | 0, .tuple ds, h => h.elim
theorem shaped_of {d : PyData} (h : d.canLay0 = true) (k : d.depth ≤ 64) : SeqAt.shaped d = true := by
  show (d.canLay0 && decide (d.depth ≤ 64)) = true
  rw [h, decide_eq_true k]; rfl
theorem plD_shaped {n : Nat} {d : PyData} (h : plD n d) (k : n ≤ 60) : SeqAt.shaped d = true := shaped_of (plD_can h) (by have := plD_depth h; omega)
theorem plD_eqv {n : Nat} {d : PyData} (h : plD n d) : PyData.eqv d d = true := SeqAt.eqv_refl d (plD_can h)
def sOk (ws : List Str) : Prop := ∀ w ∈ ws, PyData.strOk w = true
theorem shaped_strs {ws : List Str} (hs : sOk ws) : SeqAt.shaped (.list (ws.map PyData.str)) = true := by
  refine shaped_of ?_ ?_
  · simp only [PyData.canLay0]
    exact canAll fun d hd => by
      obtain ⟨x, hx, rfl⟩ := List.mem_map.mp hd
      exact hs x hx
  · have := depAll (n := 1) (ds := ws.map PyData.str) fun d hd => by
      obtain ⟨x, _, rfl⟩ := List.mem_map.mp hd
      simp [PyData.depth]
    simp only [PyData.depth]; omega
theorem eqv_strs {ws : List Str} (hs : sOk ws) : PyData.eqv (.list (ws.map PyData.str)) (.list (ws.map PyData.str)) = true := by
  rw [PyData.eqv]
  exact SeqAt.eqvAll_refl _ (canAll fun d hd => by
      obtain ⟨x, hx, rfl⟩ := List.mem_map.mp hd
      exact hs x hx)
theorem eqv_nilL (ws : List Str) : PyData.eqv (.list (ws.map PyData.str)) (.list []) = ws.isEmpty := by
  rw [PyData.eqv]
  cases ws with
  | nil => rfl
  | cons x r => rfl
theorem plD_strs {ws : List Str} (h : ws.length ≤ 40000) (hs : sOk ws) : plD 1 (.tuple (ws.map PyData.str)) := ⟨by rw [List.length_map]; exact h, fun d hd => by
  obtain ⟨x, hx, rfl⟩ := List.mem_map.mp hd
  exact hs x hx⟩
theorem plD_up : ∀ {n m : Nat} {d : PyData}, plD n d → n ≤ m → plD m d
  | n, m, .str x, h, _ => by
    have h' : PyData.strOk x = true := by cases n <;> exact h
    cases m <;> exact h'
  | n, m, .none, _, _ => by cases m <;> trivial
  | n + 1, 0, .tuple ds, h, k => absurd k (by omega)
  | n + 1, m + 1, .tuple ds, h, k => ⟨h.1, fun d hd => plD_up (h.2 d hd) (by omega)⟩
  | n, _, .bool _, h, _ => by cases n <;> exact h.elim
  | n, _, .int _, h, _ => by cases n <;> exact h.elim
  | n, _, .list _, h, _ => by cases n <;> exact h.elim
  | n, _, .dict _, h, _ => by cases n <;> exact h.elim
  | 0, _, .tuple ds, h, _ => h.elim
section
variable {K : PySem.W.Frag} {σ : L2.St} {H : Hp} {ta tb te : TE} {r : R2}
theorem dpTs_strs : ∀ ws : List Str, DpTs K H (ws.map V.str) (ws.map PyData.str)
  | [] => .nil
  | x :: r => .cons (.str x) (dpTs_strs r)
/-- l != [] -/
theorem ev_neNil {a : Addr} {ws : List Str} (hs : sOk ws) (ha : Ev ta σ H (.ref a)) (h : SqL K H a (ws.map V.str)) (hb : EvO tb σ H (.lst [])) : Ev (tOp (rOr r (rNeD K)) ta tb) σ H (.bl (!ws.isEmpty)) := fun H1 e Q q =>
  ha H1 e _ fun H2 e2 => hb H2 (e.trans e2) _ fun p H3 hp e3 h3 => .inr ⟨_, _, .lst (xt_l ((e.trans e2).trans e3) h) (dpTs_strs ws).dp, .lst (.inl (.inl h3)) .nil, shaped_strs hs, shaped_strs (ws := []) (fun _ h => nomatch h), by rw [eqv_nilL]; exact q H3 (e2.trans e3)⟩
/-- l != m, of the same texts -/
theorem ev_neSame {a b : Addr} {ws : List Str} (hs : sOk ws) (ha : Ev ta σ H (.ref a)) (h : SqL K H a (ws.map V.str)) (hb : Ev tb σ H (.ref b)) (h2 : SqL K H b (ws.map V.str)) : Ev (tOp (rOr r (rNeD K)) ta tb) σ H (.bl false) := fun H1 e Q q =>
  ha H1 e _ fun H2 e2 => hb H2 (e.trans e2) _ fun H3 e3 => .inr ⟨_, _, .lst (xt_l ((e.trans e2).trans e3) h) (dpTs_strs ws).dp, .lst (xt_l ((e.trans e2).trans e3) h2) (dpTs_strs ws).dp, shaped_strs hs, shaped_strs hs, by rw [eqv_strs hs]; exact q H3 (e2.trans e3)⟩
/-- data == the same data -/
theorem ev_eqSame {d : PyData} {n : Nat} (ha : EvD K ta σ H d) (hb : EvD K tb σ H d) (h : plD n d) (k : n ≤ 60) : Ev (tOp (rOr r (rEqD K)) ta tb) σ H (.bl true) := ev_bl (ev_eqD ha hb (plD_shaped h k) (plD_shaped h k)) (plD_eqv h)
theorem ev_neSameD {d : PyData} {n : Nat} (ha : EvD K ta σ H d) (hb : EvD K tb σ H d) (h : plD n d) (k : n ≤ 60) : Ev (tOp (rOr r (rNeD K)) ta tb) σ H (.bl false) := ev_bl (ev_neD ha hb (plD_shaped h k) (plD_shaped h k)) (by rw [plD_eqv h]; rfl)
/-- l[n:] -/
theorem evo_drop {tl th : TO} {r2 : V → Option Int → Option Int → Hp → VK → Prop} {a : Addr} {xs : List V} {n : Nat} (ha : Ev ta σ H (.ref a)) (h : SqL K H a xs) (h1 : EvP tl σ H (some (n : Int))) (h2 : EvP th σ H none) : EvO (tSl (rsOr (rSlL K) r2) ta tl th) σ H (.lst (xs.drop n)) := fun H1 e Q q =>
  ha H1 e _ fun H2 e2 => h1 H2 (e.trans e2) _ fun H3 e3 => h2 H3 ((e.trans e2).trans e3) _ fun H4 e4 => .inl ⟨a, xs, rfl, xt_l (((e.trans e2).trans e3).trans e4) h, fun p hp => by
    rw [cutV_from]
    exact q p _ (((e2.trans e3).trans e4).free hp) (((e2.trans e3).trans e4).trans (Xt.new hp rfl rfl)) upd_same⟩
/-- list(d), d a dict -/
theorem evo_listD {a : Addr} {dk : List (Str × Str)} (ha : Ev ta σ H (.ref a)) (h : H a = some (.dK (kvS dk))) : EvO (tCB (rcOr (rListS K) rListDK) (tCons ta tNil)) σ H (.lst ((dk.map (·.1)).map V.str)) := fun H1 e Q q =>
  ha H1 e _ fun H2 e2 => .inr ⟨a, kvS dk, rfl, .inl ((e.trans e2).1 _ _ h), fun p hp => by
    have e1 : (kvS dk).map (fun kv => kV kv.1) = (dk.map (·.1)).map V.str := by
      unfold kvS
      rw [List.map_map, List.map_map]; rfl
    rw [e1]
    exact q p _ (e2.free hp) (e2.trans (Xt.new hp rfl rfl)) upd_same⟩
/-- list(l) -/
theorem evo_listL {rc : List V → Hp → VK → Prop} {p : Addr} {xs : List V} (ha : Ev ta σ H (.ref p)) (h : SqL K H p xs ∨ SqT K H p xs) : EvO (tCB (rcOr (rListS K) rc) (tCons ta tNil)) σ H (.lst xs) := fun H1 e Q q =>
  ha H1 e _ fun H2 e2 => .inl ⟨p, xs, rfl, h.imp (xt_l (e.trans e2)) (xt_t (e.trans e2)), fun l hl => q l _ (e2.free hl) (e2.trans (Xt.new hl rfl rfl)) upd_same⟩
/-- l + m, both new -/
theorem evo_catO {r1 r2 r3 : R2} {xs ys : List V} (ha : EvO ta σ H (.lst xs)) (hb : EvO tb σ H (.lst ys)) (hz : xs.length + ys.length ≤ 100000) : EvO (tOp (rOr r1 (rOr r2 (rOr rCat r3))) ta tb) σ H (.lst (xs ++ ys)) := fun H1 e Q q =>
  ha H1 e _ fun a H2 hp2 e2 h2 => hb H2 (e.trans e2) _ fun b H3 hp3 e3 h3 => .inr (.inr (.inl ⟨a, b, xs, ys, rfl, rfl, e3.1 _ _ h2, h3, sz_of hz, fun p hp => q p _ ((e2.trans e3).free hp) ((e2.trans e3).trans (Xt.new hp rfl rfl)) upd_same⟩))
/-- l + m -/
theorem evo_catV {r1 r2 r3 : R2} {a b : Addr} {xs ys : List V} (ha : Ev ta σ H (.ref a)) (h : H a = some (.lst xs)) (hb : Ev tb σ H (.ref b)) (h' : H b = some (.lst ys)) (hz : xs.length + ys.length ≤ 100000) : EvO (tOp (rOr r1 (rOr r2 (rOr rCat r3))) ta tb) σ H (.lst (xs ++ ys)) := fun H1 e Q q =>
  ha H1 e _ fun H2 e2 => hb H2 (e.trans e2) _ fun H3 e3 => .inr (.inr (.inl ⟨a, b, xs, ys, rfl, rfl, ((e.trans e2).trans e3).1 _ _ h, ((e.trans e2).trans e3).1 _ _ h', sz_of hz, fun p hp => q p _ ((e2.trans e3).free hp) ((e2.trans e3).trans (Xt.new hp rfl rfl)) upd_same⟩))
end
section
variable {σ : L2.St} {H : Hp} {tt : TT} {D : Ends} {tu tw tz : TS}
/-- if; all ways meet in J -/
theorem q_ifJ {b : Bool} (J : L2.St → Hp → Prop) (gd : Gd H) (h : EvT tt σ H b) (hJ : ∀ σ' H', J σ' H' → tz D σ' H') (h1 : b = true → (∀ σ' H', J σ' H' → tz D σ' H') → tu { D with nx := tz D } σ H) (h2 : b = false → (∀ σ' H', J σ' H' → tz D σ' H') → tw { D with nx := tz D } σ H) : tSeq (tIfS (tShT tt) tu tw) tz D σ H :=
  q_if gd h (fun e => h1 e hJ) fun e => h2 e hJ
end
/-! ## 22. More stores -/
theorem xt_both {G H : Hp} {p : Addr} {o : HO} (e : Xt G H) (g : Gd H) (hp : H p = none) (ho : okO o = true) (hi : insO o = false) : Xt (upd G p o) (upd H p o) :=
  ⟨fun a u h => by
    by_cases n : a = p
    · subst n; rw [upd_same] at h ⊢; exact h
    · rw [upd_ne n] at h ⊢; exact e.1 a u h, fun _ => g.new hp ho hi⟩
/-- .. what stands in H at p is a fact too -/
theorem xt_fact {G H : Hp} {p : Addr} {o : HO} (e : Xt G H) (g : Gd H) (hp : H p = some o) : Xt (upd G p o) H :=
  ⟨fun a u h => by
    by_cases n : a = p
    · subst n; rw [upd_same] at h; rw [hp]; exact h
    · rw [upd_ne n] at h; exact e.1 a u h, fun _ => g⟩
theorem Shr.mutL {H H2 H3 : Hp} {l : Addr} {xs ys zs : List V} (S : Shr H H2 H3) (hl : H l = some (.lst xs)) (h3 : H3 l = some (.lst zs)) : Shr H (upd H2 l (.lst ys)) (upd H3 l (.lst ys)) where
  sub := fun a u q => by
    by_cases h : a = l
    · subst h; rw [upd_same] at q ⊢; exact q
    · rw [upd_ne h] at q ⊢; exact S.sub a u q
  tup := fun a ys q => by rw [upd_ne (fun z => by subst z; rw [hl] at q; cases q)]; exact S.tup a ys q
  frz := fun a ob u q => by rw [upd_ne (fun z => by subst z; rw [hl] at q; cases q)]; exact S.frz a ob u q
  tbl := fun a ps q => by
    have hne : a ≠ l := fun z => by subst z; rw [hl] at q; cases q
    rw [upd_ne hne, upd_ne hne]; exact S.tbl a ps q
  gd := S.gd.mut h3 rfl rfl rfl
/-- a new thing that is R -/
def EvN (te : TE) (σ : L2.St) (H : Hp) (R : HO → Prop) : Prop := ∀ H1, Xt H H1 → ∀ Q : VK, (∀ p H2 u, H1 p = none → Xt H1 H2 → H2 p = some u → R u → okO u = true → insO u = false → Q (.ref p) H2) → te σ H1 Q
section
variable {K : PySem.W.Frag} {σ : L2.St} {H : Hp} {ta td te tx ty : TE} {D : Ends} {tz : TS} {R : HO → Prop}
def IsTup (vs : List V) (u : HO) : Prop := ∃ o, u = .frz o (.tup vs)
theorem isTup_sq {H : Hp} {p : Addr} {u : HO} {vs : List V} (h : H p = some u) (hu : IsTup vs u) : SqT K H p vs := by
  obtain ⟨o, rfl⟩ := hu
  exact .inl (.inr ⟨o, h⟩)
theorem evn_tup {tr : TA} {vs : List V} (h : EvA tr σ H vs) (hl : vs.length ≤ 100000) : EvN (tTupF tr) σ H (IsTup vs) := fun H1 e Q q =>
  h H1 e _ fun H2 e2 => ⟨sz_of hl, fun p o hp hd => q p _ _ (e2.free hp) (e2.trans (Xt.new hp rfl rfl)) upd_same ⟨o, rfl⟩ rfl rfl⟩
theorem s_appN {l : Addr} {xs : List V} (gd : Gd H) (hl : H l = some (.lst xs)) (ha : Ev ta σ H (.ref l)) (h : EvN te σ H R) (hz : xs.length < 100000) (k : ∀ p u, H p = none → R u → okO u = true → insO u = false → D.nx σ (upd (upd H p u) l (.lst (xs ++ [.ref p])))) :
    tShS (tDrop (tBM K "list" rAppend ta (tCons te tNil))) D σ H := ha H (Xt.refl H) _ fun H1 e1 => ⟨.inl ⟨rfl, xs, .inl (.inl (e1.1 l _ hl))⟩, h H1 e1 _ fun p H2 u hp e2 h2 hR ho hi => by
    have hp0 := e1.free hp
    have nlp : l ≠ p := ne_of_none hl hp0
    have S := (e1.trans e2).backN gd hp0 h2 ho hi
    exact ⟨l, xs, .ref p, rfl, rfl, (e1.trans e2).1 l _ hl, sz_lt hz, _, S.mutL hl (by rw [upd_ne nlp]; exact hl), k p u hp0 hR ho hi⟩⟩
theorem q_appN {l : Addr} {xs : List V} (gd : Gd H) (hl : H l = some (.lst xs)) (ha : Ev ta σ H (.ref l)) (h : EvN te σ H R) (hz : xs.length < 100000) (k : ∀ p u, H p = none → R u → okO u = true → insO u = false → tz D σ (upd (upd H p u) l (.lst (xs ++ [.ref p])))) :
    tSeq (tShS (tDrop (tBM K "list" rAppend ta (tCons te tNil)))) tz D σ H := s_appN (D := { D with nx := tz D }) gd hl ha h hz k
theorem q_dsetd {a : Addr} {kvs : List (Key × V)} {k : Key} {z : V} (gd : Gd H) (hd : Ev td σ H (.ref a)) (hk : Ev ty σ H (kV k)) (hx : Ev tx σ H z) (hH : H a = some (.dK kvs)) (hz : kvs.length < 100000)
    (kk : tz D σ (upd H a (.dK (if (valV kvs k).isSome = true then kvs else putK kvs k z)))) : tSeq (tShS (tDrop (tDSetd td ty tx))) tz D σ H := s_dsetd (D := { D with nx := tz D }) gd hd hk hx hH hz kk
theorem q_dput {a : Addr} {kvs : List (Key × V)} {k : Key} {v : V} (gd : Gd H) (hv : Ev te σ H v) (hd : Ev td σ H (.ref a)) (hk : Ev ty σ H (kV k)) (hH : H a = some (.dK kvs)) (hz : kvs.length < 100000) (kk : tz D σ (upd H a (.dK (putK kvs k v)))) : tSeq (tShS (sDPut td ty te)) tz D σ H := s_dput (D := { D with nx := tz D }) gd hv hd hk hH hz kk
end
end M
namespace M
open PySem PySem.Spec PyProof.Rows L2 TL
/-! ## 23. New things into slots, rows of texts as arguments -/
section
variable {K : PySem.W.Frag} {σ : L2.St} {H : Hp} {ta tb te : TE} {D : Ends} {tz : TS} {R : HO → Prop}
theorem s_setN {i : Nat} (gd : Gd H) (h : EvN te σ H R) (k : ∀ p u, H p = none → R u → okO u = true → insO u = false → D.nx (σ.set i (some (.ref p))) (upd H p u)) : tShS (tAsg te (gName i)) D σ H :=
  h H (Xt.refl H) _ fun p H2 u hp e2 h2 hR ho hi => ⟨upd H p u, e2.backN gd hp h2 ho hi, k p u hp hR ho hi⟩
theorem q_setN {i : Nat} (gd : Gd H) (h : EvN te σ H R) (k : ∀ p u, H p = none → R u → okO u = true → insO u = false → tz D (σ.set i (some (.ref p))) (upd H p u)) : tSeq (tShS (tAsg te (gName i))) tz D σ H := s_setN (D := { D with nx := tz D }) gd h k
/-- all that is new stays -/
theorem q_setX {i : Nat} {P : V → Hp → Prop} (gd : Gd H) (h : ∀ Q : VK, (∀ v H1, Xt H H1 → P v H1 → Q v H1) → te σ H Q) (k : ∀ v H1, Xt H H1 → P v H1 → tz D (σ.set i (some v)) H1) : tSeq (tShS (tAsg te (gName i))) tz D σ H :=
  h _ fun v H1 e p => ⟨H1, Shr.refl e gd, k v H1 e p⟩
theorem s_setX {i : Nat} {P : V → Hp → Prop} (gd : Gd H) (h : ∀ Q : VK, (∀ v H1, Xt H H1 → P v H1 → Q v H1) → te σ H Q) (k : ∀ v H1, Xt H H1 → P v H1 → D.nx (σ.set i (some v)) H1) : tShS (tAsg te (gName i)) D σ H :=
  h _ fun v H1 e p => ⟨H1, Shr.refl e gd, k v H1 e p⟩
/-- l + [..] -/
theorem evo_catVO {r1 r2 r3 : R2} {a : Addr} {xs ys : List V} (ha : Ev ta σ H (.ref a)) (h : H a = some (.lst xs)) (hb : EvO tb σ H (.lst ys)) (hz : xs.length + ys.length ≤ 100000) : EvO (tOp (rOr r1 (rOr r2 (rOr rCat r3))) ta tb) σ H (.lst (xs ++ ys)) := fun H1 e Q q =>
  ha H1 e _ fun H2 e2 => hb H2 (e.trans e2) _ fun b H3 hp3 e3 h3 => .inr (.inr (.inl ⟨a, b, xs, ys, rfl, rfl, ((e.trans e2).trans e3).1 _ _ h, h3, sz_of hz, fun p hp => q p _ ((e2.trans e3).free hp) ((e2.trans e3).trans (Xt.new hp rfl rfl)) upd_same⟩))
/-- a row of texts -/
def EvSeq (K : PySem.W.Frag) (te : TE) (σ : L2.St) (H : Hp) (us : List Str) : Prop := ∀ H1, Xt H H1 → ∀ Q : VK, (∀ a H2, Xt H1 H2 → (SqL K H2 a (us.map V.str) ∨ SqT K H2 a (us.map V.str)) → Q (.ref a) H2) → te σ H1 Q
theorem evs_var {i : Nat} {a : Addr} {us : List Str} (h : σ[i]? = some (some (.ref a))) (hx : SqL K H a (us.map V.str) ∨ SqT K H a (us.map V.str)) : EvSeq K (tVar i) σ H us := fun H1 e Q q => ⟨_, h, q a H1 (.refl H1) (xt_a e hx)⟩
theorem dpTs_strs_ : ∀ {ys : List V} {us : List Str}, DpTs K H ys (us.map PyData.str) → ys = us.map V.str
  | [], [], _ => rfl
  | [], _ :: _, h => by cases h
  | _ :: _, [], h => by cases h
  | y :: ys, u :: us, h => by
    obtain ⟨v, t, e, h1, h2⟩ := DpTs.cons_ (show DpTs K H (y :: ys) (PyData.str u :: us.map PyData.str) from h)
    cases e
    rw [h1.str_, dpTs_strs_ h2]
    rfl
theorem evs_F {us : List Str} (h : EvF K te σ H (us.map PyData.str)) : EvSeq K te σ H us := fun H1 e Q q => h H1 e Q fun p ys H2 e2 hf hd => q p H2 e2 (.inr (by rw [← dpTs_strs_ hd]; exact hf.t))
theorem evf_nil : EvF K (tTupF tNil) σ H [] := evf_tup ead_nil (by decide)
/-- len of a new list -/
theorem ev_lenLD {rc : List V → Hp → VK → Prop} {ds : List PyData} (ha : EvL K ta σ H ds) : Ev (tCB (rcOr (rLenS K) rc) (tCons ta tNil)) σ H (.int (ds.length : Int)) := fun H1 e Q q =>
  ha H1 e _ fun p ys H2 hp e2 h2 hd => .inl ⟨p, ys, rfl, .inl (.inl (.inl h2)), by rw [hd.len]; exact q H2 e2⟩
/-- {k: e} -/
theorem evo_disp1 {k : Str} {v : V} (h : Ev te σ H v) : EvO (tDisp [(tC (.str k), te)]) σ H (.dK [(Sum.inr k, v)]) := fun H1 e Q q p hp =>
  h _ (e.trans (Xt.new hp rfl rfl)) _ fun H2 e2 => by
    have h2 := e2.1 _ _ (upd_same : (upd H1 p (.dK [])) p = some (.dK []))
    exact ⟨h2, [(Sum.inr k, v)], rfl, show 1 ≤ 15 by decide, q p _ hp (Xt.mut ((Xt.new hp rfl rfl).trans e2) hp h2 rfl rfl rfl) upd_same⟩
end
end M
namespace Z
open PySem PySem.Spec PyProof.Rows L2 M
/-! ## the text by places -/
def top (i : Nat) : Stmt := PySem.Challenge.pw_actsawake_k57_references_and_said.main.body.getD i (.Pass ⟨0, 0, 0, 0⟩)
abbrev s_deep : Stmt := top 5
abbrev N_deep : List Str := ["thing", "part"]
theorem sc_deep : FnScope N_deep ["thing"] (defScope s_deep) := ⟨rfl, rfl, rfl, by decide +kernel, rfl, by decide +kernel, by decide +kernel⟩
abbrev s_is_word : Stmt := top 6
abbrev N_is_word : List Str := ["thing"]
theorem sc_is_word : FnScope N_is_word ["thing"] (defScope s_is_word) := ⟨rfl, rfl, rfl, by decide +kernel, rfl, by decide +kernel, by decide +kernel⟩
abbrev s_is_name : Stmt := top 7
abbrev N_is_name : List Str := ["thing"]
theorem sc_is_name : FnScope N_is_name ["thing"] (defScope s_is_name) := ⟨rfl, rfl, rfl, by decide +kernel, rfl, by decide +kernel, by decide +kernel⟩
abbrev s_is_number : Stmt := top 8
abbrev N_is_number : List Str := ["thing"]
theorem sc_is_number : FnScope N_is_number ["thing"] (defScope s_is_number) := ⟨rfl, rfl, rfl, by decide +kernel, rfl, by decide +kernel, by decide +kernel⟩
abbrev s_is_label : Stmt := top 9
abbrev N_is_label : List Str := ["thing"]
theorem sc_is_label : FnScope N_is_label ["thing"] (defScope s_is_label) := ⟨rfl, rfl, rfl, by decide +kernel, rfl, by decide +kernel, by decide +kernel⟩
abbrev s_is_address : Stmt := top 10
abbrev N_is_address : List Str := ["thing", "parts", "part"]
theorem sc_is_address : FnScope N_is_address ["thing"] (defScope s_is_address) := ⟨rfl, rfl, rfl, by decide +kernel, rfl, by decide +kernel, by decide +kernel⟩
abbrev s_is_follower : Stmt := top 11
abbrev N_is_follower : List Str := ["thing"]
theorem sc_is_follower : FnScope N_is_follower ["thing"] (defScope s_is_follower) := ⟨rfl, rfl, rfl, by decide +kernel, rfl, by decide +kernel, by decide +kernel⟩
abbrev s_place_named : Stmt := top 12
abbrev N_place_named : List Str := ["token"]
theorem sc_place_named : FnScope N_place_named ["token"] (defScope s_place_named) := ⟨rfl, rfl, rfl, by decide +kernel, rfl, by decide +kernel, by decide +kernel⟩
abbrev s_is_map : Stmt := top 14
abbrev N_is_map : List Str := ["pairs", "last", "pair", "word", "other"]
theorem sc_is_map : FnScope N_is_map ["pairs"] (defScope s_is_map) := ⟨rfl, rfl, rfl, by decide +kernel, rfl, by decide +kernel, by decide +kernel⟩
abbrev s_pairs_of : Stmt := top 15
abbrev N_pairs_of : List Str := ["table", "word"]
theorem sc_pairs_of : FnScope N_pairs_of ["table"] (defScope s_pairs_of) := ⟨rfl, rfl, rfl, by decide +kernel, rfl, by decide +kernel, by decide +kernel⟩
abbrev s_first_readings : Stmt := top 16
abbrev N_first_readings : List Str := ["readings", "table", "word", "other"]
theorem sc_first_readings : FnScope N_first_readings ["readings"] (defScope s_first_readings) := ⟨rfl, rfl, rfl, by decide +kernel, rfl, by decide +kernel, by decide +kernel⟩
abbrev s_WordMap___init__ : Stmt := inClass (top 18) 0
abbrev N_WordMap___init__ : List Str := ["self", "pairs", "kept"]
theorem sc_WordMap___init__ : FnScope N_WordMap___init__ ["self", "pairs"] (defScope s_WordMap___init__) := ⟨rfl, rfl, rfl, by decide +kernel, rfl, by decide +kernel, by decide +kernel⟩
abbrev s_is_reading : Stmt := top 19
abbrev N_is_reading : List Str := ["body", "at"]
theorem sc_is_reading : FnScope N_is_reading ["body", "at"] (defScope s_is_reading) := ⟨rfl, rfl, rfl, by decide +kernel, rfl, by decide +kernel, by decide +kernel⟩
abbrev s_led_to : Stmt := top 20
abbrev N_led_to : List Str := ["token"]
theorem sc_led_to : FnScope N_led_to ["token"] (defScope s_led_to) := ⟨rfl, rfl, rfl, by decide +kernel, rfl, by decide +kernel, by decide +kernel⟩
abbrev s_parsed : Stmt := top 21
abbrev N_parsed : List Str := ["body", "told", "leads", "at", "token", "readings"]
theorem sc_parsed : FnScope N_parsed ["body"] (defScope s_parsed) := ⟨rfl, rfl, rfl, by decide +kernel, rfl, by decide +kernel, by decide +kernel⟩
abbrev s_mapped : Stmt := top 22
abbrev N_mapped : List Str := ["told", "pairs", "table", "token"]
theorem sc_mapped : FnScope N_mapped ["told", "pairs"] (defScope s_mapped) := ⟨rfl, rfl, rfl, by decide +kernel, rfl, by decide +kernel, by decide +kernel⟩
abbrev s_references : Stmt := top 23
abbrev N_references : List Str := ["body", "place", "pairs"]
theorem sc_references : FnScope N_references ["body"] (defScope s_references) := ⟨rfl, rfl, rfl, by decide +kernel, rfl, by decide +kernel, by decide +kernel⟩
abbrev s_said : Stmt := top 24
abbrev N_said : List Str := ["body", "word_map"]
theorem sc_said : FnScope N_said ["body", "word_map"] (defScope s_said) := ⟨rfl, rfl, rfl, by decide +kernel, rfl, by decide +kernel, by decide +kernel⟩
abbrev s__law_bag_of : Stmt := top 26
abbrev N__law_bag_of : List Str := ["script", "at", "cell", "one", "size", "digits"]
theorem sc__law_bag_of : FnScope N__law_bag_of ["script", "at"] (defScope s__law_bag_of) := ⟨rfl, rfl, rfl, by decide +kernel, rfl, by decide +kernel, by decide +kernel⟩
abbrev s__law_pick : Stmt := top 27
abbrev N__law_pick : List Str := ["bag", "many", "digit", "one", "two"]
theorem sc__law_pick : FnScope N__law_pick ["bag", "many"] (defScope s__law_pick) := ⟨rfl, rfl, rfl, by decide +kernel, rfl, by decide +kernel, by decide +kernel⟩
abbrev s__law_one_of : Stmt := top 28
abbrev N__law_one_of : List Str := ["bag", "row"]
theorem sc__law_one_of : FnScope N__law_one_of ["bag", "row"] (defScope s__law_one_of) := ⟨rfl, rfl, rfl, by decide +kernel, rfl, by decide +kernel, by decide +kernel⟩
abbrev s__law_name_of : Stmt := top 29
abbrev N__law_name_of : List Str := ["bag", "taken", "name", "k", "first", "letters", "other"]
theorem sc__law_name_of : FnScope N__law_name_of ["bag", "taken"] (defScope s__law_name_of) := ⟨rfl, rfl, rfl, by decide +kernel, rfl, by decide +kernel, by decide +kernel⟩
abbrev s__law_names_of : Stmt := top 30
abbrev N__law_names_of : List Str := ["bag", "many", "taken", "told", "k", "name"]
theorem sc__law_names_of : FnScope N__law_names_of ["bag", "many", "taken"] (defScope s__law_names_of) := ⟨rfl, rfl, rfl, by decide +kernel, rfl, by decide +kernel, by decide +kernel⟩
abbrev s__law_new_place : Stmt := top 31
abbrev N__law_new_place : List Str := ["bag", "tops", "places", "top", "label", "k"]
theorem sc__law_new_place : FnScope N__law_new_place ["bag", "tops", "places"] (defScope s__law_new_place) := ⟨rfl, rfl, rfl, by decide +kernel, rfl, by decide +kernel, by decide +kernel⟩
abbrev s__law_places_of : Stmt := top 32
abbrev N__law_places_of : List Str := ["bag", "world", "many", "places", "k", "tops"]
theorem sc__law_places_of : FnScope N__law_places_of ["bag", "world", "many"] (defScope s__law_places_of) := ⟨rfl, rfl, rfl, by decide +kernel, rfl, by decide +kernel, by decide +kernel⟩
abbrev s__law_no_list : Stmt := top 33
abbrev N__law_no_list : List Str := ["thing", "part"]
theorem sc__law_no_list : FnScope N__law_no_list ["thing"] (defScope s__law_no_list) := ⟨rfl, rfl, rfl, by decide +kernel, rfl, by decide +kernel, by decide +kernel⟩
abbrev s__law_same_tuple : Stmt := top 34
abbrev N__law_same_tuple : List Str := ["told", "wanted"]
theorem sc__law_same_tuple : FnScope N__law_same_tuple ["told", "wanted"] (defScope s__law_same_tuple) := ⟨rfl, rfl, rfl, by decide +kernel, rfl, by decide +kernel, by decide +kernel⟩
abbrev s__law_is_letters : Stmt := top 35
abbrev N__law_is_letters : List Str := ["token"]
theorem sc__law_is_letters : FnScope N__law_is_letters ["token"] (defScope s__law_is_letters) := ⟨rfl, rfl, rfl, by decide +kernel, rfl, by decide +kernel, by decide +kernel⟩
abbrev s__law_parse : Stmt := top 36
abbrev N__law_parse : List Str := ["body", "told", "leads", "left", "token", "table", "goal"]
theorem sc__law_parse : FnScope N__law_parse ["body"] (defScope s__law_parse) := ⟨rfl, rfl, rfl, by decide +kernel, rfl, by decide +kernel, by decide +kernel⟩
abbrev s__law_then : Stmt := top 37
abbrev N__law_then : List Str := ["inner", "outer", "told", "word", "other"]
theorem sc__law_then : FnScope N__law_then ["inner", "outer"] (defScope s__law_then) := ⟨rfl, rfl, rfl, by decide +kernel, rfl, by decide +kernel, by decide +kernel⟩
abbrev s__law_pairs : Stmt := top 38
abbrev N__law_pairs : List Str := ["table", "word"]
theorem sc__law_pairs : FnScope N__law_pairs ["table"] (defScope s__law_pairs) := ⟨rfl, rfl, rfl, by decide +kernel, rfl, by decide +kernel, by decide +kernel⟩
abbrev s__law_some_map : Stmt := top 39
abbrev N__law_some_map : List Str := ["bag", "words", "told", "word", "other"]
theorem sc__law_some_map : FnScope N__law_some_map ["bag", "words"] (defScope s__law_some_map) := ⟨rfl, rfl, rfl, by decide +kernel, rfl, by decide +kernel, by decide +kernel⟩
abbrev s__law_any_body : Stmt := top 40
abbrev N__law_any_body : List Str := ["bag", "words", "goals", "told", "k", "way", "word", "more"]
theorem sc__law_any_body : FnScope N__law_any_body ["bag", "words", "goals"] (defScope s__law_any_body) := ⟨rfl, rfl, rfl, by decide +kernel, rfl, by decide +kernel, by decide +kernel⟩
abbrev s__law_are_references : Stmt := top 41
abbrev N__law_are_references : List Str := ["actual", "leads", "k", "one"]
theorem sc__law_are_references : FnScope N__law_are_references ["actual", "leads"] (defScope s__law_are_references) := ⟨rfl, rfl, rfl, by decide +kernel, rfl, by decide +kernel, by decide +kernel⟩
abbrev s_law : Stmt := top 42
abbrev N_law : List Str := ["script", "bag", "taken", "names", "words", "goals", "at", "body", "mapped_pairs", "told", "leads", "table", "word", "other", "wanted", "handed", "one"]
theorem sc_law : FnScope N_law ["script"] (defScope s_law) := ⟨rfl, rfl, rfl, by decide +kernel, rfl, by decide +kernel, by decide +kernel⟩

/-! ## tokens, plainly -/
def KW : List Str := ["from", "until", "day", "behind", "order", "with", "without", "never", "strike", "revive", "number", "move", "split", "words", "word", "put", "wake", "end", "may", "saves", "saved", "as", "lost", "house"]
def isWord (s : Str) : Bool := (decide ((1 : Int) ≤ (s.length : Int)) && decide ((s.length : Int) ≤ 8)) && (Txt.isascii s && (Txt.isalpha s && Txt.islower s))
def isName (s : Str) : Bool := isWord s && !inV (.str s) (KW.map V.str)
def lead0 (s : Str) : Bool := match s.cps.toList with
  | c :: _ => decide (c = 48)
  | [] => false
def isNumber (s : Str) : Bool := (decide ((1 : Int) ≤ (s.length : Int)) && decide ((s.length : Int) ≤ 2)) && (Txt.isascii s && (Txt.isdigit s && (decide (s.length = 1) || !lead0 s)))
def isLabel (s : Str) : Bool := isNumber s && !decide (s = "0")
def isAddress (s : Str) : Bool := decide (s.length ≤ 17) && (let ps := Txt.split s "/"; (decide ((2 : Int) ≤ (ps.length : Int)) && decide ((ps.length : Int) ≤ 4)) && (isName (ps.headD "") && ((ps.drop 1).all isLabel)))
def isFollower (s : Str) : Bool := decide (cutS s none (some 1) = "~") && isAddress (cutS s (some 1) none)
def onStr (f : Str → Bool) : PyData → Bool
  | .str s => f s
  | _ => false
def strOk : PyData → Prop
  | .str s => s.length ≤ 1000
  | _ => True
/-- a promise of a plain function of one thing -/
def sp1 (K : PySem.W.Frag) (ok : PyData → Prop) (f : PyData → V) : Sp := fun vs H Q _ => ∃ v d, vs = [v] ∧ Gd H ∧ DpT K H v d ∧ ok d ∧ Q (f d) H
abbrev spB (K : PySem.W.Frag) (f : Str → Bool) : Sp := sp1 K strOk fun d => .bl (onStr f d)
theorem len_sp1 {K : PySem.W.Frag} {ok : PyData → Prop} {f : PyData → V} : ∀ vs H Q E, sp1 K ok f vs H Q E → vs.length = 1 := fun vs H Q E h => by
  obtain ⟨v, d, rfl, _⟩ := h
  rfl
theorem ev_sp1 {K : PySem.W.Frag} {ok : PyData → Prop} {f : PyData → V} {σ : L2.St} {H : Hp} {ta : TE} {d : PyData} {E : XK} (gd : Gd H) (h : EvD K ta σ H d) (o : ok d) : Ev (tCall (sp1 K ok f) [] E (tCons ta tNil)) σ H (f d) :=
  ev_callD h fun v H1 e hv Q q E => ⟨v, d, rfl, e.2 gd, hv, o, q H1 (.refl H1)⟩
theorem ev_spB {K : PySem.W.Frag} {f : Str → Bool} {σ : L2.St} {H : Hp} {ta : TE} {s : Str} {E : XK} (gd : Gd H) (h : Ev ta σ H (.str s)) (o : s.length ≤ 1000) : Ev (tCall (spB K f) [] E (tCons ta tNil)) σ H (.bl (f s)) :=
  ev_sp1 (K := K) (ok := strOk) (f := fun d => .bl (onStr f d)) (d := .str s) gd h.dStr o

structure Txt0 (K : PySem.W.Frag) (mg : Str → Option Value) (kw : Addr) : Prop where
  n_abs : mg "abs" = none
  n_all : mg "all" = none
  n_bool : mg "bool" = none
  n_dict : mg "dict" = none
  n_int : mg "int" = none
  n_isinstance : mg "isinstance" = none
  n_len : mg "len" = none
  n_list : mg "list" = none
  n_range : mg "range" = none
  n_sorted : mg "sorted" = none
  n_str : mg "str" = none
  n_sum : mg "sum" = none
  n_tuple : mg "tuple" = none
  g_KEYWORDS : mg "KEYWORDS" = some (.ref kw)
  k_KEYWORDS : ∃ (o : Obj) (its : Array Value) (n : Nat), K.lookup kw = some o ∧ o.cls = .type "tuple" ∧ o.data = .seq its n ∧ its.size ≤ sizeLine ∧ Vals (KW.map V.str) its.toList

section
variable {P : Program} {w : World} {K : PySem.W.Frag} {mg : Str → Option Value} {base : Heap} {kw : Addr}
/-- isinstance(x, str) and .. -/
theorem ev_andStr {i : Nat} {v : V} {d : PyData} {σ : L2.St} {H : Hp} {g : Str → Bool} {tb : TE} (hi : σ[i]? = some (some v)) (hv : DpT K H v d) (h : ∀ x, d = .str x → v = .str x → Ev tb σ H (.bl (g x))) :
    Ev (tAndV (tCB (rcOr (rIsi K) (rIsiT K)) (tCons (tVar i) (tCons (tC (.ty "str")) tNil))) tb) σ H (.bl (onStr g d)) := by
  cases d with
  | str x => exact ev_bl (ev_andV (ev_isi (evd_var hi hv) k_str_str) fun _ => h x rfl hv.str_) rfl
  | none => exact ev_bl (ev_andV (a := false) (b := true) (ev_isi (evd_var hi hv) k_NoneType_str) fun z => nomatch z) rfl
  | bool b => exact ev_bl (ev_andV (a := false) (b := true) (ev_isi (evd_var hi hv) k_bool_str) fun z => nomatch z) rfl
  | int b => exact ev_bl (ev_andV (a := false) (b := true) (ev_isi (evd_var hi hv) k_int_str) fun z => nomatch z) rfl
  | tuple b => exact ev_bl (ev_andV (a := false) (b := true) (ev_isi (evd_var hi hv) k_tuple_str) fun z => nomatch z) rfl
  | list b => cases hv
  | dict b => cases hv
/-- not isinstance(x, str) or .. -/
theorem et_orStr {i : Nat} {v : V} {d : PyData} {σ : L2.St} {H : Hp} {g : Str → Bool} {t : TT} (hi : σ[i]? = some (some v)) (hv : DpT K H v d) (h : ∀ x, d = .str x → v = .str x → EvT t σ H (!g x)) :
    EvT (tOr (tNot fun σ H Q => (tCB (rcOr (rIsi K) (rIsiT K)) (tCons (tVar i) (tCons (tC (.ty "str")) tNil))) σ H fun x H' => ∃ k, TruV K x H' k ∧ Q k H') t) σ H (!onStr g d) := by
  cases d with
  | str x => exact et_is (et_or (et_not (et_tru (ev_isi (evd_var hi hv) k_str_str))) fun _ => h x rfl hv.str_) rfl
  | none => exact et_is (et_or (a := true) (b := true) (et_not (et_tru (ev_isi (evd_var hi hv) k_NoneType_str))) fun z => nomatch z) rfl
  | bool b => exact et_is (et_or (a := true) (b := true) (et_not (et_tru (ev_isi (evd_var hi hv) k_bool_str))) fun z => nomatch z) rfl
  | int b => exact et_is (et_or (a := true) (b := true) (et_not (et_tru (ev_isi (evd_var hi hv) k_int_str))) fun z => nomatch z) rfl
  | tuple b => exact et_is (et_or (a := true) (b := true) (et_not (et_tru (ev_isi (evd_var hi hv) k_tuple_str))) fun z => nomatch z) rfl
  | list b => cases hv
  | dict b => cases hv
theorem h3 {x : Str} (h : x.length ≤ 1000) : x.length ≤ 100000 := Nat.le_trans h (by decide)
theorem ok_is_word {f : Addr} {fd : FuncData} (F : Fun K "is_word" "is_word" s_is_word f fd) (T : Txt0 K mg kw) : FnOk P w K mg base CX0 1 f fd ["thing"] (spB K isWord) := by
  refine okS F sc_is_word (fun vs H Q E h => len_sp1 vs H Q E h) (fun cdv A outer s H vs Q E hr h => ?_)
  obtain ⟨v, d, rfl, gd, hv, ok, q⟩ := h
  refine ⟨_, (pss_one (ps_sh (ps_ret (pe_and (pe_callB (call_isiK2 (K := K) rfl) (by rfl) T.n_isinstance (by decide +kernel) (pa_cons (pv 0) (pa_cons (pe_bltn (v := .ty "str") (u := .type "str") rfl T.n_str (by decide +kernel) rfl) pa_nil))) (pe_and (pe_chain op_leA op_leA pe_int (pe_callB (call_lenK (K := K) rfl) (by rfl) T.n_len (by decide +kernel) (pa_cons (pv 0) pa_nil)) pe_int) (pe_and (pe_m0 PySem.F.slot_str_isascii PySem.F.type_str_isascii mt_isascii (pv 0)) (pe_and (pe_m0 PySem.F.slot_str_isalpha PySem.F.type_str_isalpha mt_isalpha (pv 0)) (pe_one (pe_m0 PySem.F.slot_str_islower PySem.F.type_str_islower mt_islower (pv 0)))))))))), ?_⟩
  refine s_ret (v := .bl (onStr isWord d)) gd (ev_andStr rfl hv fun x e e2 => ?_) ⟨H, (Xt.refl H).back gd, q⟩
  subst e e2
  exact ev_andV (ev_chain ev_c (ev_lenT (ev_var rfl) (h3 ok)) rv_leI (fun _ => ev_c) (fun _ => rv_leI)) fun _ =>
    ev_andV (ev_m0 (ev_var rfl) trivial) fun _ => ev_andV (ev_m0 (ev_var rfl) trivial) fun _ => ev_m0 (ev_var rfl) trivial
theorem onStr_and {f g : Str → Bool} {d : PyData} : (onStr f d && onStr g d) = onStr (fun x => f x && g x) d := by
  cases d <;> rfl
theorem ok_is_name {f : Addr} {fd : FuncData} (F : Fun K "is_name" "is_name" s_is_name f fd) (T : Txt0 K mg kw) (C_is_word : Callee P w K mg base "is_word" 1 ["thing"] [] (spB K isWord)) : FnOk P w K mg base CX0 2 f fd ["thing"] (spB K isName) := by
  refine okS F sc_is_name (fun vs H Q E h => len_sp1 vs H Q E h) (fun cdv A outer s H vs Q E hr h => ?_)
  obtain ⟨v, d, rfl, gd, hv, ok, q⟩ := h
  refine ⟨_, (pss_one (ps_sh (ps_ret (pe_and (pe_callC C_is_word (hr.mono (by decide)) (pa_cons (pv 0) pa_nil)) (pe_one (pe_cmpR (op_niK (K := K) rfl) (pv 0) (pe_globR rfl T.g_KEYWORDS) (by rfl))))))), ?_⟩
  refine s_ret (v := .bl (onStr isName d)) gd ?_ ⟨H, (Xt.refl H).back gd, q⟩
  by_cases hd : ∃ x, d = .str x
  · obtain ⟨x, rfl⟩ := hd
    obtain rfl := hv.str_
    exact ev_andV (ev_spB gd (ev_var rfl) ok) fun _ => ev_op (ev_var rfl) ev_c (rv_inT (neg := true) (.inr T.k_KEYWORDS) rfl (by decide +kernel))
  · have e : onStr isWord d = false ∧ onStr isName d = false := by
      cases d <;> first | exact ⟨rfl, rfl⟩ | exact absurd ⟨_, rfl⟩ hd
    rw [e.2]
    exact ev_bl (ev_andV (b := true) (ev_bl (ev_sp1 (f := fun d => .bl (onStr isWord d)) gd (evd_var rfl hv) ok) e.1) fun z => nomatch z) rfl
theorem ok_is_number {f : Addr} {fd : FuncData} (F : Fun K "is_number" "is_number" s_is_number f fd) (T : Txt0 K mg kw) : FnOk P w K mg base CX0 1 f fd ["thing"] (spB K isNumber) := by
  refine okS F sc_is_number (fun vs H Q E h => len_sp1 vs H Q E h) (fun cdv A outer s H vs Q E hr h => ?_)
  obtain ⟨v, d, rfl, gd, hv, ok, q⟩ := h
  refine ⟨_, (pss_cons (ps_if (pt_sh (PW.pt (pw_or (pt_not (pt_truthK (K := K) rfl (pe_callB (call_isiK2 (K := K) rfl) (by rfl) T.n_isinstance (by decide +kernel) (pa_cons (pv 0) (pa_cons (pe_bltn (v := .ty "str") (u := .type "str") rfl T.n_str (by decide +kernel) rfl) pa_nil))) (by intro _; rfl))) (pw_or1 (pt_not (pt_chain op_leA op_leA pe_int (pe_callB (call_lenK (K := K) rfl) (by rfl) T.n_len (by decide +kernel) (pa_cons (pv 0) pa_nil)) pe_int))))))
        (pss_one (ps_sh (ps_ret pe_bl)))
        pss_nil)
    (pss_one (ps_sh (ps_ret (pe_and (pe_m0 PySem.F.slot_str_isascii PySem.F.type_str_isascii mt_isascii (pv 0)) (pe_and (pe_m0 PySem.F.slot_str_isdigit PySem.F.type_str_isdigit mt_isdigit (pv 0)) (pe_one (pe_or (pe_cmpR (op_eqK (K := K) rfl hr.units) (pe_callB (call_lenK (K := K) rfl) (by rfl) T.n_len (by decide +kernel) (pa_cons (pv 0) pa_nil)) pe_int (nomark _)) (pe_one (pe_cmpR (op_neK (K := K) rfl hr.units) (pe_ix (ix_seqK (K := K) rfl) (pv 0) pe_int (fun _ _ => rfl)) pe_str (nomark _))))))))))), ?_⟩
  refine q_when (b := !onStr (fun x => decide ((1 : Int) ≤ (x.length : Int)) && decide ((x.length : Int) ≤ 2)) d) gd (et_orStr rfl hv fun x e e2 => ?_) (fun hb => ?_) fun hb => ?_
  · subst e e2
    exact et_not (et_test (ev_chain ev_c (ev_lenT (ev_var rfl) (h3 ok)) rv_leI (fun _ => ev_c) (fun _ => rv_leI)))
  · refine s_ret (v := .bl (onStr isNumber d)) gd (ev_bl ev_c ?_) ⟨H, (Xt.refl H).back gd, q⟩
    cases d with
    | str x =>
      have h0 : (decide ((1 : Int) ≤ (x.length : Int)) && decide ((x.length : Int) ≤ 2)) = false := Bool.not_eq_true' _ ▸ hb
      show false = isNumber x
      unfold isNumber
      rw [h0]; rfl
    | _ => rfl
  · by_cases hd : ∃ x, d = .str x
    · obtain ⟨x, rfl⟩ := hd
      obtain rfl := hv.str_
      have h0 : (decide ((1 : Int) ≤ (x.length : Int)) && decide ((x.length : Int) ≤ 2)) = true := by
        have : (!(decide ((1 : Int) ≤ (x.length : Int)) && decide ((x.length : Int) ≤ 2))) = false := hb
        simpa using this
      have h1 : 1 ≤ x.length := by
        rw [Bool.and_eq_true, decide_eq_true_eq] at h0; omega
      obtain ⟨c, r, hc⟩ : ∃ c r, x.cps.toList = c :: r := by
        cases e : x.cps.toList with
        | nil => have : x.length = 0 := by rw [TL.len_tl]; show x.cps.toList.length = 0; rw [e]; rfl
                 omega
        | cons c r => exact ⟨c, r, rfl⟩
      have e1 : lead0 x = decide (V.str ⟨#[c]⟩ = V.str "0") := by
        unfold lead0
        rw [hc, dec_str, show ("0" : Str) = ⟨#[48]⟩ by decide +kernel]
        show decide (c = 48) = (( ⟨#[c]⟩ : Str) == ⟨#[48]⟩)
        by_cases hc' : c = 48
        · subst hc'; decide +kernel
        · rw [decide_eq_false hc']
          symm
          rw [beq_eq_false_iff_ne]
          intro h
          injection h with h
          injection h with h
          injection h with h
          exact hc' h
      refine s_ret (v := .bl (isNumber x)) gd ?_ ⟨H, (Xt.refl H).back gd, q⟩
      apply ev_bl
      · exact ev_andV (ev_m0 (ev_var rfl) trivial) fun _ => ev_andV (ev_m0 (ev_var rfl) trivial) fun _ =>
          ev_orV (ev_op (ev_lenT (ev_var rfl) (h3 ok)) ev_c (rv_eq rfl)) fun _ => ev_op (ev_op (ev_var rfl) ev_c (rv_ixS (i := 0) (c := c) (h3 ok) (atI_headS hc))) ev_c (rv_ne rfl)
      · unfold isNumber
        rw [h0, Bool.true_and, e1, dec_int]
        congr 3
        by_cases h : x.length = 1
        · rw [h]; decide
        · rw [decide_eq_false h]
          exact beq_eq_false_iff_ne.mpr (by omega)
    · exfalso
      cases d <;> first | exact absurd ⟨_, rfl⟩ hd | cases hb
theorem ok_is_label {f : Addr} {fd : FuncData} (F : Fun K "is_label" "is_label" s_is_label f fd) (T : Txt0 K mg kw) (C_is_number : Callee P w K mg base "is_number" 1 ["thing"] [] (spB K isNumber)) : FnOk P w K mg base CX0 2 f fd ["thing"] (spB K isLabel) := by
  refine okS F sc_is_label (fun vs H Q E h => len_sp1 vs H Q E h) (fun cdv A outer s H vs Q E hr h => ?_)
  obtain ⟨v, d, rfl, gd, hv, ok, q⟩ := h
  refine ⟨_, (pss_one (ps_sh (ps_ret (pe_and (pe_callC C_is_number (hr.mono (by decide)) (pa_cons (pv 0) pa_nil)) (pe_one (pe_cmpR (op_neK (K := K) rfl hr.units) (pv 0) pe_str (nomark _))))))), ?_⟩
  refine s_ret (v := .bl (onStr isLabel d)) gd ?_ ⟨H, (Xt.refl H).back gd, q⟩
  by_cases hd : ∃ x, d = .str x
  · obtain ⟨x, rfl⟩ := hd
    obtain rfl := hv.str_
    refine ev_bl (ev_andV (ev_spB gd (ev_var rfl) ok) fun _ => ev_op (ev_var rfl) ev_c (rv_ne rfl)) ?_
    show (isNumber x && !decide (V.str x = V.str "0")) = isLabel x
    unfold isLabel
    congr 2
    simp
  · have e : onStr isNumber d = false ∧ onStr isLabel d = false := by
      cases d <;> first | exact ⟨rfl, rfl⟩ | exact absurd ⟨_, rfl⟩ hd
    rw [e.2]
    exact ev_bl (ev_andV (b := true) (ev_bl (ev_sp1 (f := fun d => .bl (onStr isNumber d)) gd (evd_var rfl hv) ok) e.1) fun z => nomatch z) rfl
/-- a kind's answer on what is no text -/
theorem onStr_no {f : Str → Bool} {d : PyData} (h : ¬ ∃ x, d = .str x) : onStr f d = false := by
  cases d <;> first | rfl | exact absurd ⟨_, rfl⟩ h
theorem ok_is_address {f : Addr} {fd : FuncData} (F : Fun K "is_address" "is_address" s_is_address f fd) (T : Txt0 K mg kw) (C_is_name : Callee P w K mg base "is_name" 2 ["thing"] [] (spB K isName)) (C_is_label : Callee P w K mg base "is_label" 2 ["thing"] [] (spB K isLabel)) : FnOk P w K mg base CX0 3 f fd ["thing"] (spB K isAddress) := by
  refine okS F sc_is_address (fun vs H Q E h => len_sp1 vs H Q E h) (fun cdv A outer s H vs Q E hr h => ?_)
  obtain ⟨v, d, rfl, gd, hv, ok, q⟩ := h
  refine ⟨_, (pss_cons (ps_if (pt_sh (PW.pt (pw_or (pt_not (pt_truthK (K := K) rfl (pe_callB (call_isiK2 (K := K) rfl) (by rfl) T.n_isinstance (by decide +kernel) (pa_cons (pv 0) (pa_cons (pe_bltn (v := .ty "str") (u := .type "str") rfl T.n_str (by decide +kernel) rfl) pa_nil))) (by intro _; rfl))) (pw_or1 (pt_cmpR op_gtA (pe_callB (call_lenK (K := K) rfl) (by rfl) T.n_len (by decide +kernel) (pa_cons (pv 0) pa_nil)) pe_int (nomark _))))))
        (pss_one (ps_sh (ps_ret pe_bl)))
        pss_nil)
    (pss_cons (ps_sh (ps_set (i := 1) sc_is_address.nd rfl (Or.inl rfl) (pe_split (pv 0) pe_str)))
    (pss_one (ps_sh (ps_ret (pe_and (pe_chain op_leA op_leA pe_int (pe_callB (call_lenK (K := K) rfl) (by rfl) T.n_len (by decide +kernel) (pa_cons (pv 1) pa_nil)) pe_int) (pe_and (pe_callC C_is_name (hr.mono (by decide)) (pa_cons (pe_ix (ix_seqK (K := K) rfl) (pv 1) pe_int (fun _ _ => rfl)) pa_nil)) (pe_one (pe_callB (cr_allK (K := K) rfl rfl) (by rfl) T.n_all (by decide +kernel) (pa_cons (pe_lc (own := [("part", 2)]) rfl sc_is_address.nd (pi_seqK (K := K) rfl (pe_slice (sl_AK (K := K) rfl) (pv 1) (po_some pe_int) po_none)) (blkOk_by (own := [("part", 2)]) (N := N_is_address) (sc := defScope s_is_address) (by decide +kernel)) (fun _ _ _ _ _ => (pg_name (i := 2) sc_is_address.nd rfl (Or.inl rfl))) (fun _ _ _ _ _ => pts_nil) (fun _ _ _ _ _ => (pe_callC C_is_label (hr.mono (by decide)) (pa_cons (pv 2) pa_nil)))) pa_nil)))))))))), ?_⟩
  refine q_when (b := !onStr (fun x => decide (x.length ≤ 17)) d) gd (et_orStr rfl hv fun x e e2 => ?_) (fun hb => ?_) fun hb => ?_
  · subst e e2
    refine et_is (et_test (ev_op (ev_lenT (ev_var rfl) (h3 ok)) ev_c rv_gtI)) ?_
    by_cases h : x.length ≤ 17
    · rw [decide_eq_true h, decide_eq_false (by omega)]; rfl
    · rw [decide_eq_false h, decide_eq_true (by omega)]; rfl
  · refine s_ret (v := .bl (onStr isAddress d)) gd (ev_bl ev_c ?_) ⟨H, (Xt.refl H).back gd, q⟩
    cases d with
    | str x =>
      have h0 : decide (x.length ≤ 17) = false := by simpa [onStr] using hb
      show false = isAddress x
      unfold isAddress
      rw [h0]; rfl
    | _ => rfl
  · by_cases hd : ∃ x, d = .str x
    · obtain ⟨x, rfl⟩ := hd
      obtain rfl := hv.str_
      have h0 : x.length ≤ 17 := by simpa [onStr] using hb
      refine q_setO gd (evo_split (ev_var rfl) ev_c (by decide +kernel) (by omega)) rfl rfl fun p hp => ?_
      have g2 : Gd (upd H p (.lst ((Txt.split x "/").map V.str))) := gd.new hp rfl rfl
      have hL : SqL K (upd H p (.lst ((Txt.split x "/").map V.str))) p ((Txt.split x "/").map V.str) := .inl (.inl upd_same)
      have hcnt : (Txt.split x "/").length ≤ 18 := Nat.le_trans (split_count slash_ne slash_k) (by omega)
      have hlen : ∀ y ∈ Txt.split x "/", y.length ≤ 1000 := fun y hy => Nat.le_trans (split_len slash_ne slash_k hy) (by omega)
      obtain ⟨y, r, hy⟩ : ∃ y r, Txt.split x "/" = y :: r := by
        cases e : Txt.split x "/" with
        | nil => exact absurd e (split_ne slash_ne slash_k)
        | cons y r => exact ⟨y, r, rfl⟩
      refine s_ret (v := .bl (isAddress x)) g2 ?_ ⟨H, (Xt.new hp rfl rfl).back gd, q⟩
      apply ev_bl
      · exact ev_andV (ev_chain ev_c (ev_lenS (ev_var rfl) (.inl hL)) rv_leI (fun _ => ev_c) (fun _ => rv_leI)) fun _ =>
          ev_andV (ev_spB (s := y) g2 (ev_op (ev_var rfl) ev_c (rv_ixL (i := 0) hL (atI_nat (j := 0) (by rw [hy]; rfl)))) (hlen y (by rw [hy]; exact .head _))) fun _ =>
            ev_all (bs := ((Txt.split x "/").drop 1).map isLabel) (by
              rw [List.map_map]
              refine evl_lc1 relD_mono (PyData.bool ∘ isLabel) (ei_O (ws := (Txt.split x "/").drop 1) ?_) (by rw [List.length_drop]; omega) (fun z => rfl) fun a ha z H1 e hz => ?_
              · rw [List.map_drop, ← cutV_from _ 1]
                exact evo_slL (ev_var rfl) (ep_some ev_c) ep_none hL
              · obtain rfl := DpT.str_ hz
                exact (ev_spB (e.2 g2) (ev_var rfl) (hlen a (List.mem_of_mem_drop ha))).dBl)
      · unfold isAddress
        rw [decide_eq_true h0, Bool.true_and, hy, List.length_map, List.all_map]
        rfl
    · rw [show onStr (fun x => decide (x.length ≤ 17)) d = false from onStr_no hd] at hb
      cases hb
theorem ok_is_follower {f : Addr} {fd : FuncData} (F : Fun K "is_follower" "is_follower" s_is_follower f fd) (T : Txt0 K mg kw) (C_is_address : Callee P w K mg base "is_address" 3 ["thing"] [] (spB K isAddress)) : FnOk P w K mg base CX0 4 f fd ["thing"] (spB K isFollower) := by
  refine okS F sc_is_follower (fun vs H Q E h => len_sp1 vs H Q E h) (fun cdv A outer s H vs Q E hr h => ?_)
  obtain ⟨v, d, rfl, gd, hv, ok, q⟩ := h
  refine ⟨_, (pss_one (ps_sh (ps_ret (pe_and (pe_callB (call_isiK2 (K := K) rfl) (by rfl) T.n_isinstance (by decide +kernel) (pa_cons (pv 0) (pa_cons (pe_bltn (v := .ty "str") (u := .type "str") rfl T.n_str (by decide +kernel) rfl) pa_nil))) (pe_and (pe_cmpR (op_eqK (K := K) rfl hr.units) (pe_slice (sl_AK (K := K) rfl) (pv 0) po_none (po_some pe_int)) pe_str (nomark _)) (pe_one (pe_callC C_is_address (hr.mono (by decide)) (pa_cons (pe_slice (sl_AK (K := K) rfl) (pv 0) (po_some pe_int) po_none) pa_nil)))))))), ?_⟩
  refine s_ret (v := .bl (onStr isFollower d)) gd (ev_andStr rfl hv fun x e e2 => ?_) ⟨H, (Xt.refl H).back gd, q⟩
  subst e e2
  refine ev_bl (ev_andV (ev_op (ev_slS (ev_var rfl) ep_none (ep_some ev_c) (h3 ok)) ev_c (rv_eq rfl)) fun _ => ev_spB gd (ev_slS (ev_var rfl) (ep_some ev_c) ep_none (h3 ok)) (Nat.le_trans (cutS_length _ _ _) ok)) ?_
  unfold isFollower
  congr 1
  simp
def placeNamed (s : Str) : Str := match s.cps.toList with
  | c :: _ => if c = 126 then cutS s (some 1) none else s
  | [] => s
def strNe : PyData → Prop
  | .str s => s.length ≤ 1000 ∧ s.cps.toList ≠ []
  | _ => False
def toStr : PyData → Str
  | .str s => s
  | _ => ""
theorem ok_place_named {f : Addr} {fd : FuncData} (F : Fun K "place_named" "place_named" s_place_named f fd) (T : Txt0 K mg kw) : FnOk P w K mg base CX0 1 f fd ["token"] (sp1 K strNe fun d => .str (placeNamed (toStr d))) := by
  refine okS F sc_place_named (fun vs H Q E h => len_sp1 vs H Q E h) (fun cdv A outer s H vs Q E hr h => ?_)
  obtain ⟨v, d, rfl, gd, hv, ok, q⟩ := h
  refine ⟨_, (pss_cons (ps_if (pt_sh (pt_cmpR (op_eqK (K := K) rfl hr.units) (pe_ix (ix_seqK (K := K) rfl) (pv 0) pe_int (fun _ _ => rfl)) pe_str (nomark _)))
        (pss_one (ps_sh (ps_ret (pe_slice (sl_AK (K := K) rfl) (pv 0) (po_some pe_int) po_none))))
        pss_nil)
    (pss_one (ps_sh (ps_ret (pv 0))))), ?_⟩
  cases d with
  | str x =>
    obtain rfl := hv.str_
    obtain ⟨c, r, hc⟩ : ∃ c r, x.cps.toList = c :: r := by
      cases e : x.cps.toList with
      | nil => exact absurd e ok.2
      | cons c r => exact ⟨c, r, rfl⟩
    have e1 : decide (V.str ⟨#[c]⟩ = V.str "~") = decide (c = 126) := by
      rw [dec_str, show ("~" : Str) = ⟨#[126]⟩ by decide +kernel]
      by_cases hc' : c = 126
      · subst hc'; decide +kernel
      · rw [decide_eq_false hc', beq_eq_false_iff_ne]
        intro h
        injection h with h
        injection h with h
        injection h with h
        exact hc' h
    refine q_when (b := decide (c = 126)) gd (et_is (et_test (ev_op (ev_op (ev_var rfl) ev_c (rv_ixS (h3 ok.1) (atI_headS hc))) ev_c (rv_eq rfl))) e1) (fun hb => ?_) fun hb => ?_
    · refine s_ret gd (ev_slS (ev_var rfl) (ep_some ev_c) ep_none (h3 ok.1)) ⟨H, (Xt.refl H).back gd, ?_⟩
      have : placeNamed x = cutS x (some 1) none := by
        unfold placeNamed
        rw [hc]
        exact if_pos (of_decide_eq_true hb)
      show Q (.str (cutS x (some 1) none)) H
      rw [← this]
      exact q
    · refine s_ret gd (ev_var rfl) ⟨H, (Xt.refl H).back gd, ?_⟩
      have : placeNamed x = x := by
        unfold placeNamed
        rw [hc]
        exact if_neg (of_decide_eq_false hb)
      show Q (.str x) H
      have q' : Q (.str (placeNamed x)) H := q
      rwa [this] at q'
  | _ => exact ok.elim
end
end Z
namespace Z
open PySem PySem.Spec PyProof.Rows L2 M TL
/-! ## deep -/
def dOk : Nat → PyData → Prop
  | _, .none => True
  | _, .bool _ => True
  | _, .int _ => True
  | _, .str _ => True
  | n + 1, .tuple ds => ds.length ≤ 40000 ∧ ∀ d ∈ ds, dOk n d
  | _, _ => False
def spDeep (K : PySem.W.Frag) : Nat → Sp
  | 0 => fun _ _ _ _ => False
  | n + 1 => fun vs H Q _ => ∃ v d, vs = [v] ∧ Gd H ∧ DpA K H v d ∧ dOk n d ∧ ∀ v' H', Tx H H' → DpT K H' v' d → (∀ ds, d = .tuple ds → ∃ p ys, v' = .ref p ∧ SqF K H' p ys ∧ DpTs K H' ys ds) → Q v' H'
theorem callee_of {P : Program} {w : World} {K : PySem.W.Frag} {mg : Str → Option Value} {base : Heap} {x : Str} {k : Nat} {ps : List Str} {sp : Sp} {f : Addr} {fd : FuncData} (F : FnOk P w K mg base CX0 k f fd ps sp) (hm : mg x = some (.ref f)) (hk : PySem.W.keepIn K (.ref f) = true) (hb : Binds K fd ps []) :
    Callee P w K mg base x k ps [] sp := ⟨f, fd, [], F, hm, hk, hb, .nil⟩
section
variable {P : Program} {w : World} {K : PySem.W.Frag} {mg : Str → Option Value} {base : Heap} {kw : Addr}
theorem DpA.scal {H : Hp} {v : V} {d : PyData} (h : DpA K H v d) (hd : ∀ ds, d ≠ .tuple ds) : DpT K H v d := by
  cases h with
  | non => exact .non
  | bl b => exact .bl b
  | int i => exact .int i
  | str x => exact .str x
  | seq h hs => exact absurd rfl (hd _)
theorem kit_seq {d : PyData} (h : ∀ ds, d ≠ .tuple ds) (h2 : ∀ ds, d ≠ .list ds) : kitB (pyTy d) "list" = some false ∧ kitB (pyTy d) "tuple" = some false := by
  cases d with
  | none => exact ⟨k_NoneType_list, k_NoneType_tuple⟩
  | bool b => exact ⟨k_bool_list, k_bool_tuple⟩
  | int b => exact ⟨k_int_list, k_int_tuple⟩
  | str b => exact ⟨k_str_list, k_str_tuple⟩
  | list b => exact absurd rfl (h2 _)
  | tuple b => exact absurd rfl (h _)
  | dict b => exact ⟨k_dict_list, k_dict_tuple⟩
theorem ok_deep {f : Addr} {fd : FuncData} (F : Fun K "deep" "deep" s_deep f fd) (T : Txt0 K mg kw) (hm : mg "deep" = some (.ref f)) (hb : Binds K fd ["thing"] []) : ∀ n, FnOk P w K mg base CX0 n f fd ["thing"] (spDeep K n)
  | 0 => ⟨fun _ _ _ _ h => h.elim, fun _ _ _ _ _ _ _ _ _ _ _ _ _ h => h.elim⟩
  | n + 1 => by
    have C_deep : Callee P w K mg base "deep" n ["thing"] [] (spDeep K n) := callee_of (ok_deep F T hm hb n) hm F.kp hb
    refine okS F sc_deep (fun vs H Q E h => by obtain ⟨v, d, rfl, _⟩ := h; rfl) (fun cdv A outer s H vs Q E hr h => ?_)
    obtain ⟨v, d, rfl, gd, hv, ok, q⟩ := h
    refine ⟨_, (pss_cons (ps_if (pt_sh (pt_truthK (K := K) rfl (pe_callB (call_isiK2 (K := K) rfl) (by rfl) T.n_isinstance (by decide +kernel) (pa_cons (pv 0) (pa_cons (pe_tup (pa_cons (pe_bltn (v := .ty "list") (u := .type "list") rfl T.n_list (by decide +kernel) rfl) (pa_cons (pe_bltn (v := .ty "tuple") (u := .type "tuple") rfl T.n_tuple (by decide +kernel) rfl) pa_nil))) pa_nil))) (by intro _; rfl)))
        (pss_one (ps_sh (ps_ret (pe_callTy (call_tupK (K := K) rfl) (by rfl) T.n_tuple (by decide +kernel) (pa_cons (pe_lc (own := [("part", 1)]) rfl sc_deep.nd (pi_seqK (K := K) rfl (pv 0)) (blkOk_by (own := [("part", 1)]) (N := N_deep) (sc := defScope s_deep) (by decide +kernel)) (fun _ _ _ _ _ => (pg_name (i := 1) sc_deep.nd rfl (Or.inl rfl))) (fun _ _ _ _ _ => pts_nil) (fun _ _ _ _ _ => (pe_callC C_deep hr (pa_cons (pv 1) pa_nil)))) pa_nil)))))
        pss_nil)
    (pss_one (ps_sh (ps_ret (pv 0))))), ?_⟩
    by_cases ht : ∃ ds, d = .tuple ds
    · obtain ⟨ds, rfl⟩ := ht
      cases hv with
      | @seq a xs _ hx hs =>
        refine q_when (b := true) gd (hx.elim (fun hl => et_tru (ev_isi2L (ev_var rfl) hl k_list_list k_list_tuple)) fun hl => et_tru ?_) (fun _ => ?_) fun z => nomatch z
        · intro H1 e Q q
          refine ⟨_, rfl, by show 2 ≤ sizeLine; decide, fun p hp => .inr ⟨_, p, [.ty "list", .ty "tuple"], _, [.type "list", .type "tuple"], _, rfl, upd_same, .cons (.ty _) (.cons (.ty _) .nil), tyX_t (xt_t (e.trans (Xt.new hp rfl rfl)) hl), kit_two k_tuple_list k_tuple_tuple, q _ (Xt.new hp rfl rfl)⟩⟩
        · obtain ⟨n, rfl⟩ : ∃ m, n = m + 1 := by
            cases n with
            | zero => exact ok.elim
            | succ m => exact ⟨m, rfl⟩
          have e1 := evl_lc1 (K := K) (σ := L2.start N_deep [.ref a]) (H := H) (te := tCall (spDeep K (n + 1)) [] E0 (tCons (tVar 1) tNil)) (j := 1) (vs := [1]) relA_mono id (ei_R relA_mono (te := tVar 0) (ev_var rfl) hx hs.paired) ok.1 (fun z => rfl) fun d hd x H1 e hx' =>
            evd_call (ea_cons (ev_var rfl) ea_nil) fun H2 e2 Q q E => ⟨x, d, rfl, (e.trans e2).2 gd, hx'.xt e2, ok.2 d hd, fun v' H' tx hv' _ => q v' H' tx.xt hv'⟩
          rw [List.map_id] at e1
          refine s_retF gd (evf_tupL e1) fun p ys H' tx hf hd => ⟨H', Shr.refl tx.xt gd, q _ H' tx (.tup hf.t hd) fun ds' e => ?_⟩
          cases e
          exact ⟨p, ys, rfl, hf, hd⟩
    · have hv' : DpT K H v d := DpA.scal hv fun ds e => ht ⟨ds, e⟩
      have hl : ∀ ds, d ≠ .list ds := fun ds e => by subst e; cases hv
      obtain ⟨k1, k2⟩ := kit_seq (fun ds e => ht ⟨ds, e⟩) hl
      refine q_when (b := false) gd (et_tru (ev_isi2 (evd_var rfl hv') k1 k2)) (fun z => nomatch z) fun _ => ?_
      refine s_ret gd (ev_var rfl) ⟨H, (Xt.refl H).back gd, q v H (.refl H) hv' fun ds e => absurd ⟨ds, e⟩ ht⟩

/-! ## word maps -/
def encP (p : Str × Str) : PyData := .tuple [.str p.1, .str p.2]
def mapFrom : Str → List (Str × Str) → Bool
  | _, [] => true
  | last, (a, b) :: r => isWord a && isWord b && !decide (a = b) && decide (last.cps.toList < a.cps.toList) && mapFrom a r
theorem ok_is_map {f : Addr} {fd : FuncData} (F : Fun K "is_map" "is_map" s_is_map f fd) (T : Txt0 K mg kw) (C_is_word : Callee P w K mg base "is_word" 1 ["thing"] [] (spB K isWord)) :
    FnOk P w K mg base CX0 2 f fd ["pairs"] (fun vs H Q _ => ∃ v ps, vs = [v] ∧ Gd H ∧ DpT K H v (.tuple (ps.map encP)) ∧ (∀ p ∈ ps, p.1.length ≤ 1000 ∧ p.2.length ≤ 1000) ∧ mapFrom "" ps = true ∧ Q (.bl true) H) := by
  refine okS F sc_is_map (fun vs H Q E h => by obtain ⟨v, d, rfl, _⟩ := h; rfl) (fun cdv A outer s H vs Q E hr h => ?_)
  obtain ⟨v, ps, rfl, gd, hv, ok, hmp, q⟩ := h
  refine ⟨_, (pss_cons (ps_if (pt_sh (pt_not (pt_truthK (K := K) rfl (pe_callB (call_isiK2 (K := K) rfl) (by rfl) T.n_isinstance (by decide +kernel) (pa_cons (pv 0) (pa_cons (pe_bltn (v := .ty "tuple") (u := .type "tuple") rfl T.n_tuple (by decide +kernel) rfl) pa_nil))) (by intro _; rfl))))
        (pss_one (ps_sh (ps_ret pe_bl)))
        pss_nil)
    (pss_cons (ps_sh (ps_set (i := 1) sc_is_map.nd rfl (Or.inl rfl) pe_str))
    (pss_cons (ps_for PassesOwn.never rfl (pi_sh (pi_seqK (K := K) rfl (pv 0))) (pg_name (i := 2) sc_is_map.nd rfl (Or.inl rfl))
        (pss_cons (ps_if (pt_sh (PW.pt (pw_or (pt_not (pt_truthK (K := K) rfl (pe_callB (call_isiK2 (K := K) rfl) (by rfl) T.n_isinstance (by decide +kernel) (pa_cons (pv 2) (pa_cons (pe_bltn (v := .ty "tuple") (u := .type "tuple") rfl T.n_tuple (by decide +kernel) rfl) pa_nil))) (by intro _; rfl))) (pw_or1 (pt_cmpR (op_neK (K := K) rfl hr.units) (pe_callB (call_lenK (K := K) rfl) (by rfl) T.n_len (by decide +kernel) (pa_cons (pv 2) pa_nil)) pe_int (nomark _))))))
            (pss_one (ps_sh (ps_ret pe_bl)))
            pss_nil)
        (pss_cons (ps_sh (ps_asg (pv 2) (pg_tupK (K := K) (n := 2) rfl rfl (pgs_cons (pg_name (i := 3) sc_is_map.nd rfl (Or.inl rfl)) (pgs_cons (pg_name (i := 4) sc_is_map.nd rfl (Or.inl rfl)) pgs_nil)) rfl rfl)))
        (pss_cons (ps_if (pt_sh (PW.pt (pw_or (pt_not (pt_truthK (K := K) rfl (pe_callC C_is_word (hr.mono (by decide)) (pa_cons (pv 3) pa_nil)) (by intro _; rfl))) (pw_or (pt_not (pt_truthK (K := K) rfl (pe_callC C_is_word (hr.mono (by decide)) (pa_cons (pv 4) pa_nil)) (by intro _; rfl))) (pw_or (pt_cmpR (op_eqK (K := K) rfl hr.units) (pv 3) (pv 4) (nomark _)) (pw_or1 (pt_cmpR op_leA (pv 3) (pv 1) (nomark _))))))))
            (pss_one (ps_sh (ps_ret pe_bl)))
            pss_nil)
        (pss_one (ps_sh (ps_set (i := 1) sc_is_map.nd rfl (Or.inl rfl) (pv 3))))))))
    (pss_one (ps_sh (ps_ret pe_bl)))))), ?_⟩
  refine q_when (b := false) gd (et_not (et_tru (ev_isi (evd_var rfl hv) k_tuple_tuple))) (fun z => nomatch z) fun _ => ?_
  refine q_set gd ev_c ?_
  obtain ⟨a, xs, rfl, ht, hs⟩ := hv.tup_
  have hlen : xs.length = ps.length := by rw [hs.len, List.length_map]
  refine q_forT gd (ev_var (i := 0) rfl) ht (fun i σ' H' => H' = H ∧ ∃ (l : Str) (o1 o2 o3 : Option V), σ' = [some (.ref a), some (.str l), o1, o2, o3] ∧ mapFrom l (ps.drop i) = true) ⟨rfl, _, _, _, _, rfl, hmp⟩ (fun i σ' H' _ h => h.1 ▸ ht) ?_ ?_
  · rintro i x σ' H' hx ⟨rfl, l, o1, o2, o3, rfl, hm⟩
    obtain ⟨d, hd, hxd⟩ := hs.get hx
    rw [List.getElem?_map] at hd
    cases hp : ps[i]? with
    | none => rw [hp] at hd; cases hd
    | some p =>
      rw [hp] at hd
      cases hd
      have hdr : ps.drop i = p :: ps.drop (i + 1) := by
        obtain ⟨hi, e⟩ := List.getElem?_eq_some_iff.mp hp
        rw [List.drop_eq_getElem_cons hi, e]
      rw [hdr] at hm
      have hm' : (isWord p.1 && isWord p.2 && !decide (p.1 = p.2) && decide (l.cps.toList < p.1.cps.toList) && mapFrom p.1 (ps.drop (i + 1))) = true := hm
      simp only [Bool.and_eq_true, Bool.not_eq_true', decide_eq_true_eq, decide_eq_false_iff_not] at hm'
      obtain ⟨⟨⟨⟨w1, w2⟩, w3⟩, w4⟩, w5⟩ := hm'
      obtain ⟨o1', o2'⟩ := ok p (List.mem_of_getElem? hp)
      show tSeq _ _ _ _ _
      refine q_when (b := false) gd (et_is (et_or (et_not (et_tru (ev_isi (evd_var rfl hxd) k_tuple_tuple))) fun _ => et_test (ev_op (ev_lenU (evd_var rfl hxd)) ev_c (rv_ne rfl))) ?_) (fun z => nomatch z) fun _ => ?_
      · simp
      obtain ⟨b, ys, rfl, hb, hys⟩ := hxd.tup_
      obtain ⟨y1, r1, rfl, hy1, hr1⟩ := hys.cons_
      obtain ⟨y2, r2, rfl, hy2, hr2⟩ := hr1.cons_
      obtain rfl := hr2.nil_
      obtain rfl := hy1.str_
      obtain rfl := hy2.str_
      refine q_asgP gd (ev_var rfl) hb ?_
      refine q_when (b := false) gd (et_is (et_or (et_not (et_tru (ev_spB gd (ev_var rfl) o1'))) fun _ => et_or (et_not (et_tru (ev_spB gd (ev_var rfl) o2'))) fun _ => et_or (et_test (ev_op (ev_var rfl) (ev_var rfl) (rv_eq rfl))) fun _ => et_test (ev_op (ev_var rfl) (ev_var rfl) rv_leS)) ?_) (fun z => nomatch z) fun _ => ?_
      · rw [w1, w2]
        simp [w3, w4]
      refine s_set gd (ev_var rfl) ?_
      exact ⟨rfl, p.1, _, _, _, rfl, w5⟩
  · rintro σ' H' ⟨rfl, l, o1, o2, o3, rfl, hm⟩
    exact s_ret gd ev_c ⟨H', (Xt.refl H').back gd, q⟩
end
end Z
namespace Z
open PySem PySem.Spec PyProof.Rows L2 M TL
/-! ## the pairs of a dict, first readings -/
def changed (dk : List (Str × Str)) : List Str := (sortS (dk.map (·.1))).filter fun k => !decide ((look dk k).getD "" = k)
def pairsOf (dk : List (Str × Str)) : List (Str × Str) := (changed dk).map fun k => (k, (look dk k).getD "")
def firstR (ps : List (Str × Str)) : List (Str × Str) := ps.foldl (fun acc p => if (look acc p.1).isSome = true then acc else putS acc p.1 p.2) []
theorem firstR_snoc (ps : List (Str × Str)) (p : Str × Str) : firstR (ps ++ [p]) = if (look (firstR ps) p.1).isSome = true then firstR ps else putS (firstR ps) p.1 p.2 := by
  unfold firstR
  rw [List.foldl_append]
  rfl
theorem firstR_len (ps : List (Str × Str)) : (firstR ps).length ≤ ps.length := by
  have h : ∀ (ps acc : List (Str × Str)), (ps.foldl (fun acc p => if (look acc p.1).isSome = true then acc else putS acc p.1 p.2) acc).length ≤ acc.length + ps.length := by
    intro ps
    induction ps with
    | nil => intro acc; simp
    | cons p r ih =>
      intro acc
      have := ih (if (look acc p.1).isSome = true then acc else putS acc p.1 p.2)
      rw [List.foldl_cons]
      refine Nat.le_trans this ?_
      have h2 : (if (look acc p.1).isSome = true then acc else putS acc p.1 p.2).length ≤ acc.length + 1 := by
        split
        · omega
        · exact len_put
      rw [List.length_cons]; omega
  have := h ps []
  simpa [firstR] using this
theorem find_of_look {dk : List (Str × Str)} {k : Str} (h : k ∈ dk.map (·.1)) : look dk k = some ((look dk k).getD "") := by
  have := look_mem.mpr h
  cases e : look dk k with
  | none => rw [e] at this; cases this
  | some v => rfl
section
variable {P : Program} {w : World} {K : PySem.W.Frag} {mg : Str → Option Value} {base : Heap} {kw : Addr}
/-- what a call tells that gives back a tuple of pairs of texts -/
def RetPs (K : PySem.W.Frag) (H : Hp) (Q : VK) (ps : List (Str × Str)) : Prop := ∀ p ys H', Tx H H' → SqF K H' p ys → DpTs K H' ys (ps.map encP) → Q (.ref p) H'
def spPairsOf (K : PySem.W.Frag) : Sp := fun vs H Q _ => ∃ a dk, vs = [.ref a] ∧ Gd H ∧ H a = some (.dK (kvS dk)) ∧ dk.length < 64 ∧ RetPs K H Q (pairsOf dk)
theorem ok_pairs_of {f : Addr} {fd : FuncData} (F : Fun K "pairs_of" "pairs_of" s_pairs_of f fd) (T : Txt0 K mg kw) : FnOk P w K mg base CX0 1 f fd ["table"] (spPairsOf K) := by
  refine okS F sc_pairs_of (fun vs H Q E h => by obtain ⟨v, d, rfl, _⟩ := h; rfl) (fun cdv A outer s H vs Q E hr h => ?_)
  obtain ⟨a, dk, rfl, gd, hH, hz, q⟩ := h
  refine ⟨_, (pss_one (ps_sh (ps_ret (pe_callTy (call_tupK (K := K) rfl) (by rfl) T.n_tuple (by decide +kernel) (pa_cons (pe_lc (own := [("word", 1)]) rfl sc_pairs_of.nd (pi_seqK (K := K) rfl (pe_callB (call_sortedK (K := K) rfl rfl) (by rfl) T.n_sorted (by decide +kernel) (pa_cons (pv 0) pa_nil))) (blkOk_by (own := [("word", 1)]) (N := N_pairs_of) (sc := defScope s_pairs_of) (by decide +kernel)) (fun _ _ _ _ _ => (pg_name (i := 1) sc_pairs_of.nd rfl (Or.inl rfl))) (fun _ _ _ _ _ => (pts_one (pt_cmpR (op_neK (K := K) rfl hr.units) (pe_dget (hu_of hr) (pv 0) (pv 1) (fun _ _ => rfl)) (pv 1) (nomark _)))) (fun _ _ _ _ _ => (pe_tupF (pa_cons (pv 1) (pa_cons (pe_dget (hu_of hr) (pv 0) (pv 1) (fun _ _ => rfl)) pa_nil))))) pa_nil))))), ?_⟩
  have e1 := evl_lc (K := K) (σ := L2.start N_pairs_of [.ref a]) (H := H) (tt := tTest (tOp (rOr rNe (rNeD K)) (tDGet (tVar 0) (tVar 1)) (tVar 1))) (te := tTupF (tCons (tVar 1) (tCons (tDGet (tVar 0) (tVar 1)) tNil))) (g := gName 1) (vs := [1]) relD_mono
    (fun k => !decide ((look dk k).getD "" = k)) (fun k => encP (k, (look dk k).getD "")) (ei_O (ws := sortS (dk.map (·.1))) (te := tCB (rcOr (rSortedS K) rSortD) (tCons (tVar 0) tNil)) (evo_sortD (ev_var rfl) hH hz)) (by
      rw [(sortS_perm _).length_eq, List.length_map]; omega) fun k hk x H1 e hx => by
      obtain rfl := DpT.str_ hx
      have hl := find_of_look (sortS_mem.mp hk)
      have hv : valV (kvS dk) (Sum.inr k : Key) = some (.str ((look dk k).getD "")) := by rw [valV_kvS, hl]; rfl
      have hg : Ev (tDGet (tVar 0) (tVar 1)) ((wipe (L2.start N_pairs_of [.ref a]) [1]).set 1 (some (.str k))) H1 (.str ((look dk k).getD "")) := ev_dget (k := Sum.inr k) (ev_var rfl) (ev_var rfl) (e.1 _ _ hH) hv
      refine ⟨_, fun Q q => q, rfl, et_is (et_test (ev_op hg (ev_var rfl) (rv_ne rfl))) ?_, fun _ => (evf_tup (ead_cons (ev_var rfl : Ev (tVar 1) _ _ (.str k)).dStr (ead_cons hg.dStr ead_nil)) (show 2 ≤ 100000 by decide)).toD⟩
      simp
  have e2 : ((sortS (dk.map (·.1))).filter fun k => !decide ((look dk k).getD "" = k)).map (fun k => encP (k, (look dk k).getD "")) = (pairsOf dk).map encP := by
    unfold pairsOf changed
    rw [List.map_map]
    rfl
  rw [e2] at e1
  exact s_retF gd (evf_tupL e1) fun p ys H' tx hf hd => ⟨H', Shr.refl tx.xt gd, q p ys H' tx hf hd⟩
def spFirst (K : PySem.W.Frag) : Sp := fun vs H Q _ => ∃ a xs ps, vs = [.ref a] ∧ Gd H ∧ H a = some (.lst xs) ∧ DpTs K H xs (ps.map encP) ∧ ps.length < 64 ∧ RetPs K H Q (pairsOf (firstR ps))
theorem Tx.upd_new {H H' : Hp} {p : Addr} {o : HO} (hp : H p = none) (ho : okO o = true) (hi : insO o = false) (tx : Tx (upd H p o) H') : Xt H H' := (Xt.new hp ho hi).trans tx.xt
/-- a function's own thing at p is forgotten at its end -/
theorem shr_own {H0 H' : Hp} {p : Addr} {o : HO} (gd : Gd H0) (hp : H0 p = none) (ho : okO o = true) (hi : insO o = false) (tx : Tx (upd H0 p o) H') : ∃ H'', Shr H0 H' H'' ∧ Tx H0 H'' ∧ (∀ {K : PySem.W.Frag} {a xs}, SqT K H' a xs → SqT K H'' a xs) ∧ ∀ {K : PySem.W.Frag} {a xs}, SqF K H' a xs → SqF K H'' a xs :=
  ⟨tupsOf H0 H', tupsOf_shr (Tx.upd_new hp ho hi tx) gd, tupsOf_tx, fun h => tupsOf_sq (Tx.upd_new hp ho hi tx) h, fun h => tupsOf_sqF (Tx.upd_new hp ho hi tx) h⟩
theorem ok_first_readings {f : Addr} {fd : FuncData} (F : Fun K "first_readings" "first_readings" s_first_readings f fd) (T : Txt0 K mg kw) (C_pairs_of : Callee P w K mg base "pairs_of" 1 ["table"] [] (spPairsOf K)) : FnOk P w K mg base CX0 2 f fd ["readings"] (spFirst K) := by
  refine okS F sc_first_readings (fun vs H Q E h => by obtain ⟨v, d, ps, rfl, _⟩ := h; rfl) (fun cdv A outer s H vs Q E hr h => ?_)
  obtain ⟨a, xs, ps, rfl, gd, hH, hd, hz, q⟩ := h
  refine ⟨_, (pss_cons (ps_sh (ps_set (i := 1) sc_first_readings.nd rfl (Or.inl rfl) pe_dnewK))
    (pss_cons (ps_for PassesOwn.never rfl (pi_sh (pi_seqK (K := K) rfl (pv 0))) (pg_tupK (K := K) (n := 2) rfl rfl (pgs_cons (pg_name (i := 2) sc_first_readings.nd rfl (Or.inl rfl)) (pgs_cons (pg_name (i := 3) sc_first_readings.nd rfl (Or.inl rfl)) pgs_nil)) rfl rfl)
        (pss_one (ps_if (pt_sh (pt_cmp (pc_dnotin (hu_of hr) (pv 2) (pv 1))))
            (pss_one (ps_sh (ps_dput (hu_of hr) (pv 1) (pv 2) (pv 3) rfl)))
            pss_nil)))
    (pss_one (ps_sh (ps_ret (pe_callC C_pairs_of (hr.mono (by decide)) (pa_cons (pv 1) pa_nil))))))), ?_⟩
  refine q_setO gd evo_dnew rfl rfl fun t ht => ?_
  have nat : a ≠ t := ne_of_none hH ht
  have hlen : xs.length = ps.length := by rw [hd.len, List.length_map]
  refine q_forL (gd.new ht rfl rfl) (ev_var (i := 0) rfl) (xs := xs) (.inl (.inl (by rw [upd_ne nat]; exact hH))) (fun i σ' H' => H' = upd H t (.dK (kvS (firstR (ps.take i)))) ∧ ∃ o1 o2 : Option V, σ' = [some (.ref a), some (.ref t), o1, o2]) ⟨rfl, _, _, rfl⟩ (fun i σ' H' _ h => h.1 ▸ .inl (.inl (by rw [upd_ne nat]; exact hH))) ?_ ?_
  · rintro i x σ' H' hx ⟨rfl, o1, o2, rfl⟩
    obtain ⟨d, hd1, hxd⟩ := hd.get hx
    rw [List.getElem?_map] at hd1
    cases hp : ps[i]? with
    | none => rw [hp] at hd1; cases hd1
    | some p =>
      rw [hp] at hd1
      cases hd1
      obtain ⟨b, ys, rfl, hb, hys⟩ := hxd.tup_
      obtain ⟨y1, r1, rfl, hy1, hr1⟩ := hys.cons_
      obtain ⟨y2, r2, rfl, hy2, hr2⟩ := hr1.cons_
      obtain rfl := hr2.nil_
      obtain rfl := hy1.str_
      obtain rfl := hy2.str_
      have htk : ps.take (i + 1) = ps.take i ++ [p] := by rw [List.take_add_one, hp]; rfl
      have g2 : Gd (upd H t (.dK (kvS (firstR (ps.take i))))) := gd.new ht rfl rfl
      refine g_pairN (sqT_new ht hb) ?_
      refine s_when (b := !(look (firstR (ps.take i)) p.1).isSome) g2 (et_is (et_B (ev_dni (k := Sum.inr p.1) (ev_var rfl) (ev_var rfl) upd_same)) ?_) (fun hb' => ?_) fun hb' => ?_
      · rw [valV_kvS, Option.isSome_map]
      · refine s_dput g2 (ev_var rfl) (ev_var rfl) (k := Sum.inr p.1) (ev_var rfl) upd_same ?_ ⟨?_, _, _, rfl⟩
        · unfold kvS
          rw [List.length_map]
          have := firstR_len (ps.take i)
          rw [List.length_take] at this
          omega
        · have hn : ¬ (look (firstR (ps.take i)) p.1).isSome = true := by simpa using hb'
          rw [upd_upd, htk, firstR_snoc, if_neg hn, putK_kvS]
      · refine ⟨?_, _, _, rfl⟩
        have hn : (look (firstR (ps.take i)) p.1).isSome = true := by simpa using hb'
        rw [htk, firstR_snoc, if_pos hn]
  · rintro σ' H' ⟨rfl, o1, o2, rfl⟩
    rw [hlen, List.take_length]
    have g2 : Gd (upd H t (.dK (kvS (firstR ps)))) := gd.new ht rfl rfl
    refine s_retF g2 (evf_call (ea_cons (ev_var rfl) ea_nil) fun H1 e Q q E => ⟨t, firstR ps, rfl, e.2 g2, e.1 _ _ upd_same, Nat.lt_of_le_of_lt (firstR_len ps) hz, fun p ys H' tx hf hd => q p ys H' tx.xt hf hd⟩) fun p ys H' tx hf hd => ?_
    obtain ⟨H'', h1, h2, h3, h4⟩ := shr_own gd ht rfl rfl tx
    exact ⟨H'', h1, q p ys H'' h2 (h4 hf) (hd.mono fun _ _ => h3)⟩
end
end Z
namespace Z
open PySem PySem.Spec PyProof.Rows L2 M TL
/-! ## bodies -/
def isRef (t : Str) : Bool := !(!decide (t = "lost") && (!isAddress t && !isFollower t))
def isRd (ws : List Str) : Bool := match ws with
  | a :: b :: c :: _ => decide (a = "as") && (isWord b && isWord c)
  | _ => false
def takeRd : List Str → List (Str × Str) × List Str
  | a :: b :: c :: r => if (decide (a = "as") && (isWord b && isWord c)) = true then ((b, c) :: (takeRd r).1, (takeRd r).2) else ([], a :: b :: c :: r)
  | l => ([], l)
def ledTo (t : Str) : Option Str := if t = "lost" then none else some (placeNamed t)
def parseN : Nat → List Str → List Str × List (Option Str × List (Str × Str))
  | 0, _ => ([], [])
  | _ + 1, [] => ([], [])
  | n + 1, t :: r => if isRef t = true then ("&" :: (parseN n (takeRd r).2).1, (ledTo t, pairsOf (firstR (takeRd r).1)) :: (parseN n (takeRd r).2).2) else (t :: (parseN n r).1, (parseN n r).2)
def encO : Option Str → PyData
  | none => .none
  | some s => .str s
def encL (p : Option Str × List (Str × Str)) : PyData := .tuple [encO p.1, .tuple (p.2.map encP)]
theorem takeRd_no {l : List Str} (h : isRd l = false) : takeRd l = ([], l) := by
  match l, h with
  | [], _ => rfl
  | [a], _ => rfl
  | [a, b], _ => rfl
  | a :: b :: c :: r, h =>
    have h' : (decide (a = "as") && (isWord b && isWord c)) = false := h
    show (if (decide (a = "as") && (isWord b && isWord c)) = true then _ else _) = _
    rw [if_neg (by rw [h']; exact Bool.false_ne_true)]
theorem takeRd_yes {a b c : Str} {r : List Str} (h : isRd (a :: b :: c :: r) = true) : takeRd (a :: b :: c :: r) = ((b, c) :: (takeRd r).1, (takeRd r).2) := by
  have h' : (decide (a = "as") && (isWord b && isWord c)) = true := h
  show (if (decide (a = "as") && (isWord b && isWord c)) = true then _ else _) = _
  rw [if_pos h']
theorem isRd_shape {l : List Str} (h : isRd l = true) : ∃ a b c r, l = a :: b :: c :: r := by
  match l, h with
  | a :: b :: c :: r, _ => exact ⟨a, b, c, r, rfl⟩
theorem takeRd_suffix (l : List Str) : ∃ k, (takeRd l).2 = l.drop k ∧ k ≤ l.length := by
  match l with
  | [] => exact ⟨0, rfl, Nat.le_refl _⟩
  | [a] => exact ⟨0, rfl, Nat.zero_le _⟩
  | [a, b] => exact ⟨0, rfl, Nat.zero_le _⟩
  | a :: b :: c :: r =>
    show ∃ k, (if (decide (a = "as") && (isWord b && isWord c)) = true then ((b, c) :: (takeRd r).1, (takeRd r).2) else ([], a :: b :: c :: r)).2 = _ ∧ _
    split
    · obtain ⟨k, e, h⟩ := takeRd_suffix r
      exact ⟨k + 3, e, by simp; omega⟩
    · exact ⟨0, rfl, Nat.zero_le _⟩
theorem takeRd_len (l : List Str) : 3 * (takeRd l).1.length ≤ l.length := by
  match l with
  | [] => exact Nat.zero_le _
  | [a] => exact Nat.zero_le _
  | [a, b] => exact Nat.zero_le _
  | a :: b :: c :: r =>
    show 3 * (if (decide (a = "as") && (isWord b && isWord c)) = true then ((b, c) :: (takeRd r).1, (takeRd r).2) else ([], a :: b :: c :: r)).1.length ≤ _
    split
    · have := takeRd_len r
      simp only [List.length_cons]; omega
    · exact Nat.zero_le _
def bodyOk (ws : List Str) : Prop := ws.length ≤ 100 ∧ ∀ t ∈ ws, t.length ≤ 1000 ∧ t.cps.toList ≠ []
def spIsReading (K : PySem.W.Frag) : Sp := fun vs H Q _ => ∃ (a : Addr) (ws : List Str) (i : Nat), vs = [.ref a, .int (i : Int)] ∧ Gd H ∧ (SqL K H a (ws.map V.str) ∨ SqT K H a (ws.map V.str)) ∧ bodyOk ws ∧ Q (.bl (isRd (ws.drop i))) H
def spParsed (K : PySem.W.Frag) : Sp := fun vs H Q _ => ∃ (a : Addr) (ws : List Str), vs = [.ref a] ∧ Gd H ∧ (SqL K H a (ws.map V.str) ∨ SqT K H a (ws.map V.str)) ∧ bodyOk ws ∧
  RetD K H Q (.tuple [.tuple ((parseN ws.length ws).1.map PyData.str), .tuple ((parseN ws.length ws).2.map encL)])
section
variable {P : Program} {w : World} {K : PySem.W.Frag} {mg : Str → Option Value} {base : Heap} {kw : Addr}
theorem ok_is_reading {f : Addr} {fd : FuncData} (F : Fun K "is_reading" "is_reading" s_is_reading f fd) (T : Txt0 K mg kw) (C_is_word : Callee P w K mg base "is_word" 1 ["thing"] [] (spB K isWord)) : FnOk P w K mg base CX0 2 f fd ["body", "at"] (spIsReading K) := by
  refine okS F sc_is_reading (fun vs H Q E h => by obtain ⟨v, d, i, rfl, _⟩ := h; rfl) (fun cdv A outer s H vs Q E hr h => ?_)
  obtain ⟨a, ws, i, rfl, gd, hx, ok, q⟩ := h
  refine ⟨_, (pss_one (ps_sh (ps_ret (pe_and (pe_cmpR op_ltA (pe_op (op_addK (K := K) rfl) (pv 1) pe_int) (pe_callB (call_lenK (K := K) rfl) (by rfl) T.n_len (by decide +kernel) (pa_cons (pv 0) pa_nil)) (nomark _)) (pe_and (pe_cmpR (op_eqK (K := K) rfl hr.units) (pe_ix (ix_seqK (K := K) rfl) (pv 0) (pv 1) (fun _ _ => rfl)) pe_str (nomark _)) (pe_and (pe_callC C_is_word (hr.mono (by decide)) (pa_cons (pe_ix (ix_seqK (K := K) rfl) (pv 0) (pe_op (op_addK (K := K) rfl) (pv 1) pe_int) (fun _ _ => rfl)) pa_nil)) (pe_one (pe_callC C_is_word (hr.mono (by decide)) (pa_cons (pe_ix (ix_seqK (K := K) rfl) (pv 0) (pe_op (op_addK (K := K) rfl) (pv 1) pe_int) (fun _ _ => rfl)) pa_nil))))))))), ?_⟩
  refine s_ret (v := .bl (isRd (ws.drop i))) gd ?_ (finV gd (.refl H) q)
  have hl : Ev (tCB (rcOr (rLenS K) (rcOr rLenT rLenD)) (tCons (tVar 0) tNil)) (L2.start N_is_reading [.ref a, .int (i : Int)]) H (.int (ws.length : Int)) := ev_is (ev_lenS (ev_var rfl) hx) (by rw [List.length_map])
  by_cases h3 : i + 2 < ws.length
  · have hi : i < ws.length := by omega
    have hdr : ws.drop i = ws[i] :: ws[i + 1] :: ws[i + 2] :: ws.drop (i + 3) := by
      rw [List.drop_eq_getElem_cons hi, List.drop_eq_getElem_cons (by omega : i + 1 < ws.length), List.drop_eq_getElem_cons (by omega : i + 1 + 1 < ws.length)]
    rw [hdr]
    have e0 := atI_strs (ws := ws) (i := i) (List.getElem?_eq_getElem hi)
    have e1 := atI_strs (ws := ws) (i := i + 1) (List.getElem?_eq_getElem (by omega))
    have e2 := atI_strs (ws := ws) (i := i + 2) (List.getElem?_eq_getElem (by omega))
    apply ev_bl
    · exact ev_andV (ev_op (ev_op (ev_var rfl) ev_c rv_addI) hl rv_ltI) fun _ => ev_andV (ev_op (ev_op (ev_var rfl) (ev_var rfl) (rv_ixA hx e0)) ev_c (rv_eq rfl)) fun _ =>
        ev_andV (ev_spB gd (ev_op (ev_var rfl) (ev_op (ev_var rfl) ev_c rv_addI) (rv_ixA hx e1)) (ok.2 _ (List.getElem_mem _)).1) fun _ => ev_spB gd (ev_op (ev_var rfl) (ev_op (ev_var rfl) ev_c rv_addI) (rv_ixA hx e2)) (ok.2 _ (List.getElem_mem _)).1
    · rw [decide_eq_true (by omega : (i : Int) + 2 < (ws.length : Int)), Bool.true_and]
      show _ = (decide (ws[i] = "as") && (isWord ws[i + 1] && isWord ws[i + 2]))
      congr 1
      simp
  · have hno : isRd (ws.drop i) = false := by
      cases e : isRd (ws.drop i) with
      | false => rfl
      | true =>
        obtain ⟨a, b, c, r, e'⟩ := isRd_shape e
        have := congrArg List.length e'
        rw [List.length_drop] at this
        simp at this; omega
    rw [hno]
    refine ev_bl (ev_andV (a := false) (b := true) (ev_bl (ev_op (ev_op (ev_var rfl) ev_c rv_addI) hl rv_ltI) (decide_eq_false (by omega))) fun z => nomatch z) rfl
theorem ok_led_to {f : Addr} {fd : FuncData} (F : Fun K "led_to" "led_to" s_led_to f fd) (T : Txt0 K mg kw) (C_place_named : Callee P w K mg base "place_named" 1 ["token"] [] (sp1 K strNe fun d => .str (placeNamed (toStr d)))) :
    FnOk P w K mg base CX0 2 f fd ["token"] (fun vs H Q _ => ∃ t : Str, vs = [.str t] ∧ Gd H ∧ (t.length ≤ 1000 ∧ t.cps.toList ≠ []) ∧ RetD K H Q (encO (ledTo t))) := by
  refine okS F sc_led_to (fun vs H Q E h => by obtain ⟨t, rfl, _⟩ := h; rfl) (fun cdv A outer s H vs Q E hr h => ?_)
  obtain ⟨t, rfl, gd, ok, q⟩ := h
  refine ⟨_, (pss_cons (ps_if (pt_sh (pt_cmpR (op_eqK (K := K) rfl hr.units) (pv 0) pe_str (nomark _)))
        (pss_one (ps_sh (ps_ret pe_non)))
        pss_nil)
    (pss_one (ps_sh (ps_ret (pe_callC C_place_named (hr.mono (by decide)) (pa_cons (pv 0) pa_nil)))))), ?_⟩
  refine q_when (b := decide (t = "lost")) gd (et_is (et_test (ev_op (ev_var rfl) ev_c (rv_eq rfl))) (by simp)) (fun hb => ?_) fun hb => ?_
  · have h : ledTo t = none := if_pos (of_decide_eq_true hb)
    rw [h] at q
    exact s_ret gd ev_c (finV gd (.refl H) (q _ H (.refl H) .non))
  · have h : ledTo t = some (placeNamed t) := if_neg (of_decide_eq_false hb)
    rw [h] at q
    exact s_ret gd (ev_sp1 (ok := strNe) (f := fun d => .str (placeNamed (toStr d))) (d := .str t) gd (evd_var rfl (.str t)) ok) (finV gd (.refl H) (q _ H (.refl H) (.str _)))
end
end Z
namespace Z
open PySem PySem.Spec PyProof.Rows L2 M TL
section
variable {P : Program} {w : World} {K : PySem.W.Frag} {mg : Str → Option Value} {base : Heap} {kw : Addr}
abbrev spLedTo (K : PySem.W.Frag) : Sp := fun vs H Q _ => ∃ t : Str, vs = [.str t] ∧ Gd H ∧ (t.length ≤ 1000 ∧ t.cps.toList ≠ []) ∧ RetD K H Q (encO (ledTo t))
theorem parseN_nil (n : Nat) : parseN n [] = ([], []) := by cases n <;> rfl
theorem parseN_yes {n : Nat} {t : Str} {r : List Str} (h : isRef t = true) : parseN (n + 1) (t :: r) = (("&" : Str) :: (parseN n (takeRd r).2).1, (ledTo t, pairsOf (firstR (takeRd r).1)) :: (parseN n (takeRd r).2).2) := if_pos h
theorem parseN_no {n : Nat} {t : Str} {r : List Str} (h : isRef t = false) : parseN (n + 1) (t :: r) = (t :: (parseN n r).1, (parseN n r).2) := if_neg (by rw [h]; exact Bool.false_ne_true)
/-- the loop's word: G the facts, the two lists above them -/
structure InvP (K : PySem.W.Frag) (H G H' : Hp) (lt ll : Addr) (T : List Str) (xs : List V) (L : List (Option Str × List (Str × Str))) : Prop where
  tx : Tx H G
  xt : Xt G H'
  gd : Gd H'
  gt : G lt = none
  gl : G ll = none
  ne : lt ≠ ll
  ht : H' lt = some (.lst (T.map V.str))
  hl : H' ll = some (.lst xs)
  hd : DpTs K G xs (L.map encL)
theorem ok_parsed {f : Addr} {fd : FuncData} (F : Fun K "parsed" "parsed" s_parsed f fd) (T : Txt0 K mg kw) (C_is_address : Callee P w K mg base "is_address" 3 ["thing"] [] (spB K isAddress)) (C_is_follower : Callee P w K mg base "is_follower" 4 ["thing"] [] (spB K isFollower))
    (C_is_reading : Callee P w K mg base "is_reading" 2 ["body", "at"] [] (spIsReading K)) (C_led_to : Callee P w K mg base "led_to" 2 ["token"] [] (spLedTo K)) (C_first_readings : Callee P w K mg base "first_readings" 2 ["readings"] [] (spFirst K)) :
    FnOk P w K mg base CX0 5 f fd ["body"] (spParsed K) := by
  refine okS F sc_parsed (fun vs H Q E h => by obtain ⟨v, d, rfl, _⟩ := h; rfl) (fun cdv A outer s H vs Q E hr h => ?_)
  obtain ⟨a, ws, rfl, gd, hx, ok, q⟩ := h
  refine ⟨_, (pss_cons (ps_sh (ps_set (i := 1) sc_parsed.nd rfl (Or.inl rfl) (pe_lst pa_nil)))
    (pss_cons (ps_sh (ps_set (i := 2) sc_parsed.nd rfl (Or.inl rfl) (pe_lst pa_nil)))
    (pss_cons (ps_sh (ps_set (i := 3) sc_parsed.nd rfl (Or.inl rfl) pe_int))
    (pss_cons (ps_while PassesOwn.never (pt_sh (pt_cmpR op_ltA (pv 3) (pe_callB (call_lenK (K := K) rfl) (by rfl) T.n_len (by decide +kernel) (pa_cons (pv 0) pa_nil)) (nomark _)))
        (pss_cons (ps_sh (ps_set (i := 4) sc_parsed.nd rfl (Or.inl rfl) (pe_ix (ix_seqK (K := K) rfl) (pv 0) (pv 3) (fun _ _ => rfl))))
        (pss_cons (ps_sh (ps_set (i := 3) sc_parsed.nd rfl (Or.inl rfl) (pe_op (op_addK (K := K) rfl) (pv 3) pe_int)))
        (pss_cons (ps_if (pt_sh (PW.pt (pw_and (pt_cmpR (op_neK (K := K) rfl hr.units) (pv 4) pe_str (nomark _)) (pw_and (pt_not (pt_truthK (K := K) rfl (pe_callC C_is_address (hr.mono (by decide)) (pa_cons (pv 4) pa_nil)) (by intro _; rfl))) (pw_and1 (pt_not (pt_truthK (K := K) rfl (pe_callC C_is_follower (hr.mono (by decide)) (pa_cons (pv 4) pa_nil)) (by intro _; rfl))))))))
            (pss_cons (ps_sh (ps_expr (pe_bm PySem.F.plainAttrs_list PySem.F.slot_list_append PySem.F.type_list_append mt_append (pv 1) (pa_cons (pv 4) pa_nil))))
            (pss_one ps_continue))
            pss_nil)
        (pss_cons (ps_sh (ps_set (i := 5) sc_parsed.nd rfl (Or.inl rfl) (pe_lst pa_nil)))
        (pss_cons (ps_while PassesOwn.never (pt_sh (pt_truthK (K := K) rfl (pe_callC C_is_reading (hr.mono (by decide)) (pa_cons (pv 0) (pa_cons (pv 3) pa_nil))) (by intro _; rfl)))
            (pss_cons (ps_sh (ps_expr (pe_bm PySem.F.plainAttrs_list PySem.F.slot_list_append PySem.F.type_list_append mt_append (pv 5) (pa_cons (pe_tupF (pa_cons (pe_ix (ix_seqK (K := K) rfl) (pv 0) (pe_op (op_addK (K := K) rfl) (pv 3) pe_int) (fun _ _ => rfl)) (pa_cons (pe_ix (ix_seqK (K := K) rfl) (pv 0) (pe_op (op_addK (K := K) rfl) (pv 3) pe_int) (fun _ _ => rfl)) pa_nil))) pa_nil))))
            (pss_one (ps_sh (ps_set (i := 3) sc_parsed.nd rfl (Or.inl rfl) (pe_op (op_addK (K := K) rfl) (pv 3) pe_int))))))
        (pss_cons (ps_sh (ps_expr (pe_bm PySem.F.plainAttrs_list PySem.F.slot_list_append PySem.F.type_list_append mt_append (pv 1) (pa_cons pe_str pa_nil))))
        (pss_one (ps_sh (ps_expr (pe_bm PySem.F.plainAttrs_list PySem.F.slot_list_append PySem.F.type_list_append mt_append (pv 2) (pa_cons (pe_tupF (pa_cons (pe_callC C_led_to (hr.mono (by decide)) (pa_cons (pv 4) pa_nil)) (pa_cons (pe_callC C_first_readings (hr.mono (by decide)) (pa_cons (pv 5) pa_nil)) pa_nil))) pa_nil))))))))))))
    (pss_one (ps_sh (ps_ret (pe_tupF (pa_cons (pe_callTy (call_tupK (K := K) rfl) (by rfl) T.n_tuple (by decide +kernel) (pa_cons (pv 1) pa_nil)) (pa_cons (pe_callTy (call_tupK (K := K) rfl) (by rfl) T.n_tuple (by decide +kernel) (pa_cons (pv 2) pa_nil)) pa_nil)))))))))), ?_⟩
  refine q_setO gd (evo_lst ea_nil (by decide)) rfl rfl fun lt hlt => ?_
  have g1 : Gd (upd H lt (.lst [])) := gd.new hlt rfl rfl
  refine q_setO g1 (evo_lst ea_nil (by decide)) rfl rfl fun ll hll => ?_
  have g2 : Gd (upd (upd H lt (.lst [])) ll (.lst [])) := g1.new hll rfl rfl
  have ne : lt ≠ ll := ne_of_none (upd_same : (upd H lt (.lst [])) lt = some (.lst [])) hll
  have hll0 : H ll = none := by rw [upd_ne ne.symm] at hll; exact hll
  refine q_set g2 ev_c ?_
  refine q_while (fun m σ' H' => ∃ (G : Hp) (T : List Str) (xs : List V) (L : List (Option Str × List (Str × Str))) (i n : Nat) (o4 o5 : Option V), σ' = [some (.ref a), some (.ref lt), some (.ref ll), some (.int (i : Int)), o4, o5] ∧ InvP K H G H' lt ll T xs L ∧ i ≤ ws.length ∧ ws.length - i ≤ n ∧
      m = ws.length - i ∧ T.length ≤ i ∧ L.length ≤ i ∧ parseN ws.length ws = (T ++ (parseN n (ws.drop i)).1, L ++ (parseN n (ws.drop i)).2)) ws.length
    ⟨H, [], [], [], 0, ws.length, _, _, rfl, ⟨.refl H, (Xt.new hlt rfl rfl).trans (Xt.new hll rfl rfl), g2, hlt, hll0, ne, by rw [upd_ne ne, upd_same]; rfl, upd_same, .nil⟩, Nat.zero_le _, Nat.sub_le _ _, rfl, Nat.zero_le _, Nat.zero_le _, rfl⟩ ?_
  rintro m σ' H' ⟨G, Td, xs, L, i, n, o4, o5, rfl, I, hi, hn, rfl, hTl, hLl, hP⟩
  refine ⟨I.gd, decide ((i : Int) < (ws.length : Int)), et_test (ev_op (ev_var rfl) (ev_is (ev_lenS (K := K) (ev_var rfl) (xt_a (I.tx.xt.trans I.xt) hx)) (by rw [List.length_map])) rv_ltI), fun hb => ?_, fun hb => ?_⟩
  · have hlt' : i < ws.length := by have := of_decide_eq_true hb; omega
    obtain ⟨t, ht⟩ : ∃ t, ws[i]? = some t := ⟨_, List.getElem?_eq_getElem hlt'⟩
    have hmem : t ∈ ws := List.mem_of_getElem? ht
    obtain ⟨ht1, ht2⟩ := ok.2 t hmem
    have hdr : ws.drop i = t :: ws.drop (i + 1) := by
      obtain ⟨h, e⟩ := List.getElem?_eq_some_iff.mp ht
      rw [List.drop_eq_getElem_cons h, e]
    obtain ⟨n, rfl⟩ : ∃ k, n = k + 1 := ⟨n - 1, by omega⟩
    rw [hdr] at hP
    have hx1 : SqL K H' a (ws.map V.str) ∨ SqT K H' a (ws.map V.str) := xt_a (I.tx.xt.trans I.xt) hx
    refine ⟨_, fun _ _ h => h, ?_⟩
    refine q_set I.gd (ev_op (ev_var rfl) (ev_var rfl) (rv_ixA hx1 (atI_strs ht))) ?_
    refine q_set I.gd (ev_op (ev_var rfl) ev_c rv_addI) ?_
    refine q_when (b := !isRef t) I.gd (et_is (et_and (et_test (ev_op (ev_var rfl) ev_c (rv_ne rfl))) fun _ => et_and (et_not (et_tru (ev_spB I.gd (ev_var rfl) ht1))) fun _ => et_not (et_tru (ev_spB I.gd (ev_var rfl) ht1))) ?_) (fun hb => ?_) fun hb => ?_
    · unfold isRef
      rw [Bool.not_not]
      congr 1
      simp
    · -- a token that is said
      have hr : isRef t = false := by simpa using hb
      rw [parseN_no hr] at hP
      refine q_app I.gd I.ht (ev_var rfl) (ev_var rfl) (by rw [List.length_map]; have := ok.1; omega) ?_
      refine ⟨ws.length - (i + 1), by omega, G, Td ++ [t], xs, L, i + 1, n, _, _, rfl, ⟨I.tx, I.xt.mut I.gt I.ht rfl rfl rfl, I.gd.mut I.ht rfl rfl rfl, I.gt, I.gl, I.ne, by rw [upd_same, List.map_append]; rfl, by rw [upd_ne I.ne.symm]; exact I.hl, I.hd⟩, hlt', by omega, rfl, by simp; omega, by omega, ?_⟩
      rw [hP]
      simp
    · -- a reference
      have hr : isRef t = true := by simpa using hb
      rw [parseN_yes hr] at hP
      refine q_setO I.gd (evo_lst ea_nil (by decide)) rfl rfl fun lr hlr => ?_
      have glr : Gd (upd H' lr (.lst [])) := I.gd.new hlr rfl rfl
      have nlt : lt ≠ lr := ne_of_none I.ht hlr
      have nll : ll ≠ lr := ne_of_none I.hl hlr
      have hGr : G lr = none := I.xt.free hlr
      refine q_while (fun m σ' H2 => ∃ (G2 : Hp) (R : List (Str × Str)) (ys : List V) (j : Nat), σ' = [some (.ref a), some (.ref lt), some (.ref ll), some (.int (j : Int)), some (.str t), some (.ref lr)] ∧ InvP K H G2 H2 lt ll Td xs L ∧ G2 lr = none ∧ H2 lr = some (.lst ys) ∧ DpTs K G2 ys (R.map encP) ∧
          i + 1 ≤ j ∧ j ≤ ws.length ∧ 3 * R.length ≤ j ∧ m = ws.length - j ∧ takeRd (ws.drop (i + 1)) = (R ++ (takeRd (ws.drop j)).1, (takeRd (ws.drop j)).2)) (ws.length - (i + 1))
        ⟨G, [], [], i + 1, by simp, ⟨I.tx, I.xt.trans (Xt.new hlr rfl rfl), glr, I.gt, I.gl, I.ne, by rw [upd_ne nlt]; exact I.ht, by rw [upd_ne nll]; exact I.hl, I.hd⟩, hGr, upd_same, .nil, Nat.le_refl _, hlt', Nat.zero_le _, rfl, rfl⟩ ?_
      rintro m σ' H2 ⟨G2, R, ys, j, rfl, I2, hG2, hlr2, hR, hij, hj, h3R, rfl, hT⟩
      have hx2 : SqL K H2 a (ws.map V.str) ∨ SqT K H2 a (ws.map V.str) := xt_a (I2.tx.xt.trans I2.xt) hx
      refine ⟨I2.gd, isRd (ws.drop j), et_tru (ev_call (ea_cons (ev_var rfl) (ea_cons (ev_var rfl) ea_nil)) fun H3 e3 Q q E => ⟨a, ws, j, rfl, e3.2 I2.gd, xt_a e3 hx2, ok, q H3 (.refl H3)⟩), fun hb => ?_, fun hb => ?_⟩
      · obtain ⟨b0, b1, b2, r, hshape⟩ := isRd_shape hb
        have hlen := congrArg List.length hshape
        rw [List.length_drop] at hlen
        simp only [List.length_cons] at hlen
        have gi : ∀ k x, (ws.drop j)[k]? = some x → ws[j + k]? = some x := fun k x h => by rw [List.getElem?_drop] at h; exact h
        have e1 := atI_strs (gi 1 b1 (by rw [hshape]; rfl))
        have e2 := atI_strs (gi 2 b2 (by rw [hshape]; rfl))
        have hr' : ws.drop (j + 3) = r := by
          have := congrArg (List.drop 3) hshape
          rw [List.drop_drop] at this
          exact this
        refine ⟨_, fun _ _ h => h, ?_⟩
        have hys : ys.length < 100000 := by rw [hR.len, List.length_map]; have := ok.1; omega
        refine q_appD (K := K) (d := encP (b1, b2)) I2.gd hlr2 (ev_var rfl) ((evf_tup (ead_cons (ev_op (ev_var rfl) (ev_op (ev_var rfl) ev_c rv_addI) (rv_ixA hx2 e1)).dStr (ead_cons (ev_op (ev_var rfl) (ev_op (ev_var rfl) ev_c rv_addI) (rv_ixA hx2 e2)).dStr ead_nil)) (show 2 ≤ 100000 by decide)).toD) hys fun v H3 tx3 hv => ?_
        have g3 : Gd H3 := tx3.xt.2 I2.gd
        have hlr3 := tx3.xt.1 _ _ hlr2
        have x3 : Xt G2 H3 := I2.xt.trans tx3.xt
        have g4 : Gd (upd H3 lr (.lst (ys ++ [v]))) := g3.mut hlr3 rfl rfl rfl
        refine s_set g4 (ev_op (ev_var rfl) ev_c rv_addI) ?_
        have n1 := tupsOf_none hG2 hlr3 (fun _ z => nomatch z) (fun _ _ z => nomatch z)
        refine ⟨ws.length - (j + 3), by omega, tupsOf G2 H3, R ++ [(b1, b2)], ys ++ [v], j + 3, by simp, ⟨I2.tx.trans tupsOf_tx, (tupsOf_up x3 g3).mut n1 hlr3 rfl rfl rfl, g4, ?_, ?_, I2.ne, ?_, ?_, I2.hd.xt tupsOf_xt⟩, n1, upd_same, ?_, by omega, by omega, ?_, rfl, ?_⟩
        · exact tupsOf_none I2.gt (tx3.xt.1 _ _ I2.ht) (fun _ z => nomatch z) (fun _ _ z => nomatch z)
        · exact tupsOf_none I2.gl (tx3.xt.1 _ _ I2.hl) (fun _ z => nomatch z) (fun _ _ z => nomatch z)
        · rw [upd_ne nlt]; exact tx3.xt.1 _ _ I2.ht
        · rw [upd_ne nll]; exact tx3.xt.1 _ _ I2.hl
        · rw [List.map_append]
          exact (hR.xt tupsOf_xt).app (.one (hv.mono fun _ _ h => tupsOf_sq x3 h))
        · rw [List.length_append, List.length_singleton]; omega
        · rw [hT, hr', hshape, takeRd_yes (by rw [← hshape]; exact hb)]
          simp
      · -- no reading more
        have hT' : takeRd (ws.drop (i + 1)) = (R, ws.drop j) := by
          rw [hT, takeRd_no hb, List.append_nil]
        rw [hT'] at hP
        refine q_app I2.gd I2.ht (ev_var rfl) ev_c (by rw [List.length_map]; have := ok.1; omega) ?_
        have g3 : Gd (upd H2 lt (.lst (Td.map V.str ++ [.str "&"]))) := I2.gd.mut I2.ht rfl rfl rfl
        have x3 : Xt G2 (upd H2 lt (.lst (Td.map V.str ++ [.str "&"]))) := I2.xt.mut I2.gt I2.ht rfl rfl rfl
        have hl3 : (upd H2 lt (.lst (Td.map V.str ++ [.str "&"]))) ll = some (.lst xs) := by rw [upd_ne I2.ne.symm]; exact I2.hl
        have hr3 : (upd H2 lt (.lst (Td.map V.str ++ [.str "&"]))) lr = some (.lst ys) := by rw [upd_ne nlt.symm]; exact hlr2
        have hxs : xs.length < 100000 := by rw [I2.hd.len, List.length_map]; have := ok.1; omega
        refine s_appD (K := K) (d := encL (ledTo t, pairsOf (firstR R))) g3 hl3 (ev_var rfl) ((evf_tup (ead_cons (evd_ret (ea_cons (ev_var rfl) ea_nil) fun H4 e4 Q q E => ⟨t, rfl, e4.2 g3, ⟨ht1, ht2⟩, q⟩) (ead_cons (evf_call (ea_cons (ev_var rfl) ea_nil) fun H4 e4 Q q E =>
          ⟨lr, ys, R, rfl, e4.2 g3, e4.1 _ _ hr3, hR.xt (x3.trans e4), by have := ok.1; omega, fun p zs H5 tx hf hd => q p zs H5 tx.xt hf hd⟩).toD ead_nil)) (show 2 ≤ 100000 by decide)).toD) hxs fun v H4 tx4 hv => ?_
        have g4 : Gd H4 := tx4.xt.2 g3
        have x4 : Xt G2 H4 := x3.trans tx4.xt
        have hl4 := tx4.xt.1 _ _ hl3
        have ht4 := tx4.xt.1 _ _ (show (upd H2 lt (.lst (Td.map V.str ++ [.str "&"]))) lt = _ from upd_same)
        have n1 := tupsOf_none I2.gl hl4 (fun _ z => nomatch z) (fun _ _ z => nomatch z)
        have n2 := tupsOf_none I2.gt ht4 (fun _ z => nomatch z) (fun _ _ z => nomatch z)
        refine ⟨ws.length - j, by omega, tupsOf G2 H4, Td ++ [("&" : Str)], xs ++ [v], L ++ [(ledTo t, pairsOf (firstR R))], j, n, _, _, rfl, ⟨I2.tx.trans tupsOf_tx, (tupsOf_up x4 g4).mut n1 hl4 rfl rfl rfl, g4.mut hl4 rfl rfl rfl, n2, n1, I2.ne, ?_, upd_same, ?_⟩, hj, by omega, rfl, ?_, ?_, ?_⟩
        · rw [upd_ne I2.ne, List.map_append]; exact ht4
        · rw [List.map_append]
          exact (I2.hd.xt tupsOf_xt).app (.one (hv.mono fun _ _ h => tupsOf_sq x4 h))
        · rw [List.length_append, List.length_singleton]; omega
        · rw [List.length_append, List.length_singleton]; omega
        · rw [hP]
          simp
  · -- the end
    have hie : ws.drop i = [] := List.drop_eq_nil_of_le (by have := of_decide_eq_false hb; omega)
    rw [hie, parseN_nil, List.append_nil, List.append_nil] at hP
    rw [hP] at q
    refine s_retD (K := K) I.gd ((evf_tup (ead_cons (evf_tupV (ev_var rfl) (.inl (.inl I.ht)) (DpTs.strs Td)).toD (ead_cons (evf_tupV (ev_var rfl) (.inl (.inl I.hl)) (I.hd.xt I.xt)).toD ead_nil)) (show 2 ≤ 100000 by decide)).toD) fun v H3 tx hv => ?_
    exact finD gd ((I.tx.xt.trans I.xt).trans tx.xt) hv q
end
end Z
namespace Z
open PySem PySem.Spec PyProof.Rows L2 M TL
/-! ## word maps as objects -/
def WMat (K : PySem.W.Frag) (C : Addr) (H : Hp) (x : Addr) (ps : List (Str × Str)) : Prop :=
  ∃ (dx a : Addr) (ys : List V) (fs : List (Str × V)), H x = some (.ins C dx fs) ∧ fs.lookup ("pairs" : Str) = some (.ref a) ∧ SqF K H a ys ∧ DpTs K H ys (ps.map encP)
theorem WMat.xt {K : PySem.W.Frag} {C : Addr} {H H' : Hp} {x : Addr} {ps : List (Str × Str)} (e : Xt H H') (h : WMat K C H x ps) : WMat K C H' x ps := by
  obtain ⟨dx, a, ys, fs, h1, h2, h3, h4⟩ := h
  exact ⟨dx, a, ys, fs, e.1 _ _ h1, h2, h3.xt e, h4.xt e⟩
theorem sqF_mut {K : PySem.W.Frag} {H : Hp} {l : Addr} {ys : List V} {o : HO} (hl : H l = some (.lst ys)) {a : Addr} {xs : List V} (h : SqF K H a xs) : SqF K (upd H l o) a xs := by
  rcases h with ⟨ob, h, d⟩ | h
  · refine .inl ⟨ob, ?_, d⟩
    rw [upd_ne (fun z => by subst z; rw [hl] at h; cases h)]; exact h
  · exact .inr h
theorem WMat.mut {K : PySem.W.Frag} {C : Addr} {H : Hp} {l : Addr} {ys : List V} {o : HO} {x : Addr} {ps : List (Str × Str)} (hl : H l = some (.lst ys)) (h : WMat K C H x ps) : WMat K C (upd H l o) x ps := by
  obtain ⟨dx, a, zs, fs, h1, h2, h3, h4⟩ := h
  refine ⟨dx, a, zs, fs, ?_, h2, sqF_mut hl h3, h4.mono fun _ _ h => sqT_mut hl (fun _ z => nomatch z) (fun _ _ z => nomatch z) h⟩
  rw [upd_ne (fun z => by subst z; rw [hl] at h1; cases h1)]; exact h1
/-- a pair of a place and a word map -/
def RefAt (K : PySem.W.Frag) (C : Addr) : Hp → V → (Option Str × List (Str × Str)) → Prop := fun H v r => ∃ (t x : Addr) (y : V), v = .ref t ∧ SqT K H t [y, .ref x] ∧ DpT K H y (encO r.1) ∧ WMat K C H x r.2
theorem refAt_mono {K : PySem.W.Frag} {C : Addr} : Mono (RefAt K C) := fun H H' v r e ⟨t, x, y, h1, h2, h3, h4⟩ => ⟨t, x, y, h1, xt_t e h2, h3.xt e, h4.xt e⟩
theorem refAt_mut {K : PySem.W.Frag} {C : Addr} : MutL (RefAt K C) := fun H l ys zs v r hl ⟨t, x, y, h1, h2, h3, h4⟩ => ⟨t, x, y, h1, sqT_mut hl (fun _ z => nomatch z) (fun _ _ z => nomatch z) h2, h3.mono fun _ _ h => sqT_mut hl (fun _ z => nomatch z) (fun _ _ z => nomatch z) h, h4.mut hl⟩
def RefsAt (K : PySem.W.Frag) (C : Addr) (H : Hp) (v : V) (rs : List (Option Str × List (Str × Str))) : Prop := ∃ a ys, v = .ref a ∧ SqF K H a ys ∧ Paired (RefAt K C H) ys rs
structure WTxt (K : PySem.W.Frag) (C : Addr) : Prop where
  cl : Cls K C
  nP : NoAttr K C "pairs"
  nT : NoAttr K C "_table"
def mapOk (ps : List (Str × Str)) : Prop := ps.length ≤ 1000 ∧ (∀ p ∈ ps, p.1.length ≤ 1000 ∧ p.2.length ≤ 1000) ∧ mapFrom "" ps = true
def spWInit (K : PySem.W.Frag) (C : Addr) : Sp := fun vs H Q _ => ∃ (x dx : Addr) (v : V) (ps : List (Str × Str)), vs = [.ref x, v] ∧ Gd H ∧ H x = some (.ins C dx []) ∧ DpA K H v (.tuple (ps.map encP)) ∧ mapOk ps ∧
  ∀ H', (∀ b o, H b = some o → b ≠ x → H' b = some o) → Gd H' → WMat K C H' x ps → Q .non H'
theorem ne_pt : ¬ (("pairs" : Str) = "_table") := by decide +kernel
section
variable {P : Program} {w : World} {K : PySem.W.Frag} {mg : Str → Option Value} {base : Heap} {kw C : Addr}
abbrev spIsMap (K : PySem.W.Frag) : Sp := fun vs H Q _ => ∃ v ps, vs = [v] ∧ Gd H ∧ DpT K H v (.tuple (ps.map encP)) ∧ (∀ p ∈ ps, p.1.length ≤ 1000 ∧ p.2.length ≤ 1000) ∧ mapFrom "" ps = true ∧ Q (.bl true) H
theorem ok_winit {f : Addr} {fd : FuncData} {dvs : List V} {kws : List (Str × V)} (F : FunD K "__init__" "WordMap.__init__" (defArgs s_WordMap___init__) (defBody s_WordMap___init__) (defScope s_WordMap___init__) dvs kws f fd) (T : Txt0 K mg kw) (W : WTxt K C)
    (C_deep : Callee P w K mg base "deep" 3 ["thing"] [] (spDeep K 3)) (C_is_map : Callee P w K mg base "is_map" 2 ["pairs"] [] (spIsMap K)) : FnOk P w K mg base CX0 4 f fd ["self", "pairs"] (spWInit K C) := by
  refine okSD F sc_WordMap___init__ (fun vs H Q E h => by obtain ⟨x, dx, v, ps, rfl, _⟩ := h; rfl) (fun cdv A outer s H vs Q E hr h => ?_)
  obtain ⟨x, dx, v, ps, rfl, gd, hH, hv, ⟨oz, ol, om⟩, q⟩ := h
  refine ⟨_, (pss_cons (ps_sh (ps_set (i := 2) sc_WordMap___init__.nd rfl (Or.inl rfl) (pe_callC C_deep (hr.mono (by decide)) (pa_cons (pv 1) pa_nil))))
    (pss_cons (ps_if (pt_sh (pt_not (pt_truthK (K := K) rfl (pe_callC C_is_map (hr.mono (by decide)) (pa_cons (pv 2) pa_nil)) (by intro _; rfl))))
        (pss_one ps_never)
        pss_nil)
    (pss_cons (ps_sh (ps_fld (pv 0) (pv 2) rfl))
    (pss_one (ps_sh (ps_fld (pv 0) (pe_callTy (call_dictK (K := K) rfl rfl) (by rfl) T.n_dict (by decide +kernel) (pa_cons (pv 2) pa_nil)) rfl)))))), ?_⟩
  refine q_setF (K := K) (ds := ps.map encP) gd (evf_call (ea_cons (ev_var rfl) ea_nil) fun H1 e Q q E => ⟨v, _, rfl, e.2 gd, hv.xt e, ⟨by rw [List.length_map]; omega, fun d hd => ?_⟩, fun v' H' tx hv' hf => ?_⟩) fun a ys H1 tx hf hd => ?_
  · obtain ⟨p, _, rfl⟩ := List.mem_map.mp hd
    exact ⟨show 2 ≤ 40000 by decide, fun d hd => by
      rcases List.mem_cons.mp hd with rfl | hd
      · trivial
      · rcases List.mem_cons.mp hd with rfl | hd
        · trivial
        · cases hd⟩
  · obtain ⟨p, ys, rfl, h1, h2⟩ := hf _ rfl
    exact q p ys H' tx.xt h1 h2
  have g1 : Gd H1 := tx.xt.2 gd
  have hH1 := tx.xt.1 _ _ hH
  refine q_when (b := false) g1 (et_is (et_not (et_tru (b := true) (ev_call (ea_cons (ev_var rfl) ea_nil) fun H2 e Q q E => ⟨_, ps, rfl, e.2 g1, (DpT.tup hf.t hd).xt e, ol, om, q H2 (.refl H2)⟩))) rfl) (fun z => nomatch z) fun _ => ?_
  refine q_fld g1 (ev_var rfl) (ev_var rfl) hH1 W.cl W.nP (by decide) ?_
  have g2 : Gd (upd H1 x (.ins C dx (putF "pairs" (.ref a) []))) := g1.fld hH1
  have hf2 : SqF K (upd H1 x (.ins C dx (putF "pairs" (.ref a) []))) a ys := by
    rcases hf with ⟨ob, h, d⟩ | h
    · refine .inl ⟨ob, ?_, d⟩
      rw [upd_ne (fun z => by subst z; rw [hH1] at h; cases h)]; exact h
    · exact .inr h
  have hd2 : DpTs K (upd H1 x (.ins C dx (putF "pairs" (.ref a) []))) ys (ps.map encP) := hd.mono fun _ _ h => sqT_mut hH1 (fun _ z => nomatch z) (fun _ _ z => nomatch z) h
  refine s_fldO g2 (evo_dict (ev_var rfl) hf2 hd2) rfl rfl (ev_var rfl) upd_same W.cl W.nT (show 1 < 1000 by decide) fun p hp => ?_
  have nxp : x ≠ p := ne_of_none (upd_same : (upd H1 x (.ins C dx (putF "pairs" (.ref a) []))) x = some _) hp
  have g3 := g2.new hp (o := .dK (kvS (mergeS ps))) rfl rfl
  have h3 : (upd (upd H1 x (.ins C dx (putF "pairs" (.ref a) []))) p (.dK (kvS (mergeS ps)))) x = some (.ins C dx (putF "pairs" (.ref a) [])) := by rw [upd_ne nxp]; exact upd_same
  have g4 := g3.fld (fs' := putF "_table" (.ref p) (putF "pairs" (.ref a) [])) h3
  refine ⟨_, ?_, q _ (fun b o hb hbx => ?_) g4 ⟨dx, a, ys, _, upd_same, ?_, ?_, ?_⟩⟩
  · refine ⟨fun a o h => h, fun b xs hb => ?_, fun b ob u hb => ?_, fun b ps hb => rfl, g4⟩
    · have nb : b ≠ x := fun z => by subst z; rw [hH] at hb; cases hb
      have hb1 := tx.xt.1 _ _ hb
      rw [upd_ne nb, upd_ne (fun z => by subst z; rw [upd_ne nb, hb1] at hp; cases hp), upd_ne nb]; exact hb1
    · have nb : b ≠ x := fun z => by subst z; rw [hH] at hb; cases hb
      have hb1 := tx.xt.1 _ _ hb
      rw [upd_ne nb, upd_ne (fun z => by subst z; rw [upd_ne nb, hb1] at hp; cases hp), upd_ne nb]; exact hb1
  · have hb1 := tx.xt.1 _ _ hb
    rw [upd_ne hbx, upd_ne (fun z => by subst z; rw [upd_ne hbx, hb1] at hp; cases hp), upd_ne hbx]; exact hb1
  · rw [lookup_putF, if_neg ne_pt, lookup_putF, if_pos rfl]
  · have h2 : SqF K (upd (upd H1 x (.ins C dx (putF "pairs" (.ref a) []))) p (.dK (kvS (mergeS ps)))) a ys := hf2.xt (Xt.new hp rfl rfl)
    rcases h2 with ⟨ob, h, d⟩ | h
    · refine .inl ⟨ob, ?_, d⟩
      rw [upd_ne (fun z => by subst z; rw [h3] at h; cases h)]; exact h
    · exact .inr h
  · exact (hd2.xt (Xt.new hp rfl rfl)).mono fun _ _ h => sqT_mut h3 (fun _ z => nomatch z) (fun _ _ z => nomatch z) h
/-- WordMap(e) -/
def EvW (K : PySem.W.Frag) (C : Addr) (te : TE) (σ : L2.St) (H : Hp) (ps : List (Str × Str)) : Prop := ∀ H1, Xt H H1 → ∀ Q : VK, (∀ x H2, Xt H1 H2 → WMat K C H2 x ps → Q (.ref x) H2) → te σ H1 Q
theorem made {H1 H2 : Hp} {x dx : Addr} (gd : Gd H1) (nx : H1 x = none) (nd : H1 dx = none) (k : ∀ b o, (upd (upd H1 dx (.own x)) x (.ins C dx [])) b = some o → b ≠ x → H2 b = some o) (g2 : Gd H2) : Xt H1 H2 :=
  ⟨fun b o e => k b o (by rw [upd_ne (ne_of_none e nx), upd_ne (ne_of_none e nd)]; exact e) (ne_of_none e nx), fun _ => g2⟩
theorem ev_make {σ : L2.St} {H : Hp} {ta : TE} {ps : List (Str × Str)} (gd : Gd H) (h : ∀ H1, Xt H H1 → ∀ Q : VK, (∀ v H2, Xt H1 H2 → DpA K H2 v (.tuple (ps.map encP)) → Q v H2) → ta σ H1 Q) (ok : mapOk ps) : EvW K C (tMake C (spWInit K C) [] E0 (tCons ta tNil)) σ H ps := fun H1 e Q q =>
  h H1 e _ fun v H2 e2 hv => fun x dx nx nd ne => by
    have g2 : Gd H2 := (e.trans e2).2 gd
    have e3 : Xt H2 (upd (upd H2 dx (.own x)) x (.ins C dx [])) := ⟨fun b o h => by rw [upd_ne (ne_of_none h nx), upd_ne (ne_of_none h nd)]; exact h, fun g => g.make nx nd ne⟩
    exact ⟨x, dx, v, ps, rfl, g2.make nx nd ne, upd_same, hv.xt e3, ok, fun H' k g' hw => ⟨rfl, q x H' (e2.trans (made g2 nx nd k g')) hw⟩⟩
theorem ev_make0 {σ : L2.St} {H : Hp} {e0 : Addr} (gd : Gd H) (h0 : ∀ H, SqT K H e0 []) : EvW K C (tMake C (spWInit K C) [.ref e0] E0 tNil) σ H [] := fun H1 e Q q x dx nx nd ne => by
    have g2 : Gd H1 := e.2 gd
    exact ⟨x, dx, _, [], rfl, g2.make nx nd ne, upd_same, .seq (.inr (h0 _)) .nil, ⟨Nat.zero_le _, fun p hp => (by cases hp), rfl⟩, fun H' k g' hw => ⟨rfl, q x H' (made g2 nx nd k g') hw⟩⟩
/-! ## mapped, said, references -/
def mapWord (ps : List (Str × Str)) (t : Str) : Str := (look (mergeS ps) t).getD t
def spMapped (K : PySem.W.Frag) : Sp := fun vs H Q _ => ∃ (v : V) (a : Addr) (ys : List V) (told : List Str) (ps : List (Str × Str)), vs = [v, .ref a] ∧ Gd H ∧ DpT K H v (.tuple (told.map PyData.str)) ∧ told.length ≤ 40000 ∧ SqF K H a ys ∧ DpTs K H ys (ps.map encP) ∧
  RetD K H Q (.tuple ((told.map (mapWord ps)).map PyData.str))
theorem ok_mapped {f : Addr} {fd : FuncData} (F : Fun K "mapped" "mapped" s_mapped f fd) (T : Txt0 K mg kw) : FnOk P w K mg base CX0 1 f fd ["told", "pairs"] (spMapped K) := by
  refine okS F sc_mapped (fun vs H Q E h => by obtain ⟨x, dx, v, ps, z, rfl, _⟩ := h; rfl) (fun cdv A outer s H vs Q E hr h => ?_)
  obtain ⟨v, a, ys, told, ps, rfl, gd, hv, hz, hf, hd, q⟩ := h
  refine ⟨_, (pss_cons (ps_sh (ps_set (i := 2) sc_mapped.nd rfl (Or.inr rfl) (pe_callTy (call_dictK (K := K) rfl rfl) (by rfl) T.n_dict (by decide +kernel) (pa_cons (pv 1) pa_nil))))
    (pss_one (ps_sh (ps_ret (pe_callTy (call_tupK (K := K) rfl) (by rfl) T.n_tuple (by decide +kernel) (pa_cons (pe_lc (own := [("token", 3)]) rfl sc_mapped.nd (pi_seqK (K := K) rfl (pv 0)) (blkOk_by (own := [("token", 3)]) (N := N_mapped) (sc := defScope s_mapped) (by decide +kernel)) (fun _ _ _ _ _ => (pg_name (i := 3) sc_mapped.nd rfl (Or.inl rfl))) (fun _ _ _ _ _ => pts_nil) (fun _ _ _ _ _ => (pe_dget2 (hu_of hr) (pv 2) (pv 3) (pv 3) ⟨rfl, rfl, rfl, rfl⟩))) pa_nil)))))), ?_⟩
  refine q_setO gd (evo_dict (ev_var rfl) hf hd) rfl rfl fun t ht => ?_
  have g1 := gd.new ht (o := .dK (kvS (mergeS ps))) rfl rfl
  have e1 : Xt H (upd H t (.dK (kvS (mergeS ps)))) := Xt.new ht rfl rfl
  have el := evl_lc1 (K := K) (σ := List.set (L2.start N_mapped [v, .ref a]) 2 (some (.ref t))) (H := upd H t (.dK (kvS (mergeS ps)))) (te := tDGet2 (tVar 2) (tVar 3) (tVar 3)) (j := 3) (vs := [3]) relD_mono (fun x => PyData.str (mapWord ps x)) (ei_D (te := tVar 0) (ws := told) (enc := PyData.str) (evd_var rfl (hv.xt e1))) hz (fun z => rfl) fun x hx u H1 e hu => by
    obtain rfl := DpT.str_ hu
    refine Ev.dStr (ev_is (ev_dget2 (k := Sum.inr x) (ev_var rfl) (ev_var rfl) (ev_var rfl) (e.1 _ _ upd_same)) ?_)
    rw [valV_kvS]
    unfold mapWord
    cases look (mergeS ps) x <;> rfl
  have e2 : told.map (fun x => PyData.str (mapWord ps x)) = (told.map (mapWord ps)).map PyData.str := by rw [List.map_map]; rfl
  rw [e2] at el
  exact s_retD g1 (evf_tupL el).toD fun v' H' tx hv' => finD gd (e1.trans tx.xt) hv' q
def spSaid (K : PySem.W.Frag) (C : Addr) : Sp := fun vs H Q _ => ∃ (a x : Addr) (ws : List Str) (ps : List (Str × Str)), vs = [.ref a, .ref x] ∧ Gd H ∧ (SqL K H a (ws.map V.str) ∨ SqT K H a (ws.map V.str)) ∧ bodyOk ws ∧ WMat K C H x ps ∧
  RetD K H Q (.tuple (((parseN ws.length ws).1.map (mapWord ps)).map PyData.str))
theorem parseN_len : ∀ (n : Nat) (ws : List Str), (parseN n ws).1.length ≤ n ∧ (parseN n ws).2.length ≤ n
  | 0, _ => ⟨Nat.le_refl _, Nat.le_refl _⟩
  | n + 1, [] => ⟨Nat.zero_le _, Nat.zero_le _⟩
  | n + 1, t :: r => by
    cases h : isRef t with
    | true =>
      rw [parseN_yes h]
      have := parseN_len n (takeRd r).2
      simp only [List.length_cons]; omega
    | false =>
      rw [parseN_no h]
      have := parseN_len n r
      simp only [List.length_cons]; omega
theorem evf_pairs {σ : L2.St} {H : Hp} {ta : TE} {x : Addr} {ps : List (Str × Str)} (W : WTxt K C) (ha : Ev ta σ H (.ref x)) (hw : WMat K C H x ps) : EvF K (tFld K ta "pairs") σ H (ps.map encP) := fun H1 e Q q => by
  obtain ⟨dx, a, ys, fs, h1, h2, h3, h4⟩ := hw.xt e
  exact ev_fld (H := H1) (ha.mono e) h1 W.cl W.nP h2 H1 (.refl H1) Q fun H2 e2 => q a ys H2 e2 (h3.xt e2) (h4.xt e2)
theorem ok_said {f : Addr} {fd : FuncData} (F : Fun K "said" "said" s_said f fd) (T : Txt0 K mg kw) (W : WTxt K C) (C_parsed : Callee P w K mg base "parsed" 5 ["body"] [] (spParsed K)) (C_mapped : Callee P w K mg base "mapped" 1 ["told", "pairs"] [] (spMapped K)) : FnOk P w K mg base CX0 6 f fd ["body", "word_map"] (spSaid K C) := by
  refine okS F sc_said (fun vs H Q E h => by obtain ⟨x, dx, v, ps, rfl, _⟩ := h; rfl) (fun cdv A outer s H vs Q E hr h => ?_)
  obtain ⟨a, x, ws, ps, rfl, gd, hx, ok, hw, q⟩ := h
  refine ⟨_, (pss_one (ps_sh (ps_ret (pe_callC C_mapped (hr.mono (by decide)) (pa_cons (pe_ix (ix_seqK (K := K) rfl) (pe_callC C_parsed (hr.mono (by decide)) (pa_cons (pv 0) pa_nil)) pe_int (fun _ _ => rfl)) (pa_cons (pe_fldK (K := K) rfl (pv 1) rfl) pa_nil)))))), ?_⟩
  have e1 : EvD K (tOp (rIx K) (tCall (spParsed K) [] E0 (tCons (tVar 0) tNil)) (tC (.int 0))) (L2.start N_said [.ref a, .ref x]) H (.tuple ((parseN ws.length ws).1.map PyData.str)) :=
    evd_ix (i := 0) (evd_ret (ea_cons (ev_var rfl) ea_nil) fun H1 e Q q E => ⟨a, ws, rfl, e.2 gd, xt_a e hx, ok, q⟩) ev_c rfl
  refine s_retD (K := K) (d := .tuple (((parseN ws.length ws).1.map (mapWord ps)).map PyData.str)) gd ?_ fun v' H' tx hv' => finD gd tx.xt hv' q
  intro H1 e Q1 q1
  refine e1 H1 e _ fun v H2 e2 hv => evf_pairs W (ev_var rfl) (hw.xt (e.trans e2)) H2 (.refl H2) _ fun p ys H3 e3 hf hd => ?_
  exact ⟨v, p, ys, _, ps, rfl, (e.trans (e2.trans e3)).2 gd, hv.xt e3, Nat.le_trans (parseN_len _ _).1 (Nat.le_trans ok.1 (by decide)), hf, hd, fun v' H' tx hv' => q1 v' H' (e2.trans (e3.trans tx.xt)) hv'⟩
def spRefs (K : PySem.W.Frag) (C : Addr) : Sp := fun vs H Q _ => ∃ (a : Addr) (ws : List Str), vs = [.ref a] ∧ Gd H ∧ (SqL K H a (ws.map V.str) ∨ SqT K H a (ws.map V.str)) ∧ bodyOk ws ∧ (∀ r ∈ (parseN ws.length ws).2, mapOk r.2) ∧
  ∀ v H', Xt H H' → RefsAt K C H' v (parseN ws.length ws).2 → Q v H'
theorem ok_references {f : Addr} {fd : FuncData} (F : Fun K "references" "references" s_references f fd) (T : Txt0 K mg kw) (C_parsed : Callee P w K mg base "parsed" 5 ["body"] [] (spParsed K)) (C_WordMap : MkCallee P w K mg base "WordMap" C 4 ["self", "pairs"] [] (spWInit K C)) : FnOk P w K mg base CX0 6 f fd ["body"] (spRefs K C) := by
  refine okS F sc_references (fun vs H Q E h => by obtain ⟨x, dx, rfl, _⟩ := h; rfl) (fun cdv A outer s H vs Q E hr h => ?_)
  obtain ⟨a, ws, rfl, gd, hx, ok, hm, q⟩ := h
  refine ⟨_, (pss_one (ps_sh (ps_ret (pe_callTy (call_tupK (K := K) rfl) (by rfl) T.n_tuple (by decide +kernel) (pa_cons (pe_lc (own := [("place", 1), ("pairs", 2)]) rfl sc_references.nd (pi_seqK (K := K) rfl (pe_ix (ix_seqK (K := K) rfl) (pe_callC C_parsed (hr.mono (by decide)) (pa_cons (pv 0) pa_nil)) pe_int (fun _ _ => rfl))) (blkOk_by (own := [("place", 1), ("pairs", 2)]) (N := N_references) (sc := defScope s_references) (by decide +kernel)) (fun _ _ _ _ _ => (pg_tupK (K := K) (n := 2) rfl rfl (pgs_cons (pg_name (i := 1) sc_references.nd rfl (Or.inl rfl)) (pgs_cons (pg_name (i := 2) sc_references.nd rfl (Or.inl rfl)) pgs_nil)) rfl rfl)) (fun _ _ _ _ _ => pts_nil) (fun _ _ _ _ _ => (pe_tupF (pa_cons (pv 1) (pa_cons (pe_mkC C_WordMap (hr.mono (by decide)) (pa_cons (pv 2) pa_nil)) pa_nil))))) pa_nil))))), ?_⟩
  have e1 : EvD K (tOp (rIx K) (tCall (spParsed K) [] E0 (tCons (tVar 0) tNil)) (tC (.int 1))) (L2.start N_references [.ref a]) H (.tuple ((parseN ws.length ws).2.map encL)) :=
    evd_ix (i := 1) (evd_ret (ea_cons (ev_var rfl) ea_nil) fun H1 e Q q E => ⟨a, ws, rfl, e.2 gd, xt_a e hx, ok, q⟩) ev_c rfl
  have el := evl_lcR (K := K) (σ := L2.start N_references [.ref a]) (H := H) (te := tTupF (tCons (tVar 1) (tCons (tMake C (spWInit K C) [] E0 (tCons (tVar 2) tNil)) tNil))) (g := gTup K 2 (gCons (gName 1) (gCons (gName 2) gNil))) (tt := tYes) (vs := [1, 2]) relD_mono refAt_mono (refAt_mut (K := K) (C := C)) (fun _ => true) id (ei_D e1) (Nat.le_trans (parseN_len _ _).2 (Nat.le_trans ok.1 (by decide))) fun r hr u H1 e hu => by
    obtain ⟨b, ys, rfl, hb, hys⟩ := DpT.tup_ (show DpT K H1 u (.tuple [encO r.1, .tuple (r.2.map encP)]) from hu)
    obtain ⟨y1, r1, rfl, hy1, hr1⟩ := hys.cons_
    obtain ⟨y2, r2, rfl, hy2, hr2⟩ := hr1.cons_
    obtain rfl := hr2.nil_
    refine ⟨_, fun Q q => g_pairN hb q, rfl, fun H2 e2 Q q => q H2 (.refl H2), fun _ => ?_⟩
    intro H2 e2 Q q
    refine ⟨y1, rfl, ev_make (K := K) (C := C) (H := H2) (σ := ((wipe (L2.start N_references [.ref a]) [1, 2]).set 1 (some y1)).set 2 (some y2)) (ta := tVar 2) ((e.trans e2).2 gd) (fun H3 e3 Q q => ⟨y2, rfl, q y2 H3 (.refl H3) ((hy2.xt (e2.trans e3)).toA)⟩) (hm r hr) H2 (.refl H2) _ fun x H3 e3 hw => ⟨by show 2 ≤ sizeLine; decide, fun p o hp hd => q _ _ (e3.trans (Xt.new hp rfl rfl)) ⟨p, x, y1, rfl, .inl (.inr ⟨o, upd_same⟩), hy1.xt ((e2.trans e3).trans (Xt.new hp rfl rfl)), hw.xt (Xt.new hp rfl rfl)⟩⟩⟩
  rw [List.filter_eq_self.mpr (fun _ _ => rfl), List.map_id] at el
  refine s_retX (P := fun v H1 => RefsAt K C H1 v (parseN ws.length ws).2) (fun Q q => evx_tupR refAt_mono el H (.refl H) Q fun p ys H2 e2 hf hpr => q _ H2 e2 ⟨p, ys, rfl, hf, hpr⟩) fun v H1 e1 hv => ⟨H1, Shr.refl e1 gd, H1, Shr.refl e1 gd, q v H1 e1 hv⟩
end
end Z
namespace Z
open PySem PySem.Spec PyProof.Rows L2 M TL
/-! ## drawing -/
def spBagOf (K : PySem.W.Frag) : Sp := fun vs H Q _ => ∃ (a : Addr) (ns : List Int) (i : Nat), vs = [.ref a, .int (i : Int)] ∧ Gd H ∧ SqL K H a (ns.map V.int) ∧ ns.length ≤ 1000 ∧ ∀ p d s, H p = none → Q (.ref p) (upd H p (bagO d s 0))
def spPick : Sp := fun vs H Q _ => ∃ (b : Addr) (m : Int), vs = [.ref b, .int m] ∧ Gd H ∧ BagAt H b ∧ m < 1073741824 ∧ ∀ r d s c, (r = 0 ∨ (0 ≤ r ∧ r < m)) → Q (.int r) (upd H b (bagO d s c))
def spOneOf (K : PySem.W.Frag) : Sp := fun vs H Q _ => ∃ (b : Addr) (row : V), vs = [.ref b, row] ∧ Gd H ∧ BagAt H b ∧
  ((∃ w : Str, row = .str w ∧ tl w ≠ [] ∧ w.length ≤ 1000 ∧ ∀ ch d s c, ch ∈ tl w → Q (.str ⟨#[ch]⟩) (upd H b (bagO d s c))) ∨
   ∃ (a : Addr) (xs : List V), row = .ref a ∧ a ≠ b ∧ (SqL K H a xs ∨ SqT K H a xs) ∧ xs ≠ [] ∧ xs.length ≤ 100000 ∧ ∀ x d s c, x ∈ xs → Q x (upd H b (bagO d s c)))
section
variable {P : Program} {w : World} {K : PySem.W.Frag} {mg : Str → Option Value} {base : Heap} {kw : Addr}
theorem ok_bag_of {f : Addr} {fd : FuncData} (F : Fun K "_law_bag_of" "_law_bag_of" s__law_bag_of f fd) (T : Txt0 K mg kw) : FnOk P w K mg base CX0 1 f fd ["script", "at"] (spBagOf K) := by
  refine okS F sc__law_bag_of (fun vs H Q E h => by obtain ⟨v, d, i, rfl, _⟩ := h; rfl) (fun cdv A outer s H vs Q E hr h => ?_)
  obtain ⟨a, ns, i, rfl, gd, hS, hz, q⟩ := h
  refine ⟨_, (pss_cons (ps_sh (ps_set (i := 2) sc__law_bag_of.nd rfl (Or.inl rfl) (pe_ifExp (pt_cmpR op_ltA (pv 1) (pe_callB (call_lenK (K := K) rfl) (by rfl) T.n_len (by decide +kernel) (pa_cons (pv 0) pa_nil)) (nomark _)) (pe_ix (ix_seqK (K := K) rfl) (pv 0) (pv 1) (fun _ _ => rfl)) (pe_op (op_addK (K := K) rfl) (pe_callB (cr_sumK (K := K) rfl rfl) (by rfl) T.n_sum (by decide +kernel) (pa_cons (pe_lc (own := [("one", 3)]) rfl sc__law_bag_of.nd (pi_seqK (K := K) rfl (pv 0)) (blkOk_by (own := [("one", 3)]) (N := N__law_bag_of) (sc := defScope s__law_bag_of) (by decide +kernel)) (fun _ _ _ _ _ => (pg_name (i := 3) sc__law_bag_of.nd rfl (Or.inl rfl))) (fun _ _ _ _ _ => pts_nil) (fun _ _ _ _ _ => (pe_op (op_addK (K := K) rfl) (pe_op op_fdivN (pe_callB call_abs (by rfl) T.n_abs (by decide +kernel) (pa_cons (pv 3) pa_nil)) pe_int) pe_int))) pa_nil)) (pe_op op_mul pe_int (pe_op (op_addK (K := K) rfl) (pv 1) pe_int))))))
    (pss_cons (ps_sh (ps_set (i := 4) sc__law_bag_of.nd rfl (Or.inl rfl) (pe_callB call_abs (by rfl) T.n_abs (by decide +kernel) (pa_cons (pv 2) pa_nil))))
    (pss_cons (ps_sh (ps_set (i := 5) sc__law_bag_of.nd rfl (Or.inl rfl) (pe_ifExp (pt_cmpR op_geA (pv 4) pe_int (nomark _)) (pv 4) pe_int)))
    (pss_one (ps_sh (ps_ret (pe_lst (pa_cons (pv 5) (pa_cons (pe_op (op_addK (K := K) rfl) (pe_op (op_addK (K := K) rfl) (pe_op op_modN (pe_callTy call_intA (by rfl) T.n_int (by decide +kernel) (pa_cons (pv 4) pa_nil)) pe_int) (pe_op op_mul pe_int (pv 1))) (pe_ifExp (pt_cmpR op_ltA (pv 2) pe_int (nomark _)) pe_int pe_int)) (pa_cons pe_int pa_nil)))))))))), ?_⟩
  have hcell : ∃ c : Int, Ev (tIf (tTest (tOp (rOr rLtI rLtS) (tVar 1) (tCB (rcOr (rLenS K) (rcOr rLenT rLenD)) (tCons (tVar 0) tNil)))) (tOp (rIx K) (tVar 0) (tVar 1))
      (tOp (rOr rAddI (rOr rAddS (rOr rCat (rCatT K)))) (tCB (rSum K) (tCons (tLc (iSeq K (tVar 0)) (gName 3) tYes (tOp (rOr rAddI (rOr rAddS (rOr rCat (rCatT K)))) (tOp (rI CDivN fun i j => .int (i.fdiv j)) (tCB rAbs (tCons (tVar 3) tNil)) (tC (.int 3))) (tC (.int 5))) [3]) tNil))
        (tOp (rI CMul fun i j => .int (i * j)) (tC (.int 7919)) (tOp (rOr rAddI (rOr rAddS (rOr rCat (rCatT K)))) (tVar 1) (tC (.int 1)))))) (L2.start N__law_bag_of [.ref a, .int (i : Int)]) H (.int c) := by
    have ht : EvT (tTest (tOp (rOr rLtI rLtS) (tVar 1) (tCB (rcOr (rLenS K) (rcOr rLenT rLenD)) (tCons (tVar 0) tNil)))) (L2.start N__law_bag_of [.ref a, .int (i : Int)]) H (decide ((i : Int) < (ns.length : Int))) :=
      et_test (ev_op (ev_var rfl) (ev_is (ev_lenS (K := K) (ev_var rfl) (.inl hS)) (by rw [List.length_map])) rv_ltI)
    by_cases h : i < ns.length
    · exact ⟨ns[i], ev_if ht (fun _ => ev_op (ev_var rfl) (ev_var rfl) (rv_ixL (i := (i : Int)) hS (atI_nat (by rw [List.getElem?_map, List.getElem?_eq_getElem h]; rfl)))) fun z => absurd (of_decide_eq_false z) (by omega)⟩
    · have el := evl_lc1 (K := K) (σ := L2.start N__law_bag_of [.ref a, .int (i : Int)]) (H := H) (te := tOp (rOr rAddI (rOr rAddS (rOr rCat (rCatT K)))) (tOp (rI CDivN fun i j => .int (i.fdiv j)) (tCB rAbs (tCons (tVar 3) tNil)) (tC (.int 3))) (tC (.int 5))) (j := 3) (vs := [3]) relD_mono
        (fun x : Int => PyData.int ((if x < 0 then -x else x).fdiv 3 + 5)) (ei_V (te := tVar 0) (enc := PyData.int) (ev_var rfl) (.inl hS) (DpTs.ints ns)) (by omega) (fun z => rfl) fun x hx u H1 e hu => by
        obtain rfl := DpT.int_ hu
        exact (ev_op (ev_op (ev_abs (ev_var rfl)) ev_c (rv_I (g := fun i j => .int (i.fdiv j)) ⟨by decide, by decide⟩)) ev_c rv_addI).dInt
      have e2 : ns.map (fun x : Int => PyData.int ((if x < 0 then -x else x).fdiv 3 + 5)) = (ns.map fun x : Int => (if x < 0 then -x else x).fdiv 3 + 5).map PyData.int := by rw [List.map_map]; rfl
      rw [e2] at el
      exact ⟨_, ev_if ht (fun z => absurd (of_decide_eq_true z) (by omega)) fun _ => ev_op (ev_sum el) (ev_op ev_c (ev_op (ev_var rfl) ev_c rv_addI) (rv_I (g := fun i j => .int (i * j)) (.inl (by decide)))) rv_addI⟩
  obtain ⟨c, hc⟩ := hcell
  refine q_set gd hc ?_
  refine q_set gd (ev_abs (ev_var rfl)) ?_
  have h0 : 0 ≤ (if c < 0 then -c else c) := by split <;> omega
  refine q_set (v := .int (if 1000000000000000000 ≤ (if c < 0 then -c else c) then (if c < 0 then -c else c) else 0)) gd ?_ ?_
  · by_cases h : 1000000000000000000 ≤ (if c < 0 then -c else c)
    · rw [if_pos h]
      exact ev_if (b := true) (et_is (et_test (ev_op (ev_var rfl) ev_c rv_geI)) (decide_eq_true h)) (fun _ => ev_var rfl) fun z => nomatch z
    · rw [if_neg h]
      exact ev_if (b := false) (et_is (et_test (ev_op (ev_var rfl) ev_c rv_geI)) (decide_eq_false h)) (fun z => nomatch z) fun _ => ev_c
  have hlast : ∃ e : Int, Ev (tIf (tTest (tOp (rOr rLtI rLtS) (tVar 2) (tC (.int 0)))) (tC (.int 13)) (tC (.int 0))) [some (.ref a), some (.int (i : Int)), some (.int c), none, some (.int (if c < 0 then -c else c)), some (.int (if 1000000000000000000 ≤ (if c < 0 then -c else c) then (if c < 0 then -c else c) else 0))] H (.int e) := by
    by_cases h : c < 0
    · exact ⟨13, ev_if (b := true) (et_is (et_test (ev_op (ev_var rfl) ev_c rv_ltI)) (decide_eq_true h)) (fun _ => ev_c) fun z => nomatch z⟩
    · exact ⟨0, ev_if (b := false) (et_is (et_test (ev_op (ev_var rfl) ev_c rv_ltI)) (decide_eq_false h)) (fun z => nomatch z) fun _ => ev_c⟩
  obtain ⟨e, he⟩ := hlast
  refine s_retO gd (evo_lst (ea_cons (ev_var rfl) (ea_cons (ev_op (ev_op (ev_op (ev_int (ev_var rfl)) ev_c (rv_I (g := fun i j => .int (i.fmod j)) (by decide))) (ev_op ev_c (ev_var rfl) (rv_I (g := fun i j => .int (i * j)) (.inl (by decide)))) rv_addI) he rv_addI) (ea_cons ev_c ea_nil))) (show 3 ≤ 100000 by decide)) rfl rfl fun p hp => ?_
  exact ⟨_, Shr.refl (Xt.new hp rfl rfl) gd, q p _ _ hp⟩
theorem fmod_rng {x m : Int} (h : 2 ≤ m) : 0 ≤ x.fmod m ∧ x.fmod m < m := ⟨Int.fmod_nonneg_of_pos x (by omega), Int.fmod_lt_of_pos x (by omega)⟩
theorem ok_pick {f : Addr} {fd : FuncData} (F : Fun K "_law_pick" "_law_pick" s__law_pick f fd) (T : Txt0 K mg kw) : FnOk P w K mg base CX0 1 f fd ["bag", "many"] spPick := by
  refine okS F sc__law_pick (fun vs H Q E h => by obtain ⟨v, d, rfl, _⟩ := h; rfl) (fun cdv A outer s H vs Q E hr h => ?_)
  obtain ⟨b, m, rfl, gd, ⟨d, z, c, hb⟩, hm, q⟩ := h
  refine ⟨_, (pss_cons (ps_if (pt_sh (pt_cmpR op_ltA (pv 1) pe_int (nomark _)))
        (pss_one (ps_sh (ps_ret pe_int)))
        pss_nil)
    (pss_cons (ps_if (pt_sh (pt_cmpR op_gtA (pe_ix (ix_seqK (K := K) rfl) (pv 0) pe_int (fun _ _ => rfl)) pe_int (nomark _)))
        (pss_cons (ps_sh (ps_set (i := 2) sc__law_pick.nd rfl (Or.inl rfl) (pe_op op_modN (pe_callTy call_intA (by rfl) T.n_int (by decide +kernel) (pa_cons (pe_ix (ix_seqK (K := K) rfl) (pv 0) pe_int (fun _ _ => rfl)) pa_nil)) (pv 1))))
        (pss_cons (ps_sh (ps_asg (pe_op op_fdivN (pe_ix (ix_seqK (K := K) rfl) (pv 0) pe_int (fun _ _ => rfl)) (pv 1)) (pg_sub (pv 0) pe_int set_list)))
        (pss_one (ps_sh (ps_ret (pv 2))))))
        pss_nil)
    (pss_cons (ps_sh (ps_asg (pe_op (op_addK (K := K) rfl) (pe_ix (ix_seqK (K := K) rfl) (pv 0) pe_int (fun _ _ => rfl)) pe_int) (pg_sub (pv 0) pe_int set_list)))
    (pss_cons (ps_sh (ps_set (i := 3) sc__law_pick.nd rfl (Or.inl rfl) (pe_op op_modN (pe_callTy call_intA (by rfl) T.n_int (by decide +kernel) (pa_cons (pe_op (op_addK (K := K) rfl) (pe_op op_mul (pe_ix (ix_seqK (K := K) rfl) (pv 0) pe_int (fun _ _ => rfl)) pe_int) (pe_op op_mul (pe_ix (ix_seqK (K := K) rfl) (pv 0) pe_int (fun _ _ => rfl)) pe_int)) pa_nil)) pe_int)))
    (pss_cons (ps_sh (ps_set (i := 4) sc__law_pick.nd rfl (Or.inl rfl) (pe_op op_modN (pe_callTy call_intA (by rfl) T.n_int (by decide +kernel) (pa_cons (pe_op (op_addK (K := K) rfl) (pe_op (op_addK (K := K) rfl) (pe_op op_mul (pv 3) (pv 3)) (pe_ix (ix_seqK (K := K) rfl) (pv 0) pe_int (fun _ _ => rfl))) (pe_op op_mul (pe_ix (ix_seqK (K := K) rfl) (pv 0) pe_int (fun _ _ => rfl)) pe_int)) pa_nil)) pe_int)))
    (pss_one (ps_sh (ps_ret (pe_op op_modN (pe_callTy call_intA (by rfl) T.n_int (by decide +kernel) (pa_cons (pe_op op_fdivN (pv 4) pe_int) pa_nil)) (pv 1)))))))))), ?_⟩
  have hL : SqL K H b [.int d, .int z, .int c] := .inl (.inl hb)
  have i0 : ∀ σ : L2.St, σ[0]? = some (some (.ref b)) → Ev (tOp (rIx K) (tVar 0) (tC (.int 0))) σ H (.int d) := fun σ h => ev_op (ev_var h) ev_c (rv_ixL (i := 0) hL (atI_nat (j := 0) rfl))
  have i1 : ∀ σ : L2.St, ∀ H c', H b = some (.lst [.int d, .int z, .int c']) → σ[0]? = some (some (.ref b)) → Ev (tOp (rIx K) (tVar 0) (tC (.int 1))) σ H (.int z) := fun σ H c' hb h => ev_op (ev_var h) ev_c (rv_ixL (K := K) (xs := [.int d, .int z, .int c']) (i := 1) (.inl (.inl hb)) (atI_nat (j := 1) rfl))
  have i2 : ∀ σ : L2.St, ∀ H c', H b = some (.lst [.int d, .int z, .int c']) → σ[0]? = some (some (.ref b)) → Ev (tOp (rIx K) (tVar 0) (tC (.int 2))) σ H (.int c') := fun σ H c' hb h => ev_op (ev_var h) ev_c (rv_ixL (K := K) (xs := [.int d, .int z, .int c']) (i := 2) (.inl (.inl hb)) (atI_nat (j := 2) rfl))
  refine q_when gd (et_test (ev_op (ev_var rfl) ev_c rv_ltI)) (fun h => ?_) fun h => ?_
  · have q' := q 0 d z c (.inl rfl)
    rw [upd_self hb] at q'
    exact s_ret gd ev_c (finV gd (.refl H) q')
  · have h2 : 2 ≤ m := by have := of_decide_eq_false h; omega
    refine q_when gd (et_test (ev_op (i0 _ rfl) ev_c rv_gtI)) (fun h => ?_) fun h => ?_
    · refine q_set gd (ev_op (ev_int (i0 _ rfl)) (ev_var rfl) (rv_I (g := fun i j => .int (i.fmod j)) (by omega))) ?_
      refine q_setIx (j := 0) gd (ev_op (i0 _ rfl) (ev_var rfl) (rv_I (g := fun i j => .int (i.fdiv j)) ⟨by omega, by omega⟩)) (ev_var rfl) ev_c hb (show 0 < 3 by decide) ?_
      have g2 : Gd (upd H b (bagO (d.fdiv m) z c)) := gd.mut hb rfl rfl rfl
      refine s_ret g2 (ev_var rfl) ?_
      exact ⟨_, ⟨fun _ _ h => h, fun a xs h => by show (upd H b _) a = _; rw [upd_ne (fun e => by subst e; rw [hb] at h; cases h)]; exact h, fun a o u h => by show (upd H b _) a = _; rw [upd_ne (fun e => by subst e; rw [hb] at h; cases h)]; exact h, fun a ps h => rfl, g2⟩, q _ _ _ _ (.inr (fmod_rng h2))⟩
    · refine q_setIx (j := 2) gd (ev_op (i2 _ _ _ hb rfl) ev_c rv_addI) (ev_var rfl) ev_c hb (show 2 < 3 by decide) ?_
      have hb2 : (upd H b (bagO d z (c + 1))) b = some (.lst [.int d, .int z, .int (c + 1)]) := upd_same
      have g2 : Gd (upd H b (bagO d z (c + 1))) := gd.mut hb rfl rfl rfl
      show tSeq _ _ _ _ (upd H b (bagO d z (c + 1)))
      have hmul : ∀ x y : Int, (-(2 ^ 64) < y ∧ y < 2 ^ 64) → CMul x y := fun x y h => .inr h
      refine q_set g2 (ev_op (ev_int (ev_op (ev_op (i1 _ _ _ hb2 rfl) ev_c (rv_I (g := fun i j => .int (i * j)) (.inr (by decide)))) (ev_op (i2 _ _ _ hb2 rfl) ev_c (rv_I (g := fun i j => .int (i * j)) (.inr (by decide)))) rv_addI)) ev_c (rv_I (g := fun i j => .int (i.fmod j)) (by decide))) ?_
      have hr1 : ∀ x : Int, -(2 ^ 64) < x.fmod 2147483647 ∧ x.fmod 2147483647 < 2 ^ 64 := fun x => by
        have := fmod_rng (x := x) (m := 2147483647) (by decide)
        omega
      refine q_set g2 (ev_op (ev_int (ev_op (ev_op (ev_op (ev_var rfl) (ev_var rfl) (rv_I (g := fun i j => .int (i * j)) (.inl (hr1 _)))) (i1 _ _ _ hb2 rfl) rv_addI) (ev_op (i2 _ _ _ hb2 rfl) ev_c (rv_I (g := fun i j => .int (i * j)) (.inr (by decide)))) rv_addI)) ev_c (rv_I (g := fun i j => .int (i.fmod j)) (by decide))) ?_
      refine s_ret g2 (ev_op (ev_int (ev_op (ev_var rfl) ev_c (rv_I (g := fun i j => .int (i.fdiv j)) ⟨by decide, by decide⟩))) (ev_var rfl) (rv_I (g := fun i j => .int (i.fmod j)) (by omega))) ?_
      exact ⟨_, ⟨fun _ _ h => h, fun a xs h => by show (upd H b _) a = _; rw [upd_ne (fun e => by subst e; rw [hb] at h; cases h)]; exact h, fun a o u h => by show (upd H b _) a = _; rw [upd_ne (fun e => by subst e; rw [hb] at h; cases h)]; exact h, fun a ps h => rfl, g2⟩, q _ _ _ _ (.inr (fmod_rng h2))⟩
theorem sb_of {b : Addr} {H : Hp} {d s c : Int} (g : Gd H) (h : BagAt H b) : Sb b H (upd H b (bagO d s c)) := by
  obtain ⟨d0, z0, c0, hb⟩ := h
  exact ⟨fun a o n h => by rw [upd_ne n]; exact h, g.mut hb rfl rfl rfl, ⟨d, s, c, upd_same⟩⟩
/-- _law_pick(bag, m) -/
theorem evb_pick {b : Addr} {σ : L2.St} {G : Hp} {ta tb : TE} {m : Int} {E : XK} (hG : G b = none) (ha : Ev ta σ G (.ref b)) (hb : EvB b tb σ G fun v => v = .int m) (hm : 1 ≤ m ∧ m < 1073741824) : EvB b (tCall spPick [] E (tCons ta (tCons tb tNil))) σ G fun v => ∃ r : Int, v = .int r ∧ 0 ≤ r ∧ r < m :=
  evb_call hG (eab_cons (PB := fun vs => vs = [.ref b, .int m]) hG (evb_of ha) (eab_cons (PB := fun vs => vs = [.int m]) hG hb eab_nil fun x xs e1 e2 => by rw [e1, e2]) fun x xs e1 e2 => by rw [e1, e2]) fun vs e H1 x g hB Q q E => by
    subst e
    exact ⟨b, m, rfl, g, hB, hm.2, fun r d s c h => q _ _ (sb_of g hB) ⟨r, rfl, by omega, by omega⟩⟩
theorem ok_one_of {f : Addr} {fd : FuncData} (F : Fun K "_law_one_of" "_law_one_of" s__law_one_of f fd) (T : Txt0 K mg kw) (C__law_pick : Callee P w K mg base "_law_pick" 1 ["bag", "many"] [] spPick) : FnOk P w K mg base CX0 2 f fd ["bag", "row"] (spOneOf K) := by
  refine okS F sc__law_one_of (fun vs H Q E h => by obtain ⟨v, d, rfl, _⟩ := h; rfl) (fun cdv A outer s H vs Q E hr h => ?_)
  obtain ⟨b, row, rfl, gd, hB, h⟩ := h
  refine ⟨_, (pss_one (ps_sh (ps_ret (pe_ix (ix_seqK (K := K) rfl) (pv 1) (pe_callC C__law_pick (hr.mono (by decide)) (pa_cons (pv 0) (pa_cons (pe_callB (call_lenK (K := K) rfl) (by rfl) T.n_len (by decide +kernel) (pa_cons (pv 1) pa_nil)) pa_nil))) (fun _ _ => rfl))))), ?_⟩
  have hG : del H b b = none := del_at
  rcases h with ⟨x, rfl, hne, hl, q⟩ | ⟨a, xs, rfl, nab, hx, hne, hl, q⟩
  · have hlen : x.length = (tl x).length := len_tl x
    have hpos : 0 < (tl x).length := List.length_pos_iff.mpr hne
    refine d_ret (P := fun v => ∃ ch, ch ∈ tl x ∧ v = .str ⟨#[ch]⟩) gd hB (evb_op hG (evb_of (ev_var rfl)) (evb_pick hG (ev_var rfl) (evb_of (ev_lenT (ev_var rfl) (h3 hl))) ⟨by omega, by omega⟩) ?_) fun v H' s p => ?_
    · rintro u y rfl ⟨r, rfl, h0, h1⟩
      obtain ⟨k, rfl⟩ := Int.eq_ofNat_of_zero_le h0
      exact ⟨_, ⟨(tl x)[k]'(by omega), List.getElem_mem _, rfl⟩, rv_ixS (h3 hl) (atI_nat (show (tl x)[k]? = some _ from List.getElem?_eq_getElem (by omega)))⟩
    · obtain ⟨ch, hc, rfl⟩ := p
      obtain ⟨d, z, c, e⟩ := s.end gd hB
      exact ⟨_, e, q ch d z c hc⟩
  · have hpos : 0 < xs.length := List.length_pos_iff.mpr hne
    refine d_ret (P := fun v => v ∈ xs) gd hB (evb_op hG (evb_of (ev_var rfl)) (evb_pick hG (ev_var rfl) (evb_of (ev_lenS (K := K) (ev_var rfl) (del_a nab hx))) ⟨by omega, by omega⟩) ?_) fun v H' s p => ?_
    · rintro u y rfl ⟨r, rfl, h0, h1⟩
      obtain ⟨k, rfl⟩ := Int.eq_ofNat_of_zero_le h0
      exact ⟨xs[k]'(by omega), List.getElem_mem _, rv_ixA (del_a nab hx) (atI_nat (List.getElem?_eq_getElem (by omega)))⟩
    · obtain ⟨d, z, c, e⟩ := s.end gd hB
      exact ⟨_, e, q v d z c p⟩
/-- _law_one_of(bag, text) -/
theorem evb_oneT {b : Addr} {σ : L2.St} {G : Hp} {ta tb : TE} {x : Str} {E : XK} (hG : G b = none) (ha : Ev ta σ G (.ref b)) (hb : Ev tb σ G (.str x)) (hx : tl x ≠ []) (hz : x.length ≤ 1000) : EvB b (tCall (spOneOf K) [] E (tCons ta (tCons tb tNil))) σ G fun v => ∃ ch, ch ∈ tl x ∧ v = .str ⟨#[ch]⟩ :=
  evb_call hG (eab_cons (PB := fun vs => vs = [.ref b, .str x]) hG (evb_of ha) (eab_cons (PB := fun vs => vs = [.str x]) hG (evb_of hb) eab_nil fun x xs e1 e2 => by rw [e1, e2]) fun x xs e1 e2 => by rw [e1, e2]) fun vs e H1 y g hB Q q E => by
    subst e
    exact ⟨b, .str x, rfl, g, hB, .inl ⟨x, rfl, hx, hz, fun ch d s c h => q _ _ (sb_of g hB) ⟨ch, h, rfl⟩⟩⟩
/-- _law_one_of(bag, row) -/
theorem evb_one {b a : Addr} {xs : List V} {σ : L2.St} {G : Hp} {ta tb : TE} {E : XK} (hG : G b = none) (ha : Ev ta σ G (.ref b)) (hb : Ev tb σ G (.ref a)) (hx : SqL K G a xs ∨ SqT K G a xs) (na : a ≠ b) (h0 : xs ≠ []) (hz : xs.length ≤ 100000) : EvB b (tCall (spOneOf K) [] E (tCons ta (tCons tb tNil))) σ G fun v => v ∈ xs :=
  evb_call hG (eab_cons (PB := fun vs => vs = [.ref b, .ref a]) hG (evb_of ha) (eab_cons (PB := fun vs => vs = [.ref a]) hG (evb_of hb) eab_nil fun x xs e1 e2 => by rw [e1, e2]) fun x xs e1 e2 => by rw [e1, e2]) fun vs e H1 y g hB Q q E => by
    subst e
    exact ⟨b, .ref a, rfl, g, hB, .inr ⟨a, xs, rfl, na, xt_a y hx, h0, hz, fun v d s c h => q _ _ (sb_of g hB) h⟩⟩
end

end Z
namespace Z
open PySem PySem.Spec PyProof.Rows L2 M TL
/-! ## names -/
def firsts : List Nat := [99, 103, 105, 106, 107, 113, 116, 118, 120, 121, 122]
def NameN (n : Nat) (s : Str) : Prop := ∃ c r, tl s = c :: r ∧ c ∈ firsts ∧ r.length ≤ n ∧ ∀ d ∈ r, 97 ≤ d ∧ d ≤ 122
abbrev NameOk (s : Str) : Prop := NameN 5 s
theorem NameN.up {n m : Nat} {s : Str} (h : NameN n s) (k : n ≤ m) : NameN m s := let ⟨c, r, h1, h2, h3, h4⟩ := h; ⟨c, r, h1, h2, Nat.le_trans h3 k, h4⟩
theorem NameN.len {n : Nat} {s : Str} (h : NameN n s) : 1 ≤ s.length ∧ s.length ≤ n + 1 := by
  obtain ⟨c, r, h1, h2, h3, h4⟩ := h
  rw [len_tl, h1, List.length_cons]; omega
def az : Str := "abcdefghijklmnopqrstuvwxyz"
theorem az_tl : tl az = (List.range 26).map (97 + ·) := by decide +kernel
theorem az_mem {c : Nat} : c ∈ tl az ↔ 97 ≤ c ∧ c ≤ 122 := by
  rw [az_tl, List.mem_map]
  constructor
  · rintro ⟨a, h, rfl⟩
    rw [List.mem_range] at h; omega
  · intro h
    exact ⟨c - 97, List.mem_range.mpr (by omega), by omega⟩
theorem firsts_tl : tl ("cgijkqtvxyz" : Str) = firsts := by decide +kernel
theorem NameN.snoc {n : Nat} {s : Str} {c : Nat} (h : NameN n s) (hc : c ∈ tl az) : NameN (n + 1) (s ++ ⟨#[c]⟩) := by
  obtain ⟨a, r, h1, h2, h3, h4⟩ := h
  refine ⟨a, r ++ [c], by rw [tl_append, h1]; rfl, h2, by rw [List.length_append]; exact Nat.succ_le_succ h3, fun d hd => ?_⟩
  rcases List.mem_append.mp hd with hd | hd
  · exact h4 d hd
  · rw [List.mem_singleton] at hd; subst hd; exact az_mem.mp hc
theorem NameN.cut {n : Nat} {s : Str} (h : NameN n s) : NameN 3 (cutS s none (some 4)) := by
  obtain ⟨a, r, h1, h2, h3, h4⟩ := h
  refine ⟨a, r.take 3, by rw [show (4 : Int) = ((4 : Nat) : Int) from rfl, tl_cut_to, h1]; rfl, h2, by rw [List.length_take]; omega, fun d hd => h4 d (List.mem_of_mem_take hd)⟩
theorem one_tl (c : Nat) : tl (⟨#[c]⟩ : Str) = [c] := rfl
/-- the names that are tried -/
def other (s : Str) (f k : Nat) : Str := cutS s none (some 4) ++ ⟨#[97 + (f + k) % 26]⟩
theorem other_full {s : Str} {f : Nat} {ns : List Str} (hl : ns.length < 26) (h : ∀ k, k < 26 → other s f k ∈ ns) : False := by
  have h1 : ((List.range 26).map (other s f)).length ≤ ns.length := nodup_le (by
    rw [List.nodup_iff_pairwise_ne, List.pairwise_map]
    refine List.Pairwise.imp_of_mem (R := fun a b : Nat => a < b) (fun {a b} ha hb hab e => ?_) List.pairwise_lt_range
    have e2 := congrArg tl e
    unfold other at e2
    rw [tl_append, tl_append, one_tl, one_tl] at e2
    have e3 := List.append_cancel_left e2
    injection e3 with e3
    rw [List.mem_range] at ha hb
    omega) fun x hx => by
      obtain ⟨k, hk, rfl⟩ := List.mem_map.mp hx
      exact h k (List.mem_range.mp hk)
  rw [List.length_map, List.length_range] at h1
  omega
def spNameOf (K : PySem.W.Frag) : Sp := fun vs H Q _ => ∃ (b t : Addr) (ns : List Str), vs = [.ref b, .ref t] ∧ Gd H ∧ BagAt H b ∧ H t = some (.lst (ns.map V.str)) ∧ t ≠ b ∧ ns.length < 26 ∧ ∀ s d z c, NameOk s → s ∉ ns → Q (.str s) (upd H b (bagO d z c))
section
variable {P : Program} {w : World} {K : PySem.W.Frag} {mg : Str → Option Value} {base : Heap} {kw : Addr}
theorem ok_name_of {f : Addr} {fd : FuncData} (F : Fun K "_law_name_of" "_law_name_of" s__law_name_of f fd) (T : Txt0 K mg kw) (C__law_pick : Callee P w K mg base "_law_pick" 1 ["bag", "many"] [] spPick) (C__law_one_of : Callee P w K mg base "_law_one_of" 2 ["bag", "row"] [] (spOneOf K)) : FnOk P w K mg base CX0 3 f fd ["bag", "taken"] (spNameOf K) := by
  refine okS F sc__law_name_of (fun vs H Q E h => by obtain ⟨v, d, ns, rfl, _⟩ := h; rfl) (fun cdv A outer s H vs Q E hr h => ?_)
  obtain ⟨b, t, ns, rfl, gd, hB, ht, ntb, hl, q⟩ := h
  refine ⟨_, (pss_cons (ps_sh (ps_set (i := 2) sc__law_name_of.nd rfl (Or.inl rfl) (pe_callC C__law_one_of (hr.mono (by decide)) (pa_cons (pv 0) (pa_cons pe_str pa_nil)))))
    (pss_cons (ps_for PassesOwn.never rfl (pi_sh (pi_range1 rfl T.n_range (pa_cons (pe_ix (ix_seqK (K := K) rfl) (pe_lst (pa_cons pe_int (pa_cons pe_int (pa_cons pe_int (pa_cons pe_int (pa_cons pe_int (pa_cons pe_int pa_nil))))))) (pe_callC C__law_pick (hr.mono (by decide)) (pa_cons (pv 0) (pa_cons pe_int pa_nil))) (fun _ _ => rfl)) pa_nil))) (pg_name (i := 3) sc__law_name_of.nd rfl (Or.inl rfl))
        (pss_one (ps_sh (ps_set (i := 2) sc__law_name_of.nd rfl (Or.inl rfl) (pe_op (op_addK (K := K) rfl) (pv 2) (pe_callC C__law_one_of (hr.mono (by decide)) (pa_cons (pv 0) (pa_cons pe_str pa_nil))))))))
    (pss_cons (ps_if (pt_sh (pt_cmpR (op_niK (K := K) rfl) (pv 2) (pv 1) (by rfl)))
        (pss_one (ps_sh (ps_ret (pv 2))))
        pss_nil)
    (pss_cons (ps_sh (ps_set (i := 4) sc__law_name_of.nd rfl (Or.inl rfl) (pe_callC C__law_pick (hr.mono (by decide)) (pa_cons (pv 0) (pa_cons pe_int pa_nil)))))
    (pss_cons (ps_sh (ps_set (i := 5) sc__law_name_of.nd rfl (Or.inl rfl) pe_str))
    (pss_cons (ps_for PassesOwn.never rfl (pi_sh (pi_range1 rfl T.n_range (pa_cons pe_int pa_nil))) (pg_name (i := 3) sc__law_name_of.nd rfl (Or.inl rfl))
        (pss_cons (ps_sh (ps_set (i := 6) sc__law_name_of.nd rfl (Or.inl rfl) (pe_op (op_addK (K := K) rfl) (pe_op (op_addK (K := K) rfl) (pe_slice (sl_AK (K := K) rfl) (pv 2) po_none (po_some pe_int)) (pe_ix (ix_seqK (K := K) rfl) (pv 5) (pe_op op_modN (pe_callTy call_intA (by rfl) T.n_int (by decide +kernel) (pa_cons (pe_op (op_addK (K := K) rfl) (pv 4) (pv 3)) pa_nil)) pe_int) (fun _ _ => rfl))) (pe_ifExp (pt_cmpR op_ltA (pv 3) pe_int (nomark _)) pe_str (pe_ix (ix_seqK (K := K) rfl) (pv 5) (pe_op op_sub (pe_op op_fdivN (pv 3) pe_int) pe_int) (fun _ _ => rfl))))))
        (pss_one (ps_if (pt_sh (pt_cmpR (op_niK (K := K) rfl) (pv 6) (pv 1) (by rfl)))
            (pss_one (ps_sh (ps_ret (pv 6))))
            pss_nil))))
    (pss_one (ps_sh (ps_ret (pe_op (op_addK (K := K) rfl) (pe_slice (sl_AK (K := K) rfl) (pv 2) po_none (po_some pe_int)) pe_str)))))))))), ?_⟩
  have hG : ∀ H, del H b b = none := fun H => del_at
  refine dq_set gd hB (evb_oneT (hG H) (ev_var rfl) ev_c (by decide +kernel) (by decide +kernel)) fun v H1 s1 hv => ?_
  obtain ⟨ch, hch, rfl⟩ := hv
  rw [firsts_tl] at hch
  refine bq_forR1 (PA := fun vs => ∃ n : Int, vs = [.int n] ∧ 0 ≤ n ∧ n ≤ 4) (PN := fun n => 0 ≤ n ∧ n ≤ 4) s1.gd s1.bag (eab_cons (PA := fun vs => vs = []) (hG H1) (evb_ixL (hG H1) (evo_lst (ea_cons ev_c (ea_cons ev_c (ea_cons ev_c (ea_cons ev_c (ea_cons ev_c (ea_cons ev_c ea_nil)))))) (show 6 ≤ 100000 by decide)) (evb_pick (hG H1) (ev_var rfl) (evb_of ev_c) (by decide))) eab_nil ?_) (fun vs h => ?_)
    (fun k σ' H' => ∃ s y, σ' = [some (.ref b), some (.ref t), some (.str s), y, none, none, none] ∧ Sb b H H' ∧ NameN k s) (fun H' s2 => ?_) (fun n hn k σ' H' hk hP => ?_) (fun n hn σ' H' hP => ?_)
  · rintro x xs hx rfl
    simp only [List.mem_cons, List.not_mem_nil, or_false] at hx
    rcases hx with rfl | rfl | rfl | rfl | rfl | rfl <;> exact ⟨_, rfl, by decide, by decide⟩
  · obtain ⟨n, rfl, h0, h4⟩ := h
    exact ⟨n, rfl, h0, by omega, h0, h4⟩
  · exact ⟨⟨#[ch]⟩, none, rfl, s1.trans s2, ch, [], rfl, hch, Nat.le_refl _, fun _ h => nomatch h⟩
  · obtain ⟨x, y, rfl, s2, hx⟩ := hP
    refine d_set (P := fun v => ∃ x', v = .str x' ∧ NameN (k + 1) x') s2.gd s2.bag (evb_op (hG H') (evb_of (ev_var rfl)) (evb_oneT (x := az) (hG H') (ev_var rfl) ev_c (by decide +kernel) (by decide +kernel)) ?_) fun v H2 s3 hv => ?_
    · rintro u v rfl ⟨c, hc, rfl⟩
      have := hx.len
      exact ⟨_, ⟨_, rfl, hx.snoc hc⟩, rv_addS (by show x.length + 1 ≤ 100000; omega)⟩
    · obtain ⟨x', rfl, hx'⟩ := hv
      exact ⟨x', some (.int (k : Int)), rfl, s2.trans s3, hx'⟩
  · obtain ⟨x, y, rfl, s2, hx⟩ := hP
    have hx : NameN 4 x := hx.up (by omega)
    have ht2 := s2.kp _ _ ntb ht
    refine q_when (b := !decide (x ∈ ns)) s2.gd (et_is (et_test (ev_op (ev_var rfl) (ev_var rfl) (rv_inL (K := K) (neg := true) (.inl (.inl ht2)) rfl (flat_strs ns)))) (by rw [inV_strs]; rfl)) (fun hb => ?_) fun hb => ?_
    · obtain ⟨d, z, c, e⟩ := s2.end gd hB
      exact s_ret s2.gd (ev_var rfl) ⟨_, e, q x d z c (hx.up (by decide)) (by simpa using hb)⟩
    refine dq_set s2.gd s2.bag (evb_pick (hG H') (ev_var rfl) (evb_of ev_c) (by decide)) fun v H2 s3 hv => ?_
    obtain ⟨r, rfl, r0, r1⟩ := hv
    obtain ⟨r, rfl⟩ := Int.eq_ofNat_of_zero_le r0
    have s4 := s2.trans s3
    have ht3 := s4.kp _ _ ntb ht
    refine q_set s4.gd (v := .str az) ev_c ?_
    refine q_forR1 (n := 702) s4.gd (ea_cons ev_c ea_nil) (by decide) (fun k σ' H' => ∃ y z, σ' = [some (.ref b), some (.ref t), some (.str x), y, some (.int (r : Int)), some (.str az), z] ∧ H' = H2 ∧ ∀ j, j < k → j < 26 → other x r j ∈ ns) ⟨y, none, rfl, rfl, fun j hj => absurd hj (Nat.not_lt_zero _)⟩ (fun k σ' H' hk hP => ?_) fun σ' H' hP => ?_
    · obtain ⟨y, z, rfl, rfl, hj⟩ := hP
      by_cases h26 : k < 26
      · have hcut := hx.cut
        have hlen := hcut.len
        refine q_set (v := .str (other x r k)) s4.gd ?_ ?_
        · refine ev_is (ev_op (ev_op (ev_slS (ev_var rfl) ep_none (ep_some ev_c) (by have := hx.len; omega)) (ev_op (ev_var rfl) (ev_op (ev_int (ev_op (ev_var rfl) (ev_var rfl) rv_addI)) ev_c (rv_I (g := fun i j => .int (i.fmod j)) (show (26 : Int) ≠ 0 by decide))) (rv_ixS (c := 97 + (r + k) % 26) (by decide +kernel) ?_)) (rv_addS (by show _ + 1 ≤ 100000; omega))) (ev_if (b := true) (et_is (et_test (ev_op (ev_var rfl) ev_c rv_ltI)) (decide_eq_true (by omega))) (fun _ => ev_c) fun z => nomatch z) (rv_addS ?_)) ?_
          · have e2 : ((r : Int) + (k : Int)).fmod 26 = (((r + k) % 26 : Nat) : Int) := by rw [Int.fmod_eq_emod_of_nonneg _ (by decide)]; omega
            rw [e2]
            refine atI_nat ?_
            show (tl az)[(r + k) % 26]? = _
            rw [az_tl, List.getElem?_map, List.getElem?_range (by omega)]; rfl
          · rw [len_tl, tl_append, List.length_append, ← len_tl]
            show _ + 1 + 0 ≤ 100000
            omega
          · refine congrArg V.str (ext_tl ?_)
            unfold other
            rw [tl_append, tl_append]
            exact List.append_nil _
        refine s_when (b := !decide (other x r k ∈ ns)) s4.gd (et_is (et_test (ev_op (ev_var rfl) (ev_var rfl) (rv_inL (K := K) (neg := true) (.inl (.inl ht3)) rfl (flat_strs ns)))) (by rw [inV_strs]; rfl)) (fun hb => ?_) fun hb => ?_
        · obtain ⟨d, z, c, e⟩ := s4.end gd hB
          exact s_ret s4.gd (ev_var rfl) ⟨_, e, q _ d z c ((hcut.snoc (az_mem.mpr (by omega))).up (by decide)) (by simpa using hb)⟩
        · refine ⟨_, _, rfl, rfl, fun j hjk h26 => ?_⟩
          rcases Nat.lt_succ_iff_lt_or_eq.mp hjk with h | rfl
          · exact hj j h h26
          · simpa using hb
      · exact (other_full hl fun j h => hj j (by omega) h).elim
    · obtain ⟨y, z, rfl, rfl, hj⟩ := hP
      exact (other_full hl fun j h => hj j (by show j < 702; omega) h).elim
end

end Z
namespace Z
open PySem PySem.Spec PyProof.Rows L2 M TL
/-! ## rows of names -/
theorem shr_keep {H H' : Hp} (g : Gd H') (k : ∀ a o, H a = some o → (∀ xs, o ≠ .lst xs) → H' a = some o) : Shr H H' H' :=
  ⟨fun _ _ h => h, fun a xs h => k a _ h (fun _ z => nomatch z), fun a o u h => k a _ h (fun _ z => nomatch z), fun a ps h => rfl, g⟩
def NamesAt (H : Hp) (b t : Addr) (ns : List Str) (m : Nat) (p : Addr) (ms : List Str) (H' : Hp) : Prop := (∀ a o, a ≠ b → a ≠ t → H a = some o → H' a = some o) ∧ Gd H' ∧ BagAt H' b ∧ H' t = some (.lst ((ns ++ ms).map V.str)) ∧ H p = none ∧ H' p = some (.lst (ms.map V.str)) ∧ ms.length = m ∧ (ns ++ ms).Nodup ∧ (∀ s ∈ ns ++ ms, NameOk s)
def spNamesOf (K : PySem.W.Frag) : Sp := fun vs H Q _ => ∃ (b t : Addr) (m : Nat) (ns : List Str), vs = [.ref b, .int (m : Int), .ref t] ∧ Gd H ∧ BagAt H b ∧ H t = some (.lst (ns.map V.str)) ∧ t ≠ b ∧ ns.Nodup ∧ (∀ s ∈ ns, NameOk s) ∧ ns.length + m ≤ 20 ∧ ∀ p ms H', NamesAt H b t ns m p ms H' → Q (.ref p) H'
def LabOk (l : Str) : Prop := ∃ n, 1 ≤ n ∧ n ≤ 99 ∧ tl l = numL n
def placeN (n : Nat) (s : Str) : Prop := ∃ nm labs, NameOk nm ∧ labs.length = n ∧ (∀ l ∈ labs, LabOk l) ∧ s = Str.join "/" (nm :: labs)
def PlaceOk (s : Str) : Prop := ∃ n, 1 ≤ n ∧ n ≤ 3 ∧ placeN n s
theorem sl47 : tl ("/" : Str) = [47] := by decide +kernel
theorem LabOk.free {l : Str} (h : LabOk l) : 47 ∉ tl l := by
  obtain ⟨n, _, _, e⟩ := h
  rw [e]; exact numL_free (by decide)
theorem LabOk.len {l : Str} (h : LabOk l) : l.length ≤ 2 := by
  obtain ⟨n, _, h2, e⟩ := h
  rw [len_tl, e]; exact numL_len (by decide) (by omega)
theorem NameN.free {n : Nat} {s : Str} (h : NameN n s) : 47 ∉ tl s := by
  obtain ⟨c, r, h1, h2, h3, h4⟩ := h
  rw [h1]
  intro hm
  rcases List.mem_cons.mp hm with e | hm
  · subst e; revert h2; decide
  · have := h4 _ hm; omega
theorem joinL_snoc (S q : List Nat) : ∀ {ps : List (List Nat)}, ps ≠ [] → joinL S (ps ++ [q]) = joinL S ps ++ (S ++ q)
  | [], h => absurd rfl h
  | [p], _ => rfl
  | p :: z :: r, _ => by
    show p ++ (S ++ joinL S ((z :: r) ++ [q])) = (p ++ (S ++ joinL S (z :: r))) ++ (S ++ q)
    rw [joinL_snoc S q (by simp)]
    simp [List.append_assoc]
theorem join_snoc {x : Str} {ls : List Str} {l : Str} : Str.join "/" (x :: (ls ++ [l])) = Str.join "/" (x :: ls) ++ "/" ++ l := by
  refine ext_tl ?_
  rw [tl_join, tl_append, tl_append, tl_join, List.map_cons, List.map_append, List.map_cons, List.map_nil, ← List.cons_append, joinL_snoc _ _ (by simp), List.map_cons, List.append_assoc]
theorem placeN.snoc {n : Nat} {s l : Str} (h : placeN n s) (hl : LabOk l) : placeN (n + 1) (s ++ "/" ++ l) := by
  obtain ⟨nm, labs, h1, h2, h3, rfl⟩ := h
  refine ⟨nm, labs ++ [l], h1, by rw [List.length_append, h2]; rfl, fun z hz => ?_, join_snoc.symm⟩
  rcases List.mem_append.mp hz with hz | hz
  · exact h3 z hz
  · rw [List.mem_singleton] at hz; subst hz; exact hl
theorem placeN.unsnoc {n : Nat} {s : Str} (h : placeN (n + 1) s) : ∃ s' l, s = s' ++ "/" ++ l ∧ placeN n s' ∧ LabOk l := by
  obtain ⟨nm, labs, h1, h2, h3, rfl⟩ := h
  have hne : labs ≠ [] := fun e => by rw [e] at h2; cases h2
  have e := List.dropLast_concat_getLast hne
  refine ⟨Str.join "/" (nm :: labs.dropLast), labs.getLast hne, by rw [← join_snoc, e], ⟨nm, labs.dropLast, h1, by rw [List.length_dropLast, h2]; rfl, fun l hl => h3 l (List.dropLast_subset _ hl), rfl⟩, h3 _ (List.getLast_mem hne)⟩
theorem placeN.len {n : Nat} {s : Str} (h : placeN n s) : s.length ≤ 6 + 3 * n := by
  induction n generalizing s with
  | zero =>
    obtain ⟨nm, labs, h1, h2, h3, rfl⟩ := h
    have : labs = [] := List.length_eq_zero_iff.mp h2
    subst this
    exact h1.len.2
  | succ n ih =>
    obtain ⟨s', l, rfl, h1, h2⟩ := h.unsnoc
    have := ih h1
    have h3 := h2.len
    rw [len_tl] at this h3 ⊢
    rw [tl_append, tl_append, List.length_append, List.length_append, sl47]
    show _ + 1 + _ ≤ _
    omega
theorem placeN.count {n : Nat} {s : Str} (h : placeN n s) : (tl s).count 47 = n := by
  induction n generalizing s with
  | zero =>
    obtain ⟨nm, labs, h1, h2, h3, rfl⟩ := h
    have : labs = [] := List.length_eq_zero_iff.mp h2
    subst this
    exact List.count_eq_zero.mpr h1.free
  | succ n ih =>
    obtain ⟨s', l, rfl, h1, h2⟩ := h.unsnoc
    rw [tl_append, tl_append, List.count_append, List.count_append, ih h1, sl47, List.count_eq_zero.mpr h2.free]
    rfl
theorem placeN.name {s : Str} (h : NameOk s) : placeN 0 s := ⟨s, [], h, rfl, fun _ h => (nomatch h), rfl⟩
def spNewPlace (K : PySem.W.Frag) : Sp := fun vs H Q _ => ∃ (b a c : Addr) (xs ys : List Str), vs = [.ref b, .ref a, .ref c] ∧ Gd H ∧ BagAt H b ∧ H a = some (.lst (xs.map V.str)) ∧ a ≠ b ∧ H c = some (.lst (ys.map V.str)) ∧ c ≠ b ∧ xs ≠ [] ∧ xs.length ≤ 1000 ∧ (∀ x ∈ xs, ∃ n, n ≤ 3 ∧ placeN n x) ∧ ∀ s d z c, PlaceOk s → Q (.str s) (upd H b (bagO d z c))
def spPlacesOf (K : PySem.W.Frag) : Sp := fun vs H Q _ => ∃ (b wd a : Addr) (m : Nat) (xs : List Str), vs = [.ref b, .ref wd, .int (m : Int)] ∧ Gd H ∧ BagAt H b ∧ H wd = some (.dK [(Sum.inr "acts", .ref a)]) ∧ wd ≠ b ∧ H a = some (.lst (xs.map V.str)) ∧ a ≠ b ∧ xs ≠ [] ∧ xs.length ≤ 1000 ∧ (∀ x ∈ xs, NameOk x) ∧ m ≤ 20 ∧ ∀ (p : Addr) (ys : List Str) (d z c : Int), H p = none → ys.length = m → (∀ y ∈ ys, PlaceOk y) → Q (.ref p) (upd (upd H b (bagO d z c)) p (.lst (ys.map V.str)))
section
variable {P : Program} {w : World} {K : PySem.W.Frag} {mg : Str → Option Value} {base : Heap} {kw : Addr}
/-- _law_pick(bag, m), m not known -/
theorem evb_pickM {b : Addr} {σ : L2.St} {G : Hp} {ta tb : TE} {M : Int} {E : XK} (hG : G b = none) (ha : Ev ta σ G (.ref b)) (hb : EvB b tb σ G fun v => ∃ m : Int, v = .int m ∧ 1 ≤ m ∧ m ≤ M) (hm : M < 1073741824) : EvB b (tCall spPick [] E (tCons ta (tCons tb tNil))) σ G fun v => ∃ r : Int, v = .int r ∧ 0 ≤ r ∧ r < M :=
  evb_call hG (eab_cons (PB := fun vs => ∃ m : Int, vs = [.ref b, .int m] ∧ 1 ≤ m ∧ m ≤ M) hG (evb_of ha) (eab_cons (PB := fun vs => ∃ m : Int, vs = [.int m] ∧ 1 ≤ m ∧ m ≤ M) hG hb eab_nil fun x xs ⟨m, e1, h⟩ e2 => ⟨m, by rw [e1, e2], h⟩) fun x xs e1 ⟨m, e2, h⟩ => ⟨m, by rw [e1, e2], h⟩) fun vs e H1 x g hB Q q E => by
    obtain ⟨m, rfl, h1, h2⟩ := e
    exact ⟨b, m, rfl, g, hB, by omega, fun r d s c h => q _ _ (sb_of g hB) ⟨r, rfl, by omega, by omega⟩⟩
theorem ok_names_of {f : Addr} {fd : FuncData} (F : Fun K "_law_names_of" "_law_names_of" s__law_names_of f fd) (T : Txt0 K mg kw) (C__law_name_of : Callee P w K mg base "_law_name_of" 3 ["bag", "taken"] [] (spNameOf K)) : FnOk P w K mg base CX0 4 f fd ["bag", "many", "taken"] (spNamesOf K) := by
  refine okS F sc__law_names_of (fun vs H Q E h => by obtain ⟨v, d, m, ns, rfl, _⟩ := h; rfl) (fun cdv A outer s H vs Q E hr h => ?_)
  obtain ⟨b, t, m, ns, rfl, gd, hB, ht, ntb, hnd, hok, hl, q⟩ := h
  refine ⟨_, (pss_cons (ps_sh (ps_set (i := 3) sc__law_names_of.nd rfl (Or.inl rfl) (pe_lst pa_nil)))
    (pss_cons (ps_for PassesOwn.never rfl (pi_sh (pi_range1 rfl T.n_range (pa_cons (pv 1) pa_nil))) (pg_name (i := 4) sc__law_names_of.nd rfl (Or.inl rfl))
        (pss_cons (ps_sh (ps_set (i := 5) sc__law_names_of.nd rfl (Or.inl rfl) (pe_callC C__law_name_of (hr.mono (by decide)) (pa_cons (pv 0) (pa_cons (pv 2) pa_nil)))))
        (pss_cons (ps_sh (ps_expr (pe_bm PySem.F.plainAttrs_list PySem.F.slot_list_append PySem.F.type_list_append mt_append (pv 2) (pa_cons (pv 5) pa_nil))))
        (pss_one (ps_sh (ps_expr (pe_bm PySem.F.plainAttrs_list PySem.F.slot_list_append PySem.F.type_list_append mt_append (pv 3) (pa_cons (pv 5) pa_nil))))))))
    (pss_one (ps_sh (ps_ret (pv 3)))))), ?_⟩
  refine q_setO gd (evo_lst ea_nil (by decide)) rfl rfl fun p hp => ?_
  have npb := free_bag hB hp
  have nat : ∀ {a o}, H a = some o → a ≠ p := fun h => ne_of_none h hp
  refine q_forR1 (n := (m : Int)) (gd.new hp rfl rfl) (ea_cons (ev_var rfl) ea_nil) (by omega) (fun k σ' H' => ∃ ms y z, σ' = [some (.ref b), some (.int (m : Int)), some (.ref t), some (.ref p), y, z] ∧ NamesAt H b t ns k p ms H') ⟨[], none, none, rfl, fun a o h1 h2 h => by rw [upd_ne (nat h)]; exact h, gd.new hp rfl rfl, hB.upd (Ne.symm (Ne.symm npb)), by rw [upd_ne (nat ht), List.append_nil]; exact ht, hp, upd_same, rfl, by rw [List.append_nil]; exact hnd, by rw [List.append_nil]; exact hok⟩ (fun k σ' H' hk hP => ?_) fun σ' H' hP => ?_
  · obtain ⟨ms, y, z, rfl, h1, g1, hB1, ht1, _, hp1, hm, hn1, hok1⟩ := hP
    have hlen : (ns ++ ms).length < 20 := by rw [List.length_append]; omega
    refine dq_set (P := fun v => ∃ s, v = .str s ∧ NameOk s ∧ s ∉ ns ++ ms) g1 hB1 (evb_call (PA := fun vs => vs = [.ref b, .ref t]) del_at (eab_cons (PA := fun vs => vs = [.ref t]) del_at (evb_of (ev_var rfl)) (eab_cons del_at (evb_of (ev_var rfl)) eab_nil fun x xs e1 e2 => by rw [e1, e2]) fun x xs e1 e2 => by rw [e1, e2]) ?_) fun v H2 s2 hv => ?_
    · rintro vs rfl H2 x g hB2 Q q E
      exact ⟨b, t, ns ++ ms, rfl, g, hB2, x.1 _ _ (by rw [del_ne ntb]; exact ht1), ntb, by omega, fun s d z c h1 h2 => q _ _ (sb_of g hB2) ⟨s, rfl, h1, h2⟩⟩
    · obtain ⟨x, rfl, hx, hnx⟩ := hv
      have ht2 := s2.kp _ _ ntb ht1
      have hp2 := s2.kp _ _ npb hp1
      have ntp : t ≠ p := nat ht
      refine q_app s2.gd ht2 (ev_var rfl) (ev_var rfl) (by rw [List.length_map]; omega) ?_
      have g3 : Gd (upd H2 t (.lst ((ns ++ ms).map V.str ++ [V.str x]))) := s2.gd.mut ht2 rfl rfl rfl
      have hp3 : (upd H2 t (.lst ((ns ++ ms).map V.str ++ [V.str x]))) p = some (.lst (ms.map V.str)) := by rw [upd_ne (Ne.symm ntp)]; exact hp2
      refine s_app g3 hp3 (ev_var rfl) (ev_var rfl) (by rw [List.length_map]; omega) ?_
      refine ⟨ms ++ [x], _, _, rfl, fun a o n1 n2 h => ?_, g3.mut hp3 rfl rfl rfl, (s2.bag.upd ntb).upd npb, ?_, hp, ?_, by rw [List.length_append, hm]; rfl, ?_, ?_⟩
      · rw [upd_ne (nat h), upd_ne n2]; exact s2.kp _ _ n1 (h1 a o n1 n2 h)
      · rw [upd_ne ntp, upd_same, ← List.append_assoc, List.map_append (l₁ := ns ++ ms)]; rfl
      · rw [upd_same, List.map_append]; rfl
      · rw [← List.append_assoc, List.nodup_append]
        refine ⟨hn1, by simp, fun a ha c hc => ?_⟩
        rw [List.mem_singleton] at hc
        subst hc
        exact fun e => hnx (e ▸ ha)
      · intro s hs
        rw [← List.append_assoc] at hs
        rcases List.mem_append.mp hs with hs | hs
        · exact hok1 s hs
        · rw [List.mem_singleton] at hs; subst hs; exact hx
  · obtain ⟨ms, y, z, rfl, hN⟩ := hP
    have g1 := hN.2.1
    rw [Int.toNat_natCast] at hN
    refine s_ret g1 (ev_var rfl) ⟨H', shr_keep g1 fun a o h hn => hN.1 a o (fun e => ?_) (fun e => ?_) h, q p ms H' hN⟩
    · subst e; obtain ⟨d, z, c, q⟩ := hB; rw [q] at h; cases h; exact hn _ rfl
    · subst e; rw [ht] at h; cases h; exact hn _ rfl
theorem lab_of {n : Nat} (h1 : 1 ≤ n) (h2 : n ≤ 99) : LabOk (Str.ofString (toString ((n : Nat) : Int))) := ⟨n, h1, h2, tl_num n⟩
theorem ok_new_place {f : Addr} {fd : FuncData} (F : Fun K "_law_new_place" "_law_new_place" s__law_new_place f fd) (T : Txt0 K mg kw) (C__law_pick : Callee P w K mg base "_law_pick" 1 ["bag", "many"] [] spPick) (C__law_one_of : Callee P w K mg base "_law_one_of" 2 ["bag", "row"] [] (spOneOf K)) : FnOk P w K mg base CX0 3 f fd ["bag", "tops", "places"] (spNewPlace K) := by
  refine okS F sc__law_new_place (fun vs H Q E h => by obtain ⟨v, d, m, xs, ys, rfl, _⟩ := h; rfl) (fun cdv A outer s H vs Q E hr h => ?_)
  obtain ⟨b, a, c, xs, ys, rfl, gd, hB, ha, nab, hc, ncb, hx0, hxl, hxs, q⟩ := h
  refine ⟨_, (pss_cons (ps_sh (ps_set (i := 3) sc__law_new_place.nd rfl (Or.inl rfl) (pe_callC C__law_one_of (hr.mono (by decide)) (pa_cons (pv 0) (pa_cons (pv 1) pa_nil)))))
    (pss_cons (ps_if (pt_sh (pt_cmpR op_gtA (pe_m1 PySem.F.slot_str_count PySem.F.type_str_count mt_count (pv 3) pe_str) pe_int (nomark _)))
        (pss_one (ps_sh (ps_set (i := 3) sc__law_new_place.nd rfl (Or.inl rfl) (pe_slice (sl_AK (K := K) rfl) (pv 3) po_none (po_some (pe_m1 PySem.F.slot_str_rfind PySem.F.type_str_rfind mt_rfind (pv 3) pe_str))))))
        pss_nil)
    (pss_cons (ps_sh (ps_set (i := 4) sc__law_new_place.nd rfl (Or.inl rfl) (pe_op (op_addK (K := K) rfl) pe_int (pe_callC C__law_pick (hr.mono (by decide)) (pa_cons (pv 0) (pa_cons (pe_ix (ix_seqK (K := K) rfl) (pe_lst (pa_cons pe_int (pa_cons pe_int (pa_cons pe_int (pa_cons pe_int pa_nil))))) (pe_callC C__law_pick (hr.mono (by decide)) (pa_cons (pv 0) (pa_cons pe_int pa_nil))) (fun _ _ => rfl)) pa_nil))))))
    (pss_cons (ps_for PassesOwn.never rfl (pi_sh (pi_range1 rfl T.n_range (pa_cons pe_int pa_nil))) (pg_name (i := 5) sc__law_new_place.nd rfl (Or.inl rfl))
        (pss_one (ps_if (pt_sh (pt_cmpR (op_inK (K := K) rfl) (pe_op (op_addK (K := K) rfl) (pe_op (op_addK (K := K) rfl) (pv 3) pe_str) (pe_callTy call_str_int (by rfl) T.n_str (by decide +kernel) (pa_cons (pv 4) pa_nil))) (pv 2) (by rfl)))
            (pss_one (ps_sh (ps_set (i := 4) sc__law_new_place.nd rfl (Or.inl rfl) (pe_op (op_addK (K := K) rfl) pe_int (pe_op op_modN (pe_callTy call_intA (by rfl) T.n_int (by decide +kernel) (pa_cons (pv 4) pa_nil)) pe_int)))))
            pss_nil)))
    (pss_one (ps_sh (ps_ret (pe_op (op_addK (K := K) rfl) (pe_op (op_addK (K := K) rfl) (pv 3) pe_str) (pe_callTy call_str_int (by rfl) T.n_str (by decide +kernel) (pa_cons (pv 4) pa_nil)))))))))), ?_⟩
  refine dq_set gd hB (evb_one del_at (ev_var rfl) (ev_var rfl) (.inl (.inl (del_rd nab (.inl ha)))) nab (by simpa using hx0) (by rw [List.length_map]; omega)) fun v H1 s1 hv => ?_
  obtain ⟨top, htop, rfl⟩ := List.mem_map.mp hv
  obtain ⟨n, hn, hpl⟩ := hxs top htop
  have hlen := hpl.len
  refine q_whenJ (b := decide ((2 : Int) < (n : Int))) (fun σ' H' => ∃ (top' : Str) (m : Nat), m ≤ 2 ∧ placeN m top' ∧ σ' = [some (.ref b), some (.ref a), some (.ref c), some (.str top'), none, none] ∧ H' = H1) s1.gd (et_is (et_test (ev_op (ev_m1 (g := fun a b => .int (Txt.count a b)) (ev_var rfl) ev_c) ev_c rv_gtI)) (by rw [slash_eq, count_sign, hpl.count])) (fun σ' H' hJ => ?_) (fun hb hJ => ?_) fun hb => ?_
  · obtain ⟨top', m, hm, hpl, rfl, rfl⟩ := hJ
    have hlen := hpl.len
    refine dq_set (P := fun v => ∃ l : Nat, v = .int (l : Int) ∧ 1 ≤ l ∧ l ≤ 99) s1.gd s1.bag (evb_op del_at (evb_of ev_c) (evb_pickM (M := 99) del_at (ev_var rfl) ((evb_ixL del_at (evo_lst (ea_cons ev_c (ea_cons ev_c (ea_cons ev_c (ea_cons ev_c ea_nil)))) (show 4 ≤ 100000 by decide)) (evb_pick del_at (ev_var rfl) (evb_of ev_c) (by decide))).imp ?_) (by decide)) ?_) fun v H2 s2 hv => ?_
    · intro v hv
      simp only [List.mem_cons, List.not_mem_nil, or_false] at hv
      rcases hv with rfl | rfl | rfl | rfl <;> exact ⟨_, rfl, by decide, by decide⟩
    · rintro u v rfl ⟨r, rfl, h0, h1⟩
      obtain ⟨k, rfl⟩ := Int.eq_ofNat_of_zero_le h0
      exact ⟨.int (1 + (k : Int)), ⟨1 + k, by rw [Int.natCast_add]; rfl, by omega, by omega⟩, rv_addI⟩
    obtain ⟨l, rfl, l1, l2⟩ := hv
    have s3 := s1.trans s2
    have hc3 := s3.kp _ _ ncb hc
    have hval : ∀ (l : Nat) (y : Option V), 1 ≤ l → l ≤ 99 → Ev (tOp (rOr rAddI (rOr rAddS (rOr rCat (rCatT K)))) (tOp (rOr rAddI (rOr rAddS (rOr rCat (rCatT K)))) (tVar 3) (tC (.str "/"))) (tCB rStrI (tCons (tVar 4) tNil))) [some (.ref b), some (.ref a), some (.ref c), some (.str top'), some (.int (l : Int)), y] H2 (.str (top' ++ "/" ++ Str.ofString (toString ((l : Nat) : Int)))) := fun l y h1 h2 => by
      have hlb := (lab_of h1 h2).len
      refine ev_op (ev_op (ev_var rfl) ev_c (rv_addS (by show _ + 1 ≤ 100000; omega))) (ev_strI (ev_var rfl) ?_) (rv_addS ?_)
      · have : ∀ n : Nat, n ≤ 99 → ((n : Int)).natAbs.log2 < 1920 := fun n hn => by
          have : (n : Int).natAbs = n := by omega
          rw [this]
          exact Nat.lt_of_le_of_lt (Nat.log2_le_self n) (by omega)
        exact this l h2
      · rw [len_tl] at hlb hlen ⊢
        rw [tl_append, List.length_append, sl47]
        have h3 := len_tl (Str.ofString (toString ((l : Nat) : Int)))
        show _ + 1 + _ ≤ _
        omega
    refine q_forR1 (n := 99) s3.gd (ea_cons ev_c ea_nil) (by decide) (fun k σ' H' => ∃ (l : Nat) (y : Option V), σ' = [some (.ref b), some (.ref a), some (.ref c), some (.str top'), some (.int (l : Int)), y] ∧ H' = H2 ∧ 1 ≤ l ∧ l ≤ 99) ⟨l, none, rfl, rfl, l1, l2⟩ (fun k σ' H' hk hP => ?_) fun σ' H' hP => ?_
    · obtain ⟨l, y, rfl, rfl, l1, l2⟩ := hP
      refine s_when s3.gd (et_test (ev_op (hval l _ l1 l2) (ev_var rfl) (rv_inL (K := K) (neg := false) (.inl (.inl hc3)) rfl (flat_strs ys)))) (fun _ => ?_) fun _ => ⟨l, _, rfl, rfl, l1, l2⟩
      refine s_set s3.gd (ev_op ev_c (ev_op (ev_int (ev_var rfl)) ev_c (rv_I (g := fun i j => .int (i.fmod j)) (show (99 : Int) ≠ 0 by decide))) rv_addI) ⟨1 + l % 99, some (.int (k : Int)), ?_, rfl, by omega, by omega⟩
      have e2 : (l : Int).fmod 99 = ((l % 99 : Nat) : Int) := by rw [Int.fmod_eq_emod_of_nonneg _ (by decide)]; omega
      rw [e2, Int.natCast_add]
      rfl
    · obtain ⟨l, y, rfl, rfl, l1, l2⟩ := hP
      obtain ⟨d, z, c, e⟩ := s3.end gd hB
      exact s_ret s3.gd (hval l _ l1 l2) ⟨_, e, q _ d z c ⟨m + 1, by omega, by omega, hpl.snoc (lab_of l1 l2)⟩⟩
  · have hn3 : n = 3 := by have := of_decide_eq_true hb; omega
    subst hn3
    obtain ⟨s', l, rfl, h1, h2⟩ := hpl.unsnoc
    refine s_set (v := .str s') s1.gd (ev_is (ev_slS (ev_var rfl) ep_none (ep_some (ev_m1 (g := fun a b => .int (Txt.rfind a b)) (ev_var rfl) ev_c)) (by omega)) ?_) (hJ _ _ ⟨s', 2, by decide, h1, rfl, rfl⟩)
    refine congrArg V.str (ext_tl ?_)
    rw [rfind_slash h2.free, tl_cut_to, tl_append, tl_append, List.append_assoc, List.take_left]
  · exact ⟨top, n, by have := of_decide_eq_false hb; omega, hpl, rfl, rfl⟩
theorem ok_places_of {f : Addr} {fd : FuncData} (F : Fun K "_law_places_of" "_law_places_of" s__law_places_of f fd) (T : Txt0 K mg kw) (C__law_pick : Callee P w K mg base "_law_pick" 1 ["bag", "many"] [] spPick) (C__law_new_place : Callee P w K mg base "_law_new_place" 3 ["bag", "tops", "places"] [] (spNewPlace K)) : FnOk P w K mg base CX0 4 f fd ["bag", "world", "many"] (spPlacesOf K) := by
  refine okS F sc__law_places_of (fun vs H Q E h => by obtain ⟨v, d, m, xs, ys, rfl, _⟩ := h; rfl) (fun cdv A outer s H vs Q E hr h => ?_)
  obtain ⟨b, wd, a, m, xs, rfl, gd, hB, hwd, nwb, ha, nab, hx0, hxl, hxs, hm, q⟩ := h
  refine ⟨_, (pss_cons (ps_sh (ps_set (i := 3) sc__law_places_of.nd rfl (Or.inl rfl) (pe_lst pa_nil)))
    (pss_cons (ps_for PassesOwn.never rfl (pi_sh (pi_range1 rfl T.n_range (pa_cons (pv 2) pa_nil))) (pg_name (i := 4) sc__law_places_of.nd rfl (Or.inl rfl))
        (pss_cons (ps_sh (ps_set (i := 5) sc__law_places_of.nd rfl (Or.inl rfl) (pe_ifExp (PW.pt (pw_and (pt_truthK (K := K) rfl (pv 3) (by intro _; rfl)) (pw_and1 (pt_cmpR (op_eqK (K := K) rfl hr.units) (pe_callC C__law_pick (hr.mono (by decide)) (pa_cons (pv 0) (pa_cons pe_int pa_nil))) pe_int (nomark _))))) (pv 3) (pe_dget (hu_of hr) (pv 1) pe_str (fun _ _ => rfl)))))
        (pss_one (ps_sh (ps_expr (pe_bm PySem.F.plainAttrs_list PySem.F.slot_list_append PySem.F.type_list_append mt_append (pv 3) (pa_cons (pe_callC C__law_new_place (hr.mono (by decide)) (pa_cons (pv 0) (pa_cons (pv 5) (pa_cons (pv 3) pa_nil)))) pa_nil)))))))
    (pss_one (ps_sh (ps_ret (pv 3)))))), ?_⟩
  refine q_setO gd (evo_lst ea_nil (by decide)) rfl rfl fun p hp => ?_
  have npb := free_bag hB hp
  have nat : ∀ {a o}, H a = some o → a ≠ p := fun h => ne_of_none h hp
  refine q_forR1 (n := (m : Int)) (gd.new hp rfl rfl) (ea_cons (ev_var rfl) ea_nil) (by omega) (fun k σ' H' => ∃ ys y z, σ' = [some (.ref b), some (.ref wd), some (.int (m : Int)), some (.ref p), y, z] ∧ Sb b H H' ∧ H' p = some (.lst (ys.map V.str)) ∧ ys.length = k ∧ ∀ y ∈ ys, PlaceOk y)
    ⟨[], none, none, rfl, ⟨fun x o n h => by rw [upd_ne (nat h)]; exact h, gd.new hp rfl rfl, hB.upd npb⟩, upd_same, rfl, fun _ h => nomatch h⟩ (fun k σ' H' hk hP => ?_) fun σ' H' hP => ?_
  · obtain ⟨ys, y, z, rfl, s1, hp1, hyl, hys⟩ := hP
    have ha1 := s1.kp _ _ nab ha
    have hwd1 := s1.kp _ _ nwb hwd
    have hDp : del H' b p = some (.lst (ys.map V.str)) := by rw [del_ne npb]; exact hp1
    have hDw : del H' b wd = some (.dK [(Sum.inr "acts", .ref a)]) := by rw [del_ne nwb]; exact hwd1
    refine dq_set (P := fun v => (v = .ref p ∧ ys ≠ []) ∨ v = .ref a) s1.gd s1.bag (evb_if (PB := fun k => k = true → ys ≠ []) del_at (etb_and (PB := fun k => k = !(ys.map V.str).isEmpty) del_at (etb_of (et_truL (K := K) (ev_var rfl) (.inl (.inl hDp)))) (fun e => ?_) (fun _ z => nomatch z)) (fun h => (evb_of (ev_var rfl)).imp fun v e => .inl ⟨e, h rfl⟩) fun _ => (evb_of (ev_dget (k := Sum.inr "acts") (ev_var rfl) ev_c hDw rfl)).imp fun v e => .inr e) fun v H2 s2 hv => ?_
    · have hy0 : ys ≠ [] := fun z => by subst z; cases e
      exact etb_test (evb_op (P := fun v => ∃ k, v = .bl k ∧ (k = true → ys ≠ [])) del_at (evb_pick del_at (ev_var rfl) (evb_of ev_c) (by decide)) (evb_of ev_c) fun x y ⟨r, e, _⟩ e2 => by
        subst e e2
        exact ⟨_, ⟨_, rfl, fun _ => hy0⟩, rv_eq rfl⟩)
    · have s3 := s1.trans s2
      have hp2 := s2.kp _ _ npb hp1
      have ha2 := s2.kp _ _ nab ha1
      have hq : ∃ (u : Addr) (us : List Str), v = .ref u ∧ H2 u = some (.lst (us.map V.str)) ∧ u ≠ b ∧ us ≠ [] ∧ us.length ≤ 1000 ∧ ∀ x ∈ us, ∃ n, n ≤ 3 ∧ placeN n x := by
        rcases hv with ⟨e, h⟩ | e
        · exact ⟨p, ys, e, hp2, npb, h, by omega, fun x hx => let ⟨n, h1, h2, h3⟩ := hys x hx; ⟨n, h2, h3⟩⟩
        · exact ⟨a, xs, e, ha2, nab, hx0, hxl, fun x hx => ⟨0, by decide, .name (hxs x hx)⟩⟩
      obtain ⟨u, us, rfl, hu, nub, hu0, hul, hus⟩ := hq
      refine d_app (P := fun v => ∃ x, v = .str x ∧ PlaceOk x) s3.gd s3.bag hp2 npb (ev_var rfl) (evb_call (PA := fun vs => vs = [.ref b, .ref u, .ref p]) del_at (eab_cons (PA := fun vs => vs = [.ref u, .ref p]) del_at (evb_of (ev_var rfl)) (eab_cons (PA := fun vs => vs = [.ref p]) del_at (evb_of (ev_var rfl)) (eab_cons del_at (evb_of (ev_var rfl)) eab_nil fun x xs e1 e2 => by rw [e1, e2]) fun x xs e1 e2 => by rw [e1, e2]) fun x xs e1 e2 => by rw [e1, e2]) ?_) (by rw [List.length_map]; omega) fun v H3 s4 hv => ?_
      · rintro vs rfl H3 x g hB3 Q q E
        exact ⟨b, u, p, us, ys, rfl, g, hB3, x.1 _ _ (by rw [del_ne nub]; exact hu), nub, x.1 _ _ (by rw [del_ne npb]; exact hp2), npb, hu0, hul, hus, fun s d z c h => q _ _ (sb_of g hB3) ⟨s, rfl, h⟩⟩
      · obtain ⟨x, rfl, hx⟩ := hv
        have s5 := s3.trans s4
        have hp4 := s4.kp _ _ npb hp2
        refine ⟨ys ++ [x], _, _, rfl, s5.store hp npb (s5.gd.mut hp4 rfl rfl rfl), by rw [upd_same, List.map_append]; rfl, by rw [List.length_append, hyl]; rfl, fun y hy => ?_⟩
        rcases List.mem_append.mp hy with hy | hy
        · exact hys y hy
        · rw [List.mem_singleton] at hy; subst hy; exact hx
  · obtain ⟨ys, y, z, rfl, s1, hp1, hyl, hys⟩ := hP
    obtain ⟨d, z, c, e⟩ := s1.endN gd hB hp hp1 rfl rfl
    exact s_ret s1.gd (ev_var rfl) ⟨_, e, q p ys d z c hp (by omega) hys⟩
end

end Z
namespace Z
open PySem PySem.Spec PyProof.Rows L2 M TL
/-! ## comparing -/
def spNoList (K : PySem.W.Frag) : Nat → Sp
  | 0 => fun _ _ _ _ => False
  | n + 1 => fun vs H Q _ => ∃ v d, vs = [v] ∧ Gd H ∧ DpT K H v d ∧ plD n d ∧ Q (.bl true) H
def spSame (K : PySem.W.Frag) : Sp := fun vs H Q _ => ∃ v u ds, vs = [v, u] ∧ Gd H ∧ DpT K H v (.tuple ds) ∧ DpT K H u (.tuple ds) ∧ plD 2 (.tuple ds) ∧ Q (.bl true) H
section
variable {P : Program} {w : World} {K : PySem.W.Frag} {mg : Str → Option Value} {base : Heap} {kw : Addr}
theorem ok_no_list {f : Addr} {fd : FuncData} (F : Fun K "_law_no_list" "_law_no_list" s__law_no_list f fd) (T : Txt0 K mg kw) (hm : mg "_law_no_list" = some (.ref f)) (hb : Binds K fd ["thing"] []) : ∀ n, FnOk P w K mg base CX0 n f fd ["thing"] (spNoList K n)
  | 0 => ⟨fun _ _ _ _ h => h.elim, fun _ _ _ _ _ _ _ _ _ _ _ _ _ h => h.elim⟩
  | n + 1 => by
    have C__law_no_list : Callee P w K mg base "_law_no_list" n ["thing"] [] (spNoList K n) := callee_of (ok_no_list F T hm hb n) hm F.kp hb
    refine okS F sc__law_no_list (fun vs H Q E h => by obtain ⟨v, d, rfl, _⟩ := h; rfl) (fun cdv A outer s H vs Q E hr h => ?_)
    obtain ⟨v, d, rfl, gd, hv, ok, q⟩ := h
    refine ⟨_, (pss_cons (ps_if (pt_sh (pt_truthK (K := K) rfl (pe_callB (call_isiK2 (K := K) rfl) (by rfl) T.n_isinstance (by decide +kernel) (pa_cons (pv 0) (pa_cons (pe_bltn (v := .ty "tuple") (u := .type "tuple") rfl T.n_tuple (by decide +kernel) rfl) pa_nil))) (by intro _; rfl)))
        (pss_one (ps_sh (ps_ret (pe_callB (cr_allK (K := K) rfl rfl) (by rfl) T.n_all (by decide +kernel) (pa_cons (pe_lc (own := [("part", 1)]) rfl sc__law_no_list.nd (pi_seqK (K := K) rfl (pv 0)) (blkOk_by (own := [("part", 1)]) (N := N__law_no_list) (sc := defScope s__law_no_list) (by decide +kernel)) (fun _ _ _ _ _ => (pg_name (i := 1) sc__law_no_list.nd rfl (Or.inl rfl))) (fun _ _ _ _ _ => pts_nil) (fun _ _ _ _ _ => (pe_callC C__law_no_list hr (pa_cons (pv 1) pa_nil)))) pa_nil)))))
        pss_nil)
    (pss_one (ps_sh (ps_ret (pe_and (pe_not (pe_callB (call_isiK2 (K := K) rfl) (by rfl) T.n_isinstance (by decide +kernel) (pa_cons (pv 0) (pa_cons (pe_bltn (v := .ty "list") (u := .type "list") rfl T.n_list (by decide +kernel) rfl) pa_nil)))) (pe_one (pe_not (pe_callB (call_isiK2 (K := K) rfl) (by rfl) T.n_isinstance (by decide +kernel) (pa_cons (pv 0) (pa_cons (pe_bltn (v := .ty "bool") (u := .type "bool") rfl T.n_bool (by decide +kernel) rfl) pa_nil)))))))))), ?_⟩
    have hc : (∃ ds, d = .tuple ds) ∨ (kitB (pyTy d) "tuple" = some false ∧ kitB (pyTy d) "list" = some false ∧ kitB (pyTy d) "bool" = some false) := by
      cases d with
      | str x => exact .inr ⟨k_str_tuple, k_str_list, k_str_bool⟩
      | none => exact .inr ⟨k_NoneType_tuple, k_NoneType_list, k_NoneType_bool⟩
      | tuple ds => exact .inl ⟨ds, rfl⟩
      | bool b => cases n <;> exact ok.elim
      | int b => cases n <;> exact ok.elim
      | list b => cases hv
      | dict b => cases hv
    rcases hc with ⟨ds, rfl⟩ | ⟨k1, k2, k3⟩
    · obtain ⟨n, rfl⟩ : ∃ m, n = m + 1 := by
        cases n with
        | zero => exact ok.elim
        | succ m => exact ⟨m, rfl⟩
      refine q_when (b := true) gd (et_tru (ev_isi (evd_var rfl hv) k_tuple_tuple)) (fun _ => ?_) fun z => nomatch z
      have e0 : EvD K (tVar 0) (L2.start N__law_no_list [v]) H (.tuple (ds.map id)) := by rw [List.map_id]; exact evd_var rfl hv
      have e1 := evl_lc1 (K := K) (σ := L2.start N__law_no_list [v]) (H := H) (te := tCall (spNoList K (n + 1)) [] E0 (tCons (tVar 1) tNil)) (j := 1) (vs := [1]) relD_mono (fun _ => PyData.bool true) (ei_D e0) ok.1 (fun z => rfl) fun d hd x H1 e hx =>
        (ev_call (ea_cons (ev_var rfl) ea_nil) fun H2 e2 Q q E => ⟨x, d, rfl, (e.trans e2).2 gd, DpT.xt e2 hx, ok.2 d hd, q H2 (.refl H2)⟩ : Ev _ _ _ (.bl true)).dBl
      have e2 : ds.map (fun _ => PyData.bool true) = (ds.map fun _ => true).map PyData.bool := by rw [List.map_map]; rfl
      rw [e2] at e1
      exact s_ret gd (ev_bl (ev_all e1) (by simp)) (finV gd (.refl H) q)
    · refine q_when (b := false) gd (et_tru (ev_isi (evd_var rfl hv) k1)) (fun z => nomatch z) fun _ => ?_
      exact s_ret (v := .bl true) gd (ev_andV (ev_notV (ev_isi (evd_var rfl hv) k2)) fun _ => ev_notV (ev_isi (evd_var rfl hv) k3)) (finV gd (.refl H) q)
theorem ok_same_tuple {f : Addr} {fd : FuncData} (F : Fun K "_law_same_tuple" "_law_same_tuple" s__law_same_tuple f fd) (T : Txt0 K mg kw) (C__law_no_list : Callee P w K mg base "_law_no_list" 3 ["thing"] [] (spNoList K 3)) : FnOk P w K mg base CX0 4 f fd ["told", "wanted"] (spSame K) := by
  refine okS F sc__law_same_tuple (fun vs H Q E h => by obtain ⟨v, d, m, rfl, _⟩ := h; rfl) (fun cdv A outer s H vs Q E hr h => ?_)
  obtain ⟨v, u, ds, rfl, gd, hv, hu, ok, q⟩ := h
  refine ⟨_, (pss_one (ps_sh (ps_ret (pe_and (pe_callB (call_isiK2 (K := K) rfl) (by rfl) T.n_isinstance (by decide +kernel) (pa_cons (pv 0) (pa_cons (pe_bltn (v := .ty "tuple") (u := .type "tuple") rfl T.n_tuple (by decide +kernel) rfl) pa_nil))) (pe_and (pe_cmpR (op_eqK (K := K) rfl hr.units) (pv 0) (pv 1) (nomark _)) (pe_one (pe_callC C__law_no_list (hr.mono (by decide)) (pa_cons (pv 0) pa_nil)))))))), ?_⟩
  exact s_ret (v := .bl true) gd (ev_andV (ev_isi (evd_var rfl hv) k_tuple_tuple) fun _ => ev_andV (ev_eqSame (evd_var rfl hv) (evd_var rfl hu) ok (by decide)) fun _ => ev_call (ea_cons (ev_var rfl) ea_nil) fun H1 e Q q E => ⟨v, _, rfl, e.2 gd, hv.xt e, ok, q H1 (.refl H1)⟩) (finV gd (.refl H) q)
/-- _law_same_tuple(a, b) -/
theorem ev_same {σ : L2.St} {H : Hp} {ta tb : TE} {ds : List PyData} (gd : Gd H) (ha : EvD K ta σ H (.tuple ds)) (hb : EvD K tb σ H (.tuple ds)) (ok : plD 2 (.tuple ds)) : Ev (tCall (spSame K) [] E0 (tCons ta (tCons tb tNil))) σ H (.bl true) := fun H1 e Q q =>
  ha H1 e _ fun v H2 e2 hv => hb H2 (e.trans e2) _ fun u H3 e3 hu => ⟨v, u, ds, rfl, ((e.trans e2).trans e3).2 gd, hv.xt e3, hu, ok, q H3 (e2.trans e3)⟩
end

def isLet (s : Str) : Bool := (match s.cps.toList with | c :: _ => decide (97 ≤ c ∧ c ≤ 122) | [] => false) && !decide (47 ∈ tl s)
section
variable {P : Program} {w : World} {K : PySem.W.Frag} {mg : Str → Option Value} {base : Heap} {kw : Addr}
def spLet : Sp := fun vs H Q _ => ∃ s : Str, vs = [.str s] ∧ Gd H ∧ (s.length ≤ 1000 ∧ s.cps.toList ≠ []) ∧ Q (.bl (isLet s)) H
theorem ok_is_letters {f : Addr} {fd : FuncData} (F : Fun K "_law_is_letters" "_law_is_letters" s__law_is_letters f fd) (T : Txt0 K mg kw) : FnOk P w K mg base CX0 1 f fd ["token"] spLet := by
  refine okS F sc__law_is_letters (fun vs H Q E h => by obtain ⟨v, rfl, _⟩ := h; rfl) (fun cdv A outer s H vs Q E hr h => ?_)
  obtain ⟨x, rfl, gd, ⟨hz, hn⟩, q⟩ := h
  refine ⟨_, (pss_one (ps_sh (ps_ret (pe_and (pe_cmpR (op_inK (K := K) rfl) (pe_ix (ix_seqK (K := K) rfl) (pv 0) pe_int (fun _ _ => rfl)) pe_str (by rfl)) (pe_one (pe_cmpR (op_niK (K := K) rfl) pe_str (pv 0) (by rfl))))))), ?_⟩
  cases hx : x.cps.toList with
  | nil => exact absurd hx hn
  | cons c r =>
    refine s_ret gd (ev_bl (ev_andV (ev_op (ev_op (ev_var rfl) ev_c (rv_ixS (h3 hz) (atI_headS hx))) ev_c (rv_inS (neg := false))) fun _ => ev_op (ev_is ev_c (congrArg V.str slash_eq)) (ev_var rfl) (rv_inS (neg := true))) ?_) (finV gd (.refl H) q)
    unfold isLet
    rw [show tl x = c :: r from hx, hx]
    have e : (97 ≤ c ∧ c ≤ 122) = (c ∈ tl az) := propext az_mem.symm
    show (decide (c ∈ tl az) && !decide (47 ∈ c :: r)) = (decide (97 ≤ c ∧ c ≤ 122) && !decide (47 ∈ c :: r))
    congr 1
    simp only [e]
end

end Z
namespace Z
open PySem PySem.Spec PyProof.Rows L2 M TL
/-! ## the law's own parse -/
structure TokOk (t : Str) : Prop where
  len : t.length ≤ 1000
  ne : t.cps.toList ≠ []
  so : PyData.strOk t = true
  ref : isRef t = (decide (t = "lost") || decide (47 ∈ tl t))
  let_ : isLet t = isWord t
  na : ¬ t = "&"
def parseT : Nat → List Str → List Str × List (Option Str × List (Str × Str))
  | 0, _ => ([], [])
  | _ + 1, [] => ([], [])
  | n + 1, t :: r => if isRef t = true then ("&" :: (parseT n (takeRd r).2).1, (ledTo t, firstR (takeRd r).1) :: (parseT n (takeRd r).2).2) else (t :: (parseT n r).1, (parseT n r).2)
theorem parseT_nil (n : Nat) : parseT n [] = ([], []) := by cases n <;> rfl
theorem parseT_yes {n : Nat} {t : Str} {r : List Str} (h : isRef t = true) : parseT (n + 1) (t :: r) = (("&" : Str) :: (parseT n (takeRd r).2).1, (ledTo t, firstR (takeRd r).1) :: (parseT n (takeRd r).2).2) := if_pos h
theorem parseT_no {n : Nat} {t : Str} {r : List Str} (h : isRef t = false) : parseT (n + 1) (t :: r) = (t :: (parseT n r).1, (parseT n r).2) := if_neg (by rw [h]; exact Bool.false_ne_true)
def finL (r : Option Str × List (Str × Str)) : Option Str × List (Str × Str) := (r.1, pairsOf r.2)
theorem parseN_T : ∀ (n : Nat) (ws : List Str), parseN n ws = ((parseT n ws).1, (parseT n ws).2.map finL)
  | 0, _ => rfl
  | n + 1, [] => rfl
  | n + 1, t :: r => by
    cases h : isRef t with
    | true => rw [parseN_yes h, parseT_yes h, parseN_T n]; rfl
    | false => rw [parseN_no h, parseT_no h, parseN_T n]
def gV : Option Str → V
  | none => .non
  | some s => .str s
theorem gV_dp {K : PySem.W.Frag} {H : Hp} : ∀ o : Option Str, DpT K H (gV o) (encO o)
  | none => .non
  | some s => .str s
/-- (goal, table) -/
def LeadAt (K : PySem.W.Frag) : Hp → V → (Option Str × List (Str × Str)) → Prop := fun H v r => ∃ t tb, v = .ref t ∧ SqT K H t [gV r.1, .ref tb] ∧ H tb = some (.dK (kvS r.2))
theorem leadAt_mono {K : PySem.W.Frag} : Mono (LeadAt K) := fun H H' v r e ⟨t, tb, h1, h2, h3⟩ => ⟨t, tb, h1, xt_t e h2, e.1 _ _ h3⟩
structure InvL (K : PySem.W.Frag) (H G H' : Hp) (lt ll la : Addr) (T W : List Str) (xs : List V) (L : List (Option Str × List (Str × Str))) : Prop where
  xh : Xt H G
  xt : Xt G H'
  gd : Gd H'
  gt : G lt = none
  gl : G ll = none
  ne : lt ≠ ll
  ht : H' lt = some (.lst (T.map V.str))
  hl : H' ll = some (.lst xs)
  ga : G la = some (.lst (W.map V.str))
  hd : Paired (LeadAt K G) xs L
theorem InvL.cut {K : PySem.W.Frag} {H G H' : Hp} {lt ll la p : Addr} {T W : List Str} {xs : List V} {L : List (Option Str × List (Str × Str))} (I : InvL K H G H' lt ll la T W xs L) {U : List Str} (hp : H' p = none) : InvL K H (upd G p (.lst (U.map V.str))) (upd H' p (.lst (U.map V.str))) lt ll p T U xs L where
  xh := I.xh.trans (Xt.new (I.xt.free hp) rfl rfl)
  xt := xt_both I.xt I.gd hp rfl rfl
  gd := I.gd.new hp rfl rfl
  gt := by rw [upd_ne (ne_of_none I.ht hp)]; exact I.gt
  gl := by rw [upd_ne (ne_of_none I.hl hp)]; exact I.gl
  ne := I.ne
  ht := by rw [upd_ne (ne_of_none I.ht hp)]; exact I.ht
  hl := by rw [upd_ne (ne_of_none I.hl hp)]; exact I.hl
  ga := upd_same
  hd := paired_mono leadAt_mono (Xt.new (I.xt.free hp) rfl rfl) I.hd
def LeadsAt (K : PySem.W.Frag) (H : Hp) (v : V) (L : List (Option Str × List (Str × Str))) : Prop := ∃ ll xs, v = .ref ll ∧ H ll = some (.lst xs) ∧ Paired (LeadAt K H) xs L
def spParse (K : PySem.W.Frag) : Sp := fun vs H Q _ => ∃ (a : Addr) (ws : List Str), vs = [.ref a] ∧ Gd H ∧ SqL K H a (ws.map V.str) ∧ ws.length ≤ 100 ∧ (∀ t ∈ ws, TokOk t) ∧
  ∀ p lt v H', Xt H H' → SqT K H' p [.ref lt, v] → H' lt = some (.lst ((parseT ws.length ws).1.map V.str)) → LeadsAt K H' v (parseT ws.length ws).2 → Q (.ref p) H'
section
variable {P : Program} {w : World} {K : PySem.W.Frag} {mg : Str → Option Value} {base : Heap} {kw : Addr}
theorem ev_goal {σ : L2.St} {H : Hp} {i : Nat} {t : Str} {r1 r2 : R2} (hi : σ[i]? = some (some (.str t))) (h1 : t.length ≤ 1000) (h2 : t.cps.toList ≠ []) : Ev (tIf (tTest (tOp (rOr rEq r1) (tVar i) (tC (.str "lost")))) (tC .non) (tIf (tTest (tOp (rOr rEq r2) (tOp (rIx K) (tVar i) (tC (.int 0))) (tC (.str "~")))) (tSl (rsOr (rSlL K) (rsOr (rSlA K) rSlS)) (tVar i) (tPart (tC (.int 1))) tNoPart) (tVar i))) σ H (gV (ledTo t)) := by
  obtain ⟨c, r, hc⟩ : ∃ c r, t.cps.toList = c :: r := by
    cases e : t.cps.toList with
    | nil => exact absurd e h2
    | cons c r => exact ⟨c, r, rfl⟩
  have e1 : decide (V.str ⟨#[c]⟩ = V.str "~") = decide (c = 126) := by
    rw [dec_str, show ("~" : Str) = ⟨#[126]⟩ by decide +kernel]
    by_cases hc' : c = 126
    · subst hc'; decide +kernel
    · rw [decide_eq_false hc', beq_eq_false_iff_ne]
      intro h
      injection h with h
      injection h with h
      injection h with h
      exact hc' h
  refine ev_if (b := decide (t = "lost")) (et_is (et_test (ev_op (ev_var hi) ev_c (rv_eq rfl))) (by simp)) (fun hb => ?_) fun hb => ?_
  · rw [show ledTo t = none from if_pos (of_decide_eq_true hb)]; exact ev_c
  · rw [show ledTo t = some (placeNamed t) from if_neg (of_decide_eq_false hb)]
    refine ev_if (b := decide (c = 126)) (et_is (et_test (ev_op (ev_op (ev_var hi) ev_c (rv_ixS (h3 h1) (atI_headS hc))) ev_c (rv_eq rfl))) e1) (fun hb => ?_) fun hb => ?_
    · have : placeNamed t = cutS t (some 1) none := by
        unfold placeNamed
        rw [hc]
        exact if_pos (of_decide_eq_true hb)
      rw [this]
      exact ev_slS (ev_var hi) (ep_some ev_c) ep_none (h3 h1)
    · have : placeNamed t = t := by
        unfold placeNamed
        rw [hc]
        exact if_neg (of_decide_eq_false hb)
      rw [this]
      exact ev_var hi
theorem ok_parse {f : Addr} {fd : FuncData} (F : Fun K "_law_parse" "_law_parse" s__law_parse f fd) (T : Txt0 K mg kw) (C__law_is_letters : Callee P w K mg base "_law_is_letters" 1 ["token"] [] spLet) : FnOk P w K mg base CX0 2 f fd ["body"] (spParse K) := by
  refine okS F sc__law_parse (fun vs H Q E h => by obtain ⟨v, d, rfl, _⟩ := h; rfl) (fun cdv A outer s H vs Q E hr h => ?_)
  obtain ⟨a, ws, rfl, gd, hx, hwl, ok, q⟩ := h
  refine ⟨_, (pss_cons (ps_sh (ps_set (i := 1) sc__law_parse.nd rfl (Or.inl rfl) (pe_lst pa_nil)))
    (pss_cons (ps_sh (ps_set (i := 2) sc__law_parse.nd rfl (Or.inl rfl) (pe_lst pa_nil)))
    (pss_cons (ps_sh (ps_set (i := 3) sc__law_parse.nd rfl (Or.inl rfl) (pe_callTy (call_listK (K := K) rfl rfl) (by rfl) T.n_list (by decide +kernel) (pa_cons (pv 0) pa_nil))))
    (pss_cons (ps_while PassesOwn.never (pt_sh (pt_cmpR (op_neK (K := K) rfl hr.units) (pv 3) (pe_lst pa_nil) (nomark _)))
        (pss_cons (ps_sh (ps_set (i := 4) sc__law_parse.nd rfl (Or.inl rfl) (pe_ix (ix_seqK (K := K) rfl) (pv 3) pe_int (fun _ _ => rfl))))
        (pss_cons (ps_sh (ps_set (i := 3) sc__law_parse.nd rfl (Or.inl rfl) (pe_slice (sl_AK (K := K) rfl) (pv 3) (po_some pe_int) po_none)))
        (pss_cons (ps_if (pt_sh (PW.pt (pw_and (pt_cmpR (op_neK (K := K) rfl hr.units) (pv 4) pe_str (nomark _)) (pw_and1 (pt_cmpR (op_niK (K := K) rfl) pe_str (pv 4) (by rfl))))))
            (pss_cons (ps_sh (ps_expr (pe_bm PySem.F.plainAttrs_list PySem.F.slot_list_append PySem.F.type_list_append mt_append (pv 1) (pa_cons (pv 4) pa_nil))))
            (pss_one ps_continue))
            pss_nil)
        (pss_cons (ps_sh (ps_set (i := 5) sc__law_parse.nd rfl (Or.inl rfl) pe_dnewK))
        (pss_cons (ps_while PassesOwn.never (pt_sh (PW.pt (pw_and (pt_cmpR op_gtA (pe_callB (call_lenK (K := K) rfl) (by rfl) T.n_len (by decide +kernel) (pa_cons (pv 3) pa_nil)) pe_int (nomark _)) (pw_and (pt_cmpR (op_eqK (K := K) rfl hr.units) (pe_ix (ix_seqK (K := K) rfl) (pv 3) pe_int (fun _ _ => rfl)) pe_str (nomark _)) (pw_and (pt_truthK (K := K) rfl (pe_callC C__law_is_letters (hr.mono (by decide)) (pa_cons (pe_ix (ix_seqK (K := K) rfl) (pv 3) pe_int (fun _ _ => rfl)) pa_nil)) (by intro _; rfl)) (pw_and1 (pt_truthK (K := K) rfl (pe_callC C__law_is_letters (hr.mono (by decide)) (pa_cons (pe_ix (ix_seqK (K := K) rfl) (pv 3) pe_int (fun _ _ => rfl)) pa_nil)) (by intro _; rfl))))))))
            (pss_cons (ps_sh (ps_expr (pe_dsetd (pv 5) (pe_ix (ix_seqK (K := K) rfl) (pv 3) pe_int (fun _ _ => rfl)) (pe_ix (ix_seqK (K := K) rfl) (pv 3) pe_int (fun _ _ => rfl)) ⟨rfl, rfl, rfl, rfl⟩)))
            (pss_one (ps_sh (ps_set (i := 3) sc__law_parse.nd rfl (Or.inl rfl) (pe_slice (sl_AK (K := K) rfl) (pv 3) (po_some pe_int) po_none))))))
        (pss_cons (ps_sh (ps_expr (pe_bm PySem.F.plainAttrs_list PySem.F.slot_list_append PySem.F.type_list_append mt_append (pv 1) (pa_cons pe_str pa_nil))))
        (pss_cons (ps_sh (ps_set (i := 6) sc__law_parse.nd rfl (Or.inl rfl) (pe_ifExp (pt_cmpR (op_eqK (K := K) rfl hr.units) (pv 4) pe_str (nomark _)) pe_non (pe_ifExp (pt_cmpR (op_eqK (K := K) rfl hr.units) (pe_ix (ix_seqK (K := K) rfl) (pv 4) pe_int (fun _ _ => rfl)) pe_str (nomark _)) (pe_slice (sl_AK (K := K) rfl) (pv 4) (po_some pe_int) po_none) (pv 4)))))
        (pss_one (ps_sh (ps_expr (pe_bm PySem.F.plainAttrs_list PySem.F.slot_list_append PySem.F.type_list_append mt_append (pv 2) (pa_cons (pe_tupF (pa_cons (pv 6) (pa_cons (pv 5) pa_nil))) pa_nil)))))))))))))
    (pss_one (ps_sh (ps_ret (pe_tupF (pa_cons (pv 1) (pa_cons (pv 2) pa_nil)))))))))), ?_⟩
  refine q_setO gd (evo_lst ea_nil (by decide)) rfl rfl fun lt hlt => ?_
  have g1 : Gd (upd H lt (.lst [])) := gd.new hlt rfl rfl
  refine q_setO g1 (evo_lst ea_nil (by decide)) rfl rfl fun ll hll => ?_
  have g2 : Gd (upd (upd H lt (.lst [])) ll (.lst [])) := g1.new hll rfl rfl
  have ne : lt ≠ ll := ne_of_none (upd_same : (upd H lt (.lst [])) lt = some (.lst [])) hll
  have hll0 : H ll = none := by rw [upd_ne ne.symm] at hll; exact hll
  have x2 : Xt H (upd (upd H lt (.lst [])) ll (.lst [])) := (Xt.new hlt rfl rfl).trans (Xt.new hll rfl rfl)
  refine q_setO g2 (evo_listL (K := K) (ev_var rfl) (.inl (xt_l x2 hx))) rfl rfl fun la hla => ?_
  have hla0 : H la = none := x2.free hla
  have nlt : lt ≠ la := ne_of_none (show (upd (upd H lt (.lst [])) ll (.lst [])) lt = some (.lst []) by rw [upd_ne ne, upd_same]) hla
  have nll : ll ≠ la := ne_of_none (upd_same : (upd (upd H lt (.lst [])) ll (.lst [])) ll = some (.lst [])) hla
  have I0 : InvL K H (upd H la (.lst (ws.map V.str))) (upd (upd (upd H lt (.lst [])) ll (.lst [])) la (.lst (ws.map V.str))) lt ll la [] ws [] [] :=
    ⟨Xt.new hla0 rfl rfl, xt_both x2 g2 hla rfl rfl, g2.new hla rfl rfl, by rw [upd_ne nlt]; exact hlt, by rw [upd_ne nll]; exact hll0, ne, by rw [upd_ne nlt, upd_ne ne, upd_same]; rfl, by rw [upd_ne nll, upd_same], upd_same, .nil⟩
  refine q_while (fun m σ' H' => ∃ (G : Hp) (Td : List Str) (xs : List V) (L : List (Option Str × List (Str × Str))) (la : Addr) (i n : Nat) (o4 o5 o6 : Option V), σ' = [some (.ref a), some (.ref lt), some (.ref ll), some (.ref la), o4, o5, o6] ∧ InvL K H G H' lt ll la Td (ws.drop i) xs L ∧ i ≤ ws.length ∧ ws.length - i ≤ n ∧
      m = ws.length - i ∧ Td.length ≤ i ∧ L.length ≤ i ∧ parseT ws.length ws = (Td ++ (parseT n (ws.drop i)).1, L ++ (parseT n (ws.drop i)).2)) ws.length
    ⟨_, [], [], [], la, 0, ws.length, _, _, _, rfl, I0, Nat.zero_le _, Nat.sub_le _ _, rfl, Nat.zero_le _, Nat.zero_le _, rfl⟩ ?_
  rintro m σ' H' ⟨G, Td, xs, L, la, i, n, o4, o5, o6, rfl, I, hi, hn, rfl, hTl, hLl, hP⟩
  have hsub : ∀ j, ∀ t ∈ ws.drop j, TokOk t := fun j t ht => ok t (List.mem_of_mem_drop ht)
  have hla1 : H' la = some (.lst ((ws.drop i).map V.str)) := I.xt.1 _ _ I.ga
  refine ⟨I.gd, !(ws.drop i).isEmpty, et_test (ev_neNil (fun t ht => (hsub i t ht).so) (ev_var rfl) (.inl (.inl hla1)) (evo_lst ea_nil (by decide))), fun hb => ?_, fun hb => ?_⟩
  · have hlt' : i < ws.length := by
      refine Nat.lt_of_not_le fun h => ?_
      rw [List.drop_of_length_le h] at hb
      cases hb
    obtain ⟨t, ht⟩ : ∃ t, ws[i]? = some t := ⟨_, List.getElem?_eq_getElem hlt'⟩
    have hmem : t ∈ ws := List.mem_of_getElem? ht
    have tok := ok t hmem
    have hdr : ws.drop i = t :: ws.drop (i + 1) := by
      obtain ⟨h, e⟩ := List.getElem?_eq_some_iff.mp ht
      rw [List.drop_eq_getElem_cons h, e]
    obtain ⟨n, rfl⟩ : ∃ k, n = k + 1 := ⟨n - 1, by omega⟩
    rw [hdr] at hP hla1
    refine ⟨_, fun _ _ h => h, ?_⟩
    refine q_set I.gd (ev_op (ev_var rfl) ev_c (rv_ixL (K := K) (i := 0) (.inl (.inl hla1)) (atI_nat (j := 0) rfl))) ?_
    refine q_setO I.gd (evo_drop (n := 1) (ev_var rfl) (.inl (.inl hla1)) (ep_some ev_c) ep_none) rfl rfl fun lb hlb => ?_
    have I1 : InvL K H (upd G lb (.lst ((ws.drop (i + 1)).map V.str))) (upd H' lb (.lst ((ws.drop (i + 1)).map V.str))) lt ll lb Td (ws.drop (i + 1)) xs L := I.cut hlb
    show tSeq _ _ _ _ (upd H' lb (.lst ((ws.drop (i + 1)).map V.str)))
    revert I1
    generalize upd H' lb (.lst ((ws.drop (i + 1)).map V.str)) = H1
    generalize upd G lb (.lst ((ws.drop (i + 1)).map V.str)) = G1
    intro I1
    refine q_when (b := !isRef t) I1.gd (et_is (et_and (et_test (ev_op (ev_var rfl) ev_c (rv_ne rfl))) fun _ => et_test (ev_op (ev_is ev_c (congrArg V.str slash_eq)) (ev_var rfl) (rv_inS (neg := true)))) ?_) (fun hb => ?_) fun hb => ?_
    · rw [tok.ref]
      show (!decide (V.str t = V.str "lost") && !decide (47 ∈ t.cps.toList)) = !(decide (t = "lost") || decide (47 ∈ tl t))
      rw [Bool.not_or]
      congr 1
      simp
    · have hr : isRef t = false := by simpa using hb
      rw [parseT_no hr] at hP
      refine q_app I1.gd I1.ht (ev_var rfl) (ev_var rfl) (by rw [List.length_map]; omega) ?_
      refine ⟨ws.length - (i + 1), by omega, G1, Td ++ [t], xs, L, lb, i + 1, n, _, _, _, rfl, ⟨I1.xh, I1.xt.mut I1.gt I1.ht rfl rfl rfl, I1.gd.mut I1.ht rfl rfl rfl, I1.gt, I1.gl, I1.ne, by rw [upd_same, List.map_append]; rfl, by rw [upd_ne I1.ne.symm]; exact I1.hl, I1.ga, I1.hd⟩, hlt', by omega, rfl, by simp; omega, by omega, ?_⟩
      rw [hP]
      simp
    · have hr : isRef t = true := by simpa using hb
      rw [parseT_yes hr] at hP
      refine q_setO I1.gd evo_dnew rfl rfl fun tb htb => ?_
      have gtb : Gd (upd H1 tb (.dK [])) := I1.gd.new htb rfl rfl
      have ntt : lt ≠ tb := ne_of_none I1.ht htb
      have ntl : ll ≠ tb := ne_of_none I1.hl htb
      have hGb : G1 tb = none := I1.xt.free htb
      refine q_while (fun m σ' H2 => ∃ (G2 : Hp) (R : List (Str × Str)) (lc : Addr) (j : Nat), σ' = [some (.ref a), some (.ref lt), some (.ref ll), some (.ref lc), some (.str t), some (.ref tb), o6] ∧ InvL K H G2 H2 lt ll lc Td (ws.drop j) xs L ∧ G2 tb = none ∧ H2 tb = some (.dK (kvS (firstR R))) ∧
          i + 1 ≤ j ∧ j ≤ ws.length ∧ 3 * R.length ≤ j ∧ m = ws.length - j ∧ takeRd (ws.drop (i + 1)) = (R ++ (takeRd (ws.drop j)).1, (takeRd (ws.drop j)).2)) (ws.length - (i + 1))
        ⟨G1, [], lb, i + 1, rfl, ⟨I1.xh, I1.xt.trans (Xt.new htb rfl rfl), gtb, I1.gt, I1.gl, I1.ne, by rw [upd_ne ntt]; exact I1.ht, by rw [upd_ne ntl]; exact I1.hl, I1.ga, I1.hd⟩, hGb, upd_same, Nat.le_refl _, hlt', Nat.zero_le _, rfl, rfl⟩ ?_
      rintro m σ' H2 ⟨G2, R, lc, j, rfl, I2, hG2, htb2, hij, hj, h3R, rfl, hT⟩
      have hlc : H2 lc = some (.lst ((ws.drop j).map V.str)) := I2.xt.1 _ _ I2.ga
      have hRl : (firstR R).length < 64 := by have := firstR_len R; omega
      have it : ∀ (k : Nat) (x : Str), (ws.drop j)[k]? = some x → Ev (tOp (rIx K) (tVar 3) (tC (.int (k : Int)))) [some (.ref a), some (.ref lt), some (.ref ll), some (.ref lc), some (.str t), some (.ref tb), o6] H2 (.str x) := fun k x h => ev_op (ev_var rfl) ev_c (rv_ixL (K := K) (.inl (.inl hlc)) (atI_strs h))
      have hlen : Ev (tCB (rcOr (rLenS K) (rcOr rLenT rLenD)) (tCons (tVar 3) tNil)) [some (.ref a), some (.ref lt), some (.ref ll), some (.ref lc), some (.str t), some (.ref tb), o6] H2 (.int ((ws.drop j).length : Int)) := ev_is (ev_lenS (K := K) (ev_var rfl) (.inl (.inl (.inl hlc)))) (by rw [List.length_map])
      refine ⟨I2.gd, isRd (ws.drop j), ?_, fun hb => ?_, fun hb => ?_⟩
      · by_cases h3j : 2 < (ws.drop j).length
        · obtain ⟨b0, b1, b2, r, hshape⟩ : ∃ b0 b1 b2 r, ws.drop j = b0 :: b1 :: b2 :: r := by
            match e : ws.drop j, h3j with
            | b0 :: b1 :: b2 :: r, _ => exact ⟨b0, b1, b2, r, rfl⟩
          have t1 := hsub j b1 (by rw [hshape]; simp)
          have t2 := hsub j b2 (by rw [hshape]; simp)
          have e0 := it 0 b0 (by rw [hshape]; rfl)
          have e1 := it 1 b1 (by rw [hshape]; rfl)
          have e2 := it 2 b2 (by rw [hshape]; rfl)
          refine et_is (et_and (a := true) (et_is (et_test (ev_op hlen ev_c rv_gtI)) (decide_eq_true (by omega))) fun _ => et_and (et_test (ev_op e0 ev_c (rv_eq rfl))) fun _ => et_and (et_tru (ev_call (ea_cons e1 ea_nil) fun H3 e3 Q q E => ⟨b1, rfl, e3.2 I2.gd, ⟨t1.len, t1.ne⟩, q H3 (.refl H3)⟩)) fun _ => et_tru (ev_call (ea_cons e2 ea_nil) fun H3 e3 Q q E => ⟨b2, rfl, e3.2 I2.gd, ⟨t2.len, t2.ne⟩, q H3 (.refl H3)⟩)) ?_
          rw [hshape, t1.let_, t2.let_]
          show (true && (decide (V.str b0 = V.str "as") && (isWord b1 && isWord b2))) = (decide (b0 = "as") && (isWord b1 && isWord b2))
          rw [Bool.true_and]
          congr 1
          simp
        · have hno : isRd (ws.drop j) = false := by
            cases e : isRd (ws.drop j) with
            | false => rfl
            | true =>
              obtain ⟨b0, b1, b2, r, e'⟩ := isRd_shape e
              rw [e'] at h3j
              simp at h3j
          rw [hno]
          exact et_is (et_and (a := false) (b := true) (et_is (et_test (ev_op hlen ev_c rv_gtI)) (decide_eq_false (by omega))) fun z => nomatch z) rfl
      · obtain ⟨b0, b1, b2, r, hshape⟩ := isRd_shape hb
        have h3j : 2 < (ws.drop j).length := by rw [hshape]; simp
        have hdr3 : ws.drop (j + 3) = r := by rw [← List.drop_drop, hshape]; rfl
        have e1 := it 1 b1 (by rw [hshape]; rfl)
        have e2 := it 2 b2 (by rw [hshape]; rfl)
        rw [hshape] at hb
        have hj3 : j + 3 ≤ ws.length := by rw [List.length_drop] at h3j; omega
        refine ⟨_, fun _ _ h => h, ?_⟩
        refine q_dsetd I2.gd (ev_var rfl) (k := Sum.inr b1) e1 e2 htb2 (by unfold kvS; rw [List.length_map]; omega) ?_
        have ekv : (if (valV (kvS (firstR R)) (Sum.inr b1)).isSome = true then kvS (firstR R) else putK (kvS (firstR R)) (Sum.inr b1) (.str b2)) = kvS (firstR (R ++ [(b1, b2)])) := by
          rw [valV_kvS, Option.isSome_map, firstR_snoc, putK_kvS]
          split <;> rfl
        rw [ekv]
        have g3 : Gd (upd H2 tb (.dK (kvS (firstR (R ++ [(b1, b2)]))))) := I2.gd.mut htb2 rfl rfl rfl
        have nct : lc ≠ tb := ne_of_none I2.ga hG2
        have hlc3 : (upd H2 tb (.dK (kvS (firstR (R ++ [(b1, b2)]))))) lc = some (.lst ((ws.drop j).map V.str)) := by rw [upd_ne nct]; exact hlc
        have I3 : InvL K H G2 (upd H2 tb (.dK (kvS (firstR (R ++ [(b1, b2)]))))) lt ll lc Td (ws.drop j) xs L := ⟨I2.xh, I2.xt.mut hG2 htb2 rfl rfl rfl, g3, I2.gt, I2.gl, I2.ne, by rw [upd_ne (ne_of_none I1.ht htb)]; exact I2.ht, by rw [upd_ne (ne_of_none I1.hl htb)]; exact I2.hl, I2.ga, I2.hd⟩
        refine s_setO g3 (evo_drop (n := 3) (ev_var rfl) (.inl (.inl hlc3)) (ep_some ev_c) ep_none) rfl rfl fun ld hld => ?_
        have ed : ((ws.drop j).map V.str).drop 3 = (ws.drop (j + 3)).map V.str := by rw [← List.map_drop, List.drop_drop]
        rw [ed]
        have ndt : tb ≠ ld := ne_of_none (upd_same : (upd H2 tb (.dK (kvS (firstR (R ++ [(b1, b2)]))))) tb = _) hld
        refine ⟨ws.length - (j + 3), by omega, _, R ++ [(b1, b2)], ld, j + 3, rfl, I3.cut hld, by rw [upd_ne ndt]; exact hG2, by rw [upd_ne ndt, upd_same], by omega, hj3, by rw [List.length_append]; show 3 * (R.length + 1) ≤ _; omega, rfl, ?_⟩
        rw [hT, hshape, takeRd_yes hb, hdr3]
        simp
      · have hTn : takeRd (ws.drop (i + 1)) = (R, ws.drop j) := by rw [hT, takeRd_no hb, List.append_nil]
        rw [hTn] at hP
        have glt : lt ≠ tb := ntt
        refine q_app I2.gd I2.ht (ev_var rfl) ev_c (by rw [List.length_map]; omega) ?_
        have g4 : Gd (upd H2 lt (.lst (Td.map V.str ++ [V.str "&"]))) := I2.gd.mut I2.ht rfl rfl rfl
        refine q_set g4 (ev_goal (i := 4) rfl tok.len tok.ne) ?_
        have hl4 : (upd H2 lt (.lst (Td.map V.str ++ [V.str "&"]))) ll = some (.lst xs) := by rw [upd_ne I2.ne.symm]; exact I2.hl
        have hxl : xs.length = L.length := Paired.length I2.hd
        refine s_appN g4 hl4 (ev_var rfl) (evn_tup (ea_cons (ev_var rfl) (ea_cons (ev_var rfl) ea_nil)) (show 2 ≤ 100000 by decide)) (by omega) fun p u hp hu _ _ => ?_
        obtain ⟨o, rfl⟩ := hu
        have np : ∀ {x o}, H2 x = some o → x ≠ p := fun {x o} h e => by
          subst e
          by_cases h2 : x = lt
          · subst h2; rw [upd_same] at hp; cases hp
          · rw [upd_ne h2, h] at hp; cases hp
        have hpG2 : G2 p = none := by
          cases e : G2 p with
          | none => rfl
          | some o => exact absurd rfl (np (I2.xt.1 _ _ e))
        have ntp : tb ≠ p := np htb2
        have xG : Xt G2 (upd (upd G2 tb (.dK (kvS (firstR R)))) p (.frz o (.tup [gV (ledTo t), .ref tb]))) := (Xt.new hG2 rfl rfl).trans (Xt.new (by rw [upd_ne (Ne.symm ntp)]; exact hpG2) rfl rfl)
        refine ⟨ws.length - j, by omega, upd (upd G2 tb (.dK (kvS (firstR R)))) p (.frz o (.tup [gV (ledTo t), .ref tb])), Td ++ [("&" : Str)], xs ++ [.ref p], L ++ [(ledTo t, firstR R)], lc, j, n, _, _, _, rfl, ⟨I2.xh.trans xG, ⟨fun x o hx => ?_, fun _ => ?_⟩, ?_, ?_, ?_, I2.ne, ?_, ?_, ?_, ?_⟩, hj, by omega, rfl, by rw [List.length_append]; show Td.length + 1 ≤ j; omega, by rw [List.length_append]; show L.length + 1 ≤ j; omega, by rw [hP]; simp⟩
        · by_cases n1 : x = p
          · subst n1
            rw [upd_same] at hx
            rw [upd_ne (Ne.symm (np I2.hl)), upd_same]; exact hx
          · rw [upd_ne n1] at hx
            by_cases n2 : x = tb
            · subst n2
              rw [upd_same] at hx
              rw [upd_ne (Ne.symm ntl), upd_ne n1, upd_ne (Ne.symm ntt), htb2]; exact hx
            · rw [upd_ne n2] at hx
              rw [upd_ne (ne_of_none hx I2.gl), upd_ne n1, upd_ne (ne_of_none hx I2.gt)]; exact I2.xt.1 _ _ hx
        · exact (g4.new hp rfl rfl).mut (by rw [upd_ne (np I2.hl)]; exact hl4) rfl rfl rfl
        · exact (g4.new hp rfl rfl).mut (by rw [upd_ne (np I2.hl)]; exact hl4) rfl rfl rfl
        · rw [upd_ne (np I2.ht), upd_ne ntt]; exact I2.gt
        · rw [upd_ne (np I2.hl), upd_ne ntl]; exact I2.gl
        · rw [upd_ne I2.ne, upd_ne (np I2.ht), upd_same, List.map_append]; rfl
        · exact upd_same
        · rw [upd_ne (np (I2.xt.1 _ _ I2.ga)), upd_ne (ne_of_none I2.ga hG2)]; exact I2.ga
        · exact paired_app (paired_mono leadAt_mono xG I2.hd) (.cons ⟨p, tb, rfl, .inl (.inr ⟨o, upd_same⟩), by rw [upd_ne ntp, upd_same]⟩ .nil)
  · have hnil : ws.drop i = [] := by
      cases e : ws.drop i with
      | nil => rfl
      | cons x r => rw [e] at hb; cases hb
    rw [hnil, parseT_nil, List.append_nil, List.append_nil] at hP
    rw [hP] at q
    refine s_retX (P := fun v H2 => ∃ p u, v = .ref p ∧ Xt H' H2 ∧ H2 p = some u ∧ IsTup [.ref lt, .ref ll] u) (fun Q q => evn_tup (ea_cons (ev_var rfl) (ea_cons (ev_var rfl) ea_nil)) (show 2 ≤ 100000 by decide) H' (.refl H') Q fun p H2 u hp e2 h2 hu _ _ => q _ H2 e2 ⟨p, u, rfl, e2, h2, hu⟩) fun v H2 e2 ⟨p, u, ev, _, h2, hu⟩ => ?_
    subst ev
    have x : Xt H H2 := (I.xh.trans I.xt).trans e2
    exact ⟨H2, Shr.refl e2 I.gd, H2, Shr.refl x gd, q p lt _ H2 x (isTup_sq h2 hu) (e2.1 _ _ I.ht) ⟨ll, xs, rfl, e2.1 _ _ I.hl, paired_mono leadAt_mono (I.xt.trans e2) I.hd⟩⟩
end

end Z
namespace Z
open PySem PySem.Spec PyProof.Rows L2 M TL
/-! ## tables -/
def getS (d : List (Str × Str)) (w : Str) : Str := (look d w).getD w
def thenStep (inner outer : List (Str × Str)) (acc : List (Str × Str)) (w : Str) : List (Str × Str) := if getS outer (getS inner w) = w then acc else putS acc w (getS outer (getS inner w))
def thenS (inner outer : List (Str × Str)) : List (Str × Str) := (inner.map (·.1) ++ outer.map (·.1)).foldl (thenStep inner outer) []
def allPairs (dk : List (Str × Str)) : List (Str × Str) := (sortS (dk.map (·.1))).map fun k => (k, (look dk k).getD "")
def spThen (K : PySem.W.Frag) : Sp := fun vs H Q _ => ∃ (a b : Addr) (inner outer : List (Str × Str)), vs = [.ref a, .ref b] ∧ Gd H ∧ H a = some (.dK (kvS inner)) ∧ H b = some (.dK (kvS outer)) ∧ inner.length < 64 ∧ outer.length < 64 ∧ ∀ p, H p = none → Q (.ref p) (upd H p (.dK (kvS (thenS inner outer))))
def spPairs (K : PySem.W.Frag) : Sp := fun vs H Q _ => ∃ (a : Addr) (dk : List (Str × Str)), vs = [.ref a] ∧ Gd H ∧ H a = some (.dK (kvS dk)) ∧ dk.length < 64 ∧ RetPs K H Q (allPairs dk)
theorem fold_len (inner outer : List (Str × Str)) : ∀ (ws : List Str) (acc : List (Str × Str)), (ws.foldl (thenStep inner outer) acc).length ≤ acc.length + ws.length
  | [], acc => by simp
  | w :: r, acc => by
    have h := fold_len inner outer r (thenStep inner outer acc w)
    have h2 : (thenStep inner outer acc w).length ≤ acc.length + 1 := by
      unfold thenStep
      split
      · omega
      · exact len_put
    rw [List.foldl_cons, List.length_cons]; omega
theorem getS_get (d : List (Str × Str)) (w : Str) : ((valV (kvS d) (Sum.inr w : Key)).getD (.str w)) = .str (getS d w) := by
  rw [valV_kvS]
  unfold getS
  cases look d w <;> rfl
section
variable {P : Program} {w : World} {K : PySem.W.Frag} {mg : Str → Option Value} {base : Heap} {kw : Addr}
theorem ok_then {f : Addr} {fd : FuncData} (F : Fun K "_law_then" "_law_then" s__law_then f fd) (T : Txt0 K mg kw) : FnOk P w K mg base CX0 1 f fd ["inner", "outer"] (spThen K) := by
  refine okS F sc__law_then (fun vs H Q E h => by obtain ⟨v, d, m, n, rfl, _⟩ := h; rfl) (fun cdv A outer s H vs Q E hr h => ?_)
  obtain ⟨a, b, inner, outer, rfl, gd, ha, hb, za, zb, q⟩ := h
  refine ⟨_, (pss_cons (ps_sh (ps_set (i := 2) sc__law_then.nd rfl (Or.inl rfl) pe_dnewK))
    (pss_cons (ps_for PassesOwn.never rfl (pi_sh (pi_seqK (K := K) rfl (pe_op (op_addK (K := K) rfl) (pe_callTy (call_listK (K := K) rfl rfl) (by rfl) T.n_list (by decide +kernel) (pa_cons (pv 0) pa_nil)) (pe_callTy (call_listK (K := K) rfl rfl) (by rfl) T.n_list (by decide +kernel) (pa_cons (pv 1) pa_nil))))) (pg_name (i := 3) sc__law_then.nd rfl (Or.inl rfl))
        (pss_cons (ps_sh (ps_set (i := 4) sc__law_then.nd rfl (Or.inl rfl) (pe_dget2 (hu_of hr) (pv 0) (pv 3) (pv 3) ⟨rfl, rfl, rfl, rfl⟩)))
        (pss_cons (ps_sh (ps_set (i := 4) sc__law_then.nd rfl (Or.inl rfl) (pe_dget2 (hu_of hr) (pv 1) (pv 4) (pv 4) ⟨rfl, rfl, rfl, rfl⟩)))
        (pss_one (ps_if (pt_sh (pt_cmpR (op_neK (K := K) rfl hr.units) (pv 4) (pv 3) (nomark _)))
            (pss_one (ps_sh (ps_dput (hu_of hr) (pv 2) (pv 3) (pv 4) rfl)))
            pss_nil)))))
    (pss_one (ps_sh (ps_ret (pv 2)))))), ?_⟩
  refine q_setO gd evo_dnew rfl rfl fun t ht => ?_
  have nat : a ≠ t := ne_of_none ha ht
  have nbt : b ≠ t := ne_of_none hb ht
  have g1 : Gd (upd H t (.dK [])) := gd.new ht rfl rfl
  have e0 : (inner.map (·.1)).map V.str ++ (outer.map (·.1)).map V.str = (inner.map (·.1) ++ outer.map (·.1)).map V.str := by rw [List.map_append]
  have ec := evo_catO (r1 := rAddI) (r2 := rAddS) (r3 := rCatT K) (σ := List.set (L2.start N__law_then [.ref a, .ref b]) 2 (some (.ref t))) (H := upd H t (.dK [])) (evo_listD (K := K) (ta := tVar 0) (a := a) (dk := inner) (ev_var rfl) (by rw [upd_ne nat]; exact ha)) (evo_listD (K := K) (ta := tVar 1) (a := b) (dk := outer) (ev_var rfl) (by rw [upd_ne nbt]; exact hb)) (by simp only [List.length_map]; omega)
  rw [e0] at ec
  refine q_forO g1 ec (fun p i σ' H' => p ≠ t ∧ H p = none ∧ H' = upd (upd H p (.lst ((inner.map (·.1) ++ outer.map (·.1)).map V.str))) t (.dK (kvS (((inner.map (·.1) ++ outer.map (·.1)).take i).foldl (thenStep inner outer) []))) ∧ ∃ o1 o2 : Option V, σ' = [some (.ref a), some (.ref b), some (.ref t), o1, o2]) (fun p hp => ?_) (fun p i σ' H' hi h => ?_) ?_ ?_
  · have npt : p ≠ t := fun e => by subst e; rw [upd_same] at hp; cases hp
    rw [upd_ne npt] at hp
    refine ⟨npt, hp, ?_, none, none, rfl⟩
    rw [upd_comm (Ne.symm npt)]; rfl
  · obtain ⟨npt, hp, rfl, _⟩ := h
    exact .inl (.inl (by rw [upd_ne npt, upd_same]))
  · rintro p i x σ' H' hx ⟨npt, hp, rfl, o1, o2, rfl⟩
    rw [List.getElem?_map] at hx
    cases hwi : (inner.map (·.1) ++ outer.map (·.1))[i]? with
    | none => rw [hwi] at hx; cases hx
    | some wd =>
      rw [hwi] at hx
      cases hx
      have g2 : Gd (upd (upd H p (.lst ((inner.map (·.1) ++ outer.map (·.1)).map V.str))) t (.dK (kvS (((inner.map (·.1) ++ outer.map (·.1)).take i).foldl (thenStep inner outer) [])))) := (gd.new hp rfl rfl).new (by rw [upd_ne (Ne.symm npt)]; exact ht) rfl rfl
      have nap : a ≠ p := ne_of_none ha hp
      have nbp : b ≠ p := ne_of_none hb hp
      have htk : (inner.map (·.1) ++ outer.map (·.1)).take (i + 1) = (inner.map (·.1) ++ outer.map (·.1)).take i ++ [wd] := by rw [List.take_add_one, hwi]; rfl
      show tSeq _ _ _ _ _
      refine q_set g2 (ev_is (ev_dget2 (k := Sum.inr wd) (z := .str wd) (kvs := kvS inner) (ev_var rfl) (ev_var rfl) (ev_var rfl) (by rw [upd_ne nat, upd_ne nap]; exact ha)) (getS_get inner wd)) ?_
      refine q_set g2 (ev_is (ev_dget2 (k := Sum.inr (getS inner wd)) (z := .str (getS inner wd)) (kvs := kvS outer) (ev_var rfl) (ev_var rfl) (ev_var rfl) (by rw [upd_ne nbt, upd_ne nbp]; exact hb)) (getS_get outer _)) ?_
      refine s_when (b := !decide (getS outer (getS inner wd) = wd)) g2 (et_is (et_test (ev_op (ev_var rfl) (ev_var rfl) (rv_ne rfl))) (by simp)) (fun hb' => ?_) fun hb' => ?_
      · have hne : ¬ getS outer (getS inner wd) = wd := by simpa using hb'
        refine s_dput g2 (ev_var rfl) (ev_var rfl) (k := Sum.inr wd) (ev_var rfl) upd_same ?_ ⟨npt, hp, ?_, _, _, rfl⟩
        · unfold kvS
          rw [List.length_map]
          have := fold_len inner outer ((inner.map (·.1) ++ outer.map (·.1)).take i) []
          have h2 : ((inner.map (·.1) ++ outer.map (·.1)).take i).length ≤ 128 := by
            rw [List.length_take, List.length_append, List.length_map, List.length_map]; omega
          simp only [List.length_nil] at this
          omega
        · rw [upd_upd, htk, List.foldl_append, putK_kvS]
          congr 2
          show _ = kvS (thenStep inner outer _ wd)
          unfold thenStep
          rw [if_neg hne]
      · have he : getS outer (getS inner wd) = wd := by simpa using hb'
        refine ⟨npt, hp, ?_, _, _, rfl⟩
        rw [htk, List.foldl_append]
        congr 2
        show _ = kvS (thenStep inner outer _ wd)
        unfold thenStep
        rw [if_pos he]
  · rintro p σ' H' ⟨npt, hp, rfl, o1, o2, rfl⟩
    rw [List.length_map, List.take_length]
    have g2 : Gd (upd (upd H p (.lst ((inner.map (·.1) ++ outer.map (·.1)).map V.str))) t (.dK (kvS (thenS inner outer)))) := (gd.new hp rfl rfl).new (by rw [upd_ne (Ne.symm npt)]; exact ht) rfl rfl
    refine s_ret g2 (ev_var rfl) ⟨upd H t (.dK (kvS (thenS inner outer))), ?_, q t ht⟩
    rw [upd_comm npt]
    refine Xt.backN (H := H) (H' := upd (upd H t (.dK (kvS (thenS inner outer)))) p _) ((Xt.new ht rfl rfl).trans (Xt.new (by rw [upd_ne npt]; exact hp) rfl rfl)) gd ht (by rw [upd_ne (Ne.symm npt), upd_same]) rfl rfl
theorem ok_pairs {f : Addr} {fd : FuncData} (F : Fun K "_law_pairs" "_law_pairs" s__law_pairs f fd) (T : Txt0 K mg kw) : FnOk P w K mg base CX0 1 f fd ["table"] (spPairs K) := by
  refine okS F sc__law_pairs (fun vs H Q E h => by obtain ⟨v, d, rfl, _⟩ := h; rfl) (fun cdv A outer s H vs Q E hr h => ?_)
  obtain ⟨a, dk, rfl, gd, hH, hz, q⟩ := h
  refine ⟨_, (pss_one (ps_sh (ps_ret (pe_callTy (call_tupK (K := K) rfl) (by rfl) T.n_tuple (by decide +kernel) (pa_cons (pe_lc (own := [("word", 1)]) rfl sc__law_pairs.nd (pi_seqK (K := K) rfl (pe_callB (call_sortedK (K := K) rfl rfl) (by rfl) T.n_sorted (by decide +kernel) (pa_cons (pv 0) pa_nil))) (blkOk_by (own := [("word", 1)]) (N := N__law_pairs) (sc := defScope s__law_pairs) (by decide +kernel)) (fun _ _ _ _ _ => (pg_name (i := 1) sc__law_pairs.nd rfl (Or.inl rfl))) (fun _ _ _ _ _ => pts_nil) (fun _ _ _ _ _ => (pe_tupF (pa_cons (pv 1) (pa_cons (pe_dget (hu_of hr) (pv 0) (pv 1) (fun _ _ => rfl)) pa_nil))))) pa_nil))))), ?_⟩
  have e1 := evl_lc1 (K := K) (σ := L2.start N__law_pairs [.ref a]) (H := H) (te := tTupF (tCons (tVar 1) (tCons (tDGet (tVar 0) (tVar 1)) tNil))) (j := 1) (vs := [1]) relD_mono
    (fun k => encP (k, (look dk k).getD "")) (ei_O (ws := sortS (dk.map (·.1))) (te := tCB (rcOr (rSortedS K) rSortD) (tCons (tVar 0) tNil)) (evo_sortD (ev_var rfl) hH hz)) (by
      rw [(sortS_perm _).length_eq, List.length_map]; omega) (fun z => rfl) fun k hk x H1 e hx => by
      obtain rfl := DpT.str_ hx
      have hl := find_of_look (sortS_mem.mp hk)
      have hv : valV (kvS dk) (Sum.inr k : Key) = some (.str ((look dk k).getD "")) := by rw [valV_kvS, hl]; rfl
      have hg : Ev (tDGet (tVar 0) (tVar 1)) ((wipe (L2.start N__law_pairs [.ref a]) [1]).set 1 (some (.str k))) H1 (.str ((look dk k).getD "")) := ev_dget (k := Sum.inr k) (ev_var rfl) (ev_var rfl) (e.1 _ _ hH) hv
      exact (evf_tup (ead_cons (ev_var rfl : Ev (tVar 1) _ _ (.str k)).dStr (ead_cons hg.dStr ead_nil)) (show 2 ≤ 100000 by decide)).toD
  have e2 : (sortS (dk.map (·.1))).map (fun k => encP (k, (look dk k).getD "")) = (allPairs dk).map encP := by
    unfold allPairs
    rw [List.map_map]
    rfl
  rw [e2] at e1
  exact s_retF gd (evf_tupL e1) fun p ys H' tx hf hd => ⟨H', Shr.refl tx.xt gd, q p ys H' tx hf hd⟩
theorem evo_then {σ : L2.St} {H : Hp} {ta tb : TE} {a : Addr} {inner : List (Str × Str)} (gd : Gd H) (ha : Ev ta σ H (.ref a)) (h : H a = some (.dK (kvS inner))) (hb : EvO tb σ H (.dK [])) (hz : inner.length < 64) : EvO (tCall (spThen K) [] E0 (tCons ta (tCons tb tNil))) σ H (.dK (kvS (thenS inner []))) := fun H1 e Q q =>
  ha H1 e _ fun H2 e2 => hb H2 (e.trans e2) _ fun b H3 hb3 e3 h3 => ⟨a, b, inner, [], rfl, ((e.trans e2).trans e3).2 gd, ((e.trans e2).trans e3).1 _ _ h, h3, hz, by decide, fun p hp => q p _ ((e2.trans e3).free hp) ((e2.trans e3).trans (Xt.new hp rfl rfl)) upd_same⟩
theorem evf_pairsO {σ : L2.St} {H : Hp} {ta : TE} {dk : List (Str × Str)} (gd : Gd H) (ha : EvO ta σ H (.dK (kvS dk))) (hz : dk.length < 64) : EvF K (tCall (spPairs K) [] E0 (tCons ta tNil)) σ H ((allPairs dk).map encP) := fun H1 e Q q =>
  ha H1 e _ fun a H2 h2 e2 h3 => ⟨a, dk, rfl, (e.trans e2).2 gd, h3, hz, fun p ys H' tx hf hd => q p ys H' (e2.trans tx.xt) hf hd⟩
end
/-! plainly -/
theorem fold_plain (g : Str → Str) : ∀ (ws : List Str) (acc : List (Str × Str)), ws.Nodup → (∀ w ∈ ws, w ∉ acc.map (·.1)) → ws.foldl (fun acc w => if g w = w then acc else putS acc w (g w)) acc = acc ++ (ws.filter fun w => !decide (g w = w)).map fun w => (w, g w)
  | [], acc, _, _ => by simp
  | w :: r, acc, hn, hd => by
    rw [List.nodup_cons] at hn
    rw [List.foldl_cons]
    by_cases h : g w = w
    · rw [if_pos h, fold_plain g r acc hn.2 fun x hx => hd x (List.mem_cons_of_mem _ hx), List.filter_cons, if_neg (by simp [h])]
    · have hw := hd w (List.mem_cons_self ..)
      have e : putS acc w (g w) = acc ++ [(w, g w)] := by
        unfold putS
        rw [look_any, if_neg (fun z => hw (look_mem.mp z))]
      rw [if_neg h, e, fold_plain g r _ hn.2 fun x hx hm => ?_, List.filter_cons, if_pos (by simp [h]), List.map_cons, List.append_assoc]
      · rfl
      · rw [List.map_append, List.mem_append] at hm
        rcases hm with hm | hm
        · exact hd x (List.mem_cons_of_mem _ hx) hm
        · simp at hm; subst hm; exact hn.1 hx
theorem sortS_filter (p : Str → Bool) (l : List Str) : sortS (l.filter p) = (sortS l).filter p :=
  List.Perm.eq_of_pairwise (le := fun a b => leS a b = true) (fun a b _ _ => leS_antisymm) (sortS_pair _) ((sortS_pair l).filter p) ((sortS_perm _).trans ((sortS_perm l).filter p).symm)
theorem pairs_then {tab : List (Str × Str)} (h : (tab.map (·.1)).Nodup) : allPairs (thenS tab []) = pairsOf tab := by
  have e1 : thenS tab [] = ((tab.map (·.1)).filter fun w => !decide (getS tab w = w)).map fun w => (w, getS tab w) := by
    unfold thenS
    rw [List.map_nil, List.append_nil]
    exact (fold_plain (getS tab) (tab.map (·.1)) [] h (fun _ _ h => nomatch h)).trans (List.nil_append _)
  have ek : (thenS tab []).map (·.1) = (tab.map (·.1)).filter fun w => !decide (getS tab w = w) := by
    rw [e1, List.map_map]
    exact List.map_id _
  have eg : ∀ k ∈ tab.map (·.1), getS tab k = (look tab k).getD "" := fun k hk => by
    unfold getS
    rw [find_of_look hk]; rfl
  unfold allPairs pairsOf changed
  rw [ek, sortS_filter]
  have ef : (sortS (tab.map (·.1))).filter (fun w => !decide (getS tab w = w)) = (sortS (tab.map (·.1))).filter fun k => !decide ((look tab k).getD "" = k) := List.filter_congr fun k hk => by rw [eg k (sortS_mem.mp hk)]
  rw [ef]
  refine List.map_congr_left fun k hk => ?_
  obtain ⟨hk1, hk2⟩ := List.mem_filter.mp hk
  have hk3 := sortS_mem.mp hk1
  have hkm : (k, getS tab k) ∈ thenS tab [] := by
    rw [e1]
    exact List.mem_map.mpr ⟨k, List.mem_filter.mpr ⟨hk3, by rw [eg k hk3]; exact hk2⟩, rfl⟩
  rw [look_of_mem (by rw [ek]; exact h.filter _) hkm, eg k hk3]
  rfl

end Z
namespace Z
open PySem PySem.Spec PyProof.Rows L2 M TL
/-! ## references compared -/
structure TxtC (K : PySem.W.Frag) (mg : Str → Option Value) (kw C : Addr) : Prop extends Txt0 K mg kw where
  c_WordMap : mg "WordMap" = some (.ref C)
  i1 : PySem.W.findIn K (.ref C) "__class__" = some (some (.builtin "object.__class__"))
  i2 : PySem.W.specialIn K (.builtin "object.__class__") "__get__" = some (some (.builtin "getset_descriptor.__get__"))
  i3 : PySem.W.takesIn K (.builtin "object.__class__") = some true
  i4 : PySem.W.mroIn K C (.type "object") = some true
structure LeadOk (r : Option Str × List (Str × Str)) : Prop where
  len : r.2.length < 64
  nd : (r.2.map (·.1)).Nodup
  so : ∀ p ∈ r.2, PyData.strOk p.1 = true ∧ PyData.strOk p.2 = true
  sg : ∀ s, r.1 = some s → PyData.strOk s = true
theorem pairsOf_mem {tab : List (Str × Str)} {p : Str × Str} (h : p ∈ pairsOf tab) : p ∈ tab := by
  unfold pairsOf changed at h
  obtain ⟨k, hk, rfl⟩ := List.mem_map.mp h
  have hk2 := sortS_mem.mp (List.mem_filter.mp hk).1
  have hf := find_of_look hk2
  have key : ∀ {l : List (Str × Str)} {v : Str}, look l k = some v → (k, v) ∈ l := by
    intro l v hl
    induction l with
    | nil => cases hl
    | cons q r ih =>
      rw [look_cons] at hl
      by_cases h : q.1 = k
      · rw [if_pos h] at hl
        cases hl
        subst h
        exact List.mem_cons_self ..
      · rw [if_neg h] at hl
        exact List.mem_cons_of_mem _ (ih hl)
  exact key hf
theorem pairsOf_len (tab : List (Str × Str)) : (pairsOf tab).length ≤ tab.length := by
  unfold pairsOf changed
  rw [List.length_map]
  refine Nat.le_trans (List.length_filter_le _ _) ?_
  rw [(sortS_perm _).length_eq, List.length_map]
  exact Nat.le_refl _
theorem plD_pairs {ps : List (Str × Str)} (hz : ps.length ≤ 40000) (h : ∀ p ∈ ps, PyData.strOk p.1 = true ∧ PyData.strOk p.2 = true) : plD 2 (.tuple (ps.map encP)) := ⟨by rw [List.length_map]; exact hz, fun d hd => by
  obtain ⟨p, hp, rfl⟩ := List.mem_map.mp hd
  refine ⟨show 2 ≤ 40000 by decide, fun d hd => ?_⟩
  rcases List.mem_cons.mp hd with rfl | hd
  · exact (h p hp).1
  · rcases List.mem_cons.mp hd with rfl | hd
    · exact (h p hp).2
    · cases hd⟩
def spAreRefs (K : PySem.W.Frag) (C : Addr) : Sp := fun vs H Q _ => ∃ (v u : V) (L : List (Option Str × List (Str × Str))), vs = [v, u] ∧ Gd H ∧ RefsAt K C H v (L.map finL) ∧ LeadsAt K H u L ∧ L.length ≤ 1000 ∧ (∀ r ∈ L, LeadOk r) ∧ Q (.bl true) H
section
variable {P : Program} {w : World} {K : PySem.W.Frag} {mg : Str → Option Value} {base : Heap} {kw C : Addr}
theorem ev_isiTp {σ : L2.St} {H : Hp} {ta : TE} {T : String} {b : Bool} {p : Addr} {xs : List V} (ha : Ev ta σ H (.ref p)) (hp : SqT K H p xs) (hb : kitB "tuple" T = some b) : Ev (tCB (rcOr (rIsi K) (rIsiT K)) (tCons ta (tCons (tC (.ty T)) tNil))) σ H (.bl b) := fun H1 e Q q =>
  ha H1 e _ fun H2 e2 => .inl ⟨_, .ty T, _, _, b, rfl, .ty T, tyX_t (xt_t (e.trans e2) hp), kit_ty hb, q H2 e2⟩
theorem kit_own (C : Addr) : PySem.W.kitOne K (.ref C) (.ref C) = some true := by
  unfold PySem.W.kitOne
  rw [if_pos (by simp)]
theorem ev_isiW {σ : L2.St} {H : Hp} {ta : TE} {x : Addr} {ps : List (Str × Str)} (T : TxtC K mg kw C) (W : WTxt K C) (ha : Ev ta σ H (.ref x)) (hw : WMat K C H x ps) : Ev (tCB (rcOr (rIsi K) (rIsiT K)) (tCons ta (tCons (tC (.ref C)) tNil))) σ H (.bl true) := fun H1 e Q q =>
  ha H1 e _ fun H2 e2 => by
    obtain ⟨dx, a, ys, fs, h1, h2, h3, h4⟩ := hw.xt (e.trans e2)
    exact .inl ⟨_, .ref C, _, _, true, rfl, .own C, .base (.ins h1 W.cl T.i1 T.i2 T.i3 T.i4), kit_own C, q H2 e2⟩
theorem ok_are_references {f : Addr} {fd : FuncData} (F : Fun K "_law_are_references" "_law_are_references" s__law_are_references f fd) (T : TxtC K mg kw C) (W : WTxt K C) (C__law_same_tuple : Callee P w K mg base "_law_same_tuple" 4 ["told", "wanted"] [] (spSame K)) (C__law_pairs : Callee P w K mg base "_law_pairs" 1 ["table"] [] (spPairs K)) (C__law_then : Callee P w K mg base "_law_then" 1 ["inner", "outer"] [] (spThen K)) :
    FnOk P w K mg base CX0 5 f fd ["actual", "leads"] (spAreRefs K C) := by
  refine okS F sc__law_are_references (fun vs H Q E h => by obtain ⟨v, d, m, rfl, _⟩ := h; rfl) (fun cdv A outer s H vs Q E hr h => ?_)
  obtain ⟨v, u, L, rfl, gd, ⟨a, ys, rfl, hf, hp⟩, ⟨ll, xs, rfl, hl, hq⟩, hz, hok, q⟩ := h
  refine ⟨_, (pss_cons (ps_if (pt_sh (PW.pt (pw_or (pt_not (pt_truthK (K := K) rfl (pe_callB (call_isiK2 (K := K) rfl) (by rfl) T.n_isinstance (by decide +kernel) (pa_cons (pv 0) (pa_cons (pe_bltn (v := .ty "tuple") (u := .type "tuple") rfl T.n_tuple (by decide +kernel) rfl) pa_nil))) (by intro _; rfl))) (pw_or1 (pt_cmpR (op_neK (K := K) rfl hr.units) (pe_callB (call_lenK (K := K) rfl) (by rfl) T.n_len (by decide +kernel) (pa_cons (pv 0) pa_nil)) (pe_callB (call_lenK (K := K) rfl) (by rfl) T.n_len (by decide +kernel) (pa_cons (pv 1) pa_nil)) (nomark _))))))
        (pss_one (ps_sh (ps_ret pe_bl)))
        pss_nil)
    (pss_cons (ps_for PassesOwn.never rfl (pi_sh (pi_range1 rfl T.n_range (pa_cons (pe_callB (call_lenK (K := K) rfl) (by rfl) T.n_len (by decide +kernel) (pa_cons (pv 1) pa_nil)) pa_nil))) (pg_name (i := 2) sc__law_are_references.nd rfl (Or.inl rfl))
        (pss_cons (ps_sh (ps_set (i := 3) sc__law_are_references.nd rfl (Or.inl rfl) (pe_ix (ix_seqK (K := K) rfl) (pv 0) (pv 2) (fun _ _ => rfl))))
        (pss_cons (ps_if (pt_sh (PW.pt (pw_or (pt_not (pt_truthK (K := K) rfl (pe_callB (call_isiK2 (K := K) rfl) (by rfl) T.n_isinstance (by decide +kernel) (pa_cons (pv 3) (pa_cons (pe_bltn (v := .ty "tuple") (u := .type "tuple") rfl T.n_tuple (by decide +kernel) rfl) pa_nil))) (by intro _; rfl))) (pw_or (pt_cmpR (op_neK (K := K) rfl hr.units) (pe_callB (call_lenK (K := K) rfl) (by rfl) T.n_len (by decide +kernel) (pa_cons (pv 3) pa_nil)) pe_int (nomark _)) (pw_or1 (pt_not (pt_truthK (K := K) rfl (pe_callB (call_isiK2 (K := K) rfl) (by rfl) T.n_isinstance (by decide +kernel) (pa_cons (pe_ix (ix_seqK (K := K) rfl) (pv 3) pe_int (fun _ _ => rfl)) (pa_cons (pe_globR rfl T.c_WordMap) pa_nil))) (by intro _; rfl))))))))
            (pss_one (ps_sh (ps_ret pe_bl)))
            pss_nil)
        (pss_one (ps_if (pt_sh (PW.pt (pw_or (pt_cmpR (op_neK (K := K) rfl hr.units) (pe_ix (ix_seqK (K := K) rfl) (pv 3) pe_int (fun _ _ => rfl)) (pe_ix (ix_seqK (K := K) rfl) (pe_ix (ix_seqK (K := K) rfl) (pv 1) (pv 2) (fun _ _ => rfl)) pe_int (fun _ _ => rfl)) (nomark _)) (pw_or1 (pt_not (pt_truthK (K := K) rfl (pe_callC C__law_same_tuple (hr.mono (by decide)) (pa_cons (pe_fldK (K := K) rfl (pe_ix (ix_seqK (K := K) rfl) (pv 3) pe_int (fun _ _ => rfl)) rfl) (pa_cons (pe_callC C__law_pairs (hr.mono (by decide)) (pa_cons (pe_callC C__law_then (hr.mono (by decide)) (pa_cons (pe_ix (ix_seqK (K := K) rfl) (pe_ix (ix_seqK (K := K) rfl) (pv 1) (pv 2) (fun _ _ => rfl)) pe_int (fun _ _ => rfl)) (pa_cons pe_dnewK pa_nil))) pa_nil)) pa_nil))) (by intro _; rfl)))))))
            (pss_one (ps_sh (ps_ret pe_bl)))
            pss_nil)))))
    (pss_one (ps_sh (ps_ret pe_bl))))), ?_⟩
  have ly : ys.length = L.length := by rw [Paired.length hp, List.length_map]
  have lx : xs.length = L.length := Paired.length hq
  refine q_when (b := false) gd (et_is (et_or (a := false) (b := false) (et_is (et_not (et_tru (ev_isiTp (ev_var rfl) hf.t k_tuple_tuple))) rfl) fun _ => et_is (et_test (ev_op (ev_lenS (K := K) (ev_var rfl) (.inr hf.t)) (ev_lenS (K := K) (ev_var rfl) (.inl (.inl (.inl hl)))) (rv_ne rfl))) (by rw [ly, lx]; simp)) rfl) (fun z => nomatch z) fun _ => ?_
  refine q_forR1 (n := (L.length : Int)) gd (ea_cons (ev_is (ev_lenS (K := K) (ev_var rfl) (.inl (.inl (.inl hl)))) (by rw [lx])) ea_nil) (by omega) (fun k σ' H' => H' = H ∧ ∃ o1 o2 : Option V, σ' = [some (.ref a), some (.ref ll), o1, o2]) ⟨rfl, _, _, rfl⟩ (fun k σ' H' hk hP => ?_) fun σ' H' hP => ?_
  · obtain ⟨rfl, o1, o2, rfl⟩ := hP
    have hk' : k < L.length := by omega
    obtain ⟨r, hr'⟩ : ∃ r, L[k]? = some r := ⟨_, List.getElem?_eq_getElem hk'⟩
    have ok := hok r (List.mem_of_getElem? hr')
    obtain ⟨y, hy⟩ : ∃ y, ys[k]? = some y := ⟨_, List.getElem?_eq_getElem (by omega)⟩
    obtain ⟨x, hx⟩ : ∃ x, xs[k]? = some x := ⟨_, List.getElem?_eq_getElem (by omega)⟩
    obtain ⟨r', e1, hra⟩ := M.paired_get hp hy
    rw [List.getElem?_map, hr'] at e1
    cases e1
    obtain ⟨r', e1, hla⟩ := M.paired_get hq hx
    rw [hr'] at e1
    cases e1
    obtain ⟨t, wm, z, rfl, ht, hz1, hw⟩ := hra
    obtain ⟨t2, tb, rfl, ht2, htb⟩ := hla
    show tSeq _ _ _ _ _
    refine q_set gd (ev_op (ev_var rfl) (ev_var rfl) (rv_ixT (K := K) hf.t (atI_nat hy))) ?_
    have i0 : ∀ σ : L2.St, σ[3]? = some (some (.ref t)) → Ev (tOp (rIx K) (tVar 3) (tC (.int 0))) σ H' z := fun σ h => ev_op (ev_var h) ev_c (rv_ixT (K := K) (i := 0) ht (atI_nat (j := 0) rfl))
    have i1 : ∀ σ : L2.St, σ[3]? = some (some (.ref t)) → Ev (tOp (rIx K) (tVar 3) (tC (.int 1))) σ H' (.ref wm) := fun σ h => ev_op (ev_var h) ev_c (rv_ixT (K := K) (i := 1) ht (atI_nat (j := 1) rfl))
    refine q_when (b := false) gd (et_is (et_or (a := false) (b := false) (et_is (et_not (et_tru (ev_isiTp (ev_var rfl) ht k_tuple_tuple))) rfl) fun _ => et_is (et_or (a := false) (b := false) (et_is (et_test (ev_op (ev_lenS (K := K) (ev_var rfl) (.inr ht)) ev_c (rv_ne rfl))) (by simp)) fun _ => et_is (et_not (et_tru (ev_isiW T W (i1 _ rfl) hw))) rfl) rfl) rfl) (fun z => nomatch z) fun _ => ?_
    have lk : Ev (tOp (rIx K) (tVar 1) (tVar 2)) [some (.ref a), some (.ref ll), some (.int (k : Int)), some (.ref t)] H' (.ref t2) := ev_op (ev_var rfl) (ev_var rfl) (rv_ixL (K := K) (.inl (.inl hl)) (atI_nat hx))
    have hpl : plD 0 (encO r.1) := by
      cases h : r.1 with
      | none => trivial
      | some s => exact ok.sg s h
    have hpp := pairsOf_len r.2
    refine s_when (b := false) gd (et_is (et_or (a := false) (b := false) (et_test (ev_neSameD (.of (i0 _ rfl) hz1) (.of (ev_op lk ev_c (rv_ixT (K := K) (i := 0) ht2 (atI_nat (j := 0) rfl))) (gV_dp r.1)) hpl (by decide))) fun _ => et_is (et_not (et_tru (ev_same gd (evf_pairs W (i1 _ rfl) hw).toD ?_ (plD_pairs (ps := pairsOf r.2) (by have := ok.len; omega) fun p hp => ok.so p (pairsOf_mem hp))))) rfl) rfl) (fun z => nomatch z) fun _ => ⟨rfl, _, _, rfl⟩
    show EvD K _ _ H' (.tuple ((pairsOf r.2).map encP))
    rw [← pairs_then ok.nd]
    refine (evf_pairsO gd (evo_then gd (ev_op lk ev_c (rv_ixT (K := K) (i := 1) ht2 (atI_nat (j := 1) rfl))) htb evo_dnew ok.len) ?_).toD
    have := fold_len r.2 [] (r.2.map (·.1) ++ ([] : List (Str × Str)).map (·.1)) []
    have h2 := ok.len
    unfold thenS
    simp only [List.length_append, List.length_map, List.length_nil] at this
    omega
  · obtain ⟨rfl, o1, o2, rfl⟩ := hP
    exact s_ret gd ev_c (finV gd (.refl _) q)
end

end Z
namespace Z
open PySem PySem.Spec PyProof.Rows L2 M TL
/-! ## tokens that are drawn, plainly -/
theorem low_facts : ∀ c : Nat, c < 128 → (97 ≤ c → c ≤ 122 → Unicode.isAlpha c = true ∧ Unicode.isLower c = true ∧ (Unicode.isUpper c || Unicode.isTitle c) = false) := by decide +kernel
theorem nonalpha_facts : Unicode.isAlpha 47 = false ∧ ∀ c : Nat, c < 58 → 48 ≤ c → Unicode.isAlpha c = false ∧ Unicode.isDigit c = true := by decide +kernel
theorem all_tl (x : Str) (p : Nat → Bool) : x.cps.all p = (tl x).all p := by
  show _ = x.cps.toList.all p
  simp
theorem any_tl (x : Str) (p : Nat → Bool) : x.cps.any p = (tl x).any p := by
  show _ = x.cps.toList.any p
  simp
theorem strOk_tl {x : Str} (h : ∀ c ∈ tl x, c < 128) : PyData.strOk x = true := by
  unfold PyData.strOk
  rw [all_tl]
  exact List.all_eq_true.mpr fun c hc => decide_eq_true (by have := h c hc; omega)
/-- lower letters, 1 to 8 of them -/
theorem isWord_low {x : Str} (h1 : 1 ≤ x.length) (h8 : x.length ≤ 8) (h : ∀ c ∈ tl x, 97 ≤ c ∧ c ≤ 122) : isWord x = true := by
  have hne : tl x ≠ [] := fun e => by rw [len_tl, e] at h1; cases h1
  have hf : ∀ c ∈ tl x, Unicode.isAlpha c = true ∧ Unicode.isLower c = true ∧ (Unicode.isUpper c || Unicode.isTitle c) = false := fun c hc => low_facts c (by have := h c hc; omega) (h c hc).1 (h c hc).2
  have e1 : Txt.isascii x = true := by
    unfold Txt.isascii
    rw [all_tl]
    exact List.all_eq_true.mpr fun c hc => decide_eq_true (by have := h c hc; omega)
  have e2 : Txt.isalpha x = true := by
    unfold Txt.isalpha
    rw [all_tl, decide_eq_true (show x.length > 0 by omega), Bool.true_and]
    exact List.all_eq_true.mpr fun c hc => (hf c hc).1
  have e3 : Txt.islower x = true := by
    unfold Txt.islower
    rw [any_tl, any_tl]
    obtain ⟨c, r, hc⟩ : ∃ c r, tl x = c :: r := by
      cases e : tl x with
      | nil => exact absurd e hne
      | cons c r => exact ⟨c, r, rfl⟩
    have a1 : (tl x).any Unicode.isLower = true := List.any_eq_true.mpr ⟨c, by rw [hc]; exact List.mem_cons_self .., (hf c (by rw [hc]; exact List.mem_cons_self ..)).2.1⟩
    have a2 : (tl x).any (fun c => Unicode.isUpper c || Unicode.isTitle c) = false := by
      rw [List.any_eq_false]
      intro c hc
      rw [(hf c hc).2.2]; exact Bool.false_ne_true
    rw [a1, a2]; rfl
  unfold isWord
  rw [e1, e2, e3, decide_eq_true (by omega : (1 : Int) ≤ (x.length : Int)), decide_eq_true (by omega : (x.length : Int) ≤ 8)]
  rfl
theorem isWord_not {x : Str} {c : Nat} (hc : c ∈ tl x) (h : Unicode.isAlpha c = false) : isWord x = false := by
  have e2 : Txt.isalpha x = false := by
    unfold Txt.isalpha
    rw [all_tl, Bool.and_eq_false_iff]
    right
    rw [List.all_eq_false]
    exact ⟨c, hc, by rw [h]; exact Bool.false_ne_true⟩
  unfold isWord
  rw [e2]
  simp
theorem NameN.low {n : Nat} {s : Str} (h : NameN n s) : ∀ c ∈ tl s, 97 ≤ c ∧ c ≤ 122 := by
  obtain ⟨c, r, h1, h2, h3, h4⟩ := h
  rw [h1]
  intro d hd
  rcases List.mem_cons.mp hd with rfl | hd
  · have : ∀ d ∈ firsts, 97 ≤ d ∧ d ≤ 122 := by decide
    exact this d h2
  · exact h4 d hd
theorem NameN.word {s : Str} (h : NameOk s) : isWord s = true := isWord_low h.len.1 (by have := h.len.2; omega) h.low
theorem kw_first : ∀ k ∈ KW, ∀ c ∈ (tl k).head?, c ∉ firsts := by decide +kernel
theorem NameN.noKW {s : Str} (h : NameOk s) : s ∉ KW := fun hm => by
  obtain ⟨c, r, h1, h2, _⟩ := h
  exact kw_first s hm c (by rw [h1]; rfl) h2
theorem NameN.name {s : Str} (h : NameOk s) : isName s = true := by
  unfold isName
  rw [h.word, inV_strs, decide_eq_false h.noKW]
  rfl
theorem split_no {x : Str} (h : 47 ∉ tl x) : Txt.split x "/" = [x] := by
  have := split_join (y := "/") (s := 47) (S := []) sl47 slash_k (parts := [x]) (by simp) (fun p hp => by rw [List.mem_singleton] at hp; subst hp; exact h)
  rw [join_eq] at this
  exact this
theorem isAddress_no {x : Str} (h : 47 ∉ tl x) : isAddress x = false := by
  unfold isAddress
  rw [split_no h]
  simp
theorem cut1 {x : Str} {c : Nat} {r : List Nat} (h : tl x = c :: r) : tl (cutS x none (some 1)) = [c] ∧ tl (cutS x (some 1) none) = r := by
  constructor
  · rw [show (1 : Int) = ((1 : Nat) : Int) from rfl, tl_cut_to, h]; rfl
  · rw [show (1 : Int) = ((1 : Nat) : Int) from rfl, tl_cut_from, h]; rfl
theorem tilde_tl : tl ("~" : Str) = [126] := by decide +kernel
theorem isFollower_no {x : Str} (h : 47 ∉ tl x) : isFollower x = false := by
  unfold isFollower
  rw [isAddress_no (x := cutS x (some 1) none), Bool.and_false]
  rw [show (1 : Int) = ((1 : Nat) : Int) from rfl, tl_cut_from]
  exact fun hm => h (List.mem_of_mem_drop hm)
theorem isFollower_not {x : Str} {c : Nat} {r : List Nat} (h : tl x = c :: r) (hc : c ≠ 126) : isFollower x = false := by
  unfold isFollower
  rw [decide_eq_false, Bool.false_and]
  intro e
  have e2 := congrArg tl e
  rw [(cut1 h).1, tilde_tl] at e2
  injection e2 with e2
  exact hc e2
theorem ref_no {x : Str} (h : 47 ∉ tl x) : isRef x = (decide (x = "lost") || decide (47 ∈ tl x)) := by
  unfold isRef
  rw [isAddress_no h, isFollower_no h, decide_eq_false h]
  simp
theorem isLet_low {x : Str} (h1 : 1 ≤ x.length) (h : ∀ c ∈ tl x, 97 ≤ c ∧ c ≤ 122) : isLet x = true := by
  have h47 : 47 ∉ tl x := fun hm => by have := h 47 hm; omega
  obtain ⟨c, r, hc⟩ : ∃ c r, tl x = c :: r := by
    cases e : tl x with
    | nil => rw [len_tl, e] at h1; cases h1
    | cons c r => exact ⟨c, r, rfl⟩
  unfold isLet
  rw [decide_eq_false h47, show x.cps.toList = c :: r from hc]
  have := h c (by rw [hc]; exact List.mem_cons_self ..)
  show (decide (97 ≤ c ∧ c ≤ 122) && !false) = true
  rw [decide_eq_true this]; rfl
theorem isLet_slash {x : Str} (h : 47 ∈ tl x) : isLet x = false := by
  unfold isLet
  rw [decide_eq_true h]
  exact Bool.and_false _
theorem tl_ne {x : Str} (h : 1 ≤ x.length) : x.cps.toList ≠ [] := fun e => by rw [len_tl, show tl x = [] from e] at h; cases h
theorem amp_tl : tl ("&" : Str) = [38] := by decide +kernel
theorem not_amp {x : Str} {c : Nat} (hc : c ∈ tl x) (h : ¬ c = 38) : ¬ x = "&" := fun e => by
  rw [e, amp_tl, List.mem_singleton] at hc
  exact h hc
theorem head_mem {x : Str} (h : 1 ≤ x.length) : ∃ c, c ∈ tl x := by
  cases e : tl x with
  | nil => rw [len_tl, e] at h; cases h
  | cons c r => exact ⟨c, List.mem_cons_self ..⟩
theorem tok_low {x : Str} (h1 : 1 ≤ x.length) (h8 : x.length ≤ 8) (h : ∀ c ∈ tl x, 97 ≤ c ∧ c ≤ 122) : TokOk x where
  len := by omega
  ne := tl_ne h1
  so := strOk_tl fun c hc => by have := h c hc; omega
  ref := ref_no fun hm => by have := h 47 hm; omega
  let_ := by rw [isLet_low h1 h, isWord_low h1 h8 h]
  na := by
    obtain ⟨c, hc⟩ := head_mem h1
    exact not_amp hc (by have := h c hc; omega)
theorem tok_name {s : Str} (h : NameOk s) : TokOk s := tok_low h.len.1 (by have := h.len.2; omega) h.low
theorem lab_facts : ∀ n : Nat, n < 100 → 1 ≤ n → isLabel (Str.ofString (toString ((n : Nat) : Int))) = true := by decide +kernel
theorem LabOk.label {l : Str} (h : LabOk l) : isLabel l = true := by
  obtain ⟨n, h1, h2, e⟩ := h
  have : l = Str.ofString (toString ((n : Nat) : Int)) := ext_tl (by rw [e, tl_num])
  rw [this]
  exact lab_facts n (by omega) h1
theorem place_split {n : Nat} {s : Str} (h : placeN n s) : ∃ nm labs, NameOk nm ∧ labs.length = n ∧ (∀ l ∈ labs, LabOk l) ∧ Txt.split s "/" = nm :: labs := by
  obtain ⟨nm, labs, h1, h2, h3, rfl⟩ := h
  refine ⟨nm, labs, h1, h2, h3, ?_⟩
  have := split_join (y := "/") (s := 47) (S := []) sl47 slash_k (parts := nm :: labs) (by simp) (fun p hp => by
    rcases List.mem_cons.mp hp with rfl | hp
    · exact h1.free
    · exact (h3 p hp).free)
  rw [join_eq] at this
  exact this
theorem place_address {s : Str} (h : PlaceOk s) : isAddress s = true := by
  obtain ⟨n, h1, h3, hp⟩ := h
  have hl := hp.len
  obtain ⟨nm, labs, e1, e2, e3, e4⟩ := place_split hp
  unfold isAddress
  rw [decide_eq_true (by omega : s.length ≤ 17), e4]
  show (true && ((decide ((2 : Int) ≤ ((nm :: labs).length : Int)) && decide (((nm :: labs).length : Int) ≤ 4)) && (isName nm && labs.all isLabel))) = true
  rw [decide_eq_true (by rw [List.length_cons]; omega), decide_eq_true (by rw [List.length_cons]; omega), e1.name, List.all_eq_true.mpr fun l hl => (e3 l hl).label]
  rfl
theorem place_slash {s : Str} (h : PlaceOk s) : 47 ∈ tl s := by
  obtain ⟨n, h1, h3, hp⟩ := h
  have := hp.count
  exact List.count_pos_iff.mp (by omega)
theorem place_low {n : Nat} {s : Str} (h : placeN n s) : ∀ c ∈ tl s, c < 128 := by
  induction n generalizing s with
  | zero =>
    obtain ⟨nm, labs, h1, h2, h3, rfl⟩ := h
    have : labs = [] := List.length_eq_zero_iff.mp h2
    subst this
    exact fun c hc => by have := h1.low c hc; omega
  | succ n ih =>
    obtain ⟨s', l, rfl, h1, h2⟩ := h.unsnoc
    intro c hc
    rw [tl_append, tl_append] at hc
    rcases List.mem_append.mp hc with hc | hc
    · rcases List.mem_append.mp hc with hc | hc
      · exact ih h1 c hc
      · rw [sl47, List.mem_singleton] at hc; omega
    · obtain ⟨n, _, _, e⟩ := h2
      rw [e] at hc
      have := numL_digits n c hc
      omega
theorem tok_place {s : Str} (h : PlaceOk s) : TokOk s := by
  have hs := place_slash h
  have ha := place_address h
  obtain ⟨n, h1, h3, hp⟩ := h
  have hl := hp.len
  have hpos : 1 ≤ s.length := by
    rw [len_tl]
    exact List.length_pos_of_mem hs
  refine ⟨by omega, tl_ne hpos, strOk_tl (place_low hp), ?_, ?_, not_amp hs (by decide)⟩
  · unfold isRef
    rw [ha, decide_eq_true hs]
    simp
  · rw [isLet_slash hs, isWord_not hs nonalpha_facts.1]
theorem tok_follow {s : Str} (h : PlaceOk s) : TokOk ("~" ++ s) := by
  have hs := place_slash h
  have ha := place_address h
  obtain ⟨n, h1, h3, hp⟩ := h
  have hl := hp.len
  have e : tl ("~" ++ s) = 126 :: tl s := by rw [tl_append, tilde_tl]; rfl
  have hs2 : 47 ∈ tl ("~" ++ s) := by rw [e]; exact List.mem_cons_of_mem _ hs
  have hlen : ("~" ++ s).length = s.length + 1 := by rw [len_tl, e, List.length_cons, ← len_tl]
  have hf : isFollower ("~" ++ s) = true := by
    unfold isFollower
    rw [decide_eq_true (ext_tl (by rw [(cut1 e).1, tilde_tl])), show cutS ("~" ++ s) (some 1) none = s from ext_tl (cut1 e).2, ha]
    rfl
  refine ⟨by omega, tl_ne (by omega), strOk_tl fun c hc => ?_, ?_, ?_, not_amp hs2 (by decide)⟩
  · rw [e] at hc
    rcases List.mem_cons.mp hc with rfl | hc
    · decide
    · exact place_low hp c hc
  · unfold isRef
    rw [hf, decide_eq_true hs2]
    simp
  · rw [isLet_slash hs2, isWord_not hs2 nonalpha_facts.1]
theorem tok_num {n : Nat} (h : n < 100) : TokOk (Str.ofString (toString ((n : Nat) : Int))) := by
  have e := tl_num n
  have hd := numL_digits n
  have hne := numL_ne n
  have hl : (numL n).length ≤ 2 := numL_len (by decide) h
  have hlen : (Str.ofString (toString ((n : Nat) : Int))).length ≤ 2 := by rw [len_tl, e]; exact hl
  have h47 : 47 ∉ tl (Str.ofString (toString ((n : Nat) : Int))) := by rw [e]; exact numL_free (by decide)
  obtain ⟨c, r, hc⟩ : ∃ c r, numL n = c :: r := by
    cases q : numL n with
    | nil => exact absurd q hne
    | cons c r => exact ⟨c, r, rfl⟩
  have hcd := hd c (by rw [hc]; exact List.mem_cons_self ..)
  have hpos : 1 ≤ (Str.ofString (toString ((n : Nat) : Int))).length := by rw [len_tl, e, hc]; simp
  refine ⟨by omega, tl_ne hpos, strOk_tl fun c hc => ?_, ref_no h47, ?_, not_amp (c := c) (by rw [e, hc]; exact List.mem_cons_self ..) (by omega)⟩
  · rw [e] at hc; have := hd c hc; omega
  · have hm : c ∈ tl (Str.ofString (toString ((n : Nat) : Int))) := by rw [e, hc]; exact List.mem_cons_self ..
    rw [isWord_not hm (nonalpha_facts.2 c (by omega) (by omega)).1]
    unfold isLet
    rw [show (Str.ofString (toString ((n : Nat) : Int))).cps.toList = c :: r from e.trans hc]
    show (decide (97 ≤ c ∧ c ≤ 122) && _) = false
    rw [decide_eq_false (by omega), Bool.false_and]

end Z
namespace Z
open PySem PySem.Spec PyProof.Rows L2 M TL
/-! ## drawn maps -/
theorem sqT_sb {K : PySem.W.Frag} {b : Addr} {H H' : Hp} (s : Sb b H H') (hB : BagAt H b) {a : Addr} {xs : List V} (h : SqT K H a xs) : SqT K H' a xs := by
  obtain ⟨d, z, c, q⟩ := hB
  rcases h with (h | ⟨o, h⟩) | h
  · exact .inl (.inl (s.kp _ _ (fun e => by subst e; rw [q] at h; cases h) h))
  · exact .inl (.inr ⟨o, s.kp _ _ (fun e => by subst e; rw [q] at h; cases h) h⟩)
  · exact .inr h
structure SubMap (ws : List Str) (ps : List (Str × Str)) : Prop where
  sub : (ps.map (·.1)).Sublist (sortS ws)
  ok : ∀ p ∈ ps, p.2 ∈ ws ∧ ¬ p.1 = p.2
def spSomeMap (K : PySem.W.Frag) : Sp := fun vs H Q _ => ∃ (b a : Addr) (ws : List Str), vs = [.ref b, .ref a] ∧ Gd H ∧ BagAt H b ∧ H a = some (.lst (ws.map V.str)) ∧ a ≠ b ∧ ws ≠ [] ∧ ws.length < 64 ∧
  ∀ p xs ps H', Sb b H H' → H p = none → H' p = some (.lst xs) → DpTs K H' xs (ps.map encP) → SubMap ws ps → Q (.ref p) H'
section
variable {P : Program} {w : World} {K : PySem.W.Frag} {mg : Str → Option Value} {base : Heap} {kw : Addr}
theorem ok_some_map {f : Addr} {fd : FuncData} (F : Fun K "_law_some_map" "_law_some_map" s__law_some_map f fd) (T : Txt0 K mg kw) (C__law_pick : Callee P w K mg base "_law_pick" 1 ["bag", "many"] [] spPick) (C__law_one_of : Callee P w K mg base "_law_one_of" 2 ["bag", "row"] [] (spOneOf K)) : FnOk P w K mg base CX0 3 f fd ["bag", "words"] (spSomeMap K) := by
  refine okS F sc__law_some_map (fun vs H Q E h => by obtain ⟨v, d, m, rfl, _⟩ := h; rfl) (fun cdv A outer s H vs Q E hr h => ?_)
  obtain ⟨b, a, ws, rfl, gd, hB, ha, nab, h0, hz, q⟩ := h
  refine ⟨_, (pss_cons (ps_sh (ps_set (i := 2) sc__law_some_map.nd rfl (Or.inl rfl) (pe_lst pa_nil)))
    (pss_cons (ps_for PassesOwn.never rfl (pi_sh (pi_seqK (K := K) rfl (pe_callB (call_sortedK (K := K) rfl rfl) (by rfl) T.n_sorted (by decide +kernel) (pa_cons (pv 1) pa_nil)))) (pg_name (i := 3) sc__law_some_map.nd rfl (Or.inl rfl))
        (pss_cons (ps_sh (ps_set (i := 4) sc__law_some_map.nd rfl (Or.inl rfl) (pe_callC C__law_one_of (hr.mono (by decide)) (pa_cons (pv 0) (pa_cons (pv 1) pa_nil)))))
        (pss_one (ps_if (pt_sh (PW.pt (pw_and (pt_cmpR (op_neK (K := K) rfl hr.units) (pv 4) (pv 3) (nomark _)) (pw_and1 (pt_cmpR op_gtA (pe_callC C__law_pick (hr.mono (by decide)) (pa_cons (pv 0) (pa_cons pe_int pa_nil))) pe_int (nomark _))))))
            (pss_one (ps_sh (ps_expr (pe_bm PySem.F.plainAttrs_list PySem.F.slot_list_append PySem.F.type_list_append mt_append (pv 2) (pa_cons (pe_tupF (pa_cons (pv 3) (pa_cons (pv 4) pa_nil))) pa_nil)))))
            pss_nil))))
    (pss_one (ps_sh (ps_ret (pv 2)))))), ?_⟩
  refine q_setO gd (evo_lst ea_nil (by decide)) rfl rfl fun t ht => ?_
  have ntb : t ≠ b := free_bag hB ht
  have nat : a ≠ t := ne_of_none ha ht
  have g1 : Gd (upd H t (.lst [])) := gd.new ht rfl rfl
  refine q_forO g1 (evo_sortL (K := K) (xs := ws) (ev_var rfl) (.inl (.inl (by rw [upd_ne nat]; exact ha))) hz) (fun p i σ' H' => ∃ (xs : List V) (ps : List (Str × Str)) (o1 o2 : Option V), σ' = [some (.ref b), some (.ref a), some (.ref t), o1, o2] ∧ p ≠ b ∧ p ≠ t ∧ Sb b H H' ∧ H' p = some (.lst ((sortS ws).map V.str)) ∧ H' t = some (.lst xs) ∧ DpTs K H' xs (ps.map encP) ∧ (ps.map (·.1)).Sublist ((sortS ws).take i) ∧ (∀ p ∈ ps, p.2 ∈ ws ∧ ¬ p.1 = p.2) ∧ ps.length ≤ i) (fun p hp => ?_) (fun p i σ' H' hi h => ?_) ?_ ?_
  · have npt : p ≠ t := fun e => by subst e; rw [upd_same] at hp; cases hp
    have hp0 : H p = none := by rw [upd_ne npt] at hp; exact hp
    exact ⟨[], [], none, none, rfl, free_bag hB hp0, npt, Sb.of ((Xt.new ht rfl rfl).trans (Xt.new hp rfl rfl)) gd hB, upd_same, by rw [upd_ne (Ne.symm npt), upd_same], .nil, List.Sublist.refl _, fun _ h => (nomatch h), Nat.le_refl _⟩
  · obtain ⟨xs, ps, o1, o2, _, _, _, _, h, _⟩ := h
    exact .inl (.inl h)
  · rintro p i x σ' H' hx ⟨xs, ps, o1, o2, rfl, npb, npt, s1, hp1, ht1, hd, hsub, hok, hpl⟩
    rw [List.getElem?_map] at hx
    cases hwi : (sortS ws)[i]? with
    | none => rw [hwi] at hx; cases hx
    | some wd =>
      rw [hwi] at hx
      cases hx
      have htk : (sortS ws).take (i + 1) = (sortS ws).take i ++ [wd] := by rw [List.take_add_one, hwi]; rfl
      have hil : i < (sortS ws).length := (List.getElem?_eq_some_iff.mp hwi).1
      rw [(sortS_perm ws).length_eq] at hil
      have ha1 := s1.kp _ _ nab ha
      show tSeq _ _ _ _ H'
      refine dq_set s1.gd s1.bag (evb_one del_at (ev_var rfl) (ev_var rfl) (.inl (.inl (del_rd nab (.inl ha1)))) nab (by simpa using h0) (by rw [List.length_map]; omega)) fun v H2 s2 hv => ?_
      obtain ⟨o, ho, rfl⟩ := List.mem_map.mp hv
      have s3 := s1.trans s2
      have hd2 : DpTs K H2 xs (ps.map encP) := hd.mono fun _ _ h => sqT_sb s2 s1.bag h
      refine b_if (PB := fun k => k = true → ¬ o = wd) (del_xt s3.gd) s3.gd s3.bag (etb_and (PB := fun k => k = !decide (o = wd)) del_at (etb_of (et_is (et_test (ev_op (ev_var rfl) (ev_var rfl) (rv_ne rfl))) (by simp))) (fun e => etb_test (evb_op (P := fun v => ∃ k, v = .bl k ∧ (k = true → ¬ o = wd)) del_at (evb_pick del_at (ev_var rfl) (evb_of ev_c) (by decide)) (evb_of ev_c) fun x y ⟨r, e1, _⟩ e2 => ?_)) fun _ z => nomatch z) (fun H3 s4 hne => ?_) fun H3 s4 _ => ?_
      · subst e1 e2
        exact ⟨_, ⟨_, rfl, fun _ => by simpa using e⟩, rv_gtI⟩
      · have hne := hne rfl
        have ht3 := s4.kp _ _ ntb (s2.kp _ _ ntb ht1)
        have hp3 := s4.kp _ _ npb (s2.kp _ _ npb hp1)
        have hd3 : DpTs K H3 xs (ps.map encP) := hd2.mono fun _ _ h => sqT_sb s4 s3.bag h
        have hxl : xs.length = ps.length := by rw [hd3.len, List.length_map]
        refine s_appD (K := K) (d := encP (wd, o)) s4.gd ht3 (ev_var rfl) (evf_tup (ead_cons (ev_var rfl : Ev (tVar 3) _ _ (.str wd)).dStr (ead_cons (ev_var rfl : Ev (tVar 4) _ _ (.str o)).dStr ead_nil)) (show 2 ≤ 100000 by decide)).toD (by omega) fun v H4 tx hv => ?_
        have s5 : Sb b H H4 := (s3.trans s4).trans (Sb.of tx.xt s4.gd s4.bag)
        have ht4 := tx.xt.1 _ _ ht3
        have g5 : Gd (upd H4 t (.lst (xs ++ [v]))) := s5.gd.mut ht4 rfl rfl rfl
        refine ⟨xs ++ [v], ps ++ [(wd, o)], _, _, rfl, npb, npt, s5.store ht ntb g5, by rw [upd_ne npt]; exact tx.xt.1 _ _ hp3, upd_same, ?_, ?_, ?_, by rw [List.length_append]; exact Nat.succ_le_succ hpl⟩
        · rw [List.map_append]
          refine (paired_to (enc := encP) (paired_app (paired_of (hd3.xt tx.xt)) (.cons hv .nil)) : DpTs K H4 (xs ++ [v]) ((ps ++ [(wd, o)]).map encP)).mono ?_ |> fun h => by rw [List.map_append] at h; exact h
          exact fun _ _ h => sqT_mut ht4 (fun _ z => nomatch z) (fun _ _ z => nomatch z) h
        · rw [List.map_append, htk]
          exact hsub.append (List.Sublist.refl _)
        · intro p hp
          rcases List.mem_append.mp hp with hp | hp
          · exact hok p hp
          · rw [List.mem_singleton] at hp
            subst hp
            exact ⟨ho, fun e => hne e.symm⟩
      · exact ⟨xs, ps, _, _, rfl, npb, npt, s3.trans s4, s4.kp _ _ npb (s2.kp _ _ npb hp1), s4.kp _ _ ntb (s2.kp _ _ ntb ht1), hd2.mono fun _ _ h => sqT_sb s4 s3.bag h, by rw [htk]; exact hsub.trans (List.sublist_append_left _ _), hok, by omega⟩
  · rintro p σ' H' ⟨xs, ps, o1, o2, rfl, npb, npt, s1, hp1, ht1, hd, hsub, hok, hpl⟩
    rw [List.length_map, List.take_length] at hsub
    exact s_ret s1.gd (ev_var rfl) ⟨H', s1.shr hB, q t xs ps H' s1 ht ht1 hd ⟨hsub, hok⟩⟩
end

/-! ## drawn bodies -/
def IsTok : V → Prop := fun v => ∃ t : Str, v = .str t ∧ TokOk t
def Toks (n : Nat) : List V → Prop := fun vs => ∃ ws : List Str, vs = ws.map V.str ∧ ws.length = n ∧ ∀ t ∈ ws, TokOk t
def Chunk : List Str → Prop := fun ws => ws.length ≤ 3 ∧ ∀ t ∈ ws, TokOk t
theorem eab_tok0 {b : Addr} {σ : L2.St} {G : Hp} : EvAB b tNil σ G (Toks 0) := fun H1 e g hB Q q => q [] H1 (.refl g hB) ⟨[], rfl, rfl, fun _ h => nomatch h⟩
theorem eab_tok {b : Addr} {σ : L2.St} {G : Hp} {ta : TE} {tr : TA} {n : Nat} (hG : G b = none) (h : EvB b ta σ G IsTok) (hr : EvAB b tr σ G (Toks n)) : EvAB b (tCons ta tr) σ G (Toks (n + 1)) :=
  eab_cons hG h hr fun x xs ⟨t, e1, ht⟩ ⟨ws, e2, hl, hw⟩ => ⟨t :: ws, by rw [e1, e2]; rfl, by rw [List.length_cons, hl], fun u hu => by
    rcases List.mem_cons.mp hu with rfl | hu
    · exact ht
    · exact hw u hu⟩
theorem evbr_tok {b : Addr} {σ : L2.St} {G : Hp} {tr : TA} {n : Nat} (h : EvAB b tr σ G (Toks n)) (hn : n ≤ 3) : EvBR b (tLst tr) σ G (ListOf b Chunk) := evbr_lst h fun vs ⟨ws, e, hl, hw⟩ => ⟨ws, e, by omega, by omega, hw⟩
theorem tokB {b : Addr} {σ : L2.St} {G : Hp} {ta : TE} {t : Str} (h : Ev ta σ G (.str t)) (ht : TokOk t) : EvB b ta σ G IsTok := (evb_of h).imp fun v e => ⟨t, e, ht⟩
def spAnyBody (K : PySem.W.Frag) : Sp := fun vs H Q _ => ∃ (b a c : Addr) (ws gs : List Str), vs = [.ref b, .ref a, .ref c] ∧ Gd H ∧ BagAt H b ∧ H a = some (.lst (ws.map V.str)) ∧ a ≠ b ∧ ws ≠ [] ∧ ws.length < 64 ∧ (∀ t ∈ ws, TokOk t) ∧ H c = some (.lst (gs.map V.str)) ∧ c ≠ b ∧ gs ≠ [] ∧ gs.length < 64 ∧ (∀ t ∈ gs, PlaceOk t) ∧
  ∀ (p : Addr) (us : List Str) (H' : Hp), Sb b H H' → H p = none → H' p = some (.lst (us.map V.str)) → us.length ≤ 36 → (∀ t ∈ us, TokOk t) → Q (.ref p) H'
theorem tok_const : TokOk "as" ∧ TokOk "lost" ∧ TokOk "from" ∧ TokOk "never" ∧ TokOk "strike" ∧ TokOk "may" ∧ TokOk "house" := by
  refine ⟨?_, ?_, ?_, ?_, ?_, ?_, ?_⟩ <;> exact tok_low (by decide +kernel) (by decide +kernel) (by decide +kernel)
theorem tok_7 : TokOk "7" := by
  have e : (Str.ofString (toString ((7 : Nat) : Int))) = "7" := by decide +kernel
  rw [← e]; exact tok_num (by decide)
theorem tok_0 : TokOk "0" := by
  have e : (Str.ofString (toString ((0 : Nat) : Int))) = "0" := by decide +kernel
  rw [← e]; exact tok_num (by decide)
section
variable {P : Program} {w : World} {K : PySem.W.Frag} {mg : Str → Option Value} {base : Heap} {kw : Addr}
theorem ok_any_body {f : Addr} {fd : FuncData} (F : Fun K "_law_any_body" "_law_any_body" s__law_any_body f fd) (T : Txt0 K mg kw) (C__law_pick : Callee P w K mg base "_law_pick" 1 ["bag", "many"] [] spPick) (C__law_one_of : Callee P w K mg base "_law_one_of" 2 ["bag", "row"] [] (spOneOf K)) : FnOk P w K mg base CX0 3 f fd ["bag", "words", "goals"] (spAnyBody K) := by
  refine okS F sc__law_any_body (fun vs H Q E h => by obtain ⟨v, d, m, ws, gs, rfl, _⟩ := h; rfl) (fun cdv A outer s H vs Q E hr h => ?_)
  obtain ⟨b, a, c, ws, gs, rfl, gd, hB, ha, nab, hw0, hwl, hwt, hc, ncb, hg0, hgl, hgt, q⟩ := h
  refine ⟨_, (pss_cons (ps_sh (ps_set (i := 3) sc__law_any_body.nd rfl (Or.inl rfl) (pe_lst pa_nil)))
    (pss_cons (ps_for PassesOwn.never rfl (pi_sh (pi_range1 rfl T.n_range (pa_cons (pe_callC C__law_pick (hr.mono (by decide)) (pa_cons (pv 0) (pa_cons pe_int pa_nil))) pa_nil))) (pg_name (i := 4) sc__law_any_body.nd rfl (Or.inl rfl))
        (pss_cons (ps_sh (ps_set (i := 5) sc__law_any_body.nd rfl (Or.inl rfl) (pe_callC C__law_pick (hr.mono (by decide)) (pa_cons (pv 0) (pa_cons pe_int pa_nil)))))
        (pss_cons (ps_sh (ps_set (i := 6) sc__law_any_body.nd rfl (Or.inl rfl) (pe_callC C__law_one_of (hr.mono (by decide)) (pa_cons (pv 0) (pa_cons (pv 1) pa_nil)))))
        (pss_cons (ps_sh (ps_set (i := 7) sc__law_any_body.nd rfl (Or.inl rfl) (pe_lst (pa_cons pe_str (pa_cons (pv 6) (pa_cons (pe_callC C__law_one_of (hr.mono (by decide)) (pa_cons (pv 0) (pa_cons (pv 1) pa_nil))) pa_nil))))))
        (pss_cons (ps_if (pt_sh (pt_cmpR op_ltA (pv 5) pe_int (nomark _)))
            (pss_one (ps_sh (ps_set (i := 7) sc__law_any_body.nd rfl (Or.inl rfl) (pe_lst (pa_cons (pv 6) pa_nil)))))
            (pss_one (ps_if (pt_sh (pt_cmpR op_ltA (pv 5) pe_int (nomark _)))
                (pss_one (ps_sh (ps_set (i := 7) sc__law_any_body.nd rfl (Or.inl rfl) (pe_ix (ix_seqK (K := K) rfl) (pe_lst (pa_cons (pe_lst (pa_cons (pe_callC C__law_one_of (hr.mono (by decide)) (pa_cons (pv 0) (pa_cons (pv 2) pa_nil))) pa_nil)) (pa_cons (pe_lst (pa_cons (pe_op (op_addK (K := K) rfl) pe_str (pe_callC C__law_one_of (hr.mono (by decide)) (pa_cons (pv 0) (pa_cons (pv 2) pa_nil)))) pa_nil)) (pa_cons (pe_lst (pa_cons pe_str pa_nil)) pa_nil)))) (pe_callC C__law_pick (hr.mono (by decide)) (pa_cons (pv 0) (pa_cons pe_int pa_nil))) (fun _ _ => rfl)))))
                (pss_one (ps_if (pt_sh (pt_cmpR (op_eqK (K := K) rfl hr.units) (pv 5) pe_int (nomark _)))
                    (pss_one (ps_sh (ps_set (i := 7) sc__law_any_body.nd rfl (Or.inl rfl) (pe_ix (ix_seqK (K := K) rfl) (pe_lst (pa_cons (pe_lst (pa_cons pe_str pa_nil)) (pa_cons (pe_lst (pa_cons pe_str (pa_cons (pv 6) pa_nil))) (pa_cons (pe_lst (pa_cons pe_str (pa_cons pe_str (pa_cons (pv 6) pa_nil)))) (pa_cons (pe_lst (pa_cons pe_str (pa_cons (pv 6) (pa_cons pe_str pa_nil)))) (pa_cons (pe_lst (pa_cons pe_str (pa_cons pe_str (pa_cons pe_str pa_nil)))) (pa_cons (pe_lst (pa_cons pe_str (pa_cons pe_str (pa_cons (pv 6) pa_nil)))) (pa_cons (pe_lst (pa_cons pe_str (pa_cons (pv 6) (pa_cons (pe_ix (ix_seqK (K := K) rfl) (pv 2) pe_int (fun _ _ => rfl)) pa_nil)))) pa_nil)))))))) (pe_callC C__law_pick (hr.mono (by decide)) (pa_cons (pv 0) (pa_cons pe_int pa_nil))) (fun _ _ => rfl)))))
                    (pss_one (ps_if (pt_sh (pt_cmpR (op_eqK (K := K) rfl hr.units) (pv 5) pe_int (nomark _)))
                        (pss_one (ps_sh (ps_set (i := 7) sc__law_any_body.nd rfl (Or.inl rfl) (pe_ix (ix_seqK (K := K) rfl) (pe_lst (pa_cons (pe_lst (pa_cons (pe_callTy call_str_int (by rfl) T.n_str (by decide +kernel) (pa_cons (pe_callC C__law_pick (hr.mono (by decide)) (pa_cons (pv 0) (pa_cons pe_int pa_nil))) pa_nil)) pa_nil)) (pa_cons (pe_lst (pa_cons pe_str (pa_cons pe_str pa_nil))) (pa_cons (pe_lst (pa_cons pe_str pa_nil)) (pa_cons (pe_lst (pa_cons pe_str (pa_cons (pv 6) pa_nil))) (pa_cons (pe_lst (pa_cons pe_str pa_nil)) pa_nil)))))) (pe_callC C__law_pick (hr.mono (by decide)) (pa_cons (pv 0) (pa_cons pe_int pa_nil))) (fun _ _ => rfl)))))
                        pss_nil)))))))
        (pss_one (ps_sh (ps_set (i := 3) sc__law_any_body.nd rfl (Or.inl rfl) (pe_op (op_addK (K := K) rfl) (pv 3) (pv 7))))))))))
    (pss_one (ps_sh (ps_ret (pv 3)))))), ?_⟩
  refine q_setO gd (evo_lst ea_nil (by decide)) rfl rfl fun t ht => ?_
  have s0 : Sb b H (upd H t (.lst [])) := Sb.of (Xt.new ht rfl rfl) gd hB
  refine bq_forR1 (PA := fun vs => ∃ n : Int, vs = [.int n] ∧ 0 ≤ n ∧ n < 12) (PN := fun n => 0 ≤ n ∧ n < 12) s0.gd s0.bag (eab_cons (PA := fun vs => vs = []) del_at (evb_pick del_at (ev_var rfl) (evb_of ev_c) (by decide)) eab_nil ?_) (fun vs h => ?_)
    (fun k σ' H' => ∃ (us : List Str) (p : Addr) (o4 o5 o6 o7 : Option V), σ' = [some (.ref b), some (.ref a), some (.ref c), some (.ref p), o4, o5, o6, o7] ∧ Sb b H H' ∧ H p = none ∧ H' p = some (.lst (us.map V.str)) ∧ us.length ≤ 3 * k ∧ ∀ t ∈ us, TokOk t) (fun H' s2 => ?_) (fun n hn k σ' H' hk hP => ?_) (fun n hn σ' H' hP => ?_)
  · rintro x xs ⟨r, rfl, h0, h1⟩ rfl
    exact ⟨r, rfl, h0, h1⟩
  · obtain ⟨n, rfl, h0, h1⟩ := h
    exact ⟨n, rfl, h0, by omega, h0, h1⟩
  · exact ⟨[], t, none, none, none, none, rfl, s0.trans s2, ht, s2.kp _ _ (free_bag hB ht) upd_same, Nat.le_refl _, fun _ h => nomatch h⟩
  · obtain ⟨us, p, o4, o5, o6, o7, rfl, s1, hp, hp1, hul, hut⟩ := hP
    have npb : p ≠ b := free_bag hB hp
    refine dq_set s1.gd s1.bag (evb_pick del_at (ev_var rfl) (evb_of ev_c) (by decide)) fun v H2 s2 hv => ?_
    obtain ⟨way, rfl, _, _⟩ := hv
    have s3 := s1.trans s2
    refine dq_set s3.gd s3.bag (evb_one del_at (ev_var rfl) (ev_var rfl) (.inl (.inl (del_rd nab (.inl (s3.kp _ _ nab ha))))) nab (by simpa using hw0) (by rw [List.length_map]; omega)) fun v H3 s4 hv => ?_
    obtain ⟨wd, hwd, rfl⟩ := List.mem_map.mp hv
    have twd := hwt wd hwd
    have s5 := s3.trans s4
    obtain ⟨c1, c2, c3, c4, c5, c6, c7⟩ := tok_const
    have oneW : ∀ (G : Hp) (σ : L2.St), G b = none → (SqL K G a (ws.map V.str)) → σ[0]? = some (some (.ref b)) → σ[1]? = some (some (.ref a)) → EvB b (tCall (spOneOf K) [] E0 (tCons (tVar 0) (tCons (tVar 1) tNil))) σ G IsTok := fun G σ h1 h2 h3 h4 =>
      (evb_one h1 (ev_var h3) (ev_var h4) (.inl h2) nab (by simpa using hw0) (by rw [List.length_map]; omega)).imp fun v hv => by
        obtain ⟨t, ht, rfl⟩ := List.mem_map.mp hv
        exact ⟨t, rfl, hwt t ht⟩
    have oneG : ∀ (G : Hp) (σ : L2.St), G b = none → (SqL K G c (gs.map V.str)) → σ[0]? = some (some (.ref b)) → σ[2]? = some (some (.ref c)) → EvB b (tCall (spOneOf K) [] E0 (tCons (tVar 0) (tCons (tVar 2) tNil))) σ G fun v => ∃ g, v = .str g ∧ PlaceOk g := fun G σ h1 h2 h3 h4 =>
      (evb_one h1 (ev_var h3) (ev_var h4) (.inl h2) ncb (by simpa using hg0) (by rw [List.length_map]; omega)).imp fun v hv => by
        obtain ⟨t, ht, rfl⟩ := List.mem_map.mp hv
        exact ⟨t, rfl, hgt t ht⟩
    refine brq_set s5.gd s5.bag (evbr_tok (eab_tok del_at (tokB ev_c c1) (eab_tok del_at (tokB (ev_var rfl) twd) (eab_tok del_at (oneW _ _ del_at (.inl (del_rd nab (.inl (s5.kp _ _ nab ha)))) rfl rfl) eab_tok0))) (by decide)) fun v H4 s6 hv => ?_
    have s7 := s5.trans s6
    obtain ⟨g0, gr, hgs⟩ : ∃ g0 gr, gs = g0 :: gr := by
      cases gs with
      | nil => exact absurd rfl hg0
      | cons x r => exact ⟨x, r, rfl⟩
    have hdc : SqL K (del H4 b) c (gs.map V.str) := .inl (del_rd ncb (.inl (s7.kp _ _ ncb hc)))
    have hp4 := (s2.trans (s4.trans s6)).kp _ _ npb hp1
    refine q_ifJ (fun σ' H' => ∃ v, σ' = [some (.ref b), some (.ref a), some (.ref c), some (.ref p), some (.int (k : Int)), some (.int way), some (.str wd), some v] ∧ Sb b H4 H' ∧ ListOf b Chunk H' v) s7.gd (et_test (ev_op (ev_var rfl) ev_c rv_ltI)) (fun σ' H' hJ => ?_) (fun hb hJ => ?_) fun hb hJ => ?_
    · obtain ⟨v, rfl, s8, pm, more, rfl, nmb, hm, hml, hmt⟩ := hJ
      have hp8 := s8.kp _ _ npb hp4
      refine s_setO s8.gd (evo_catV (ev_var rfl) hp8 (ev_var rfl) hm (by rw [List.length_map, List.length_map]; omega)) rfl rfl fun p2 hp2 => ?_
      have s9 := s7.trans s8
      have hp20 : H p2 = none := by
        cases e : H p2 with
        | none => rfl
        | some o =>
          by_cases n : p2 = b
          · subst n; exact absurd rfl (free_bag s9.bag hp2)
          · rw [s9.kp _ _ n e] at hp2; cases hp2
      refine ⟨us ++ more, p2, _, _, _, _, rfl, s9.trans (Sb.of (Xt.new hp2 rfl rfl) s9.gd s9.bag), hp20, by rw [upd_same, List.map_append], by rw [List.length_append]; omega, fun t ht => ?_⟩
      rcases List.mem_append.mp ht with ht | ht
      · exact hut t ht
      · exact hmt t ht
    · exact br_set s7.gd s7.bag (evbr_tok (eab_tok del_at (tokB (ev_var rfl) twd) eab_tok0) (by decide)) fun v H5 s8 hv => hJ _ _ ⟨v, rfl, s8, hv⟩
    · refine s_if s7.gd (et_test (ev_op (ev_var rfl) ev_c rv_ltI)) (fun hb => ?_) fun hb => ?_
      · refine br_set s7.gd s7.bag (evbr_ixL (n := 3) listOf_mono del_at (evabr_cons listOf_mono del_at (evbr_tok (eab_tok del_at ((oneG _ _ del_at hdc rfl rfl).imp fun v ⟨g, e, hg⟩ => ⟨g, e, tok_place hg⟩) eab_tok0) (by decide)) (evabr_cons listOf_mono del_at (evbr_tok (eab_tok del_at (evb_op del_at (evb_of ev_c) (oneG _ _ del_at hdc rfl rfl) fun x y e ⟨g, e2, hg⟩ => ?_) eab_tok0) (by decide)) (evabr_cons listOf_mono del_at (evbr_tok (eab_tok del_at (tokB ev_c c2) eab_tok0) (by decide)) evabr_nil))) (by decide) (evb_pick del_at (ev_var rfl) (evb_of ev_c) (by decide))) fun v H5 s8 hv => hJ _ _ ⟨v, rfl, s8, hv⟩
        subst e e2
        refine ⟨_, ⟨"~" ++ g, rfl, tok_follow hg⟩, rv_addS ?_⟩
        have := (tok_place hg).len
        show 1 + g.length ≤ 100000
        omega
      · refine s_if s7.gd (et_test (ev_op (ev_var rfl) ev_c (rv_eq rfl))) (fun hb => ?_) fun hb => ?_
        · have w6 : ∀ {i : Nat} {σ : L2.St}, σ[6]? = some (some (.str wd)) → EvB b (tVar 6) σ (del H4 b) IsTok := fun h => tokB (ev_var h) twd
          have cc : ∀ {x : Str} {σ : L2.St}, TokOk x → EvB b (tC (.str x)) σ (del H4 b) IsTok := fun h => tokB ev_c h
          have g0t : TokOk g0 := tok_place (hgt g0 (by rw [hgs]; exact List.mem_cons_self ..))
          refine br_set s7.gd s7.bag (evbr_ixL (n := 7) listOf_mono del_at
            (evabr_cons listOf_mono del_at (evbr_tok (eab_tok del_at (cc c1) eab_tok0) (by decide))
            (evabr_cons listOf_mono del_at (evbr_tok (eab_tok del_at (cc c1) (eab_tok del_at (tokB (ev_var rfl) twd) eab_tok0)) (by decide))
            (evabr_cons listOf_mono del_at (evbr_tok (eab_tok del_at (cc c1) (eab_tok del_at (cc tok_7) (eab_tok del_at (tokB (ev_var rfl) twd) eab_tok0))) (by decide))
            (evabr_cons listOf_mono del_at (evbr_tok (eab_tok del_at (cc c1) (eab_tok del_at (tokB (ev_var rfl) twd) (eab_tok del_at (cc tok_0) eab_tok0))) (by decide))
            (evabr_cons listOf_mono del_at (evbr_tok (eab_tok del_at (cc c1) (eab_tok del_at (cc c1) (eab_tok del_at (cc c1) eab_tok0))) (by decide))
            (evabr_cons listOf_mono del_at (evbr_tok (eab_tok del_at (cc c1) (eab_tok del_at (cc c2) (eab_tok del_at (tokB (ev_var rfl) twd) eab_tok0))) (by decide))
            (evabr_cons listOf_mono del_at (evbr_tok (eab_tok del_at (cc c1) (eab_tok del_at (tokB (ev_var rfl) twd) (eab_tok del_at (tokB (ev_op (ev_var rfl) ev_c (rv_ixL (K := K) (i := 0) hdc (atI_nat (j := 0) (by rw [hgs]; rfl)))) g0t) eab_tok0))) (by decide))
            evabr_nil))))))) (by decide) (evb_pick del_at (ev_var rfl) (evb_of ev_c) (by decide))) fun v H5 s8 hv => hJ _ _ ⟨v, rfl, s8, hv⟩
        · refine s_if s7.gd (et_test (ev_op (ev_var rfl) ev_c (rv_eq rfl))) (fun hb => ?_) fun hb => ?_
          · have cc : ∀ {x : Str} {σ : L2.St}, TokOk x → EvB b (tC (.str x)) σ (del H4 b) IsTok := fun h => tokB ev_c h
            refine br_set s7.gd s7.bag (evbr_ixL (n := 5) listOf_mono del_at
              (evabr_cons listOf_mono del_at (evbr_tok (eab_tok del_at (evb_cb (PA := fun vs => ∃ n : Nat, vs = [.int (n : Int)] ∧ n < 100) del_at (eab_cons (PA := fun vs => vs = []) del_at (evb_pick del_at (ev_var rfl) (evb_of ev_c) (by decide)) eab_nil ?_) ?_) eab_tok0) (by decide))
              (evabr_cons listOf_mono del_at (evbr_tok (eab_tok del_at (cc c3) (eab_tok del_at (cc c4) eab_tok0)) (by decide))
              (evabr_cons listOf_mono del_at (evbr_tok (eab_tok del_at (cc c5) eab_tok0) (by decide))
              (evabr_cons listOf_mono del_at (evbr_tok (eab_tok del_at (cc c6) (eab_tok del_at (tokB (ev_var rfl) twd) eab_tok0)) (by decide))
              (evabr_cons listOf_mono del_at (evbr_tok (eab_tok del_at (cc c7) eab_tok0) (by decide))
              evabr_nil))))) (by decide) (evb_pick del_at (ev_var rfl) (evb_of ev_c) (by decide))) fun v H5 s8 hv => hJ _ _ ⟨v, rfl, s8, hv⟩
            · rintro x xs ⟨r, rfl, h0, h1⟩ rfl
              obtain ⟨n, rfl⟩ := Int.eq_ofNat_of_zero_le h0
              exact ⟨n, rfl, by omega⟩
            · rintro vs ⟨n, rfl, hn⟩
              refine ⟨_, ⟨_, rfl, tok_num hn⟩, fun H1 e Q q => ⟨_, rfl, ?_, q H1 (.refl H1)⟩⟩
              have e1 : ((n : Int)).natAbs = n := by omega
              rw [e1]
              exact Nat.lt_of_le_of_lt (Nat.log2_le_self n) (by omega)
          · exact hJ _ _ ⟨v, rfl, .refl s7.gd s7.bag, hv⟩
  · obtain ⟨us, p, o4, o5, o6, o7, rfl, s1, hp, hp1, hul, hut⟩ := hP
    exact s_ret s1.gd (ev_var rfl) ⟨H', s1.shr hB, q p us H' s1 hp hp1 (by omega) hut⟩
end

end Z
namespace Z
open PySem PySem.Spec PyProof.Rows L2 M TL
/-! ## the law's tables, plainly -/
theorem firstR_facts (ps : List (Str × Str)) : ((firstR ps).map (·.1)).Nodup ∧ ∀ p ∈ firstR ps, p ∈ ps := by
  have key : ∀ (ps acc : List (Str × Str)), (acc.map (·.1)).Nodup → ((ps.foldl (fun acc p => if (look acc p.1).isSome = true then acc else putS acc p.1 p.2) acc).map (·.1)).Nodup ∧ ∀ p ∈ ps.foldl (fun acc p => if (look acc p.1).isSome = true then acc else putS acc p.1 p.2) acc, p ∈ acc ∨ p ∈ ps := by
    intro ps
    induction ps with
    | nil => exact fun acc h => ⟨h, fun p hp => .inl hp⟩
    | cons q r ih =>
      intro acc h
      rw [List.foldl_cons]
      by_cases hq : (look acc q.1).isSome = true
      · rw [if_pos hq]
        obtain ⟨h1, h2⟩ := ih acc h
        exact ⟨h1, fun p hp => (h2 p hp).imp id fun h => List.mem_cons_of_mem _ h⟩
      · rw [if_neg hq]
        obtain ⟨h1, h2⟩ := ih (putS acc q.1 q.2) (nodup_put h)
        refine ⟨h1, fun p hp => ?_⟩
        rcases h2 p hp with h | h
        · unfold putS at h
          rw [look_any, if_neg hq] at h
          rcases List.mem_append.mp h with h | h
          · exact .inl h
          · rw [List.mem_singleton] at h; subst h; exact .inr (List.mem_cons_self ..)
        · exact .inr (List.mem_cons_of_mem _ h)
  obtain ⟨h1, h2⟩ := key ps [] List.nodup_nil
  exact ⟨h1, fun p hp => (h2 p hp).elim (fun h => nomatch h) id⟩
theorem takeRd_words : ∀ (l : List Str), ∀ p ∈ (takeRd l).1, isWord p.1 = true ∧ isWord p.2 = true
  | [], p, h => nomatch h
  | [_], p, h => nomatch h
  | [_, _], p, h => nomatch h
  | a :: b :: c :: r, p, h => by
    cases e : isRd (a :: b :: c :: r) with
    | false => rw [takeRd_no e] at h; cases h
    | true =>
      rw [takeRd_yes e] at h
      rcases List.mem_cons.mp h with rfl | h
      · have e' : (decide (a = "as") && (isWord b && isWord c)) = true := e
        simp only [Bool.and_eq_true] at e'
        exact e'.2
      · exact takeRd_words r p h
theorem isWord_facts {x : Str} (h : isWord x = true) : 1 ≤ x.length ∧ x.length ≤ 8 ∧ (∀ c ∈ tl x, c < 128) ∧ ∀ c ∈ tl x, Unicode.isAlpha c = true := by
  unfold isWord at h
  simp only [Bool.and_eq_true, decide_eq_true_eq] at h
  obtain ⟨⟨h1, h2⟩, h3, h4, h5⟩ := h
  refine ⟨by omega, by omega, fun c hc => ?_, fun c hc => ?_⟩
  · unfold Txt.isascii at h3
    rw [all_tl] at h3
    exact of_decide_eq_true (List.all_eq_true.mp h3 c hc)
  · unfold Txt.isalpha at h4
    rw [all_tl, Bool.and_eq_true] at h4
    exact List.all_eq_true.mp h4.2 c hc
theorem isWord_ok {x : Str} (h : isWord x = true) : PyData.strOk x = true := strOk_tl (isWord_facts h).2.2.1
theorem isWord_na {x : Str} (h : isWord x = true) : ¬ x = "&" := by
  obtain ⟨c, hc⟩ := head_mem (isWord_facts h).1
  refine not_amp hc fun e => ?_
  have := (isWord_facts h).2.2.2 c hc
  subst e
  exact absurd this (by decide +kernel)
theorem sortS_strict {l : List Str} (h : l.Nodup) : (sortS l).Pairwise fun a b => a.cps.toList < b.cps.toList := by
  have hn : (sortS l).Nodup := (sortS_perm l).nodup_iff.mpr h
  refine (List.Pairwise.and (sortS_pair l) hn).imp ?_
  intro a b ⟨h1, h2⟩
  unfold leS at h1
  have h3 : ¬ b.cps.toList < a.cps.toList := by simpa using h1
  exact Std.lt_of_le_of_ne h3 fun e => h2 (ext_tl e)
theorem mapFrom_of : ∀ (ps : List (Str × Str)) (l : Str), (ps.map (·.1)).Pairwise (fun a b => a.cps.toList < b.cps.toList) → (∀ p ∈ ps, l.cps.toList < p.1.cps.toList) → (∀ p ∈ ps, isWord p.1 = true ∧ isWord p.2 = true ∧ ¬ p.1 = p.2) → mapFrom l ps = true
  | [], _, _, _, _ => rfl
  | p :: r, l, h, hl, hw => by
    rw [List.map_cons, List.pairwise_cons] at h
    obtain ⟨w1, w2, w3⟩ := hw p (List.mem_cons_self ..)
    show (isWord p.1 && isWord p.2 && !decide (p.1 = p.2) && decide (l.cps.toList < p.1.cps.toList) && mapFrom p.1 r) = true
    rw [w1, w2, decide_eq_false w3, decide_eq_true (hl p (List.mem_cons_self ..)), mapFrom_of r p.1 h.2 (fun q hq => h.1 q.1 (List.mem_map_of_mem (f := (·.1)) hq)) fun q hq => hw q (List.mem_cons_of_mem _ hq)]
    rfl
theorem nil_lt {x : Str} (h : isWord x = true) : ("" : Str).cps.toList < x.cps.toList := by
  obtain ⟨c, hc⟩ := head_mem (isWord_facts h).1
  obtain ⟨d, r, e⟩ : ∃ d r, x.cps.toList = d :: r := by
    cases e : x.cps.toList with
    | nil => rw [show tl x = [] from e] at hc; cases hc
    | cons d r => exact ⟨d, r, rfl⟩
  rw [e, show ("" : Str).cps.toList = [] by decide +kernel]
  exact List.nil_lt_cons d r
theorem mapOk_of {ps : List (Str × Str)} (hz : ps.length ≤ 1000) (h : (ps.map (·.1)).Pairwise (fun a b => a.cps.toList < b.cps.toList)) (hw : ∀ p ∈ ps, isWord p.1 = true ∧ isWord p.2 = true ∧ ¬ p.1 = p.2) : mapOk ps :=
  ⟨hz, fun p hp => ⟨by have := (isWord_facts (hw p hp).1).2.1; omega, by have := (isWord_facts (hw p hp).2.1).2.1; omega⟩, mapFrom_of ps "" h (fun p hp => nil_lt (hw p hp).1) hw⟩
theorem mapOk_pairsOf {tab : List (Str × Str)} (hz : tab.length ≤ 1000) (hn : (tab.map (·.1)).Nodup) (hw : ∀ p ∈ tab, isWord p.1 = true ∧ isWord p.2 = true) : mapOk (pairsOf tab) := by
  have ek : (pairsOf tab).map (·.1) = changed tab := by
    unfold pairsOf
    rw [List.map_map]
    exact List.map_id _
  refine mapOk_of (Nat.le_trans (pairsOf_len tab) hz) ?_ fun p hp => ?_
  · rw [ek]
    unfold changed
    exact (sortS_strict hn).filter _
  · obtain ⟨h1, h2⟩ := hw p (pairsOf_mem hp)
    refine ⟨h1, h2, fun e => ?_⟩
    unfold pairsOf changed at hp
    obtain ⟨k, hk, rfl⟩ := List.mem_map.mp hp
    have := (List.mem_filter.mp hk).2
    have e' : (look tab k).getD "" = k := e.symm
    rw [decide_eq_true e'] at this
    cases this
theorem mapOk_sub {ws : List Str} {ps : List (Str × Str)} (hn : ws.Nodup) (hz : ws.length ≤ 1000) (hw : ∀ t ∈ ws, isWord t = true) (h : SubMap ws ps) : mapOk ps := by
  refine mapOk_of ?_ ((sortS_strict hn).sublist h.sub) fun p hp => ⟨hw _ (sortS_mem.mp (h.sub.subset (List.mem_map_of_mem (f := (·.1)) hp))), hw _ (h.ok p hp).1, (h.ok p hp).2⟩
  have := h.sub.length_le
  rw [List.length_map, (sortS_perm ws).length_eq] at this
  omega
theorem sub_words {ws : List Str} {ps : List (Str × Str)} (hw : ∀ t ∈ ws, isWord t = true) (h : SubMap ws ps) : ∀ p ∈ ps, isWord p.1 = true ∧ isWord p.2 = true := fun p hp => ⟨hw _ (sortS_mem.mp (h.sub.subset (List.mem_map_of_mem (f := (·.1)) hp))), hw _ (h.ok p hp).1⟩
theorem sub_nodup {ws : List Str} {ps : List (Str × Str)} (hn : ws.Nodup) (h : SubMap ws ps) : (ps.map (·.1)).Nodup := h.sub.nodup ((sortS_perm ws).nodup_iff.mpr hn)
theorem led_ok {t : Str} (h : TokOk t) : ∀ s, ledTo t = some s → PyData.strOk s = true := fun s e => by
  unfold ledTo at e
  split at e
  · cases e
  · cases e
    have h0 : ∀ c ∈ tl t, c < 0x110000 := by
      have := h.so
      unfold PyData.strOk at this
      rw [all_tl] at this
      exact fun c hc => of_decide_eq_true (List.all_eq_true.mp this c hc)
    unfold placeNamed
    split
    · split
      · unfold PyData.strOk
        rw [all_tl]
        refine List.all_eq_true.mpr fun c hc => decide_eq_true (h0 c ?_)
        rw [show (1 : Int) = ((1 : Nat) : Int) from rfl, tl_cut_from] at hc
        exact List.mem_of_mem_drop hc
      · exact h.so
    · exact h.so
theorem takeRd_sub (l : List Str) : ∀ t ∈ (takeRd l).2, t ∈ l := fun t ht => by
  obtain ⟨k, e, _⟩ := takeRd_suffix l
  rw [e] at ht
  exact List.mem_of_mem_drop ht
theorem parseT_leads : ∀ (n : Nat) (ws : List Str), ws.length ≤ 100 → (∀ t ∈ ws, TokOk t) → ∀ r ∈ (parseT n ws).2, LeadOk r ∧ mapOk (pairsOf r.2)
  | 0, _, _, _, r, h => nomatch h
  | n + 1, [], _, _, r, h => nomatch h
  | n + 1, t :: l, hz, ht, r, h => by
    rw [List.length_cons] at hz
    cases e : isRef t with
    | false =>
      rw [parseT_no e] at h
      exact parseT_leads n l (by omega) (fun u hu => ht u (List.mem_cons_of_mem _ hu)) r h
    | true =>
      rw [parseT_yes e] at h
      obtain ⟨k, ek, hk⟩ := takeRd_suffix l
      rcases List.mem_cons.mp h with rfl | h
      · obtain ⟨f1, f2⟩ := firstR_facts (takeRd l).1
        have f3 := firstR_len (takeRd l).1
        have f4 := takeRd_len l
        have hw : ∀ p ∈ firstR (takeRd l).1, isWord p.1 = true ∧ isWord p.2 = true := fun p hp => takeRd_words l p (f2 p hp)
        exact ⟨⟨by show (firstR (takeRd l).1).length < 64; omega, f1, fun p hp => ⟨isWord_ok (hw p hp).1, isWord_ok (hw p hp).2⟩, led_ok (ht t (List.mem_cons_self ..))⟩, mapOk_pairsOf (by show (firstR (takeRd l).1).length ≤ 1000; omega) f1 hw⟩
      · refine parseT_leads n (takeRd l).2 ?_ (fun u hu => ht u (List.mem_cons_of_mem _ (takeRd_sub l u hu))) r h
        rw [ek, List.length_drop]; omega
theorem parseT_told : ∀ (n : Nat) (ws : List Str), (∀ t ∈ ws, TokOk t) → sOk (parseT n ws).1 ∧ ((parseT n ws).1.filter fun t : Str => decide (t = "&")).length = (parseT n ws).2.length
  | 0, _, _ => ⟨fun _ h => (nomatch h), rfl⟩
  | n + 1, [], _ => ⟨fun _ h => (nomatch h), rfl⟩
  | n + 1, t :: l, ht => by
    cases e : isRef t with
    | false =>
      rw [parseT_no e]
      obtain ⟨h1, h2⟩ := parseT_told n l fun u hu => ht u (List.mem_cons_of_mem _ hu)
      have tk := ht t (List.mem_cons_self ..)
      refine ⟨fun u hu => ?_, ?_⟩
      · rcases List.mem_cons.mp hu with rfl | hu
        · exact tk.so
        · exact h1 u hu
      · rw [List.filter_cons, if_neg (by simpa using tk.na)]
        exact h2
    | true =>
      rw [parseT_yes e]
      obtain ⟨h1, h2⟩ := parseT_told n (takeRd l).2 fun u hu => ht u (List.mem_cons_of_mem _ (takeRd_sub l u hu))
      refine ⟨fun u hu => ?_, ?_⟩
      · rcases List.mem_cons.mp hu with rfl | hu
        · decide +kernel
        · exact h1 u hu
      · rw [List.filter_cons, if_pos (by simp), List.length_cons, List.length_cons, h2]
theorem parseT_len (n : Nat) (ws : List Str) : (parseT n ws).1.length ≤ n ∧ (parseT n ws).2.length ≤ n := by
  have := parseN_len n ws
  rw [parseN_T, List.length_map] at this
  exact this
theorem look_mergeS {ps : List (Str × Str)} (hn : (ps.map (·.1)).Nodup) {t v : Str} (h : look (mergeS ps) t = some v) : (t, v) ∈ ps := by
  rw [look_merge hn] at h
  clear hn
  induction ps with
  | nil => cases h
  | cons q r ih =>
    rw [look_cons] at h
    by_cases hq : q.1 = t
    · rw [if_pos hq] at h
      cases h
      subst hq
      exact List.mem_cons_self ..
    · rw [if_neg hq] at h
      exact List.mem_cons_of_mem _ (ih h)
theorem mapWord_amp {ps : List (Str × Str)} (hn : (ps.map (·.1)).Nodup) (hw : ∀ p ∈ ps, isWord p.1 = true ∧ isWord p.2 = true) (t : Str) : decide (mapWord ps t = "&") = decide (t = "&") := by
  unfold mapWord
  cases h : look (mergeS ps) t with
  | none => rfl
  | some v =>
    have hm := look_mergeS hn h
    have h1 := isWord_na (hw _ hm).1
    have h2 := isWord_na (hw _ hm).2
    show decide (v = "&") = decide (t = "&")
    rw [decide_eq_false h2, decide_eq_false h1]
theorem mapWord_ok {ps : List (Str × Str)} (hn : (ps.map (·.1)).Nodup) (hw : ∀ p ∈ ps, isWord p.1 = true ∧ isWord p.2 = true) {t : Str} (ht : PyData.strOk t = true) : PyData.strOk (mapWord ps t) = true := by
  unfold mapWord
  cases h : look (mergeS ps) t with
  | none => exact ht
  | some v => exact isWord_ok (hw _ (look_mergeS hn h)).2
theorem mapWord_nil (l : List Str) : l.map (mapWord []) = l := by
  conv => rhs; rw [← List.map_id l]
  exact List.map_congr_left fun t _ => rfl
theorem count_amp {ps : List (Str × Str)} (hn : (ps.map (·.1)).Nodup) (hw : ∀ p ∈ ps, isWord p.1 = true ∧ isWord p.2 = true) (l : List Str) : ((l.map (mapWord ps)).filter fun t : Str => decide (t = "&")).length = (l.filter fun t : Str => decide (t = "&")).length := by
  rw [List.filter_map, List.length_map]
  congr 1
  exact List.filter_congr fun t _ => mapWord_amp hn hw t

end Z
namespace Z
open PySem PySem.Spec PyProof.Rows L2 M TL
/-! ## the law -/
theorem refsAt_xt {K : PySem.W.Frag} {C : Addr} {H H' : Hp} {v : V} {rs : List (Option Str × List (Str × Str))} (e : Xt H H') (h : RefsAt K C H v rs) : RefsAt K C H' v rs := by
  obtain ⟨a, ys, h1, h2, h3⟩ := h
  exact ⟨a, ys, h1, h2.xt e, paired_mono refAt_mono e h3⟩
theorem leadsAt_xt {K : PySem.W.Frag} {H H' : Hp} {v : V} {L : List (Option Str × List (Str × Str))} (e : Xt H H') (h : LeadsAt K H v L) : LeadsAt K H' v L := by
  obtain ⟨ll, xs, h1, h2, h3⟩ := h
  exact ⟨ll, xs, h1, e.1 _ _ h2, paired_mono leadAt_mono e h3⟩
theorem bodyOk_of {us : List Str} (hz : us.length ≤ 100) (h : ∀ t ∈ us, TokOk t) : bodyOk us := ⟨hz, fun t ht => ⟨(h t ht).len, (h t ht).ne⟩⟩
theorem mapsOk_of {us : List Str} (hz : us.length ≤ 100) (h : ∀ t ∈ us, TokOk t) : ∀ r ∈ (parseN us.length us).2, mapOk r.2 := by
  rw [parseN_T]
  intro r hr
  obtain ⟨l, hl, rfl⟩ := List.mem_map.mp hr
  exact (parseT_leads _ us hz h l hl).2
section
variable {P : Program} {w : World} {K : PySem.W.Frag} {mg : Str → Option Value} {base : Heap} {kw C : Addr} {σ : L2.St} {H : Hp} {ta tb : TE} {us : List Str} {ps : List (Str × Str)} {L : List (Option Str × List (Str × Str))}
theorem evr_refs (gd : Gd H) (h : EvSeq K ta σ H us) (hz : us.length ≤ 100) (ht : ∀ t ∈ us, TokOk t) : EvR (RefsAt K C) (tCall (spRefs K C) [] E0 (tCons ta tNil)) σ H ((parseT us.length us).2.map finL) := fun H1 e Q q =>
  h H1 e _ fun a H2 e2 hx => ⟨a, us, rfl, (e.trans e2).2 gd, hx, bodyOk_of hz ht, mapsOk_of hz ht, fun v H3 e3 hr => q v H3 (e2.trans e3) (by rw [parseN_T] at hr; exact hr)⟩
theorem ev_areR {u : V} (gd : Gd H) (ha : EvR (RefsAt K C) ta σ H (L.map finL)) (hb : Ev tb σ H u) (hl : LeadsAt K H u L) (hz : L.length ≤ 1000) (hk : ∀ r ∈ L, LeadOk r) : Ev (tCall (spAreRefs K C) [] E0 (tCons ta (tCons tb tNil))) σ H (.bl true) := fun H1 e Q q =>
  ha H1 e _ fun v H2 e2 hv => hb H2 (e.trans e2) _ fun H3 e3 => ⟨v, u, L, rfl, ((e.trans e2).trans e3).2 gd, refsAt_xt e3 hv, leadsAt_xt ((e.trans e2).trans e3) hl, hz, hk, q H3 (e2.trans e3)⟩
theorem evd_said (gd : Gd H) (ha : EvSeq K ta σ H us) (hb : EvW K C tb σ H ps) (hz : us.length ≤ 100) (ht : ∀ t ∈ us, TokOk t) : EvD K (tCall (spSaid K C) [] E0 (tCons ta (tCons tb tNil))) σ H (.tuple (((parseT us.length us).1.map (mapWord ps)).map PyData.str)) := fun H1 e Q q =>
  ha H1 e _ fun a H2 e2 hx => hb H2 (e.trans e2) _ fun x H3 e3 hw => ⟨a, x, us, ps, rfl, ((e.trans e2).trans e3).2 gd, xt_a e3 hx, bodyOk_of hz ht, hw, fun v H4 tx hv => q v H4 ((e2.trans e3).trans tx.xt) (by rw [parseN_T] at hv; exact hv)⟩
theorem evw_var {i : Nat} {x : Addr} (h : σ[i]? = some (some (.ref x))) (hw : WMat K C H x ps) : EvW K C (tVar i) σ H ps := fun H1 e Q q => ⟨_, h, q x H1 (.refl H1) (hw.xt e)⟩
/-- tuple(b), b a list of texts -/
theorem evf_tupStr {i : Nat} {a : Addr} (h : σ[i]? = some (some (.ref a))) (hx : SqL K H a (us.map V.str)) : EvF K (tCB (rTupF K) (tCons (tVar i) tNil)) σ H (us.map PyData.str) := evf_tupV (ev_var h) hx (dpTs_strs us)
theorem ev_lenRefs {rc : List V → Hp → VK → Prop} (ha : EvR (RefsAt K C) ta σ H L) : Ev (tCB (rcOr (rLenS K) rc) (tCons ta tNil)) σ H (.int (L.length : Int)) := fun H1 e Q q =>
  ha H1 e _ fun v H2 e2 ⟨a, ys, ev, hf, hp⟩ => by
    subst ev
    exact .inl ⟨a, ys, rfl, .inr hf.t, by rw [Paired.length hp]; exact q H2 e2⟩
theorem evd_refs0 (ha : EvR (RefsAt K C) ta σ H []) : EvD K ta σ H (.tuple []) := fun H1 e Q q =>
  ha H1 e _ fun v H2 e2 ⟨a, ys, ev, hf, hp⟩ => by
    subst ev
    cases hp
    exact q _ H2 e2 (.tup hf.t .nil)
theorem evn_bag {a : Addr} {ns : List Int} {i : Nat} (gd : Gd H) (ha : Ev ta σ H (.ref a)) (hx : SqL K H a (ns.map V.int)) (hz : ns.length ≤ 1000) (hb : Ev tb σ H (.int (i : Int))) : EvN (tCall (spBagOf K) [] E0 (tCons ta (tCons tb tNil))) σ H (fun u => ∃ d s, u = bagO d s 0) := fun H1 e Q q =>
  ha H1 e _ fun H2 e2 => hb H2 (e.trans e2) _ fun H3 e3 => ⟨a, ns, i, rfl, ((e.trans e2).trans e3).2 gd, xt_l ((e.trans e2).trans e3) hx, hz, fun p d s hp => q p _ _ ((e2.trans e3).free hp) ((e2.trans e3).trans (Xt.new hp rfl rfl)) upd_same ⟨d, s, rfl⟩ rfl rfl⟩
/-- x = _law_names_of(bag, e, taken) -/
theorem q_names {D : Ends} {tz : TS} {i : Nat} {b t : Addr} {ns : List Str} {tr : TA} {PN : Nat → Prop} (gd : Gd H) (hB : BagAt H b) (ha : EvAB b tr σ (del H b) fun vs => ∃ m : Nat, vs = [.ref b, .int (m : Int), .ref t] ∧ PN m) (ht : H t = some (.lst (ns.map V.str))) (ntb : t ≠ b) (hn : ns.Nodup) (hk : ∀ s ∈ ns, NameOk s) (hb : ∀ m, PN m → ns.length + m ≤ 20)
    (k : ∀ m p ms H', PN m → NamesAt H b t ns m p ms H' → tz D (σ.set i (some (.ref p))) H') : tSeq (tShS (tAsg (tCall (spNamesOf K) [] E0 tr) (gName i))) tz D σ H :=
  ha H (del_xt gd) gd hB _ fun vs H1 s ⟨m, ev, hm⟩ => by
    subst ev
    refine ⟨b, t, m, ns, rfl, s.gd, s.bag, s.kp _ _ ntb ht, ntb, hn, hk, hb m hm, fun p ms H' hN => ?_⟩
    obtain ⟨h1, h2, h3, h4, h5, h6, h7, h8, h9⟩ := hN
    have hp : H p = none := by
      cases e : H p with
      | none => rfl
      | some o =>
        by_cases n : p = b
        · subst n; exact absurd rfl (free_bag s.bag h5)
        · rw [s.kp _ _ n e] at h5; cases h5
    have hk : ∀ a o, a ≠ b → a ≠ t → H a = some o → H' a = some o := fun a o n1 n2 h => h1 a o n1 n2 (s.kp _ _ n1 h)
    refine ⟨H', shr_keep h2 fun a o h hn => hk a o (fun e => ?_) (fun e => ?_) h, k m p ms H' hm ⟨hk, h2, h3, h4, hp, h6, h7, h8, h9⟩⟩
    · subst e; obtain ⟨d, z, c, q⟩ := hB; rw [q] at h; cases h; exact hn _ rfl
    · subst e; rw [ht] at h; cases h; exact hn _ rfl
theorem q_callA {D : Ends} {tz : TS} {i : Nat} {sp : Sp} {E : XK} {tr : TA} {vs : List V} (h : EvA tr σ H vs) (hs : ∀ H1, Xt H H1 → sp (vs ++ []) H1 (fun v H' => ∃ H'', Shr H H' H'' ∧ tz D (σ.set i (some v)) H'') E) : tSeq (tShS (tAsg (tCall sp [] E tr) (gName i))) tz D σ H :=
  h H (.refl H) _ fun H1 e1 => hs H1 e1
theorem q_callT {D : Ends} {tz : TS} {i : Nat} {sp : Sp} {E : XK} {tr : TA} {PP : List V → Hp → Prop} (h : ∀ Q : List V → Hp → Prop, (∀ vs H1, PP vs H1 → Q vs H1) → tr σ H Q) (hs : ∀ vs H1, PP vs H1 → sp (vs ++ []) H1 (fun v H' => ∃ H'', Shr H H' H'' ∧ tz D (σ.set i (some v)) H'') E) : tSeq (tShS (tAsg (tCall sp [] E tr) (gName i))) tz D σ H :=
  h _ hs
/-- goals = _law_places_of(bag, {'acts': names}, e) -/
theorem q_places {D : Ends} {tz : TS} {b pn : Addr} {nms : List Str} {top : TE} (gd : Gd H) (hB : BagAt H b) (h1 : σ[1]? = some (some (.ref b))) (h3 : σ[3]? = some (some (.ref pn))) (hpn : H pn = some (.lst (nms.map V.str))) (npb : pn ≠ b) (n0 : nms ≠ []) (nl : nms.length ≤ 1000) (nk : ∀ x ∈ nms, NameOk x)
    (ht : EvB b top σ (del H b) fun v => ∃ m : Nat, v = .int (m : Int) ∧ 1 ≤ m ∧ m ≤ 20) (k : ∀ p gs H', Sb b H H' → H p = none → H' p = some (.lst (gs.map V.str)) → gs ≠ [] → gs.length < 64 → (∀ t ∈ gs, PlaceOk t) → tz D (σ.set 5 (some (.ref p))) H') :
    tSeq (tShS (tAsg (tCall (spPlacesOf K) [] E0 (tCons (tVar 1) (tCons (tDisp [(tC (.str "acts"), tVar 3)]) (tCons top tNil)))) (gName 5))) tz D σ H :=
  q_callT (PP := fun vs H3 => ∃ (wd : Addr) (m : Nat) (H2 : Hp), vs = [.ref b, .ref wd, .int (m : Int)] ∧ 1 ≤ m ∧ m ≤ 20 ∧ wd ≠ b ∧ H2 wd = some (.dK [(Sum.inr "acts", .ref pn)]) ∧ Sb b H H2 ∧ Sb b H2 H3) (fun Q q =>
    (ev_var h1 : Ev (tVar 1) σ H _) H (.refl H) _ fun H1 e1 => evo_disp1 (k := "acts") (ev_var h3 : Ev (tVar 3) σ H _) H1 e1 _ fun wd H2 hwd e2 h2 => ht H2 ((del_xt gd).trans (e1.trans e2)) ((e1.trans e2).2 gd) (hB.xt (e1.trans e2)) _ fun v H3 s3 ⟨m, ev, m1, m2⟩ => by
      subst ev
      exact q _ H3 ⟨wd, m, H2, rfl, m1, m2, free_bag (hB.xt e1) hwd, h2, Sb.of (e1.trans e2) gd hB, s3⟩) fun vs H3 ⟨wd, m, H2, ev, m1, m2, nwb, h2, s0, s3⟩ => by
    subst ev
    have s : Sb b H H3 := s0.trans s3
    refine ⟨b, wd, pn, m, nms, rfl, s3.gd, s3.bag, s3.kp _ _ nwb h2, nwb, s.kp _ _ npb hpn, npb, n0, nl, nk, m2, fun p ys d z c hp hl hy => ?_⟩
    have hp0 : H p = none := by
      cases e : H p with
      | none => rfl
      | some o =>
        by_cases n : p = b
        · subst n; exact absurd rfl (free_bag s3.bag hp)
        · rw [s.kp _ _ n e] at hp; cases hp
    have npb' : p ≠ b := free_bag hB hp0
    have s4 : Sb b H3 (upd H3 b (bagO d z c)) := sb_of s3.gd s3.bag
    have s5 : Sb b H (upd (upd H3 b (bagO d z c)) p (.lst (ys.map V.str))) := (s.trans s4).trans (Sb.of (Xt.new (by rw [upd_ne npb']; exact hp) rfl rfl) s4.gd s4.bag)
    exact ⟨_, s5.shr hB, k p ys _ s5 hp0 upd_same (fun e => by subst e; simp at hl; omega) (by omega) hy⟩
/-- body = _law_any_body(bag, words, goals) -/
theorem q_any {D : Ends} {tz : TS} {b a c : Addr} {ws gs : List Str} (gd : Gd H) (hB : BagAt H b) (h1 : σ[1]? = some (some (.ref b))) (h4 : σ[4]? = some (some (.ref a))) (h5 : σ[5]? = some (some (.ref c))) (ha : H a = some (.lst (ws.map V.str))) (nab : a ≠ b) (w0 : ws ≠ []) (wl : ws.length < 64) (wt : ∀ t ∈ ws, TokOk t)
    (hc : H c = some (.lst (gs.map V.str))) (ncb : c ≠ b) (g0 : gs ≠ []) (gl : gs.length < 64) (gt : ∀ t ∈ gs, PlaceOk t) (k : ∀ (p : Addr) (us : List Str) (H' : Hp), Sb b H H' → H p = none → H' p = some (.lst (us.map V.str)) → us.length ≤ 36 → (∀ t ∈ us, TokOk t) → tz D (σ.set 7 (some (.ref p))) H') :
    tSeq (tShS (tAsg (tCall (spAnyBody K) [] E0 (tCons (tVar 1) (tCons (tVar 4) (tCons (tVar 5) tNil)))) (gName 7))) tz D σ H :=
  q_callA (ea_cons (ev_var h1) (ea_cons (ev_var h4) (ea_cons (ev_var h5) ea_nil))) fun H1 e1 => ⟨b, a, c, ws, gs, rfl, e1.2 gd, hB.xt e1, e1.1 _ _ ha, nab, w0, wl, wt, e1.1 _ _ hc, ncb, g0, gl, gt, fun p us H' s hp hp' ul ut => ⟨H', ((Sb.of e1 gd hB).trans s).shr hB, k p us H' ((Sb.of e1 gd hB).trans s) (e1.free hp) hp' ul ut⟩⟩
/-- mapped_pairs = _law_some_map(bag, words) -/
theorem q_some {D : Ends} {tz : TS} {b a : Addr} {ws : List Str} (gd : Gd H) (hB : BagAt H b) (h1 : σ[1]? = some (some (.ref b))) (h4 : σ[4]? = some (some (.ref a))) (ha : H a = some (.lst (ws.map V.str))) (nab : a ≠ b) (w0 : ws ≠ []) (wl : ws.length < 64)
    (k : ∀ (p : Addr) (xs : List V) (ps : List (Str × Str)) (H' : Hp), Sb b H H' → H p = none → H' p = some (.lst xs) → DpTs K H' xs (ps.map encP) → SubMap ws ps → tz D (σ.set 8 (some (.ref p))) H') :
    tSeq (tShS (tAsg (tCall (spSomeMap K) [] E0 (tCons (tVar 1) (tCons (tVar 4) tNil))) (gName 8))) tz D σ H :=
  q_callA (ea_cons (ev_var h1) (ea_cons (ev_var h4) ea_nil)) fun H1 e1 => ⟨b, a, ws, rfl, e1.2 gd, hB.xt e1, e1.1 _ _ ha, nab, w0, wl, fun p xs ps H' s hp hp' hd hs => ⟨H', ((Sb.of e1 gd hB).trans s).shr hB, k p xs ps H' ((Sb.of e1 gd hB).trans s) (e1.free hp) hp' hd hs⟩⟩
/-- told, leads = _law_parse(body) -/
theorem q_parse {D : Ends} {tz : TS} {a : Addr} {i j n : Nat} (gd : Gd H) (ha : Ev ta σ H (.ref a)) (hx : SqL K H a (us.map V.str)) (hz : us.length ≤ 100) (ht : ∀ t ∈ us, TokOk t)
    (k : ∀ lt v H', Xt H H' → H' lt = some (.lst ((parseT us.length us).1.map V.str)) → LeadsAt K H' v (parseT us.length us).2 → tz D ((σ.set i (some (.ref lt))).set j (some v)) H') (hn : n = 2 := by rfl) :
    tSeq (tShS (tAsg (tCall (spParse K) [] E0 (tCons ta tNil)) (gTup K n (gCons (gName i) (gCons (gName j) gNil))))) tz D σ H :=
  ha H (.refl H) _ fun H1 e1 => ⟨a, us, rfl, e1.2 gd, xt_l e1 hx, hz, ht, fun p lt v H' e2 hp hlt hl => g_pairN hp ⟨H', Shr.refl (e1.trans e2) gd, k lt v H' (e1.trans e2) hlt hl⟩ hn⟩
end
end Z
namespace Z
open PySem PySem.Spec PyProof.Rows L2 M TL
def spLaw (K : PySem.W.Frag) : Sp := fun vs H Q _ => ∃ (a : Addr) (ns : List Int), vs = [.ref a] ∧ Gd H ∧ SqL K H a (ns.map V.int) ∧ ns.length ≤ 1000 ∧ Q (.bl true) H
section
variable {P : Program} {w : World} {K : PySem.W.Frag} {mg : Str → Option Value} {base : Heap} {kw C : Addr}
theorem bq_whenJ {b : Addr} {σ : L2.St} {H : Hp} {tt : TT} {D : Ends} {tu tz : TS} {PB : Bool → Prop} (J : L2.St → Hp → Prop) (gd : Gd H) (hB : BagAt H b) (h : EvTB b tt σ (del H b) PB) (hJ : ∀ σ' H', J σ' H' → tz D σ' H') (h1 : ∀ H', Sb b H H' → (∀ σ' H', J σ' H' → tz D σ' H') → tu { D with nx := tz D } σ H') (h2 : ∀ H', Sb b H H' → J σ H') : tSeq (tIfS (tShT tt) tu tNext) tz D σ H :=
  bq_when (del_xt gd) gd hB h (fun H' s _ => h1 H' s hJ) fun H' s _ => hJ _ _ (h2 H' s)
theorem ok_law {f e0 : Addr} {fd : FuncData} (F : Fun K "law" "law" s_law f fd) (T : TxtC K mg kw C) (W : WTxt K C) (h0 : ∀ H, SqT K H e0 [])
    (C__law_bag_of : Callee P w K mg base "_law_bag_of" 1 ["script", "at"] [] (spBagOf K)) (C__law_pick : Callee P w K mg base "_law_pick" 1 ["bag", "many"] [] spPick) (C__law_names_of : Callee P w K mg base "_law_names_of" 4 ["bag", "many", "taken"] [] (spNamesOf K))
    (C__law_places_of : Callee P w K mg base "_law_places_of" 4 ["bag", "world", "many"] [] (spPlacesOf K)) (C__law_any_body : Callee P w K mg base "_law_any_body" 3 ["bag", "words", "goals"] [] (spAnyBody K)) (C__law_some_map : Callee P w K mg base "_law_some_map" 3 ["bag", "words"] [] (spSomeMap K))
    (C__law_parse : Callee P w K mg base "_law_parse" 2 ["body"] [] (spParse K)) (C__law_are_references : Callee P w K mg base "_law_are_references" 5 ["actual", "leads"] [] (spAreRefs K C)) (C__law_same_tuple : Callee P w K mg base "_law_same_tuple" 4 ["told", "wanted"] [] (spSame K))
    (C_references : Callee P w K mg base "references" 6 ["body"] [] (spRefs K C)) (C_said : Callee P w K mg base "said" 6 ["body", "word_map"] [] (spSaid K C)) (C_WordMap : MkCallee P w K mg base "WordMap" C 4 ["self", "pairs"] [] (spWInit K C)) (C0_WordMap : MkCallee P w K mg base "WordMap" C 4 ["self", "pairs"] [.ref e0] (spWInit K C)) :
    FnOk P w K mg base CX0 7 f fd ["script"] (spLaw K) := by
  refine okS F sc_law (fun vs H Q E h => by obtain ⟨v, d, rfl, _⟩ := h; rfl) (fun cdv A outer s H vs Q E hr h => ?_)
  obtain ⟨sa, ns, rfl, gd, hsa, hsz, q⟩ := h
  refine ⟨_, (pss_cons (ps_sh (ps_set (i := 1) sc_law.nd rfl (Or.inl rfl) (pe_callC C__law_bag_of (hr.mono (by decide)) (pa_cons (pv 0) (pa_cons pe_int pa_nil)))))
    (pss_cons (ps_sh (ps_set (i := 2) sc_law.nd rfl (Or.inl rfl) (pe_lst pa_nil)))
    (pss_cons (ps_sh (ps_set (i := 3) sc_law.nd rfl (Or.inl rfl) (pe_callC C__law_names_of (hr.mono (by decide)) (pa_cons (pv 1) (pa_cons pe_int (pa_cons (pv 2) pa_nil))))))
    (pss_cons (ps_sh (ps_set (i := 4) sc_law.nd rfl (Or.inl rfl) (pe_callC C__law_names_of (hr.mono (by decide)) (pa_cons (pv 1) (pa_cons (pe_op (op_addK (K := K) rfl) pe_int (pe_callC C__law_pick (hr.mono (by decide)) (pa_cons (pv 1) (pa_cons pe_int pa_nil)))) (pa_cons (pv 2) pa_nil))))))
    (pss_cons (ps_if (pt_sh (pt_cmpR (op_eqK (K := K) rfl hr.units) (pe_callC C__law_pick (hr.mono (by decide)) (pa_cons (pv 1) (pa_cons pe_int pa_nil))) pe_int (nomark _)))
        (pss_one (ps_sh (ps_set (i := 4) sc_law.nd rfl (Or.inl rfl) (pe_op (op_addK (K := K) rfl) (pv 4) (pe_lst (pa_cons pe_str (pa_cons pe_str pa_nil)))))))
        pss_nil)
    (pss_cons (ps_sh (ps_set (i := 5) sc_law.nd rfl (Or.inl rfl) (pe_callC C__law_places_of (hr.mono (by decide)) (pa_cons (pv 1) (pa_cons (pe_disp (pps_cons pe_str (pv 3) pps_nil) (by rfl) (by rfl) (fun z => by cases z) (by decide)) (pa_cons (pe_op (op_addK (K := K) rfl) pe_int (pe_callC C__law_pick (hr.mono (by decide)) (pa_cons (pv 1) (pa_cons pe_int pa_nil)))) pa_nil))))))
    (pss_cons (ps_for PassesOwn.never rfl (pi_sh (pi_range2 rfl T.n_range (pa_cons pe_int (pa_cons pe_int pa_nil)))) (pg_name (i := 6) sc_law.nd rfl (Or.inl rfl))
        (pss_cons (ps_sh (ps_set (i := 1) sc_law.nd rfl (Or.inl rfl) (pe_callC C__law_bag_of (hr.mono (by decide)) (pa_cons (pv 0) (pa_cons (pv 6) pa_nil)))))
        (pss_cons (ps_sh (ps_set (i := 7) sc_law.nd rfl (Or.inl rfl) (pe_callC C__law_any_body (hr.mono (by decide)) (pa_cons (pv 1) (pa_cons (pv 4) (pa_cons (pv 5) pa_nil))))))
        (pss_cons (ps_sh (ps_set (i := 8) sc_law.nd rfl (Or.inl rfl) (pe_callC C__law_some_map (hr.mono (by decide)) (pa_cons (pv 1) (pa_cons (pv 4) pa_nil)))))
        (pss_cons (ps_sh (ps_asg (pe_callC C__law_parse (hr.mono (by decide)) (pa_cons (pv 7) pa_nil)) (pg_tupK (K := K) (n := 2) rfl rfl (pgs_cons (pg_name (i := 9) sc_law.nd rfl (Or.inl rfl)) (pgs_cons (pg_name (i := 10) sc_law.nd rfl (Or.inl rfl)) pgs_nil)) rfl rfl)))
        (pss_cons (ps_sh (ps_set (i := 11) sc_law.nd rfl (Or.inr rfl) pe_dnewK))
        (pss_cons (ps_for PassesOwn.never rfl (pi_sh (pi_seqK (K := K) rfl (pv 8))) (pg_tupK (K := K) (n := 2) rfl rfl (pgs_cons (pg_name (i := 12) sc_law.nd rfl (Or.inl rfl)) (pgs_cons (pg_name (i := 13) sc_law.nd rfl (Or.inl rfl)) pgs_nil)) rfl rfl)
            (pss_one (ps_sh (ps_dput (hu_of hr) (pv 11) (pv 12) (pv 13) rfl))))
        (pss_cons (ps_sh (ps_set (i := 14) sc_law.nd rfl (Or.inl rfl) (pe_callTy (call_tupK (K := K) rfl) (by rfl) T.n_tuple (by decide +kernel) (pa_cons (pe_lc (own := [("word", 12)]) rfl sc_law.nd (pi_seqK (K := K) rfl (pv 9)) (blkOk_by (own := [("word", 12)]) (N := N_law) (sc := defScope s_law) (by decide +kernel)) (fun _ _ _ _ _ => (pg_name (i := 12) sc_law.nd rfl (Or.inl rfl))) (fun _ _ _ _ _ => pts_nil) (fun _ _ _ _ _ => (pe_dget2 (hu_of hr) (pv 11) (pv 12) (pv 12) ⟨rfl, rfl, rfl, rfl⟩))) pa_nil))))
        (pss_cons (ps_sh (ps_set (i := 15) sc_law.nd rfl (Or.inl rfl) (pe_callTy (call_listK (K := K) rfl rfl) (by rfl) T.n_list (by decide +kernel) (pa_cons (pv 7) pa_nil))))
        (pss_cons (ps_if (pt_sh (PW.pt (pw_or (pt_not (pt_truthK (K := K) rfl (pe_callC C__law_are_references (hr.mono (by decide)) (pa_cons (pe_callC C_references (hr.mono (by decide)) (pa_cons (pv 15) pa_nil)) (pa_cons (pv 10) pa_nil))) (by intro _; rfl))) (pw_or1 (pt_cmpR (op_neK (K := K) rfl hr.units) (pv 15) (pv 7) (nomark _))))))
            (pss_one (ps_sh (ps_ret pe_bl)))
            pss_nil)
        (pss_cons (ps_sh (ps_set (i := 16) sc_law.nd rfl (Or.inl rfl) (pe_mkC C_WordMap (hr.mono (by decide)) (pa_cons (pv 8) pa_nil))))
        (pss_cons (ps_if (pt_sh (PW.pt (pw_or (pt_not (pt_truthK (K := K) rfl (pe_callC C__law_same_tuple (hr.mono (by decide)) (pa_cons (pe_callC C_said (hr.mono (by decide)) (pa_cons (pv 15) (pa_cons (pv 16) pa_nil))) (pa_cons (pv 14) pa_nil))) (by intro _; rfl))) (pw_or1 (pt_cmpR (op_neK (K := K) rfl hr.units) (pv 15) (pv 7) (nomark _))))))
            (pss_one (ps_sh (ps_ret pe_bl)))
            pss_nil)
        (pss_cons (ps_if (pt_sh (pt_not (pt_truthK (K := K) rfl (pe_callC C__law_are_references (hr.mono (by decide)) (pa_cons (pe_callC C_references (hr.mono (by decide)) (pa_cons (pe_callTy (call_tupK (K := K) rfl) (by rfl) T.n_tuple (by decide +kernel) (pa_cons (pv 7) pa_nil)) pa_nil)) (pa_cons (pv 10) pa_nil))) (by intro _; rfl))))
            (pss_one (ps_sh (ps_ret pe_bl)))
            pss_nil)
        (pss_cons (ps_if (pt_sh (PW.pt (pw_or (pt_not (pt_truthK (K := K) rfl (pe_callC C__law_same_tuple (hr.mono (by decide)) (pa_cons (pe_callC C_said (hr.mono (by decide)) (pa_cons (pe_callTy (call_tupK (K := K) rfl) (by rfl) T.n_tuple (by decide +kernel) (pa_cons (pv 7) pa_nil)) (pa_cons (pe_mkC0 C0_WordMap (hr.mono (by decide))) pa_nil))) (pa_cons (pe_callTy (call_tupK (K := K) rfl) (by rfl) T.n_tuple (by decide +kernel) (pa_cons (pv 9) pa_nil)) pa_nil))) (by intro _; rfl))) (pw_or1 (pt_cmpR (op_neK (K := K) rfl hr.units) (pe_fldK (K := K) rfl (pv 16) rfl) (pe_callTy (call_tupK (K := K) rfl) (by rfl) T.n_tuple (by decide +kernel) (pa_cons (pv 8) pa_nil)) (nomark _))))))
            (pss_one (ps_sh (ps_ret pe_bl)))
            pss_nil)
        (pss_one (ps_if (pt_sh (pt_cmpR (op_neK (K := K) rfl hr.units) (pe_callB (call_lenK (K := K) rfl) (by rfl) T.n_len (by decide +kernel) (pa_cons (pe_lc (own := [("word", 12)]) rfl sc_law.nd (pi_seqK (K := K) rfl (pv 14)) (blkOk_by (own := [("word", 12)]) (N := N_law) (sc := defScope s_law) (by decide +kernel)) (fun _ _ _ _ _ => (pg_name (i := 12) sc_law.nd rfl (Or.inl rfl))) (fun _ _ _ _ _ => (pts_one (pt_cmpR (op_eqK (K := K) rfl hr.units) (pv 12) pe_str (nomark _)))) (fun _ _ _ _ _ => (pv 12))) pa_nil)) (pe_callB (call_lenK (K := K) rfl) (by rfl) T.n_len (by decide +kernel) (pa_cons (pe_callC C_references (hr.mono (by decide)) (pa_cons (pe_callTy (call_tupK (K := K) rfl) (by rfl) T.n_tuple (by decide +kernel) (pa_cons (pv 7) pa_nil)) pa_nil)) pa_nil)) (nomark _)))
            (pss_one (ps_sh (ps_ret pe_bl)))
            pss_nil))))))))))))))))
    (pss_one (ps_sh (ps_ret (pe_and (pe_cmpR (op_eqK (K := K) rfl hr.units) (pe_callC C_references (hr.mono (by decide)) (pa_cons (pe_tupF pa_nil) pa_nil)) (pe_tupF pa_nil) (nomark _)) (pe_one (pe_cmpR (op_eqK (K := K) rfl hr.units) (pe_callC C_said (hr.mono (by decide)) (pa_cons (pe_tupF pa_nil) (pa_cons (pe_mkC0 C0_WordMap (hr.mono (by decide))) pa_nil))) (pe_tupF pa_nil) (nomark _)))))))))))))), ?_⟩
  refine q_setN gd (evn_bag (i := 0) gd (ev_var rfl) hsa hsz (ev_is ev_c rfl)) fun b u hb ⟨d, z, hu⟩ ho hi => ?_
  subst hu
  have x1 : Xt H (upd H b (bagO d z 0)) := Xt.new hb ho hi
  have g1 : Gd (upd H b (bagO d z 0)) := x1.2 gd
  have hB1 : BagAt (upd H b (bagO d z 0)) b := ⟨d, z, 0, upd_same⟩
  refine q_setO g1 (evo_lst ea_nil (by decide)) rfl rfl fun t ht => ?_
  have ntb : t ≠ b := free_bag hB1 ht
  have ht0 : H t = none := x1.free ht
  have x2 := x1.trans (Xt.new ht (o := .lst []) rfl rfl)
  have g2 := x2.2 gd
  have hB2 := hB1.upd (u := .lst []) ntb
  generalize hH2 : upd (upd H b (bagO d z 0)) t (.lst []) = H2 at x2 g2 hB2
  have ht2 : H2 t = some (.lst (([] : List Str).map V.str)) := by rw [← hH2, upd_same]; rfl
  refine q_names (K := K) (ns := []) (PN := fun m => m = 2) g2 hB2 (eab_cons (PA := fun vs => vs = [.int 2, .ref t]) del_at (evb_of (ev_var rfl)) (eab_cons (PA := fun vs => vs = [.ref t]) del_at (evb_of ev_c) (eab_cons del_at (evb_of (ev_var rfl)) eab_nil fun x xs e1 e2 => by rw [e1, e2]) fun x xs e1 e2 => by rw [e1, e2]) fun x xs e1 e2 => ⟨2, by rw [e1, e2]; rfl, rfl⟩) ht2 ntb List.nodup_nil (fun _ h => nomatch h) (fun m e => by subst e; decide) ?_
  rintro m pn nms H3 rfl ⟨k3, g3, hB3, ht3, hpn2, hpn3, hml, hnd3, hok3⟩
  have x3 : Xt H H3 := ⟨fun a o h => k3 a o (ne_of_none h hb) (ne_of_none h ht0) (x2.1 a o h), fun _ => g3⟩
  rw [List.nil_append] at ht3 hnd3 hok3
  have npb : pn ≠ b := free_bag hB2 hpn2
  have npt : pn ≠ t := Ne.symm (ne_of_none ht2 hpn2)
  refine q_names (K := K) (PN := fun m => 1 ≤ m ∧ m ≤ 4) g3 hB3 (eab_cons (PA := fun vs => ∃ m : Nat, vs = [.int (m : Int), .ref t] ∧ 1 ≤ m ∧ m ≤ 4) del_at (evb_of (ev_var rfl)) (eab_cons (PA := fun vs => vs = [.ref t]) del_at (evb_op (P := fun v => ∃ m : Nat, v = .int (m : Int) ∧ 1 ≤ m ∧ m ≤ 4) del_at (evb_of ev_c) (evb_pick del_at (ev_var rfl) (evb_of ev_c) (by decide)) ?_) (eab_cons del_at (evb_of (ev_var rfl)) eab_nil fun x xs e1 e2 => by rw [e1, e2]) fun x xs ⟨m, e1, h⟩ e2 => ⟨m, by rw [e1, e2], h⟩) fun x xs e1 ⟨m, e2, h⟩ => ⟨m, by rw [e1, e2], h⟩) ht3 ntb hnd3 hok3 (fun m h => by omega) ?_
  · rintro u v rfl ⟨r, rfl, r0, r1⟩
    obtain ⟨r, rfl⟩ := Int.eq_ofNat_of_zero_le r0
    exact ⟨.int (1 + (r : Int)), ⟨1 + r, by rw [Int.natCast_add]; rfl, by omega, by omega⟩, rv_addI⟩
  rintro m2 pw wds H4 hm2 ⟨k4, g4, hB4, ht4, hpw3, hpw4, hwl, hnd4, hok4⟩
  have x4 : Xt H H4 := ⟨fun a o h => k4 a o (ne_of_none h hb) (ne_of_none h ht0) (x3.1 a o h), fun _ => g4⟩
  have hpn4 := k4 pn _ npb npt hpn3
  have npwb : pw ≠ b := free_bag hB3 hpw3
  have hwn : wds.Nodup := (List.nodup_append.mp hnd4).2.1
  have hwk : ∀ s ∈ wds, NameOk s := fun s hs => hok4 s (List.mem_append_right _ hs)
  have hw0 : wds ≠ [] := fun e => by subst e; simp at hwl; omega
  have sbx : ∀ {H5 H6 : Hp}, Xt H H5 → Sb b H5 H6 → Xt H H6 := fun x s => ⟨fun a o h => s.kp a o (ne_of_none h hb) (x.1 a o h), fun _ => s.gd⟩
  refine bq_whenJ (PB := fun _ => True) (fun σ' H' => ∃ (pw : Addr) (ws : List Str), σ' = [some (.ref sa), some (.ref b), some (.ref t), some (.ref pn), some (.ref pw), none, none, none, none, none, none, none, none, none, none, none, none] ∧ Gd H' ∧ BagAt H' b ∧ Xt H H' ∧ H' pn = some (.lst (nms.map V.str)) ∧ H' pw = some (.lst (ws.map V.str)) ∧ pw ≠ b ∧ ws ≠ [] ∧ ws.length < 64 ∧ ws.Nodup ∧ (∀ t ∈ ws, TokOk t) ∧ ∀ t ∈ ws, isWord t = true) g4 hB4
    (etb_test (evb_op (P := fun v => ∃ k, v = .bl k ∧ True) del_at (evb_pick del_at (ev_var rfl) (evb_of ev_c) (by decide)) (evb_of ev_c) fun x y ⟨r, e1, _⟩ e2 => by
      subst e1 e2
      exact ⟨_, ⟨_, rfl, trivial⟩, rv_eq rfl⟩)) (fun σ' H' hJ => ?_) (fun H' s5 hJ => ?_) fun H' s5 => ?_
  · obtain ⟨pw, ws, rfl, g5, hB5, x5, hpn5, hpw5, npwb, ws0, wsl, wsn, wst, wsw⟩ := hJ
    refine q_places (K := K) g5 hB5 rfl rfl hpn5 npb (fun e => by subst e; simp at hml) (by omega) hok3 (evb_op (P := fun v => ∃ m : Nat, v = .int (m : Int) ∧ 1 ≤ m ∧ m ≤ 20) del_at (evb_of ev_c) (evb_pick del_at (ev_var rfl) (evb_of ev_c) (by decide)) ?_) fun pg gs H6 s6 hpg hpg6 gs0 gsl gsp => ?_
    · rintro u v rfl ⟨r, rfl, r0, r1⟩
      obtain ⟨r, rfl⟩ := Int.eq_ofNat_of_zero_le r0
      exact ⟨.int (1 + (r : Int)), ⟨1 + r, by rw [Int.natCast_add]; rfl, by omega, by omega⟩, rv_addI⟩
    have hpw6 := s6.kp _ _ npwb hpw5
    refine q_forR2 (lo := 1) (n := 4) s6.gd (ea_cons ev_c (ea_cons ev_c ea_nil)) (by decide) (fun i σ' H' => ∃ o1 o2 o3 o6 o7 o8 o9 o10 o11 o12 o13 o14 o15 o16 : Option V, σ' = [some (.ref sa), o1, o2, o3, some (.ref pw), some (.ref pg), o6, o7, o8, o9, o10, o11, o12, o13, o14, o15, o16] ∧ Gd H' ∧ Xt H H' ∧ H' pw = some (.lst (ws.map V.str)) ∧ H' pg = some (.lst (gs.map V.str))) ⟨_, _, _, _, _, _, _, _, _, _, _, _, _, _, rfl, s6.gd, sbx x5 s6, hpw6, hpg6⟩ (fun i σ' H' hi hP => ?_) fun σ' H' hP => ?_
    · obtain ⟨o1, o2, o3, o6, o7, o8, o9, o10, o11, o12, o13, o14, o15, o16, rfl, gL, xL, hpwL, hpgL⟩ := hP
      refine q_setN gL (evn_bag (i := 1 + i) gL (ev_var rfl) (xt_l xL hsa) hsz (ev_is (ev_var rfl) (congrArg V.int (by rw [Int.natCast_add]; rfl)))) fun b2 u hb2 ⟨d2, z2, hu⟩ ho hi => ?_
      subst hu
      have e7 : Xt H' (upd H' b2 (bagO d2 z2 0)) := Xt.new hb2 ho hi
      have hB7 : BagAt (upd H' b2 (bagO d2 z2 0)) b2 := ⟨d2, z2, 0, upd_same⟩
      have npw2 : pw ≠ b2 := ne_of_none hpwL hb2
      have npg2 : pg ≠ b2 := ne_of_none hpgL hb2
      refine q_any (K := K) (e7.2 gL) hB7 rfl rfl rfl (e7.1 _ _ hpwL) npw2 ws0 wsl wst (e7.1 _ _ hpgL) npg2 gs0 gsl gsp fun pb us H8 s8 hpb hpb8 usl ust => ?_
      have npb2 : pb ≠ b2 := free_bag hB7 hpb
      refine q_some (K := K) s8.gd s8.bag rfl rfl (s8.kp _ _ npw2 (e7.1 _ _ hpwL)) npw2 ws0 wsl fun pm xs ps H9 s9 hpm hpm9 hd9 hsub => ?_
      have hpb9 := s9.kp _ _ npb2 hpb8
      have x9 : Xt H' H9 := ⟨fun a o h => s9.kp a o (ne_of_none h hb2) (s8.kp a o (ne_of_none h hb2) (e7.1 a o h)), fun _ => s9.gd⟩
      have g9 := s9.gd
      clear s9 s8 hB7 e7
      refine q_parse (K := K) g9 (ev_var rfl) (.inl (.inl hpb9)) (by omega) ust fun lt vl H10 e10 hlt10 hl10 => ?_
      have g10 := e10.2 g9
      refine q_setO g10 evo_dnew rfl rfl fun tb htb => ?_
      have e11 : Xt H10 (upd H10 tb (.dK (kvS (mergeS ps)))) := Xt.new htb rfl rfl
      have ntb : ∀ {a o}, H10 a = some o → a ≠ tb := fun h => ne_of_none h htb
      have hpm10 := e10.1 _ _ hpm9
      have hd10 := hd9.xt e10
      have hxl : xs.length = ps.length := by rw [hd9.len, List.length_map]
      refine q_forL (g10.new htb rfl rfl) (ev_var (i := 8) rfl) (xs := xs) (.inl (.inl (by rw [upd_ne (ntb hpm10)]; exact hpm10))) (fun k σ' H11 => H11 = upd H10 tb (.dK (kvS (mergeS (ps.take k)))) ∧ ∃ o12 o13 : Option V, σ' = [some (.ref sa), some (.ref b2), o2, o3, some (.ref pw), some (.ref pg), some (.int (1 + (i : Int))), some (.ref pb), some (.ref pm), some (.ref lt), some vl, some (.ref tb), o12, o13, o14, o15, o16]) ⟨rfl, _, _, rfl⟩ (fun k σ' H11 _ h => by rw [h.1]; exact .inl (.inl (by rw [upd_ne (ntb hpm10)]; exact hpm10))) ?_ ?_
      · rintro k x σ' H11 hx ⟨rfl, o12, o13, rfl⟩
        obtain ⟨dd, hd1, hxd⟩ := hd10.get hx
        rw [List.getElem?_map] at hd1
        cases hp : ps[k]? with
        | none => rw [hp] at hd1; cases hd1
        | some p =>
          rw [hp] at hd1
          cases hd1
          obtain ⟨bb, ys, rfl, hbb, hys⟩ := hxd.tup_
          obtain ⟨y1, r1, rfl, hy1, hr1⟩ := hys.cons_
          obtain ⟨y2, r2, rfl, hy2, hr2⟩ := hr1.cons_
          obtain rfl := hr2.nil_
          obtain rfl := hy1.str_
          obtain rfl := hy2.str_
          have htk : ps.take (k + 1) = ps.take k ++ [p] := by rw [List.take_add_one, hp]; rfl
          refine g_pairN (sqT_new htb hbb) ?_
          refine s_dput (g10.new htb rfl rfl) (ev_var rfl) (ev_var rfl) (k := Sum.inr p.1) (ev_var rfl) upd_same ?_ ⟨?_, _, _, rfl⟩
          · unfold kvS
            rw [List.length_map]
            have h1 : ∀ (l acc : List (Str × Str)), (l.foldl (fun acc p => putS acc p.1 p.2) acc).length ≤ acc.length + l.length := by
              intro l
              induction l with
              | nil => intro acc; simp
              | cons q r ih =>
                intro acc
                have := ih (putS acc q.1 q.2)
                have h2 := len_put (dk := acc) (k := q.1) (v := q.2)
                rw [List.foldl_cons, List.length_cons]; omega
            have h2 := h1 (ps.take k) []
            have h3 := hsub.sub.length_le
            rw [List.length_map, (sortS_perm ws).length_eq] at h3
            rw [List.length_take] at h2
            simp only [List.length_nil] at h2
            show (mergeS (ps.take k)).length < 100000
            unfold mergeS
            omega
          · rw [upd_upd, htk, mergeS_append, putK_kvS]
      · rintro σ' H11 ⟨rfl, o12, o13, rfl⟩
        rw [hxl, List.take_length]
        have g11 : Gd (upd H10 tb (.dK (kvS (mergeS ps)))) := e11.2 g10
        have hw := sub_words wsw hsub
        have hpn := sub_nodup wsn hsub
        have hmo := mapOk_sub wsn (by omega) wsw hsub
        obtain ⟨tso, tcnt⟩ := parseT_told us.length us ust
        obtain ⟨tl1, tl2⟩ := parseT_len us.length us
        have hleads := fun r hr => (parseT_leads us.length us (by omega) ust r hr).1
        have hus : sOk us := fun t ht => (ust t ht).so
        revert hlt10 hl10 tso tcnt tl1 tl2 hleads
        generalize hT : (parseT us.length us).1 = told
        generalize hL : (parseT us.length us).2 = L
        intro hlt10 hl10 tso tcnt tl1 tl2 hleads
        have hwl : (told.map (mapWord ps)).length ≤ 40000 := by rw [List.length_map]; omega
        have hwo : sOk (told.map (mapWord ps)) := fun t ht => by
          obtain ⟨u, hu, rfl⟩ := List.mem_map.mp ht
          exact mapWord_ok hpn hw (tso u hu)
        have el := evl_lc1 (K := K) (σ := [some (.ref sa), some (.ref b2), o2, o3, some (.ref pw), some (.ref pg), some (.int (1 + (i : Int))), some (.ref pb), some (.ref pm), some (.ref lt), some vl, some (.ref tb), o12, o13, o14, o15, o16]) (H := upd H10 tb (.dK (kvS (mergeS ps)))) (te := tDGet2 (tVar 11) (tVar 12) (tVar 12)) (j := 12) (vs := [12]) relD_mono (fun x => PyData.str (mapWord ps x)) (ei_V (te := tVar 9) (ws := told) (enc := PyData.str) (ev_var rfl) (.inl (.inl (.inl (e11.1 _ _ hlt10)))) (dpTs_strs told)) (by omega) (fun z => rfl) fun x hx u H1 e hu => by
          obtain rfl := DpT.str_ hu
          refine Ev.dStr (ev_is (ev_dget2 (k := Sum.inr x) (ev_var rfl) (ev_var rfl) (ev_var rfl) (e.1 _ _ upd_same)) ?_)
          rw [valV_kvS]
          unfold mapWord
          cases look (mergeS ps) x <;> rfl
        have e2 : told.map (fun x => PyData.str (mapWord ps x)) = (told.map (mapWord ps)).map PyData.str := by rw [List.map_map]; rfl
        rw [e2] at el
        refine q_setF g11 (evf_tupL el) fun pwt yw H12 tx12 hf12 hd12 => ?_
        have e12 : Xt H10 H12 := e11.trans tx12.xt
        have g12 := e12.2 g10
        refine q_setO g12 (evo_listL (K := K) (xs := us.map V.str) (ev_var rfl) (.inl (.inl (.inl (e12.1 _ _ (e10.1 _ _ hpb9)))))) rfl rfl fun ph hph => ?_
        have e13 : Xt H12 (upd H12 ph (.lst (us.map V.str))) := Xt.new hph rfl rfl
        have g13 := e13.2 g12
        have hph13 : (upd H12 ph (.lst (us.map V.str))) ph = some (.lst (us.map V.str)) := upd_same
        have f13 := hf12.xt e13
        have d13 := hd12.xt e13
        have x13 := e12.trans e13
        revert g13 hph13 f13 d13 x13
        generalize upd H12 ph (.lst (us.map V.str)) = H13
        intro g13 hph13 f13 d13 x13
        have hpb13 := x13.1 _ _ (e10.1 _ _ hpb9)
        have hl13 := leadsAt_xt x13 hl10
        have hpm13 := x13.1 _ _ hpm10
        have hdd13 := hd10.xt x13
        have hz : us.length ≤ 100 := by omega
        have tz1 : L.length ≤ 1000 := by omega
        have areR : ∀ {H : Hp} {σ : L2.St} {ta : TE}, Gd H → EvSeq K ta σ H us → LeadsAt K H vl L → σ[10]? = some (some vl) → Ev (tCall (spAreRefs K C) [] E0 (tCons (tCall (spRefs K C) [] E0 (tCons ta tNil)) (tCons (tVar 10) tNil))) σ H (.bl true) := fun g h hl hv => ev_areR g (by rw [← hL]; exact evr_refs g h hz ust) (ev_var hv) hl tz1 hleads
        have saidD : ∀ {H : Hp} {σ : L2.St} {ta tb : TE} {qs : List (Str × Str)}, Gd H → EvSeq K ta σ H us → EvW K C tb σ H qs → EvD K (tCall (spSaid K C) [] E0 (tCons ta (tCons tb tNil))) σ H (.tuple ((told.map (mapWord qs)).map PyData.str)) := fun g h hb => by rw [← hT]; exact evd_said g h hb hz ust
        refine q_when (b := false) g13 (et_is (et_or (a := false) (b := false) (et_is (et_not (et_tru (areR g13 (evs_var rfl (.inl (.inl (.inl hph13)))) hl13 rfl))) rfl) fun _ => et_test (ev_neSame hus (ev_var rfl) (.inl (.inl hph13)) (ev_var rfl) (.inl (.inl hpb13)))) rfl) (fun z => nomatch z) fun _ => ?_
        refine q_setX (P := fun v H14 => ∃ x, v = .ref x ∧ WMat K C H14 x ps) g13 (fun Q q => ev_make (K := K) (C := C) g13 (fun H1 e Q q => ⟨_, rfl, q _ H1 (.refl H1) (.seq (.inl (.inl (.inl (e.1 _ _ hpm13)))) (hdd13.xt e).toA)⟩) hmo H13 (.refl H13) Q fun x H2 e2 hw => q _ H2 e2 ⟨x, rfl, hw⟩) fun v H14 e14 ⟨xo, ev, hwm⟩ => ?_
        subst ev
        have g14 := e14.2 g13
        have hph14 := e14.1 _ _ hph13
        have hpb14 := e14.1 _ _ hpb13
        have hpm14 := e14.1 _ _ hpm13
        have hl14 := leadsAt_xt e14 hl13
        have hlt14 := e14.1 _ _ (x13.1 _ _ hlt10)
        have f14 := f13.xt e14
        have d14 := d13.xt e14
        refine q_when (b := false) g14 (et_is (et_or (a := false) (b := false) (et_is (et_not (et_tru (ev_same g14 (saidD g14 (evs_var rfl (.inl (.inl (.inl hph14)))) (evw_var rfl hwm)) (evd_var rfl (.tup f14.t d14)) (plD_up (plD_strs hwl hwo) (by decide))))) rfl) fun _ => et_test (ev_neSame hus (ev_var rfl) (.inl (.inl hph14)) (ev_var rfl) (.inl (.inl hpb14)))) rfl) (fun z => nomatch z) fun _ => ?_
        refine q_when (b := false) g14 (et_is (et_not (et_tru (areR g14 (evs_F (evf_tupStr rfl (.inl (.inl hpb14)))) hl14 rfl))) rfl) (fun z => nomatch z) fun _ => ?_
        refine q_when (b := false) g14 (et_is (et_or (a := false) (b := false) (et_is (et_not (et_tru (ev_same (ds := told.map PyData.str) g14 ?_ (evf_tupStr (us := told) rfl (.inl (.inl hlt14))).toD (plD_up (plD_strs (by omega) tso) (by decide))))) rfl) fun _ => et_test (ev_neSameD (n := 2) (d := .tuple (ps.map encP)) (evf_pairs W (ev_var rfl) hwm).toD (evf_tupV (ev_var rfl) (.inl (.inl hpm14)) (hdd13.xt e14)).toD (plD_pairs (by have := hmo.1; omega) fun p hp => ⟨isWord_ok (hw p hp).1, isWord_ok (hw p hp).2⟩) (by decide))) rfl) (fun z => nomatch z) fun _ => ?_
        · rw [show told.map PyData.str = (told.map (mapWord [])).map PyData.str by rw [mapWord_nil]]
          exact saidD g14 (evs_F (evf_tupStr rfl (.inl (.inl hpb14)))) (ev_make0 g14 h0)
        have hcnt : (((told.map (mapWord ps)).filter fun t : Str => decide (t = "&")).map PyData.str).length = (L.map finL).length := by
          rw [List.length_map, List.length_map, count_amp hpn hw, tcnt]
        refine s_when (b := false) g14 (et_is (et_test (ev_op (ev_lenLD (evl_lc (K := K) (vs := [12]) relD_mono (fun t : Str => decide (t = "&")) PyData.str (ei_D (ws := told.map (mapWord ps)) (enc := PyData.str) (evd_var rfl (.tup f14.t d14))) hwl fun k hk x H1 e hx => ?_)) (ev_lenRefs (K := K) (C := C) (L := L.map finL) ?_) (rv_ne rfl))) (by rw [hcnt]; simp)) (fun z => nomatch z) fun _ => ?_
        · obtain rfl := DpT.str_ hx
          exact ⟨_, fun Q q => q, rfl, et_is (et_test (ev_op (ev_var rfl) ev_c (rv_eq rfl))) (by simp), fun _ => Ev.dStr (ev_var rfl)⟩
        · rw [← hL]
          exact evr_refs g14 (evs_F (evf_tupStr rfl (.inl (.inl hpb14)))) hz ust
        · have xA : Xt H' H14 := ((x9.trans e10).trans x13).trans e14
          exact ⟨_, _, _, _, _, _, _, _, _, _, _, _, _, _, rfl, g14, xL.trans xA, xA.1 _ _ hpwL, xA.1 _ _ hpgL⟩
    · obtain ⟨o1, o2, o3, o6, o7, o8, o9, o10, o11, o12, o13, o14, o15, o16, rfl, gL, xL, hpwL, hpgL⟩ := hP
      refine s_ret (v := .bl true) gL (ev_bl (ev_andV (ev_eqSame (n := 1) (d := .tuple []) (evd_refs0 (K := K) (C := C) ?_) evf_nil.toD ⟨by decide, fun _ h => nomatch h⟩ (by decide)) fun _ => ev_eqSame (n := 1) (d := .tuple []) ?_ evf_nil.toD ⟨by decide, fun _ h => nomatch h⟩ (by decide)) rfl) ⟨H, xL.back gd, q⟩
      · exact evr_refs (us := []) gL (evs_F evf_nil) (by decide) fun _ h => nomatch h
      · exact evd_said (us := []) (ps := []) gL (evs_F evf_nil) (ev_make0 gL h0) (by decide) fun _ h => nomatch h
  · have hpw5 := s5.kp _ _ npwb hpw4
    have hpn5 := s5.kp _ _ npb hpn4
    obtain ⟨c1, c2, _⟩ := tok_const
    refine s_setO s5.gd (evo_catVO (ev_var rfl) hpw5 (evo_lst (ea_cons ev_c (ea_cons ev_c ea_nil)) (show 2 ≤ 100000 by decide)) (by rw [List.length_map]; show wds.length + 2 ≤ 100000; omega)) rfl rfl fun p hp => hJ _ _ ?_
    have nps : ∀ {a o}, H' a = some o → a ≠ p := fun h => ne_of_none h hp
    refine ⟨p, wds ++ [("as" : Str), "lost"], rfl, s5.gd.new hp rfl rfl, s5.bag.xt (Xt.new hp rfl rfl), (sbx x4 s5).trans (Xt.new hp rfl rfl), by rw [upd_ne (nps hpn5)]; exact hpn5, by rw [upd_same, List.map_append]; rfl, free_bag s5.bag hp, by simp, by rw [List.length_append]; show wds.length + 2 < 64; omega, ?_, fun t ht => ?_, fun t ht => ?_⟩
    · have h2 : ∀ s : Str, s = "as" ∨ s = "lost" → s ∉ wds := fun s hs hm => by
        obtain ⟨c, r, h1, h2, _⟩ := hwk s hm
        have : ∀ k ∈ [("as" : Str), "lost"], ∀ c ∈ (tl k).head?, c ∉ firsts := by decide +kernel
        exact this s (by rcases hs with rfl | rfl <;> simp) c (by rw [h1]; rfl) h2
      rw [List.nodup_append]
      refine ⟨hwn, by decide +kernel, fun a ha c hc e => ?_⟩
      subst e
      simp only [List.mem_cons, List.not_mem_nil, or_false] at hc
      exact h2 a hc ha
    · rcases List.mem_append.mp ht with ht | ht
      · exact tok_name (hwk t ht)
      · simp only [List.mem_cons, List.not_mem_nil, or_false] at ht
        rcases ht with rfl | rfl
        · exact c1
        · exact c2
    · rcases List.mem_append.mp ht with ht | ht
      · exact (hwk t ht).word
      · simp only [List.mem_cons, List.not_mem_nil, or_false] at ht
        rcases ht with rfl | rfl <;> decide +kernel
  · exact ⟨pw, wds, rfl, s5.gd, s5.bag, sbx x4 s5, s5.kp _ _ npb hpn4, s5.kp _ _ npwb hpw4, npwb, hw0, by omega, hwn, fun t ht => tok_name (hwk t ht), fun t ht => (hwk t ht).word⟩
end
end Z
namespace Z
open PySem PySem.Spec PyProof.Rows L2 M TL
/-! ## what the program's top has left -/
def strsAre : List Str → List Value → Bool
  | [], [] => true
  | x :: r, .str y _ :: t => decide (x = y) && strsAre r t
  | _, _ => false
theorem strsAre_vals : ∀ {xs : List Str} {us : List Value}, strsAre xs us = true → Vals (xs.map V.str) us
  | [], [], _ => .nil
  | x :: r, .str y k :: t, h => by
    have h' : (decide (x = y) && strsAre r t) = true := h
    rw [Bool.and_eq_true] at h'
    have e := of_decide_eq_true h'.1
    subst e
    exact .cons ⟨k, rfl⟩ (strsAre_vals h'.2)
/-- where a def stands -/
def DefAt (K : PySem.W.Frag) (x : Str) (st : Stmt) : Prop := ∃ f fd, Fun K x x st f fd ∧ PySem.W.nsIn K mainGlobals x = some (some (.ref f))
theorem defAt {K : PySem.W.Frag} {x : Str} {st : Stmt} {f : Addr} {oc kV dc pm cd ct : Value} {od an : Option Addr} {sl : Array (Option Value)} (a : PySem.W.nsIn K mainGlobals x = some (some (.ref f)))
    (l : K.lookup f = some ⟨oc, od, .func (PySem.W.fnOf x x (defArgs st) (defBody st) (defScope st) .none kV dc pm an cd ct), sl⟩) (c : PySem.W.codeIn K cd x = true) (k : PySem.W.keepIn K (.ref f) = true) : DefAt K x st := ⟨f, _, fun_mk l c k, a⟩
/-- the class: its __init__ with the default () -/
structure WClsAt (K : PySem.W.Frag) (C : Addr) (fI e0 : Addr) (fd : FuncData) : Prop where
  fn : FunD K "__init__" "WordMap.__init__" (defArgs s_WordMap___init__) (defBody s_WordMap___init__) (defScope s_WordMap___init__) [.ref e0] [] fI fd
  maker : Mk K C fI
  e0 : ∀ H, SqT K H e0 []
  aC : PySem.W.nsIn K mainGlobals "WordMap" = some (some (.ref C))
  W : WTxt K C
theorem clsAt {K : PySem.W.Frag} {C fI T e0 : Addr} {oc kV dc pm cd ct : Value} {od an d1 d2 : Option Addr} {sl s1 s2 : Array (Option Value)} {oc1 : Value} {n1 n2 : Nat}
    (aC : PySem.W.nsIn K mainGlobals "WordMap" = some (some (.ref C))) (a1 : PySem.W.findIn K (.ref C) "__init__" = some (some (.ref fI))) (i1 : PySem.W.isFn K (.ref fI) = true)
    (l1 : K.lookup fI = some ⟨oc, od, .func (PySem.W.fnOf "__init__" "WordMap.__init__" (defArgs s_WordMap___init__) (defBody s_WordMap___init__) (defScope s_WordMap___init__) (.ref T) kV dc pm an cd ct), sl⟩) (c1 : PySem.W.codeIn K cd "WordMap.__init__" = true) (k1 : PySem.W.keepIn K (.ref fI) = true)
    (lT : K.lookup T = some ⟨oc1, d1, .seq #[.ref e0] n1, s1⟩) (lE : K.lookup e0 = some ⟨.type "tuple", d2, .seq #[] n2, s2⟩)
    (pg : PySem.W.plainGet K C Str.empty = true) (hd : PySem.W.hasDictIn K C = true) (po : PySem.W.plainOver K C = true) (sa : PySem.W.findIn K (.ref C) "__setattr__" = some (some (.builtin "object.__setattr__"))) (mk : PySem.W.makesIn K C = true) (kc : PySem.W.keepIn K (.ref C) = true)
    (nP : PySem.W.findIn K (.ref C) "pairs" = some none) (nT : PySem.W.findIn K (.ref C) "_table" = some none) : ∃ fd, WClsAt K C fI e0 fd :=
  ⟨_, ⟨⟨oc, od, .ref T, kV, dc, pm, an, cd, ct, sl, rfl, l1, c1, .inr ⟨by simp, T, _, [.ref e0], n1, rfl, lT, rfl, .cons rfl .nil⟩, .inl rfl⟩, k1⟩, ⟨mk, a1, i1, kc⟩, fun H => .inr ⟨_, #[], n2, lE, rfl, rfl, Nat.zero_le _, .nil⟩, aC, ⟨pg, hd, po, sa⟩, nP, nT⟩
structure TopAt (K : PySem.W.Frag) (C kw : Addr) : Prop where
  b_abs : PySem.W.nsIn K mainGlobals "abs" = some none
  b_all : PySem.W.nsIn K mainGlobals "all" = some none
  b_bool : PySem.W.nsIn K mainGlobals "bool" = some none
  b_dict : PySem.W.nsIn K mainGlobals "dict" = some none
  b_int : PySem.W.nsIn K mainGlobals "int" = some none
  b_isinstance : PySem.W.nsIn K mainGlobals "isinstance" = some none
  b_len : PySem.W.nsIn K mainGlobals "len" = some none
  b_list : PySem.W.nsIn K mainGlobals "list" = some none
  b_range : PySem.W.nsIn K mainGlobals "range" = some none
  b_sorted : PySem.W.nsIn K mainGlobals "sorted" = some none
  b_str : PySem.W.nsIn K mainGlobals "str" = some none
  b_sum : PySem.W.nsIn K mainGlobals "sum" = some none
  b_tuple : PySem.W.nsIn K mainGlobals "tuple" = some none
  aK : PySem.W.nsIn K mainGlobals "KEYWORDS" = some (some (.ref kw))
  lK : ∃ (o : Obj) (its : Array Value) (n : Nat), K.lookup kw = some o ∧ o.cls = .type "tuple" ∧ o.data = .seq its n ∧ its.size ≤ sizeLine ∧ Vals (KW.map V.str) its.toList
  i1 : PySem.W.findIn K (.ref C) "__class__" = some (some (.builtin "object.__class__"))
  i2 : PySem.W.specialIn K (.builtin "object.__class__") "__get__" = some (some (.builtin "getset_descriptor.__get__"))
  i3 : PySem.W.takesIn K (.builtin "object.__class__") = some true
  i4 : PySem.W.mroIn K C (.type "object") = some true
theorem kwAt {K : PySem.W.Frag} {kw : Addr} {d : Option Addr} {its : Array Value} {n : Nat} {sl : Array (Option Value)} (l : K.lookup kw = some ⟨.type "tuple", d, .seq its n, sl⟩) (h : strsAre KW its.toList = true) : ∃ (o : Obj) (its : Array Value) (n : Nat), K.lookup kw = some o ∧ o.cls = .type "tuple" ∧ o.data = .seq its n ∧ its.size ≤ sizeLine ∧ Vals (KW.map V.str) its.toList := by
  have v := strsAre_vals h
  refine ⟨_, its, n, l, rfl, rfl, ?_, v⟩
  have e := Vals.length v
  rw [List.length_map] at e
  have e2 : its.size = its.toList.length := by simp
  rw [e2, ← e]
  exact sz_of (by decide +kernel)
theorem all_mk {l : PySem.W.OpenLaw} {w : World} {K : PySem.W.Frag} {h : Heap} {mg : Str → Option Value} {fa C fI e0 kw : Addr} (X : K.In h) (G : h.Ns mainGlobals mg) (hfa : mg "law" = some (.ref fa)) (CE : ∃ fdI, WClsAt K C fI e0 fdI) (TA : TopAt K C kw)
    (D_deep : DefAt K "deep" s_deep)
    (D_is_word : DefAt K "is_word" s_is_word)
    (D_is_name : DefAt K "is_name" s_is_name)
    (D_is_number : DefAt K "is_number" s_is_number)
    (D_is_label : DefAt K "is_label" s_is_label)
    (D_is_address : DefAt K "is_address" s_is_address)
    (D_is_follower : DefAt K "is_follower" s_is_follower)
    (D_place_named : DefAt K "place_named" s_place_named)
    (D_is_map : DefAt K "is_map" s_is_map)
    (D_pairs_of : DefAt K "pairs_of" s_pairs_of)
    (D_first_readings : DefAt K "first_readings" s_first_readings)
    (D_is_reading : DefAt K "is_reading" s_is_reading)
    (D_led_to : DefAt K "led_to" s_led_to)
    (D_parsed : DefAt K "parsed" s_parsed)
    (D_mapped : DefAt K "mapped" s_mapped)
    (D_said : DefAt K "said" s_said)
    (D_references : DefAt K "references" s_references)
    (D__law_bag_of : DefAt K "_law_bag_of" s__law_bag_of)
    (D__law_pick : DefAt K "_law_pick" s__law_pick)
    (D__law_one_of : DefAt K "_law_one_of" s__law_one_of)
    (D__law_name_of : DefAt K "_law_name_of" s__law_name_of)
    (D__law_names_of : DefAt K "_law_names_of" s__law_names_of)
    (D__law_new_place : DefAt K "_law_new_place" s__law_new_place)
    (D__law_places_of : DefAt K "_law_places_of" s__law_places_of)
    (D__law_no_list : DefAt K "_law_no_list" s__law_no_list)
    (D__law_same_tuple : DefAt K "_law_same_tuple" s__law_same_tuple)
    (D__law_is_letters : DefAt K "_law_is_letters" s__law_is_letters)
    (D__law_parse : DefAt K "_law_parse" s__law_parse)
    (D__law_then : DefAt K "_law_then" s__law_then)
    (D__law_pairs : DefAt K "_law_pairs" s__law_pairs)
    (D__law_some_map : DefAt K "_law_some_map" s__law_some_map)
    (D__law_any_body : DefAt K "_law_any_body" s__law_any_body)
    (D__law_are_references : DefAt K "_law_are_references" s__law_are_references)
    (D_law : DefAt K "law" s_law) :
    ∃ fd : FuncData, (∀ (s : Shared) (v : Value), BindsTo s fd ⟨[v], []⟩ [("script", v)]) ∧ ∀ base : Heap, K.In base → base.Ns mainGlobals mg → FnOk l.prog w K mg base CX0 7 fa fd ["script"] (spLaw K) := by
  obtain ⟨fdI, CA⟩ := CE
  have nb : ∀ x : Str, PySem.W.nsIn K mainGlobals x = some none → mg x = none := fun x h => PySem.W.mg_none_of X G h
  have T : Txt0 K mg kw := { n_abs := nb _ TA.b_abs, n_all := nb _ TA.b_all, n_bool := nb _ TA.b_bool, n_dict := nb _ TA.b_dict, n_int := nb _ TA.b_int, n_isinstance := nb _ TA.b_isinstance, n_len := nb _ TA.b_len, n_list := nb _ TA.b_list, n_range := nb _ TA.b_range, n_sorted := nb _ TA.b_sorted, n_str := nb _ TA.b_str, n_sum := nb _ TA.b_sum, n_tuple := nb _ TA.b_tuple, g_KEYWORDS := PySem.W.mg_of X G TA.aK, k_KEYWORDS := TA.lK }
  have TC : TxtC K mg kw C := { T with c_WordMap := PySem.W.mg_of X G CA.aC, i1 := TA.i1, i2 := TA.i2, i3 := TA.i3, i4 := TA.i4 }
  have W := CA.W
  obtain ⟨fl, fdl, Fl, al⟩ := D_law
  have el := hfa.symm.trans (PySem.W.mg_of X G al)
  cases el
  refine ⟨fdl, ?_, fun base _ _ => ?_⟩
  · obtain ⟨oc, od, kV, dc, pm, an, cd, ct, sl, rfl, _⟩ := Fl.ex
    exact fun s v => .of_eq rfl
  have C_deep : Callee l.prog w K mg base "deep" 3 ["thing"] [] (spDeep K 3) := by
    obtain ⟨f, fd, F, a⟩ := D_deep
    have b := F.binds (ps := ["thing"]) fun _ _ _ _ _ _ us hl => match us, hl with | [_], _ => rfl
    exact callee_of (ok_deep F T (PySem.W.mg_of X G a) b 3) (PySem.W.mg_of X G a) F.kp b
  have C_is_word : Callee l.prog w K mg base "is_word" 1 ["thing"] [] (spB K isWord) := by
    obtain ⟨f, fd, F, a⟩ := D_is_word
    exact callee_of (ok_is_word F T) (PySem.W.mg_of X G a) F.kp (F.binds (ps := ["thing"]) fun _ _ _ _ _ _ us hl => match us, hl with | [_], _ => rfl)
  have C_is_name : Callee l.prog w K mg base "is_name" 2 ["thing"] [] (spB K isName) := by
    obtain ⟨f, fd, F, a⟩ := D_is_name
    exact callee_of (ok_is_name F T C_is_word) (PySem.W.mg_of X G a) F.kp (F.binds (ps := ["thing"]) fun _ _ _ _ _ _ us hl => match us, hl with | [_], _ => rfl)
  have C_is_number : Callee l.prog w K mg base "is_number" 1 ["thing"] [] (spB K isNumber) := by
    obtain ⟨f, fd, F, a⟩ := D_is_number
    exact callee_of (ok_is_number F T) (PySem.W.mg_of X G a) F.kp (F.binds (ps := ["thing"]) fun _ _ _ _ _ _ us hl => match us, hl with | [_], _ => rfl)
  have C_is_label : Callee l.prog w K mg base "is_label" 2 ["thing"] [] (spB K isLabel) := by
    obtain ⟨f, fd, F, a⟩ := D_is_label
    exact callee_of (ok_is_label F T C_is_number) (PySem.W.mg_of X G a) F.kp (F.binds (ps := ["thing"]) fun _ _ _ _ _ _ us hl => match us, hl with | [_], _ => rfl)
  have C_is_address : Callee l.prog w K mg base "is_address" 3 ["thing"] [] (spB K isAddress) := by
    obtain ⟨f, fd, F, a⟩ := D_is_address
    exact callee_of (ok_is_address F T C_is_name C_is_label) (PySem.W.mg_of X G a) F.kp (F.binds (ps := ["thing"]) fun _ _ _ _ _ _ us hl => match us, hl with | [_], _ => rfl)
  have C_is_follower : Callee l.prog w K mg base "is_follower" 4 ["thing"] [] (spB K isFollower) := by
    obtain ⟨f, fd, F, a⟩ := D_is_follower
    exact callee_of (ok_is_follower F T C_is_address) (PySem.W.mg_of X G a) F.kp (F.binds (ps := ["thing"]) fun _ _ _ _ _ _ us hl => match us, hl with | [_], _ => rfl)
  have C_place_named : Callee l.prog w K mg base "place_named" 1 ["token"] [] (sp1 K strNe fun d => .str (placeNamed (toStr d))) := by
    obtain ⟨f, fd, F, a⟩ := D_place_named
    exact callee_of (ok_place_named F T) (PySem.W.mg_of X G a) F.kp (F.binds (ps := ["token"]) fun _ _ _ _ _ _ us hl => match us, hl with | [_], _ => rfl)
  have C_is_map : Callee l.prog w K mg base "is_map" 2 ["pairs"] [] (spIsMap K) := by
    obtain ⟨f, fd, F, a⟩ := D_is_map
    exact callee_of (ok_is_map F T C_is_word) (PySem.W.mg_of X G a) F.kp (F.binds (ps := ["pairs"]) fun _ _ _ _ _ _ us hl => match us, hl with | [_], _ => rfl)
  have C_pairs_of : Callee l.prog w K mg base "pairs_of" 1 ["table"] [] (spPairsOf K) := by
    obtain ⟨f, fd, F, a⟩ := D_pairs_of
    exact callee_of (ok_pairs_of F T) (PySem.W.mg_of X G a) F.kp (F.binds (ps := ["table"]) fun _ _ _ _ _ _ us hl => match us, hl with | [_], _ => rfl)
  have C_first_readings : Callee l.prog w K mg base "first_readings" 2 ["readings"] [] (spFirst K) := by
    obtain ⟨f, fd, F, a⟩ := D_first_readings
    exact callee_of (ok_first_readings F T C_pairs_of) (PySem.W.mg_of X G a) F.kp (F.binds (ps := ["readings"]) fun _ _ _ _ _ _ us hl => match us, hl with | [_], _ => rfl)
  have C_is_reading : Callee l.prog w K mg base "is_reading" 2 ["body", "at"] [] (spIsReading K) := by
    obtain ⟨f, fd, F, a⟩ := D_is_reading
    exact callee_of (ok_is_reading F T C_is_word) (PySem.W.mg_of X G a) F.kp (F.binds (ps := ["body", "at"]) fun _ _ _ _ _ _ us hl => match us, hl with | [_, _], _ => rfl)
  have C_led_to : Callee l.prog w K mg base "led_to" 2 ["token"] [] (spLedTo K) := by
    obtain ⟨f, fd, F, a⟩ := D_led_to
    exact callee_of (ok_led_to F T C_place_named) (PySem.W.mg_of X G a) F.kp (F.binds (ps := ["token"]) fun _ _ _ _ _ _ us hl => match us, hl with | [_], _ => rfl)
  have C_parsed : Callee l.prog w K mg base "parsed" 5 ["body"] [] (spParsed K) := by
    obtain ⟨f, fd, F, a⟩ := D_parsed
    exact callee_of (ok_parsed F T C_is_address C_is_follower C_is_reading C_led_to C_first_readings) (PySem.W.mg_of X G a) F.kp (F.binds (ps := ["body"]) fun _ _ _ _ _ _ us hl => match us, hl with | [_], _ => rfl)
  have C_mapped : Callee l.prog w K mg base "mapped" 1 ["told", "pairs"] [] (spMapped K) := by
    obtain ⟨f, fd, F, a⟩ := D_mapped
    exact callee_of (ok_mapped F T) (PySem.W.mg_of X G a) F.kp (F.binds (ps := ["told", "pairs"]) fun _ _ _ _ _ _ us hl => match us, hl with | [_, _], _ => rfl)
  have C_said : Callee l.prog w K mg base "said" 6 ["body", "word_map"] [] (spSaid K C) := by
    obtain ⟨f, fd, F, a⟩ := D_said
    exact callee_of (ok_said F T W C_parsed C_mapped) (PySem.W.mg_of X G a) F.kp (F.binds (ps := ["body", "word_map"]) fun _ _ _ _ _ _ us hl => match us, hl with | [_, _], _ => rfl)
  have C_WordMap : MkCallee l.prog w K mg base "WordMap" C 4 ["self", "pairs"] [] (spWInit K C) := by
    obtain ⟨ds, h1, h2⟩ := CA.fn.binds1 (ps := ["self", "pairs"]) 2 1 (by simp) rfl fun T kV doc pm an cdv ct us its h1 h2 => match us, its, h1, h2 with | [_, _], [_], _, _ => ⟨_, rfl, rfl⟩
    exact ⟨fI, fdI, ds, ok_winit CA.fn T W C_deep C_is_map, CA.maker, PySem.W.mg_of X G CA.aC, h2, h1⟩
  have C0_WordMap : MkCallee l.prog w K mg base "WordMap" C 4 ["self", "pairs"] [.ref e0] (spWInit K C) := by
    obtain ⟨ds, h1, h2⟩ := CA.fn.binds1 (ps := ["self", "pairs"]) 1 0 (by simp) rfl fun T kV doc pm an cdv ct us its h1 h2 => match us, its, h1, h2 with | [_], [_], _, _ => ⟨_, rfl, rfl⟩
    exact ⟨fI, fdI, ds, ok_winit CA.fn T W C_deep C_is_map, CA.maker, PySem.W.mg_of X G CA.aC, h2, h1⟩
  have C_references : Callee l.prog w K mg base "references" 6 ["body"] [] (spRefs K C) := by
    obtain ⟨f, fd, F, a⟩ := D_references
    exact callee_of (ok_references F T C_parsed C_WordMap) (PySem.W.mg_of X G a) F.kp (F.binds (ps := ["body"]) fun _ _ _ _ _ _ us hl => match us, hl with | [_], _ => rfl)
  have C__law_bag_of : Callee l.prog w K mg base "_law_bag_of" 1 ["script", "at"] [] (spBagOf K) := by
    obtain ⟨f, fd, F, a⟩ := D__law_bag_of
    exact callee_of (ok_bag_of F T) (PySem.W.mg_of X G a) F.kp (F.binds (ps := ["script", "at"]) fun _ _ _ _ _ _ us hl => match us, hl with | [_, _], _ => rfl)
  have C__law_pick : Callee l.prog w K mg base "_law_pick" 1 ["bag", "many"] [] (spPick) := by
    obtain ⟨f, fd, F, a⟩ := D__law_pick
    exact callee_of (ok_pick F T) (PySem.W.mg_of X G a) F.kp (F.binds (ps := ["bag", "many"]) fun _ _ _ _ _ _ us hl => match us, hl with | [_, _], _ => rfl)
  have C__law_one_of : Callee l.prog w K mg base "_law_one_of" 2 ["bag", "row"] [] (spOneOf K) := by
    obtain ⟨f, fd, F, a⟩ := D__law_one_of
    exact callee_of (ok_one_of F T C__law_pick) (PySem.W.mg_of X G a) F.kp (F.binds (ps := ["bag", "row"]) fun _ _ _ _ _ _ us hl => match us, hl with | [_, _], _ => rfl)
  have C__law_name_of : Callee l.prog w K mg base "_law_name_of" 3 ["bag", "taken"] [] (spNameOf K) := by
    obtain ⟨f, fd, F, a⟩ := D__law_name_of
    exact callee_of (ok_name_of F T C__law_pick C__law_one_of) (PySem.W.mg_of X G a) F.kp (F.binds (ps := ["bag", "taken"]) fun _ _ _ _ _ _ us hl => match us, hl with | [_, _], _ => rfl)
  have C__law_names_of : Callee l.prog w K mg base "_law_names_of" 4 ["bag", "many", "taken"] [] (spNamesOf K) := by
    obtain ⟨f, fd, F, a⟩ := D__law_names_of
    exact callee_of (ok_names_of F T C__law_name_of) (PySem.W.mg_of X G a) F.kp (F.binds (ps := ["bag", "many", "taken"]) fun _ _ _ _ _ _ us hl => match us, hl with | [_, _, _], _ => rfl)
  have C__law_new_place : Callee l.prog w K mg base "_law_new_place" 3 ["bag", "tops", "places"] [] (spNewPlace K) := by
    obtain ⟨f, fd, F, a⟩ := D__law_new_place
    exact callee_of (ok_new_place F T C__law_pick C__law_one_of) (PySem.W.mg_of X G a) F.kp (F.binds (ps := ["bag", "tops", "places"]) fun _ _ _ _ _ _ us hl => match us, hl with | [_, _, _], _ => rfl)
  have C__law_places_of : Callee l.prog w K mg base "_law_places_of" 4 ["bag", "world", "many"] [] (spPlacesOf K) := by
    obtain ⟨f, fd, F, a⟩ := D__law_places_of
    exact callee_of (ok_places_of F T C__law_pick C__law_new_place) (PySem.W.mg_of X G a) F.kp (F.binds (ps := ["bag", "world", "many"]) fun _ _ _ _ _ _ us hl => match us, hl with | [_, _, _], _ => rfl)
  have C__law_no_list : Callee l.prog w K mg base "_law_no_list" 3 ["thing"] [] (spNoList K 3) := by
    obtain ⟨f, fd, F, a⟩ := D__law_no_list
    have b := F.binds (ps := ["thing"]) fun _ _ _ _ _ _ us hl => match us, hl with | [_], _ => rfl
    exact callee_of (ok_no_list F T (PySem.W.mg_of X G a) b 3) (PySem.W.mg_of X G a) F.kp b
  have C__law_same_tuple : Callee l.prog w K mg base "_law_same_tuple" 4 ["told", "wanted"] [] (spSame K) := by
    obtain ⟨f, fd, F, a⟩ := D__law_same_tuple
    exact callee_of (ok_same_tuple F T C__law_no_list) (PySem.W.mg_of X G a) F.kp (F.binds (ps := ["told", "wanted"]) fun _ _ _ _ _ _ us hl => match us, hl with | [_, _], _ => rfl)
  have C__law_is_letters : Callee l.prog w K mg base "_law_is_letters" 1 ["token"] [] (spLet) := by
    obtain ⟨f, fd, F, a⟩ := D__law_is_letters
    exact callee_of (ok_is_letters F T) (PySem.W.mg_of X G a) F.kp (F.binds (ps := ["token"]) fun _ _ _ _ _ _ us hl => match us, hl with | [_], _ => rfl)
  have C__law_parse : Callee l.prog w K mg base "_law_parse" 2 ["body"] [] (spParse K) := by
    obtain ⟨f, fd, F, a⟩ := D__law_parse
    exact callee_of (ok_parse F T C__law_is_letters) (PySem.W.mg_of X G a) F.kp (F.binds (ps := ["body"]) fun _ _ _ _ _ _ us hl => match us, hl with | [_], _ => rfl)
  have C__law_then : Callee l.prog w K mg base "_law_then" 1 ["inner", "outer"] [] (spThen K) := by
    obtain ⟨f, fd, F, a⟩ := D__law_then
    exact callee_of (ok_then F T) (PySem.W.mg_of X G a) F.kp (F.binds (ps := ["inner", "outer"]) fun _ _ _ _ _ _ us hl => match us, hl with | [_, _], _ => rfl)
  have C__law_pairs : Callee l.prog w K mg base "_law_pairs" 1 ["table"] [] (spPairs K) := by
    obtain ⟨f, fd, F, a⟩ := D__law_pairs
    exact callee_of (ok_pairs F T) (PySem.W.mg_of X G a) F.kp (F.binds (ps := ["table"]) fun _ _ _ _ _ _ us hl => match us, hl with | [_], _ => rfl)
  have C__law_some_map : Callee l.prog w K mg base "_law_some_map" 3 ["bag", "words"] [] (spSomeMap K) := by
    obtain ⟨f, fd, F, a⟩ := D__law_some_map
    exact callee_of (ok_some_map F T C__law_pick C__law_one_of) (PySem.W.mg_of X G a) F.kp (F.binds (ps := ["bag", "words"]) fun _ _ _ _ _ _ us hl => match us, hl with | [_, _], _ => rfl)
  have C__law_any_body : Callee l.prog w K mg base "_law_any_body" 3 ["bag", "words", "goals"] [] (spAnyBody K) := by
    obtain ⟨f, fd, F, a⟩ := D__law_any_body
    exact callee_of (ok_any_body F T C__law_pick C__law_one_of) (PySem.W.mg_of X G a) F.kp (F.binds (ps := ["bag", "words", "goals"]) fun _ _ _ _ _ _ us hl => match us, hl with | [_, _, _], _ => rfl)
  have C__law_are_references : Callee l.prog w K mg base "_law_are_references" 5 ["actual", "leads"] [] (spAreRefs K C) := by
    obtain ⟨f, fd, F, a⟩ := D__law_are_references
    exact callee_of (ok_are_references F TC W C__law_same_tuple C__law_pairs C__law_then) (PySem.W.mg_of X G a) F.kp (F.binds (ps := ["actual", "leads"]) fun _ _ _ _ _ _ us hl => match us, hl with | [_, _], _ => rfl)
  exact ok_law Fl TC W CA.e0 C__law_bag_of C__law_pick C__law_names_of C__law_places_of C__law_any_body C__law_some_map C__law_parse C__law_are_references C__law_same_tuple C_references C_said C_WordMap C0_WordMap
theorem gd_only {H : Hp} (h : Only H) : Gd H where
  ok := fun a o e => by
    rcases h a with n | ⟨ob, xs, n⟩
    · rw [n] at e; cases e
    · rw [n] at e; cases e; rfl
  cl := fun a C dx fs e => by
    rcases h a with n | ⟨ob, xs, n⟩
    · rw [n] at e; cases e
    · rw [n] at e; cases e
theorem walk {l : PySem.W.OpenLaw} {q : Program} {loose : List Str} {XP : (Str → Option Value) → Heap → Prop} {YP : World → Heap → Prop} {d : DefRec} {K : Params → PySem.W.Frag} (hn : l.most = some 63) (hdf : d.params.defaults = [])
    (hY : ∀ (w : World) (h : Heap), YP w h → (K w.params).In h)
    (F : ∀ (w : World) (mg : Str → Option Value) (fa : Addr) (h : Heap), (K w.params).In h → h.Ns mainGlobals mg → mg d.name = some (.ref fa) →
      ∃ fd : FuncData, (∀ (s : Shared) (u : Value), BindsTo s fd ⟨[u], []⟩ [("script", u)]) ∧ ∀ base : Heap, (K w.params).In base → base.Ns mainGlobals mg → FnOk l.prog w (K w.params) mg base CX0 7 fa fd ["script"] (spLaw (K w.params))) :
    PySem.W.WalkO q loose XP YP l.row.toRowW d [] (fun f vs => PySem.call f vs) :=
  L2.walk_of (n := 63) (k := 7) (x := "script") (CX := fun _ => CX0) (sp := fun w => spLaw (K w.params)) hn (by decide) hdf ⟨rfl, by decide, by decide⟩ hY F (fun _ _ a ns hl hO hS => ⟨a, ns, rfl, gd_only hO, hS, by omega, rfl⟩) fun _ _ _ _ _ z => z
end Z
open PySem PySem.W PyProof.Rows
set_option maxRecDepth 100000 in
set_option maxHeartbeats 0 in
theorem PySem.Challenge.cw_actsawake_k57_references_and_said_holds : PySem.Challenge.rw_actsawake_k57_references_and_said.Holds := by
  w_on; o_law; k_head; (case hw => w_witness2)
  k_fill
  refine Z.walk (l := PySem.Challenge.rw_actsawake_k57_references_and_said) rfl rfl (fun w h Y => PySem.W.kIn_of Y) ?F
  case F =>
    intro w mg fa h KX G hmg
    refine' Z.all_mk KX G hmg (Z.clsAt ?aC ?a1 ?i1 ?l1 ?c1 ?k1 ?lT ?lE ?pg ?hd ?po ?sa ?mk ?kc ?nP ?nT) ⟨?b_abs, ?b_all, ?b_bool, ?b_dict, ?b_int, ?b_isinstance, ?b_len, ?b_list, ?b_range, ?b_sorted, ?b_str, ?b_sum, ?b_tuple, ?aK, Z.kwAt ?lK ?vK, ?j1, ?j2, ?j3, ?j4⟩ (Z.defAt ?a_deep ?l_deep ?c_deep ?k_deep) (Z.defAt ?a_is_word ?l_is_word ?c_is_word ?k_is_word) (Z.defAt ?a_is_name ?l_is_name ?c_is_name ?k_is_name) (Z.defAt ?a_is_number ?l_is_number ?c_is_number ?k_is_number) (Z.defAt ?a_is_label ?l_is_label ?c_is_label ?k_is_label) (Z.defAt ?a_is_address ?l_is_address ?c_is_address ?k_is_address) (Z.defAt ?a_is_follower ?l_is_follower ?c_is_follower ?k_is_follower) (Z.defAt ?a_place_named ?l_place_named ?c_place_named ?k_place_named) (Z.defAt ?a_is_map ?l_is_map ?c_is_map ?k_is_map) (Z.defAt ?a_pairs_of ?l_pairs_of ?c_pairs_of ?k_pairs_of) (Z.defAt ?a_first_readings ?l_first_readings ?c_first_readings ?k_first_readings) (Z.defAt ?a_is_reading ?l_is_reading ?c_is_reading ?k_is_reading) (Z.defAt ?a_led_to ?l_led_to ?c_led_to ?k_led_to) (Z.defAt ?a_parsed ?l_parsed ?c_parsed ?k_parsed) (Z.defAt ?a_mapped ?l_mapped ?c_mapped ?k_mapped) (Z.defAt ?a_said ?l_said ?c_said ?k_said) (Z.defAt ?a_references ?l_references ?c_references ?k_references) (Z.defAt ?a__law_bag_of ?l__law_bag_of ?c__law_bag_of ?k__law_bag_of) (Z.defAt ?a__law_pick ?l__law_pick ?c__law_pick ?k__law_pick) (Z.defAt ?a__law_one_of ?l__law_one_of ?c__law_one_of ?k__law_one_of) (Z.defAt ?a__law_name_of ?l__law_name_of ?c__law_name_of ?k__law_name_of) (Z.defAt ?a__law_names_of ?l__law_names_of ?c__law_names_of ?k__law_names_of) (Z.defAt ?a__law_new_place ?l__law_new_place ?c__law_new_place ?k__law_new_place) (Z.defAt ?a__law_places_of ?l__law_places_of ?c__law_places_of ?k__law_places_of) (Z.defAt ?a__law_no_list ?l__law_no_list ?c__law_no_list ?k__law_no_list) (Z.defAt ?a__law_same_tuple ?l__law_same_tuple ?c__law_same_tuple ?k__law_same_tuple) (Z.defAt ?a__law_is_letters ?l__law_is_letters ?c__law_is_letters ?k__law_is_letters) (Z.defAt ?a__law_parse ?l__law_parse ?c__law_parse ?k__law_parse) (Z.defAt ?a__law_then ?l__law_then ?c__law_then ?k__law_then) (Z.defAt ?a__law_pairs ?l__law_pairs ?c__law_pairs ?k__law_pairs) (Z.defAt ?a__law_some_map ?l__law_some_map ?c__law_some_map ?k__law_some_map) (Z.defAt ?a__law_any_body ?l__law_any_body ?c__law_any_body ?k__law_any_body) (Z.defAt ?a__law_are_references ?l__law_are_references ?c__law_are_references ?k__law_are_references) (Z.defAt ?a_law ?l_law ?c_law ?k_law)
    (case aC => k_is)
    (case a1 => k_is)
    (case i1 => k_is)
    (case l1 => k_is)
    (case c1 => k_is)
    (case k1 => k_is)
    (case lT => k_is)
    (case lE => k_is)
    (case pg => k_is)
    (case hd => k_is)
    (case po => k_is)
    (case sa => k_is)
    (case mk => k_is)
    (case kc => k_is)
    (case nP => k_is)
    (case nT => k_is)
    (case b_abs => k_is)
    (case b_all => k_is)
    (case b_bool => k_is)
    (case b_dict => k_is)
    (case b_int => k_is)
    (case b_isinstance => k_is)
    (case b_len => k_is)
    (case b_list => k_is)
    (case b_range => k_is)
    (case b_sorted => k_is)
    (case b_str => k_is)
    (case b_sum => k_is)
    (case b_tuple => k_is)
    (case aK => k_is)
    (case lK => k_is)
    (case j1 => k_is)
    (case j2 => k_is)
    (case j3 => k_is)
    (case j4 => k_is)
    (case vK => decide +kernel)
    (case a_deep => k_is)
    (case l_deep => k_is)
    (case c_deep => k_is)
    (case k_deep => k_is)
    (case a_is_word => k_is)
    (case l_is_word => k_is)
    (case c_is_word => k_is)
    (case k_is_word => k_is)
    (case a_is_name => k_is)
    (case l_is_name => k_is)
    (case c_is_name => k_is)
    (case k_is_name => k_is)
    (case a_is_number => k_is)
    (case l_is_number => k_is)
    (case c_is_number => k_is)
    (case k_is_number => k_is)
    (case a_is_label => k_is)
    (case l_is_label => k_is)
    (case c_is_label => k_is)
    (case k_is_label => k_is)
    (case a_is_address => k_is)
    (case l_is_address => k_is)
    (case c_is_address => k_is)
    (case k_is_address => k_is)
    (case a_is_follower => k_is)
    (case l_is_follower => k_is)
    (case c_is_follower => k_is)
    (case k_is_follower => k_is)
    (case a_place_named => k_is)
    (case l_place_named => k_is)
    (case c_place_named => k_is)
    (case k_place_named => k_is)
    (case a_is_map => k_is)
    (case l_is_map => k_is)
    (case c_is_map => k_is)
    (case k_is_map => k_is)
    (case a_pairs_of => k_is)
    (case l_pairs_of => k_is)
    (case c_pairs_of => k_is)
    (case k_pairs_of => k_is)
    (case a_first_readings => k_is)
    (case l_first_readings => k_is)
    (case c_first_readings => k_is)
    (case k_first_readings => k_is)
    (case a_is_reading => k_is)
    (case l_is_reading => k_is)
    (case c_is_reading => k_is)
    (case k_is_reading => k_is)
    (case a_led_to => k_is)
    (case l_led_to => k_is)
    (case c_led_to => k_is)
    (case k_led_to => k_is)
    (case a_parsed => k_is)
    (case l_parsed => k_is)
    (case c_parsed => k_is)
    (case k_parsed => k_is)
    (case a_mapped => k_is)
    (case l_mapped => k_is)
    (case c_mapped => k_is)
    (case k_mapped => k_is)
    (case a_said => k_is)
    (case l_said => k_is)
    (case c_said => k_is)
    (case k_said => k_is)
    (case a_references => k_is)
    (case l_references => k_is)
    (case c_references => k_is)
    (case k_references => k_is)
    (case a__law_bag_of => k_is)
    (case l__law_bag_of => k_is)
    (case c__law_bag_of => k_is)
    (case k__law_bag_of => k_is)
    (case a__law_pick => k_is)
    (case l__law_pick => k_is)
    (case c__law_pick => k_is)
    (case k__law_pick => k_is)
    (case a__law_one_of => k_is)
    (case l__law_one_of => k_is)
    (case c__law_one_of => k_is)
    (case k__law_one_of => k_is)
    (case a__law_name_of => k_is)
    (case l__law_name_of => k_is)
    (case c__law_name_of => k_is)
    (case k__law_name_of => k_is)
    (case a__law_names_of => k_is)
    (case l__law_names_of => k_is)
    (case c__law_names_of => k_is)
    (case k__law_names_of => k_is)
    (case a__law_new_place => k_is)
    (case l__law_new_place => k_is)
    (case c__law_new_place => k_is)
    (case k__law_new_place => k_is)
    (case a__law_places_of => k_is)
    (case l__law_places_of => k_is)
    (case c__law_places_of => k_is)
    (case k__law_places_of => k_is)
    (case a__law_no_list => k_is)
    (case l__law_no_list => k_is)
    (case c__law_no_list => k_is)
    (case k__law_no_list => k_is)
    (case a__law_same_tuple => k_is)
    (case l__law_same_tuple => k_is)
    (case c__law_same_tuple => k_is)
    (case k__law_same_tuple => k_is)
    (case a__law_is_letters => k_is)
    (case l__law_is_letters => k_is)
    (case c__law_is_letters => k_is)
    (case k__law_is_letters => k_is)
    (case a__law_parse => k_is)
    (case l__law_parse => k_is)
    (case c__law_parse => k_is)
    (case k__law_parse => k_is)
    (case a__law_then => k_is)
    (case l__law_then => k_is)
    (case c__law_then => k_is)
    (case k__law_then => k_is)
    (case a__law_pairs => k_is)
    (case l__law_pairs => k_is)
    (case c__law_pairs => k_is)
    (case k__law_pairs => k_is)
    (case a__law_some_map => k_is)
    (case l__law_some_map => k_is)
    (case c__law_some_map => k_is)
    (case k__law_some_map => k_is)
    (case a__law_any_body => k_is)
    (case l__law_any_body => k_is)
    (case c__law_any_body => k_is)
    (case k__law_any_body => k_is)
    (case a__law_are_references => k_is)
    (case l__law_are_references => k_is)
    (case c__law_are_references => k_is)
    (case k__law_are_references => k_is)
    (case a_law => k_is)
    (case l_law => k_is)
    (case c_law => k_is)
    (case k_law => k_is)
