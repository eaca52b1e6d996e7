import PyProof.Rows.All
import Wide.All
import OpenK.AllK
import Wide.FinOn
import HandS.ForMost
import HandS.Codes
import HandS.IsInst
import HandS.TupLe
import HandS.TupAny
import HandS.Deep
import HandS.Wide
import HandS.WideBits
import HandS.WideMore
import HandS.EndBits
import HandS.Star
import HandS.StrMore
import HandS.Walk
import PySem.Challenge.RW_shrunkalike_k11_whole_same_ends
import PyProof.ReprRoads
import PyProof.Rows.Range3
import HandS.SortKw
import HandS.Keys
import HandS.Conv
import HandS.Property
import HandS.DictComp
import KE.KExcSuper
import HandS.ExcInit
import HandS.Nested
import HandS.WordsExc
import HandS.ExcField
import HandS.RaiseMore
import HandS.TryMany
import PyProof.P3In
import KE.KRevSl
import HandS.Style
import PyProof.ReprLen
import HandS.Flow
import HandS.ExcIs
set_option Elab.async false
set_option linter.all false
set_option maxRecDepth 100000
/-! My base over the hand layer: callables, heaps but for one object, the law's source of draws, the lacking rules -/
namespace Sh
open PySem PySem.Spec PyProof.Rows L2
open SX (S S_inj S_len S_cat)

/-- all that was tracked is as it was, but for the object at a -/
def But (a : Addr) (H H' : Hp) : Prop := ∀ b o, b ≠ a → H b = some o → H' b = some o
theorem But.refl (a : Addr) (H : Hp) : But a H H := fun _ _ _ h => h
theorem But.trans {a : Addr} {H H1 H2 : Hp} (x : But a H H1) (y : But a H1 H2) : But a H H2 := fun b o n h => y b o n (x b o n h)
theorem But.same {a : Addr} {H H1 : Hp} (x : Same H H1) : But a H H1 := fun b o _ h => x b o h
theorem same_new {H : Hp} {p : Addr} {o : HO} (h : H p = none) : Same H (upd H p o) := fun b u e => by
  rw [upd_ne (ne_of_none e h)]
  exact e
theorem but_upd {H : Hp} {p : Addr} {o : HO} : But p H (upd H p o) := fun b u n e => by
  rw [upd_ne n]
  exact e
/-- a fresh object may change -/
theorem same_mut {H H1 : Hp} {p : Addr} {o : HO} (s : Same H H1) (h : H p = none) : Same H (upd H1 p o) := fun b u e => by
  rw [upd_ne (ne_of_none e h)]
  exact s b u e
theorem but_mut {a : Addr} {H H1 : Hp} {p : Addr} {o : HO} (s : But a H H1) (h : H p = none) : But a H (upd H1 p o) := fun b u n e => by
  rw [upd_ne (ne_of_none e h)]
  exact s b u n e
theorem But.none_of {a : Addr} {H H1 : Hp} (s : But a H H1) {p : Addr} (n : p ≠ a) (h : H1 p = none) : H p = none := by
  cases e : H p with
  | none => rfl
  | some o => rw [s p o n e] at h; cases h

/-- the law's source of draws: a list of three ints -/
def Src (H : Hp) (a : Addr) : Prop := ∃ d s c : Int, H a = some (.lst [.int d, .int s, .int c])

/-- a def that may be called by its name -/
structure Cal (P : Program) (w : World) (K : PySem.W.Frag) (mg : Str → Option Value) (base : Heap) (CX : CXT) (k : Nat) (x : Str) (sp : Sp) : Prop where
  ex : ∃ (f : Addr) (fd : FuncData) (ps : List Str), FnOk P w K mg base CX k f fd ps sp ∧ mg x = some (.ref f) ∧ PySem.W.keepIn K (.ref f) = true ∧ Binds K fd ps []
/-- a def of the text under its name, its parameters bound by place -/
structure DefAt (K : PySem.W.Frag) (mg : Str → Option Value) (x : Str) (st : Stmt) (ps : List Str) : Prop where
  ex : ∃ (f : Addr) (fd : FuncData), L2.Fun K x x st f fd ∧ mg x = some (.ref f) ∧ Binds K fd ps []
section
variable {P : Program} {w : World} {K : PySem.W.Frag} {mg : Str → Option Value} {base : Heap}
theorem Cal.mk0 {x : Str} {st : Stmt} {N ps : List Str} {k : Nat} {sp : Sp} (D : DefAt K mg x st ps) (S : FnScope N ps (defScope st)) (len : ∀ vs H Q E, sp vs H Q E → vs.length = ps.length)
    (hbody : ∀ (f : Addr) (cdv : Value) (A : Around) (outer : List Env) (s : Shared) (H : Hp) (vs : List V) (Q : VK) (E : XK), Room k (A.deeper (envOfC x (defScope st) s.heap.objs.size f cdv)) → sp vs H Q E →
      ∃ t, PSs (cxOf CX0 P w K mg base N x (defScope st) f cdv A outer s H E).nox (defBody st) t ∧ t { nx := fun _ H' => Q .non H', rt := Q } (start N vs) H) : Cal P w K mg base CX0 (k + 1) x sp := by
  obtain ⟨f, fd, F, m, b⟩ := D.ex
  exact ⟨f, fd, ps, F.ok S len (hbody f), m, F.kp, b⟩
end
section
variable {X : Cx} {k j : Nat} {x : Str} {sp : Sp} {p pos : Pos} {e : Expr} {es : List Expr} {t : TA}
theorem pe_c (c : Cal X.prog X.w X.K X.mg X.base CX0 k x sp) (hr : Room j X.A) (hk : k ≤ j) (hg : Gl X x) (ha : PA X (e :: es) t)
    (hdb : (x == ("__debug__" : Str)) = false := by decide) (he : starEach (e :: es) X.env = (false, eval e X.env) :: starEach es X.env := by rfl) (hpl : (backTo pos (starEach es X.env)).any (·.1) = false := by rfl) :
    PE X (.Call (.Name x p) (e :: es) [] pos) (tCall sp [] E0 t) := by
  obtain ⟨f, fd, ps, F, hm, kp, b⟩ := c.ex
  exact pe_call F (hr.mono hk) hg hm kp b .nil pass0 ha hdb he hpl
end

/-! ### walks by what has been taken -/
section
variable {J : It} {G : Hp → Prop} {Y : Nat → Hp → V → Hp → Prop} {α : Type}
theorem take_succ_of {l : List α} {i : Nat} {a : α} (h : l[i]? = some a) : l.take (i + 1) = l.take i ++ [a] ∧ l = l.take i ++ a :: l.drop (i + 1) := by
  obtain ⟨hi, rfl⟩ := List.getElem?_eq_some_iff.mp h
  refine ⟨?_, ?_⟩
  · rw [List.take_succ, h]; rfl
  · rw [← List.drop_eq_getElem_cons hi, List.take_append_drop]
/-- a for over l: Pv by the part that was taken -/
theorem for_pre {l : List α} (w : Walk J l.length G Y) (Rel : α → V → Hp → Prop) (hY : ∀ i H x H', i < l.length → G H → Y i H x H' → H' = H ∧ ∃ a, l[i]? = some a ∧ Rel a x H) {g : TG} {tb : TS} {D : Ends} {σ : L2.St} {H : Hp}
    (Pv : List α → L2.St → Hp → Prop) (h0 : Pv [] σ H) (hG : ∀ pre σ H, Pv pre σ H → G H)
    (hs : ∀ pre a post x σ H, l = pre ++ a :: post → Rel a x H → Pv pre σ H → g x σ H fun σ2 H2 => tb { D with nx := Pv (pre ++ [a]), ct := Pv (pre ++ [a]), bk := D.nx } σ2 H2) (hd : ∀ σ H, Pv l σ H → D.nx σ H) :
    ∃ W : Nat → Nat → L2.St → Hp → Prop, (∃ m, W 0 m σ H) ∧ ∀ i m σ H, W i m σ H →
      (J.stop i H ∧ D.nx σ H) ∨ (J.go i H ∧ ∃ N : L2.St → Hp → Prop, (∀ σ' H', N σ' H' → ∃ m', m' < m ∧ W (i + 1) m' σ' H') ∧ ∀ x H', J.yld i H x H' → g x σ H' fun σ2 H2 => tb { D with nx := N, ct := N, bk := D.nx } σ2 H2) := by
  refine for_it w (fun i σ H => Pv (l.take i) σ H) (by simpa using h0) (fun i σ H _ p => hG _ σ H p) (fun i x σ H H' hi p y => ?_) (fun σ H p => hd σ H (by simpa using p))
  obtain ⟨rfl, a, ha, r⟩ := hY i H x H' hi (hG _ _ _ p) y
  obtain ⟨e1, e2⟩ := take_succ_of ha
  have q := hs _ a _ x σ H' e2 r p
  rw [← e1] at q
  exact q
/-- a comprehension over l -/
theorem lc_pre {l : List α} (w : Walk J l.length G Y) (Rel : α → V → Hp → Prop) (hY : ∀ i H x H', i < l.length → G H → Y i H x H' → H' = H ∧ ∃ a, l[i]? = some a ∧ Rel a x H) {g : TG} {tt : TT} {te : TE} {vs : List Nat} {σ : L2.St} {H1 : Hp} {D : Addr} {Qd : Hp → Prop}
    (Pv : List α → Hp → Prop) (h0 : Pv [] (upd H1 D (.lst []))) (hG : ∀ pre H, Pv pre H → G H)
    (hs : ∀ pre a post x H, l = pre ++ a :: post → Rel a x H → Pv pre H → g x (wipe σ vs) H fun σ2 H2 => wipe σ2 vs = wipe σ vs ∧ tt σ2 H2 fun b H3 =>
      if b = true then te σ2 H3 fun y H4 => ∃ acc, H4 D = some (.lst acc) ∧ acc.length < sizeLine ∧ Pv (pre ++ [a]) (upd H4 D (.lst (acc ++ [y]))) else Pv (pre ++ [a]) H3) (hd : ∀ H, Pv l H → Qd H) :
    ∃ W : Nat → Nat → Hp → Prop, (∃ m, W 0 m (upd H1 D (.lst []))) ∧ ∀ i m H, W i m H →
      (J.stop i H ∧ Qd H) ∨ (J.go i H ∧ ∃ Nx : Hp → Prop, (∀ H', Nx H' → ∃ m', m' < m ∧ W (i + 1) m' H') ∧ ∀ x H', J.yld i H x H' → g x (wipe σ vs) H' fun σ2 H2 => wipe σ2 vs = wipe σ vs ∧ tt σ2 H2 fun b H3 =>
        if b = true then te σ2 H3 fun y H4 => ∃ acc, H4 D = some (.lst acc) ∧ acc.length < sizeLine ∧ Nx (upd H4 D (.lst (acc ++ [y]))) else Nx H3) := by
  refine lc_it w (fun i H => Pv (l.take i) H) (by simpa using h0) (fun i H _ p => hG _ H p) (fun i x H H' hi p y => ?_) (fun H p => hd H (by simpa using p))
  obtain ⟨rfl, a, ha, r⟩ := hY i H x H' hi (hG _ _ p) y
  obtain ⟨e1, e2⟩ := take_succ_of ha
  have q := hs _ a _ x H' e2 r p
  rw [← e1] at q
  exact q
theorem yStr {l : List Nat} : ∀ (i : Nat) (H : Hp) (x : V) (H' : Hp), i < l.length → True → (H' = H ∧ ∃ c, (S l).cps[i]? = some c ∧ x = V.str ⟨#[c]⟩) → H' = H ∧ ∃ a, l[i]? = some a ∧ x = V.str (S [a]) := by
  rintro i H x H' _ _ ⟨rfl, c, hc, rfl⟩
  exact ⟨rfl, c, by simpa using hc, rfl⟩
theorem wStr {l : List Nat} : Walk (Its (S l)) l.length (fun _ => True) (fun i H v H' => H' = H ∧ ∃ c, (S l).cps[i]? = some c ∧ v = .str ⟨#[c]⟩) := by
  have h := walk_str (z := S l)
  simpa using h
end
/-! ### data of None, bools, ints, texts and tuples -/
mutual
inductive Tp (K : PySem.W.Frag) (H : Hp) : V → PyData → Prop
  | non : Tp K H .non .none
  | bl (b : Bool) : Tp K H (.bl b) (.bool b)
  | int (i : Int) : Tp K H (.int i) (.int i)
  | str (x : Str) : Tp K H (.str x) (.str x)
  | tup {a : Addr} {xs : List V} {ds : List PyData} : SqT K H a xs → TpAll K H xs ds → Tp K H (.ref a) (.tuple ds)
inductive TpAll (K : PySem.W.Frag) (H : Hp) : List V → List PyData → Prop
  | nil : TpAll K H [] []
  | cons {v : V} {vs : List V} {d : PyData} {ds : List PyData} : Tp K H v d → TpAll K H vs ds → TpAll K H (v :: vs) (d :: ds)
end
/-- what was a tuple is one -/
def Keep (H H' : Hp) : Prop := ∀ b xs, Rd H b (.tup xs) → Rd H' b (.tup xs)
theorem Keep.refl (H : Hp) : Keep H H := fun _ _ h => h
theorem Keep.trans {H H1 H2 : Hp} (a : Keep H H1) (b : Keep H1 H2) : Keep H H2 := fun x y h => b x y (a x y h)
theorem Keep.same {H H' : Hp} (s : Same H H') : Keep H H' := fun b xs h => by
  rcases h with h | ⟨o, h⟩
  · exact .inl (s _ _ h)
  · exact .inr ⟨o, s _ _ h⟩
theorem Keep.but {H H' : Hp} {a : Addr} (s : But a H H') (z : Src H a) : Keep H H' := fun b xs h => by
  obtain ⟨d, e, c, z⟩ := z
  rcases h with h | ⟨o, h⟩
  · exact .inl (s _ _ (ne_of h z (by intro q; cases q)) h)
  · exact .inr ⟨o, s _ _ (ne_of h z (by intro q; cases q)) h⟩
theorem Keep.butL {H H' : Hp} {a : Addr} {ys : List V} (s : But a H H') (z : H a = some (.lst ys)) : Keep H H' := fun b xs h => by
  rcases h with h | ⟨o, h⟩
  · exact .inl (s _ _ (ne_of h z (by intro q; cases q)) h)
  · exact .inr ⟨o, s _ _ (ne_of h z (by intro q; cases q)) h⟩
theorem Keep.seq {K : PySem.W.Frag} {H H' : Hp} {a : Addr} {xs : List V} (k : Keep H H') (h : SqT K H a xs) : SqT K H' a xs := by
  rcases h with h | h
  · exact .inl (k _ _ h)
  · exact .inr h
mutual
theorem Tp.keep {K : PySem.W.Frag} {H H' : Hp} (k : Keep H H') : ∀ {v : V} {d : PyData}, Tp K H v d → Tp K H' v d
  | _, _, .non => .non
  | _, _, .bl b => .bl b
  | _, _, .int i => .int i
  | _, _, .str x => .str x
  | _, _, .tup h t => .tup (k.seq h) (TpAll.keep k t)
theorem TpAll.keep {K : PySem.W.Frag} {H H' : Hp} (k : Keep H H') : ∀ {vs : List V} {ds : List PyData}, TpAll K H vs ds → TpAll K H' vs ds
  | _, _, .nil => .nil
  | _, _, .cons h t => .cons (Tp.keep k h) (TpAll.keep k t)
end
mutual
theorem Tp.dp {K : PySem.W.Frag} {H : Hp} : ∀ {v : V} {d : PyData}, Tp K H v d → Dp K H v d
  | _, _, .non => .non
  | _, _, .bl b => .bl b
  | _, _, .int i => .int i
  | _, _, .str x => .str x
  | _, _, .tup h t => .tup h (TpAll.dp t)
theorem TpAll.dp {K : PySem.W.Frag} {H : Hp} : ∀ {vs : List V} {ds : List PyData}, TpAll K H vs ds → DpAll K H vs ds
  | _, _, .nil => .nil
  | _, _, .cons h t => .cons (Tp.dp h) (TpAll.dp t)
end
section
variable {K : PySem.W.Frag} {H : Hp} {v : V} {d : PyData} {vs ws : List V} {ds es : List PyData}
theorem Tp.inv (h : Tp K H v (.tuple ds)) : ∃ a xs, v = .ref a ∧ SqT K H a xs ∧ TpAll K H xs ds := by
  cases h with
  | tup h t => exact ⟨_, _, rfl, h, t⟩
theorem TpAll.len : ∀ {vs : List V} {ds : List PyData}, TpAll K H vs ds → vs.length = ds.length
  | _, _, .nil => rfl
  | _, _, .cons _ t => congrArg (· + 1) (TpAll.len t)
theorem TpAll.get : ∀ {vs : List V} {ds : List PyData}, TpAll K H vs ds → ∀ {i : Nat} {d : PyData}, ds[i]? = some d → ∃ v, vs[i]? = some v ∧ Tp K H v d
  | _, _, .nil, _, _, e => by simp at e
  | _, _, .cons h _, 0, _, e => by simp at e; subst e; exact ⟨_, rfl, h⟩
  | _, _, .cons _ t, i + 1, d, e => by
    obtain ⟨v, h1, h2⟩ := TpAll.get t (i := i) (d := d) (by simpa using e)
    exact ⟨v, by simpa using h1, h2⟩
theorem TpAll.getV : ∀ {vs : List V} {ds : List PyData}, TpAll K H vs ds → ∀ {i : Nat} {v : V}, vs[i]? = some v → ∃ d, ds[i]? = some d ∧ Tp K H v d
  | _, _, .nil, _, _, e => by simp at e
  | _, _, .cons h _, 0, _, e => by simp at e; subst e; exact ⟨_, rfl, h⟩
  | _, _, .cons _ t, i + 1, v, e => by
    obtain ⟨d, h1, h2⟩ := TpAll.getV t (i := i) (v := v) (by simpa using e)
    exact ⟨d, by simpa using h1, h2⟩
theorem TpAll.app (h : TpAll K H vs ds) (k : TpAll K H ws es) : TpAll K H (vs ++ ws) (ds ++ es) := by
  induction h using TpAll.rec (motive_1 := fun _ _ _ => True) with
  | nil => exact k
  | cons a _ _ ih => exact .cons a ih
  | _ => trivial
end
end Sh
namespace Sh
open PySem PySem.Spec PyProof.Rows L2
theorem pe_gK {X : Cx} {x : Str} {pos : Pos} {v : V} (hg : Gl X x) (h : ∃ u, X.mg x = some u ∧ RelV v u) (hd : (x == ("__debug__" : Str)) = false := by decide) : PE X (.Name x pos) (tC v) := by
  obtain ⟨u, hu, r⟩ := h
  exact pe_glob hg hu r hd
end Sh
namespace Sh
open PySem PySem.Spec PyProof.Rows L2
/-- the ways through an assignment's expression meet in P -/
theorem st_asgJ {te : TE} {g : TG} {u : TS} {D : Ends} {σ : L2.St} {H : Hp} (P : V → Hp → Prop) (h : ∀ Q : VK, (∀ v H', P v H' → Q v H') → te σ H Q) (k : ∀ v H', P v H' → g v σ H' (u D)) : tSeq (tAsg te g) u D σ H := h _ k
/-- the ways through an if meet in P -/
theorem st_ifJ {c : TT} {t v u : TS} {D : Ends} {σ : L2.St} {H : Hp} (P : L2.St → Hp → Prop) (h : ∀ N : L2.St → Hp → Prop, (∀ σ' H', P σ' H' → N σ' H') → tIfS c t v { D with nx := N } σ H) (k : ∀ σ' H', P σ' H' → u D σ' H') : tSeq (tIfS c t v) u D σ H := h _ k
/-- any statement's ways meet in P -/
theorem st_J {t u : TS} {D : Ends} {σ : L2.St} {H : Hp} (P : L2.St → Hp → Prop) (h : ∀ N : L2.St → Hp → Prop, (∀ σ' H', P σ' H' → N σ' H') → t { D with nx := N } σ H) (k : ∀ σ' H', P σ' H' → u D σ' H') : tSeq t u D σ H := h _ k
/-- the ways through an expression meet in P -/
theorem ev_J {te : TE} {σ : L2.St} {H : Hp} {Q : VK} (P : V → Hp → Prop) (h : ∀ Q : VK, (∀ v H', P v H' → Q v H') → te σ H Q) (k : ∀ v H', P v H' → Q v H') : te σ H Q := h _ k
theorem tt_J {te : TT} {σ : L2.St} {H : Hp} {Q : Bool → Hp → Prop} (P : Bool → Hp → Prop) (h : ∀ Q : Bool → Hp → Prop, (∀ v H', P v H' → Q v H') → te σ H Q) (k : ∀ v H', P v H' → Q v H') : te σ H Q := h _ k
end Sh
namespace Sh
open PySem PySem.Spec PyProof.Rows L2
theorem atI_at {α : Type} {xs : List α} {i : Int} {v : α} (h0 : 0 ≤ i) (h : xs[i.toNat]? = some v) : atI xs i = some v := by
  have := atI_nat h
  rwa [Int.toNat_of_nonneg h0] at this
theorem rList {α : Type} {f : α → V} {l : List α} : ∀ (i : Nat) (H : Hp) (x : V) (H' : Hp), i < l.length → True → (YAt (l.map f) i H x H') → H' = H ∧ ∃ a, l[i]? = some a ∧ x = f a := by
  rintro i H x H' hi _ ⟨rfl, h⟩
  refine ⟨rfl, l[i], by simp [hi], ?_⟩
  rw [List.getElem?_map, List.getElem?_eq_getElem hi] at h
  exact (Option.some.inj h).symm
/-- a for over a list of l's values -/
theorem for_lst {α : Type} {f : α → V} {l : List α} {K : PySem.W.Frag} {a : Addr} {g : TG} {tb : TS} {D : Ends} {σ : L2.St} {H : Hp}
    (Pv : List α → L2.St → Hp → Prop) (h0 : Pv [] σ H) (hG : ∀ pre σ H, Pv pre σ H → SqL K H a (l.map f))
    (hs : ∀ pre x post σ H, l = pre ++ x :: post → Pv pre σ H → g (f x) σ H fun σ2 H2 => tb { D with nx := Pv (pre ++ [x]), ct := Pv (pre ++ [x]), bk := D.nx } σ2 H2) (hd : ∀ σ H, Pv l σ H → D.nx σ H) :
    ∃ W : Nat → Nat → L2.St → Hp → Prop, (∃ m, W 0 m σ H) ∧ ∀ i m σ H, W i m σ H →
      ((Itl K a).stop i H ∧ D.nx σ H) ∨ ((Itl K a).go i H ∧ ∃ N : L2.St → Hp → Prop, (∀ σ' H', N σ' H' → ∃ m', m' < m ∧ W (i + 1) m' σ' H') ∧ ∀ x H', (Itl K a).yld i H x H' → g x σ H' fun σ2 H2 => tb { D with nx := N, ct := N, bk := D.nx } σ2 H2) := by
  have w := walk_list (K := K) (a := a) (xs := l.map f)
  rw [List.length_map] at w
  refine for_pre w (fun x v _ => v = f x) (fun i H x H' hi _ y => rList i H x H' hi trivial y) Pv h0 hG (fun pre x post v σ H e r p => ?_) hd
  subst r
  exact hs pre x post σ H e p
/-- a for over a text's signs -/
theorem for_str {l : List Nat} {g : TG} {tb : TS} {D : Ends} {σ : L2.St} {H : Hp}
    (Pv : List Nat → L2.St → Hp → Prop) (h0 : Pv [] σ H)
    (hs : ∀ pre x post σ H, l = pre ++ x :: post → Pv pre σ H → g (.str (SX.S [x])) σ H fun σ2 H2 => tb { D with nx := Pv (pre ++ [x]), ct := Pv (pre ++ [x]), bk := D.nx } σ2 H2) (hd : ∀ σ H, Pv l σ H → D.nx σ H) :
    ∃ W : Nat → Nat → L2.St → Hp → Prop, (∃ m, W 0 m σ H) ∧ ∀ i m σ H, W i m σ H →
      ((Its (SX.S l)).stop i H ∧ D.nx σ H) ∨ ((Its (SX.S l)).go i H ∧ ∃ N : L2.St → Hp → Prop, (∀ σ' H', N σ' H' → ∃ m', m' < m ∧ W (i + 1) m' σ' H') ∧ ∀ x H', (Its (SX.S l)).yld i H x H' → g x σ H' fun σ2 H2 => tb { D with nx := N, ct := N, bk := D.nx } σ2 H2) := by
  refine for_pre wStr (fun x v _ => v = .str (SX.S [x])) (fun i H x H' hi _ y => yStr i H x H' hi trivial y) Pv h0 (fun _ _ _ _ => trivial) (fun pre x post v σ H e r p => ?_) hd
  subst r
  exact hs pre x post σ H e p
/-- tuples whose items are told by l -/
theorem for_tupR {α : Type} {Rel : Hp → V → α → Prop} {l : List α} {xs : List V} {K : PySem.W.Frag} {a : Addr} {g : TG} {tb : TS} {D : Ends} {σ : L2.St} {H : Hp} (hlen : xs.length = l.length)
    (Pv : List α → L2.St → Hp → Prop) (h0 : Pv [] σ H) (hG : ∀ pre σ H, Pv pre σ H → SqT K H a xs ∧ ∀ (i : Nat) x y, xs[i]? = some x → l[i]? = some y → Rel H x y)
    (hs : ∀ pre y post x σ H, l = pre ++ y :: post → xs[pre.length]? = some x → Rel H x y → Pv pre σ H → g x σ H fun σ2 H2 => tb { D with nx := Pv (pre ++ [y]), ct := Pv (pre ++ [y]), bk := D.nx } σ2 H2) (hd : ∀ σ H, Pv l σ H → D.nx σ H) :
    ∃ W : Nat → Nat → L2.St → Hp → Prop, (∃ m, W 0 m σ H) ∧ ∀ i m σ H, W i m σ H →
      ((Itt K a).stop i H ∧ D.nx σ H) ∨ ((Itt K a).go i H ∧ ∃ N : L2.St → Hp → Prop, (∀ σ' H', N σ' H' → ∃ m', m' < m ∧ W (i + 1) m' σ' H') ∧ ∀ x H', (Itt K a).yld i H x H' → g x σ H' fun σ2 H2 => tb { D with nx := N, ct := N, bk := D.nx } σ2 H2) := by
  have w := walk_tup (K := K) (a := a) (xs := xs)
  refine for_it w (fun i σ H => Pv (l.take i) σ H) (by simpa using h0) (fun i σ H _ p => (hG _ σ H p).1) (fun i x σ H H' hi p y => ?_) (fun σ H p => hd σ H (by simpa [hlen] using p))
  obtain ⟨rfl, hx⟩ := y
  have hi' : i < l.length := hlen ▸ hi
  have hl : l[i]? = some l[i] := by simp [hi']
  obtain ⟨e1, e2⟩ := take_succ_of hl
  have q := hs _ l[i] _ x σ H' e2 (by rw [List.length_take, Nat.min_eq_left (Nat.le_of_lt hi')]; exact hx) ((hG _ σ H' p).2 i x l[i] hx hl) p
  rw [← e1] at q
  exact q
end Sh
namespace Sh
open PySem PySem.Spec PyProof.Rows L2
theorem st_nx {D : Ends} {σ : L2.St} {H : Hp} (q : D.nx σ H) : tNext D σ H := q
end Sh
namespace Sh
open PySem PySem.Spec PyProof.Rows L2
theorem nx_mk {a c d : L2.St → Hp → Prop} {b : VK} {σ : L2.St} {H : Hp} (h : a σ H) : (Ends.mk a b c d).nx σ H := h
theorem rt_mk {a c d : L2.St → Hp → Prop} {b : VK} {v : V} {H : Hp} (h : b v H) : (Ends.mk a b c d).rt v H := h
theorem bk_mk {a c d : L2.St → Hp → Prop} {b : VK} {σ : L2.St} {H : Hp} (h : c σ H) : (Ends.mk a b c d).bk σ H := h
theorem ct_mk {a c d : L2.St → Hp → Prop} {b : VK} {σ : L2.St} {H : Hp} (h : d σ H) : (Ends.mk a b c d).ct σ H := h
end Sh
namespace Sh
open PySem PySem.Spec PyProof.Rows L2
theorem gn_mk {i : Nat} {v : V} {σ : L2.St} {H : Hp} {Q : L2.St → Hp → Prop} (h : Q (σ.set i (some v)) H) : gName i v σ H Q := h
theorem sz_S {t : List Nat} (h : t.length ≤ 1000000) : (SX.S t).length ≤ sizeLine := by
  rw [SX.S_len]
  exact Nat.le_trans h (by decide)
end Sh
namespace Sh
open PySem PySem.Spec PyProof.Rows L2
theorem ty_T {A B : Hp → Prop} {σ : L2.St} {H : Hp} (h : A H) : tYes σ H (fun b H3 => if b = true then A H3 else B H3) := h
end Sh
namespace Sh
open PySem PySem.Spec PyProof.Rows L2
/-- a comprehension over a tuple whose items are told by l -/
theorem lc_tupR {α : Type} {Rel : Hp → V → α → Prop} {l : List α} {xs : List V} {K : PySem.W.Frag} {a : Addr} {g : TG} {tt : TT} {te : TE} {vs : List Nat} {σ : L2.St} {H1 : Hp} {D : Addr} {Qd : Hp → Prop} (hlen : xs.length = l.length)
    (Pv : List α → Hp → Prop) (h0 : Pv [] (upd H1 D (.lst []))) (hG : ∀ pre H, Pv pre H → SqT K H a xs ∧ ∀ (i : Nat) x y, xs[i]? = some x → l[i]? = some y → Rel H x y)
    (hs : ∀ pre y post x H, l = pre ++ y :: post → xs[pre.length]? = some x → Rel H x y → Pv pre H → g x (wipe σ vs) H fun σ2 H2 => wipe σ2 vs = wipe σ vs ∧ tt σ2 H2 fun b H3 =>
      if b = true then te σ2 H3 fun y' H4 => ∃ acc, H4 D = some (.lst acc) ∧ acc.length < sizeLine ∧ Pv (pre ++ [y]) (upd H4 D (.lst (acc ++ [y']))) else Pv (pre ++ [y]) H3) (hd : ∀ H, Pv l H → Qd H) :
    ∃ W : Nat → Nat → Hp → Prop, (∃ m, W 0 m (upd H1 D (.lst []))) ∧ ∀ i m H, W i m H →
      ((Itt K a).stop i H ∧ Qd H) ∨ ((Itt K a).go i H ∧ ∃ Nx : Hp → Prop, (∀ H', Nx H' → ∃ m', m' < m ∧ W (i + 1) m' H') ∧ ∀ x H', (Itt K a).yld i H x H' → g x (wipe σ vs) H' fun σ2 H2 => wipe σ2 vs = wipe σ vs ∧ tt σ2 H2 fun b H3 =>
        if b = true then te σ2 H3 fun y H4 => ∃ acc, H4 D = some (.lst acc) ∧ acc.length < sizeLine ∧ Nx (upd H4 D (.lst (acc ++ [y]))) else Nx H3) := by
  have w := walk_tup (K := K) (a := a) (xs := xs)
  refine lc_it w (fun i H => Pv (l.take i) H) (by simpa using h0) (fun i H _ p => (hG _ H p).1) (fun i x H H' hi p y => ?_) (fun H p => hd H (by simpa [hlen] using p))
  obtain ⟨rfl, hx⟩ := y
  have hi' : i < l.length := hlen ▸ hi
  have hl : l[i]? = some l[i] := by simp [hi']
  obtain ⟨e1, e2⟩ := take_succ_of hl
  have q := hs _ l[i] _ x H' e2 (by rw [List.length_take, Nat.min_eq_left (Nat.le_of_lt hi')]; exact hx) ((hG _ H' p).2 i x l[i] hx hl) p
  rw [← e1] at q
  exact q
end Sh
namespace Sh
open PySem PySem.Spec PyProof.Rows L2
section
variable {X : Cx} {s : Shared} {H : Hp} {sc : Scope} {ce : Env} {fp : List Addr}
theorem ix_tupB : IxR (X.blk s H sc ce fp) (rIxT X.K) := ix_tup
theorem ix_listB : IxR (X.blk s H sc ce fp) (rIxL X.K) := ix_list
theorem sl_tupAB : SlR (X.blk s H sc ce fp) (rSlA X.K) := sl_tupA
theorem sl_listB : SlR (X.blk s H sc ce fp) (rSlL X.K) := sl_list
theorem call_len_seqB : CallR (X.blk s H sc ce fp) (.builtin "len") (fun xs H Q => ∃ p ys, xs = [.ref p] ∧ (SqL X.K H p ys ∨ SqT X.K H p ys) ∧ Q (.int ys.length) H) := call_len_seq
theorem call_list_ofB : CallR (X.blk s H sc ce fp) (.type "list") (fun xs H Q => ∃ p ys, xs = [.ref p] ∧ (SqL X.K H p ys ∨ SqT X.K H p ys) ∧ ∀ l, H l = none → Q (.ref l) (upd H l (.lst ys))) := call_list_of
end
end Sh
namespace Sh
open PySem PySem.Spec PyProof.Rows L2
/-- the values xs tell the list l -/
def Items {α : Type} (Rel : Hp → V → α → Prop) (H : Hp) (xs : List V) (l : List α) : Prop := xs.length = l.length ∧ ∀ (i : Nat) x y, xs[i]? = some x → l[i]? = some y → Rel H x y
section
variable {α : Type} {Rel : Hp → V → α → Prop} {H H' : Hp} {xs : List V} {l : List α}
theorem Items.nil : Items Rel H [] [] := ⟨rfl, fun i x y h _ => by simp at h⟩
theorem Items.mono (h : Items Rel H xs l) (m : ∀ x y, Rel H x y → Rel H' x y) : Items Rel H' xs l := ⟨h.1, fun i x y h1 h2 => m x y (h.2 i x y h1 h2)⟩
theorem Items.snoc (h : Items Rel H xs l) (m : ∀ x y, Rel H x y → Rel H' x y) {x : V} {y : α} (r : Rel H' x y) : Items Rel H' (xs ++ [x]) (l ++ [y]) := by
  refine ⟨by simp [h.1], fun i a b h1 h2 => ?_⟩
  rcases Nat.lt_or_ge i xs.length with q | q
  · rw [List.getElem?_append_left q] at h1
    rw [List.getElem?_append_left (h.1 ▸ q)] at h2
    exact m a b (h.2 i a b h1 h2)
  · rw [List.getElem?_append_right q] at h1
    rw [List.getElem?_append_right (h.1 ▸ q)] at h2
    have e : i - xs.length = i - l.length := by rw [h.1]
    rcases Nat.eq_zero_or_pos (i - xs.length) with z | z
    · rw [z] at h1
      rw [← e, z] at h2
      simp at h1 h2
      subst h1; subst h2
      exact r
    · rw [List.getElem?_eq_none (by simp; omega)] at h1
      cases h1
theorem Items.get (h : Items Rel H xs l) {i : Nat} {y : α} (hy : l[i]? = some y) : ∃ x, xs[i]? = some x ∧ Rel H x y := by
  obtain ⟨hi, _⟩ := List.getElem?_eq_some_iff.mp hy
  have hi2 : i < xs.length := by rw [h.1]; exact hi
  exact ⟨xs[i], List.getElem?_eq_getElem hi2, h.2 i _ y (List.getElem?_eq_getElem hi2) hy⟩
end
/-- a for over a list whose items are told by l -/
theorem for_lstR {α : Type} {Rel : Hp → V → α → Prop} {l : List α} {xs : List V} {K : PySem.W.Frag} {a : Addr} {g : TG} {tb : TS} {D : Ends} {σ : L2.St} {H : Hp} (hlen : xs.length = l.length)
    (Pv : List α → L2.St → Hp → Prop) (h0 : Pv [] σ H) (hG : ∀ pre σ H, Pv pre σ H → SqL K H a xs ∧ ∀ (i : Nat) x y, xs[i]? = some x → l[i]? = some y → Rel H x y)
    (hs : ∀ pre y post x σ H, l = pre ++ y :: post → xs[pre.length]? = some x → Rel H x y → Pv pre σ H → g x σ H fun σ2 H2 => tb { D with nx := Pv (pre ++ [y]), ct := Pv (pre ++ [y]), bk := D.nx } σ2 H2) (hd : ∀ σ H, Pv l σ H → D.nx σ H) :
    ∃ W : Nat → Nat → L2.St → Hp → Prop, (∃ m, W 0 m σ H) ∧ ∀ i m σ H, W i m σ H →
      ((Itl K a).stop i H ∧ D.nx σ H) ∨ ((Itl K a).go i H ∧ ∃ N : L2.St → Hp → Prop, (∀ σ' H', N σ' H' → ∃ m', m' < m ∧ W (i + 1) m' σ' H') ∧ ∀ x H', (Itl K a).yld i H x H' → g x σ H' fun σ2 H2 => tb { D with nx := N, ct := N, bk := D.nx } σ2 H2) := by
  have w := walk_list (K := K) (a := a) (xs := xs)
  refine for_it w (fun i σ H => Pv (l.take i) σ H) (by simpa using h0) (fun i σ H _ p => (hG _ σ H p).1) (fun i x σ H H' hi p y => ?_) (fun σ H p => hd σ H (by simpa [hlen] using p))
  obtain ⟨rfl, hx⟩ := y
  have hi' : i < l.length := hlen ▸ hi
  have hl : l[i]? = some l[i] := by simp [hi']
  obtain ⟨e1, e2⟩ := take_succ_of hl
  have q := hs _ l[i] _ x σ H' e2 (by rw [List.length_take, Nat.min_eq_left (Nat.le_of_lt hi')]; exact hx) ((hG _ σ H' p).2 i x l[i] hx hl) p
  rw [← e1] at q
  exact q
end Sh
namespace Sh
open PySem PySem.Spec PyProof.Rows L2
/-- an if whose test is known -/
theorem st_ifK {c : TT} {t u v : TS} {D : Ends} {σ : L2.St} {H : Hp} (b : Bool) (h : ∀ Q : Bool → Hp → Prop, Q b H → c σ H Q) (k1 : b = true → t { D with nx := v D } σ H) (k2 : b = false → u { D with nx := v D } σ H) : tSeq (tIfS c t u) v D σ H := by
  refine h _ ?_
  cases b with
  | true => exact iteT (k1 rfl)
  | false => exact iteF (k2 rfl)
theorem if_K {c : TT} {t u : TS} {D : Ends} {σ : L2.St} {H : Hp} (b : Bool) (h : ∀ Q : Bool → Hp → Prop, Q b H → c σ H Q) (k1 : b = true → t D σ H) (k2 : b = false → u D σ H) : tIfS c t u D σ H := by
  refine h _ ?_
  cases b with
  | true => exact iteT (k1 rfl)
  | false => exact iteF (k2 rfl)
/-- .. which may lay new objects -/
theorem if_KH {c : TT} {t u : TS} {D : Ends} {σ : L2.St} {H : Hp} (b : Bool) (P : Hp → Prop) (h : ∀ Q : Bool → Hp → Prop, (∀ H', P H' → Q b H') → c σ H Q) (k1 : b = true → ∀ H', P H' → t D σ H') (k2 : b = false → ∀ H', P H' → u D σ H') : tIfS c t u D σ H := by
  refine h _ fun H' p => ?_
  cases b with
  | true => exact iteT (k1 rfl H' p)
  | false => exact iteF (k2 rfl H' p)
theorem st_ifKH {c : TT} {t u v : TS} {D : Ends} {σ : L2.St} {H : Hp} (b : Bool) (P : Hp → Prop) (h : ∀ Q : Bool → Hp → Prop, (∀ H', P H' → Q b H') → c σ H Q) (k1 : b = true → ∀ H', P H' → t { D with nx := v D } σ H') (k2 : b = false → ∀ H', P H' → u { D with nx := v D } σ H') : tSeq (tIfS c t u) v D σ H := by
  refine h _ fun H' p => ?_
  cases b with
  | true => exact iteT (k1 rfl H' p)
  | false => exact iteF (k2 rfl H' p)
theorem q_of {b c : Bool} {Q : Bool → Hp → Prop} {H : Hp} (h : Q b H) (e : c = b) : Q c H := e ▸ h
end Sh
set_option Elab.async false
set_option linter.all false
set_option maxRecDepth 100000
namespace Sh
open PySem PySem.Spec PyProof.Rows L2
def top (i : Nat) : Stmt := PySem.Challenge.pw_shrunkalike_k11_whole_same_ends.main.body.getD i (.Pass ⟨0, 0, 0, 0⟩)
abbrev s__wall : Stmt := top 0
abbrev s_WrongThing___init__ : Stmt := inClass (top 3) 0
abbrev s_WrongItem___init__ : Stmt := inClass (top 4) 0
abbrev s_NotSettled___init__ : Stmt := inClass (top 8) 0
abbrev s_Unlike___init__ : Stmt := inClass (top 9) 0
abbrev s_is_listed : Stmt := top 13
abbrev s_is_signs : Stmt := top 14
abbrev s_check_signs : Stmt := top 15
abbrev s_is_text : Stmt := top 16
abbrev s_check_text : Stmt := top 17
abbrev s_text_key : Stmt := top 18
abbrev s_least_of : Stmt := top 19
abbrev s_first_rules : Stmt := top 21
abbrev s_longest_left : Stmt := top 22
abbrev s_used_at_end : Stmt := top 23
abbrev s_left_over : Stmt := top 24
abbrev s_overlap_rows : Stmt := top 25
abbrev s_both_results : Stmt := top 26
abbrev s_quarrel_of : Stmt := top 27
abbrev s_end_moves : Stmt := top 28
abbrev s_kept_tail : Stmt := top 29
abbrev s_is_rule : Stmt := top 33
abbrev s_checked_rules : Stmt := top 34
abbrev s_Book___init__ : Stmt := inClass (top 35) 0
abbrev s_Book_quarrel : Stmt := inClass (top 35) 1
abbrev s_Book___len__ : Stmt := inClass (top 35) 2
abbrev s_Book___getitem__ : Stmt := inClass (top 35) 3
abbrev s_Book___iter__ : Stmt := inClass (top 35) 4
abbrev s_Book___eq__ : Stmt := inClass (top 35) 5
abbrev s_Book___call__ : Stmt := inClass (top 35) 6
abbrev s_rest_of : Stmt := top 36
abbrev s_check_settled : Stmt := top 37
abbrev s_has_left_inside : Stmt := top 39
abbrev s_least_rules : Stmt := top 40
abbrev s_least_book : Stmt := top 41
abbrev s_check_both : Stmt := top 42
abbrev s_SameEnds___init__ : Stmt := inClass (top 43) 0
abbrev s_SameEnds___bool__ : Stmt := inClass (top 43) 1
abbrev s_same_ends : Stmt := top 44
abbrev s__law_source : Stmt := top 46
abbrev s__law_pick : Stmt := top 47
abbrev s__law_signs : Stmt := top 48
abbrev s__law_text : Stmt := top 49
abbrev s__law_key : Stmt := top 50
abbrev s__law_left : Stmt := top 51
abbrev s__law_quarrel : Stmt := top 52
abbrev s__law_rule : Stmt := top 53
abbrev s__law_grown : Stmt := top 54
abbrev s__law_table_rules : Stmt := top 55
abbrev s__law_book : Stmt := top 56
abbrev s__law_known : Stmt := top 57
abbrev s__law_ends : Stmt := top 58
abbrev s__law_texts : Stmt := top 59
abbrev s__law_near : Stmt := top 60
abbrev s_law : Stmt := top 61
theorem sc__wall : FnScope ["k"] ["k"] (defScope s__wall) := ⟨rfl, rfl, rfl, by decide +kernel, rfl, by decide +kernel, by decide +kernel⟩
theorem sc_is_listed : FnScope ["thing"] ["thing"] (defScope s_is_listed) := ⟨rfl, rfl, rfl, by decide +kernel, rfl, by decide +kernel, by decide +kernel⟩
theorem sc_is_signs : FnScope ["thing", "k"] ["thing"] (defScope s_is_signs) := ⟨rfl, rfl, rfl, by decide +kernel, rfl, by decide +kernel, by decide +kernel⟩
theorem sc_check_signs : FnScope ["thing"] ["thing"] (defScope s_check_signs) := ⟨rfl, rfl, rfl, by decide +kernel, rfl, by decide +kernel, by decide +kernel⟩
theorem sc_is_text : FnScope ["signs", "thing", "low", "high", "sign"] ["signs", "thing", "low", "high"] (defScope s_is_text) := ⟨rfl, rfl, rfl, by decide +kernel, rfl, by decide +kernel, by decide +kernel⟩
theorem sc_check_text : FnScope ["signs", "thing"] ["signs", "thing"] (defScope s_check_text) := ⟨rfl, rfl, rfl, by decide +kernel, rfl, by decide +kernel, by decide +kernel⟩
theorem sc_text_key : FnScope ["text"] ["text"] (defScope s_text_key) := ⟨rfl, rfl, rfl, by decide +kernel, rfl, by decide +kernel, by decide +kernel⟩
theorem sc_least_of : FnScope ["texts", "best", "text"] ["texts"] (defScope s_least_of) := ⟨rfl, rfl, rfl, by decide +kernel, rfl, by decide +kernel, by decide +kernel⟩
theorem sc_first_rules : FnScope ["rules", "found", "k", "left", "right"] ["rules"] (defScope s_first_rules) := ⟨rfl, rfl, rfl, by decide +kernel, rfl, by decide +kernel, by decide +kernel⟩
theorem sc_longest_left : FnScope ["rules", "rule"] ["rules"] (defScope s_longest_left) := ⟨rfl, rfl, rfl, by decide +kernel, rfl, by decide +kernel, by decide +kernel⟩
theorem sc_used_at_end : FnScope ["lefts", "longest", "pile", "best", "size", "found"] ["lefts", "longest", "pile"] (defScope s_used_at_end) := ⟨rfl, rfl, rfl, by decide +kernel, rfl, by decide +kernel, by decide +kernel⟩
theorem sc_left_over : FnScope ["lefts", "longest", "text", "pile", "sign", "shorter"] ["lefts", "longest", "text"] (defScope s_left_over) := ⟨rfl, rfl, rfl, by decide +kernel, rfl, by decide +kernel, by decide +kernel⟩
theorem sc_overlap_rows : FnScope ["rules", "found", "one", "left", "other", "right", "place", "shared"] ["rules"] (defScope s_overlap_rows) := ⟨rfl, rfl, rfl, by decide +kernel, rfl, by decide +kernel, by decide +kernel⟩
theorem sc_both_results : FnScope ["rules", "overlap", "text", "one", "place", "other", "first", "second"] ["rules", "overlap"] (defScope s_both_results) := ⟨rfl, rfl, rfl, by decide +kernel, rfl, by decide +kernel, by decide +kernel⟩
theorem sc_quarrel_of : FnScope ["rules", "lefts", "longest", "best", "overlap", "first", "second"] ["rules", "lefts", "longest"] (defScope s_quarrel_of) := ⟨rfl, rfl, rfl, by decide +kernel, rfl, by decide +kernel, by decide +kernel⟩
theorem sc_end_moves : FnScope ["signs", "rules", "lefts", "names", "numbers", "moves", "longest", "row", "sign", "text", "tail", "rule", "left"] ["signs", "rules"] (defScope s_end_moves) := ⟨rfl, rfl, rfl, by decide +kernel, rfl, by decide +kernel, by decide +kernel⟩
theorem sc_kept_tail : FnScope ["lefts", "longest", "text", "size", "tail", "left"] ["lefts", "longest", "text"] (defScope s_kept_tail) := ⟨rfl, rfl, rfl, by decide +kernel, rfl, by decide +kernel, by decide +kernel⟩
theorem sc_is_rule : FnScope ["signs", "thing"] ["signs", "thing"] (defScope s_is_rule) := ⟨rfl, rfl, rfl, by decide +kernel, rfl, by decide +kernel, by decide +kernel⟩
theorem sc_checked_rules : FnScope ["signs", "thing", "rules", "k"] ["signs", "thing"] (defScope s_checked_rules) := ⟨rfl, rfl, rfl, by decide +kernel, rfl, by decide +kernel, by decide +kernel⟩
theorem sc_Book___init__ : FnScope ["self", "signs", "rules"] ["self", "signs", "rules"] (defScope s_Book___init__) := ⟨rfl, rfl, rfl, by decide +kernel, rfl, by decide +kernel, by decide +kernel⟩
theorem sc_Book_quarrel : FnScope ["self"] ["self"] (defScope s_Book_quarrel) := ⟨rfl, rfl, rfl, by decide +kernel, rfl, by decide +kernel, by decide +kernel⟩
theorem sc_Book___len__ : FnScope ["self"] ["self"] (defScope s_Book___len__) := ⟨rfl, rfl, rfl, by decide +kernel, rfl, by decide +kernel, by decide +kernel⟩
theorem sc_Book___getitem__ : FnScope ["self", "number"] ["self", "number"] (defScope s_Book___getitem__) := ⟨rfl, rfl, rfl, by decide +kernel, rfl, by decide +kernel, by decide +kernel⟩
theorem sc_Book___iter__ : FnScope ["self"] ["self"] (defScope s_Book___iter__) := ⟨rfl, rfl, rfl, by decide +kernel, rfl, by decide +kernel, by decide +kernel⟩
theorem sc_Book___eq__ : FnScope ["self", "other"] ["self", "other"] (defScope s_Book___eq__) := ⟨rfl, rfl, rfl, by decide +kernel, rfl, by decide +kernel, by decide +kernel⟩
theorem sc_Book___call__ : FnScope ["self", "text"] ["self", "text"] (defScope s_Book___call__) := ⟨rfl, rfl, rfl, by decide +kernel, rfl, by decide +kernel, by decide +kernel⟩
theorem sc_rest_of : FnScope ["book", "text"] ["book", "text"] (defScope s_rest_of) := ⟨rfl, rfl, rfl, by decide +kernel, rfl, by decide +kernel, by decide +kernel⟩
theorem sc_check_settled : FnScope ["book"] ["book"] (defScope s_check_settled) := ⟨rfl, rfl, rfl, by decide +kernel, rfl, by decide +kernel, by decide +kernel⟩
theorem sc_has_left_inside : FnScope ["lefts", "left", "start", "stop"] ["lefts", "left"] (defScope s_has_left_inside) := ⟨rfl, rfl, rfl, by decide +kernel, rfl, by decide +kernel, by decide +kernel⟩
theorem sc_least_rules : FnScope ["book", "lefts", "kept", "rule", "left", "key"] ["book"] (defScope s_least_rules) := ⟨rfl, rfl, rfl, by decide +kernel, rfl, by decide +kernel, by decide +kernel⟩
theorem sc_least_book : FnScope ["book"] ["book"] (defScope s_least_book) := ⟨rfl, rfl, rfl, by decide +kernel, rfl, by decide +kernel, by decide +kernel⟩
theorem sc_check_both : FnScope ["one", "other"] ["one", "other"] (defScope s_check_both) := ⟨rfl, rfl, rfl, by decide +kernel, rfl, by decide +kernel, by decide +kernel⟩
theorem sc_SameEnds___init__ : FnScope ["self", "text", "one_end", "other_end"] ["self", "text", "one_end", "other_end"] (defScope s_SameEnds___init__) := ⟨rfl, rfl, rfl, by decide +kernel, rfl, by decide +kernel, by decide +kernel⟩
theorem sc_SameEnds___bool__ : FnScope ["self"] ["self"] (defScope s_SameEnds___bool__) := ⟨rfl, rfl, rfl, by decide +kernel, rfl, by decide +kernel, by decide +kernel⟩
theorem sc_same_ends : FnScope ["one", "other", "lefts", "parting", "text", "rule", "left"] ["one", "other"] (defScope s_same_ends) := ⟨rfl, rfl, rfl, by decide +kernel, rfl, by decide +kernel, by decide +kernel⟩
theorem sc__law_source : FnScope ["_law_script", "_law_place", "_law_cell", "_law_seed", "_law_one", "_law_number"] ["_law_script", "_law_place"] (defScope s__law_source) := ⟨rfl, rfl, rfl, by decide +kernel, rfl, by decide +kernel, by decide +kernel⟩
theorem sc__law_pick : FnScope ["_law_source_here", "_law_many", "_law_digit", "_law_mixed"] ["_law_source_here", "_law_many"] (defScope s__law_pick) := ⟨rfl, rfl, rfl, by decide +kernel, rfl, by decide +kernel, by decide +kernel⟩
theorem sc__law_signs : FnScope ["_law_source_here", "_law_menu"] ["_law_source_here"] (defScope s__law_signs) := ⟨rfl, rfl, rfl, by decide +kernel, rfl, by decide +kernel, by decide +kernel⟩
theorem sc__law_text : FnScope ["_law_source_here", "_law_signs_here", "_law_most", "_law_told", "_law_k"] ["_law_source_here", "_law_signs_here", "_law_most"] (defScope s__law_text) := ⟨rfl, rfl, rfl, by decide +kernel, rfl, by decide +kernel, by decide +kernel⟩
theorem sc__law_key : FnScope ["_law_text_here"] ["_law_text_here"] (defScope s__law_key) := ⟨rfl, rfl, rfl, by decide +kernel, rfl, by decide +kernel, by decide +kernel⟩
theorem sc__law_left : FnScope ["_law_rules", "_law_text_here", "_law_pile", "_law_sign", "_law_fitting", "_law_rule_here"] ["_law_rules", "_law_text_here"] (defScope s__law_left) := ⟨rfl, rfl, rfl, by decide +kernel, rfl, by decide +kernel, by decide +kernel⟩
theorem sc__law_quarrel : FnScope ["_law_rules", "_law_told", "_law_one", "_law_put", "_law_other", "_law_laid", "_law_place", "_law_shared", "_law_text_here", "_law_second"] ["_law_rules"] (defScope s__law_quarrel) := ⟨rfl, rfl, rfl, by decide +kernel, rfl, by decide +kernel, by decide +kernel⟩
theorem sc__law_rule : FnScope ["_law_source_here", "_law_signs_here", "_law_longest", "_law_size", "_law_left_here", "_law_k"] ["_law_source_here", "_law_signs_here", "_law_longest"] (defScope s__law_rule) := ⟨rfl, rfl, rfl, by decide +kernel, rfl, by decide +kernel, by decide +kernel⟩
theorem sc__law_grown : FnScope ["_law_source_here", "_law_signs_here", "_law_most", "_law_longest", "_law_rules", "_law_k", "_law_turn", "_law_rule_here"] ["_law_source_here", "_law_signs_here", "_law_most", "_law_longest"] (defScope s__law_grown) := ⟨rfl, rfl, rfl, by decide +kernel, rfl, by decide +kernel, by decide +kernel⟩
theorem sc__law_table_rules : FnScope ["_law_source_here", "_law_signs_here", "_law_kind", "_law_many", "_law_rules", "_law_i", "_law_j", "_law_turned", "_law_at"] ["_law_source_here", "_law_signs_here"] (defScope s__law_table_rules) := ⟨rfl, rfl, rfl, by decide +kernel, rfl, by decide +kernel, by decide +kernel⟩
theorem sc__law_book : FnScope ["_law_source_here", "_law_signs_here", "_law_most", "_law_way"] ["_law_source_here", "_law_signs_here", "_law_most"] (defScope s__law_book) := ⟨rfl, rfl, rfl, by decide +kernel, rfl, by decide +kernel, by decide +kernel⟩
theorem sc__law_known : FnScope ["_law_source_here", "_law_a", "_law_b", "_law_menu", "_law_picked"] ["_law_source_here", "_law_a", "_law_b"] (defScope s__law_known) := ⟨rfl, rfl, rfl, by decide +kernel, rfl, by decide +kernel, by decide +kernel⟩
theorem sc__law_ends : FnScope ["_law_signs_here", "_law_rules", "_law_size", "_law_told", "_law_level", "_law_k", "_law_later", "_law_text_here", "_law_sign", "_law_rule_here"] ["_law_signs_here", "_law_rules", "_law_size"] (defScope s__law_ends) := ⟨rfl, rfl, rfl, by decide +kernel, rfl, by decide +kernel, by decide +kernel⟩
theorem sc__law_texts : FnScope ["_law_signs_here", "_law_size"] ["_law_signs_here", "_law_size"] (defScope s__law_texts) := ⟨rfl, rfl, rfl, by decide +kernel, rfl, by decide +kernel, by decide +kernel⟩
theorem sc__law_near : FnScope ["_law_draws", "_law_signs_here", "_law_rules", "_law_way", "_law_told", "_law_turn", "_law_text_here", "_law_end", "_law_at", "_law_rule_here"] ["_law_draws", "_law_signs_here", "_law_rules"] (defScope s__law_near) := ⟨rfl, rfl, rfl, by decide +kernel, rfl, by decide +kernel, by decide +kernel⟩
theorem sc_law : FnScope ["_law_script", "_law_source_here", "_law_signs_here", "_law_rules", "_law_near_here", "_law_one", "_law_other", "_law_told", "_law_lefts", "_law_unlike", "_law_least", "_law_text_here", "_law_due", "_law_loose", "_law_strange", "_law_turn", "raised", "_law_rule_here", "_law_left_here"] ["_law_script"] (defScope s_law) := ⟨rfl, rfl, rfl, by decide +kernel, rfl, by decide +kernel, by decide +kernel⟩
structure Txt (K : PySem.W.Frag) (mg : Str → Option Value) : Prop where
  b_len : mg "len" = none
  b_range : mg "range" = none
  b_min : mg "min" = none
  b_max : mg "max" = none
  b_any : mg "any" = none
  b_isinstance : mg "isinstance" = none
  b_abs : mg "abs" = none
  b_int : mg "int" = none
  b_str : mg "str" = none
  b_bool : mg "bool" = none
  b_tuple : mg "tuple" = none
  b_list : mg "list" = none
  b_repr : mg "repr" = none
  b_sorted : mg "sorted" = none
  b_iter : mg "iter" = none
  b_super : mg "super" = none
  g_LETTERS : ∃ u, mg "LETTERS" = some u ∧ RelV (.str "abcdefghijklmnopqrstuvwxyz") u
  g_LONGEST_TEXT : ∃ u, mg "LONGEST_TEXT" = some u ∧ RelV (.int 200) u
  g_MOST_RULES : ∃ u, mg "MOST_RULES" = some u ∧ RelV (.int 64) u
  g_LONGEST_LEFT : ∃ u, mg "LONGEST_LEFT" = some u ∧ RelV (.int 4) u
  d_is_listed : DefAt K mg "is_listed" s_is_listed ["thing"]
  d_is_signs : DefAt K mg "is_signs" s_is_signs ["thing"]
  d_check_signs : DefAt K mg "check_signs" s_check_signs ["thing"]
  d_is_text : DefAt K mg "is_text" s_is_text ["signs", "thing", "low", "high"]
  d_check_text : DefAt K mg "check_text" s_check_text ["signs", "thing"]
  d_text_key : DefAt K mg "text_key" s_text_key ["text"]
  d_least_of : DefAt K mg "least_of" s_least_of ["texts"]
  d_first_rules : DefAt K mg "first_rules" s_first_rules ["rules"]
  d_longest_left : DefAt K mg "longest_left" s_longest_left ["rules"]
  d_used_at_end : DefAt K mg "used_at_end" s_used_at_end ["lefts", "longest", "pile"]
  d_left_over : DefAt K mg "left_over" s_left_over ["lefts", "longest", "text"]
  d_overlap_rows : DefAt K mg "overlap_rows" s_overlap_rows ["rules"]
  d_both_results : DefAt K mg "both_results" s_both_results ["rules", "overlap"]
  d_quarrel_of : DefAt K mg "quarrel_of" s_quarrel_of ["rules", "lefts", "longest"]
  d_end_moves : DefAt K mg "end_moves" s_end_moves ["signs", "rules"]
  d_kept_tail : DefAt K mg "kept_tail" s_kept_tail ["lefts", "longest", "text"]
  d_is_rule : DefAt K mg "is_rule" s_is_rule ["signs", "thing"]
  d_checked_rules : DefAt K mg "checked_rules" s_checked_rules ["signs", "thing"]
  d_rest_of : DefAt K mg "rest_of" s_rest_of ["book", "text"]
  d_check_settled : DefAt K mg "check_settled" s_check_settled ["book"]
  d_has_left_inside : DefAt K mg "has_left_inside" s_has_left_inside ["lefts", "left"]
  d_least_rules : DefAt K mg "least_rules" s_least_rules ["book"]
  d_least_book : DefAt K mg "least_book" s_least_book ["book"]
  d_check_both : DefAt K mg "check_both" s_check_both ["one", "other"]
  d_same_ends : DefAt K mg "same_ends" s_same_ends ["one", "other"]
  d__law_source : DefAt K mg "_law_source" s__law_source ["_law_script", "_law_place"]
  d__law_pick : DefAt K mg "_law_pick" s__law_pick ["_law_source_here", "_law_many"]
  d__law_signs : DefAt K mg "_law_signs" s__law_signs ["_law_source_here"]
  d__law_text : DefAt K mg "_law_text" s__law_text ["_law_source_here", "_law_signs_here", "_law_most"]
  d__law_key : DefAt K mg "_law_key" s__law_key ["_law_text_here"]
  d__law_left : DefAt K mg "_law_left" s__law_left ["_law_rules", "_law_text_here"]
  d__law_quarrel : DefAt K mg "_law_quarrel" s__law_quarrel ["_law_rules"]
  d__law_rule : DefAt K mg "_law_rule" s__law_rule ["_law_source_here", "_law_signs_here", "_law_longest"]
  d__law_grown : DefAt K mg "_law_grown" s__law_grown ["_law_source_here", "_law_signs_here", "_law_most", "_law_longest"]
  d__law_table_rules : DefAt K mg "_law_table_rules" s__law_table_rules ["_law_source_here", "_law_signs_here"]
  d__law_book : DefAt K mg "_law_book" s__law_book ["_law_source_here", "_law_signs_here", "_law_most"]
  d__law_known : DefAt K mg "_law_known" s__law_known ["_law_source_here", "_law_a", "_law_b"]
  d__law_ends : DefAt K mg "_law_ends" s__law_ends ["_law_signs_here", "_law_rules", "_law_size"]
  d__law_texts : DefAt K mg "_law_texts" s__law_texts ["_law_signs_here", "_law_size"]
  d__law_near : DefAt K mg "_law_near" s__law_near ["_law_draws", "_law_signs_here", "_law_rules"]
end Sh
set_option Elab.async false
set_option linter.all false
namespace Sh
open PySem PySem.Spec PyProof.Rows L2
open SX (S S_inj S_len S_cat)
theorem cut_from {t : List Nat} {i : Int} (h : 0 ≤ i) : cutS (S t) (some i) none = S (t.drop i.toNat) := by
  rw [C8.cutS_slice]; exact SX.slice_from h
theorem cut_to {t : List Nat} {i : Int} (h : 0 ≤ i) : cutS (S t) none (some i) = S (t.take i.toNat) := by
  rw [C8.cutS_slice]; exact SX.slice_to h
theorem cut_mid {t : List Nat} {i j : Int} (h : 0 ≤ i) (k : 0 ≤ j) : cutS (S t) (some i) (some j) = S ((t.drop i.toNat).take (j.toNat - i.toNat)) := by
  unfold cutS
  have e : (S t).length = t.length := S_len t
  have h1 : HT.sIx t.length 0 (some i) = min i.toNat t.length := by
    show (if i < 0 then _ else min i.toNat t.length) = _
    rw [if_neg (by omega)]
  have h2 : HT.sIx t.length t.length (some j) = min j.toNat t.length := by
    show (if j < 0 then _ else min j.toNat t.length) = _
    rw [if_neg (by omega)]
  rw [e, h1, h2]
  show S ((t.drop (min i.toNat t.length)).take (min j.toNat t.length - min i.toNat t.length)) = _
  congr 1
  apply List.ext_getElem?
  intro n
  simp only [List.getElem?_take, List.getElem?_drop]
  by_cases hi : i.toNat ≤ t.length
  · rw [Nat.min_eq_left hi]
    by_cases hn : n < j.toNat - i.toNat
    · rw [if_pos hn]
      by_cases hn2 : n < min j.toNat t.length - i.toNat
      · rw [if_pos hn2]
      · rw [if_neg hn2, List.getElem?_eq_none (by omega)]
    · rw [if_neg hn, if_neg (by omega)]
  · have e1 : min i.toNat t.length = t.length := by omega
    rw [e1, List.getElem?_eq_none (l := t) (i := t.length + n) (by omega), List.getElem?_eq_none (l := t) (i := i.toNat + n) (by omega)]
    simp
theorem endswith_S (a b : List Nat) : Txt.endswith (S a) (S b) = b.isSuffixOf a := by
  unfold Txt.endswith
  rw [PySem.StrLaws.subAt_eq, S_len, S_len, Bool.eq_iff_iff, List.isSuffixOf_iff_suffix, List.suffix_iff_eq_drop]
  simp only [Bool.and_eq_true, decide_eq_true_eq, beq_iff_eq]
  constructor
  · rintro ⟨h1, h2⟩
    rw [List.take_of_length_le (by rw [List.length_drop]; omega)] at h2
    exact h2.symm
  · intro h
    have hl := congrArg List.length h
    rw [List.length_drop] at hl
    refine ⟨by omega, ?_⟩
    rw [List.take_of_length_le (by rw [List.length_drop]; omega)]
    exact h.symm
theorem startswith_S (a b : List Nat) : Txt.startswith (S a) (S b) = b.isPrefixOf a := by
  unfold Txt.startswith
  rw [PySem.StrLaws.subAt_eq, S_len, S_len, Bool.eq_iff_iff, List.isPrefixOf_iff_prefix, List.prefix_iff_eq_take]
  simp only [Bool.and_eq_true, decide_eq_true_eq, beq_iff_eq, List.drop_zero]
  constructor
  · rintro ⟨h1, h2⟩
    exact h2.symm
  · intro h
    have hl := congrArg List.length h
    rw [List.length_take] at hl
    exact ⟨by omega, h.symm⟩
theorem join_nil (l : List (List Nat)) : Txt.join (S []) (l.map S) = S l.flatten := by
  rw [SX.join_S]
  congr 1
  induction l with
  | nil => rfl
  | cons x l ih =>
    cases l with
    | nil => simp [TL.joinL]
    | cons y l =>
      rw [List.flatten_cons, ← ih]
      simp [TL.joinL]
theorem flat_one (l : List Nat) : (l.map fun c => [c]).flatten = l := by
  induction l with
  | nil => rfl
  | cons x l ih => rw [List.map_cons, List.flatten_cons, ih]; rfl
end Sh
set_option Elab.async false
set_option linter.all false
set_option maxRecDepth 100000
namespace Sh
open PySem PySem.Spec PyProof.Rows L2
/-! ### t < u of tuples of ints and texts -/
def sameK : V → V → Bool
  | .int _, .int _ => true
  | .str _, .str _ => true
  | _, _ => false
def sameKs : List V → List V → Bool
  | x :: xs, y :: ys => sameK x y && sameKs xs ys
  | _, _ => true
def vLt : V → V → Bool
  | .int i, .int j => decide (i < j)
  | .str a, .str b => decide (a.cps.toList < b.cps.toList)
  | _, _ => false
def tupLt : List V → List V → Bool
  | [], [] => false
  | [], _ :: _ => true
  | _ :: _, [] => false
  | x :: xs, y :: ys => if x = y then tupLt xs ys else vLt x y
theorem lexAt_tup : ∀ (xs ys : List V) (e r : Nat → Bool) (k : Nat), sameKs xs ys = true →
    (∀ j x y, xs[j]? = some x → ys[j]? = some y → e (k + j) = decide (x = y)) → (∀ j x y, xs[j]? = some x → ys[j]? = some y → r (k + j) = vLt x y) →
    Ob.lexAt e r (decide (xs.length < ys.length)) k (min xs.length ys.length) = tupLt xs ys
  | [], [], e, r, k, _, _, _ => rfl
  | [], _ :: _, e, r, k, _, _, _ => by
    show Ob.lexAt e r (decide (0 < _ + 1)) k 0 = true
    rw [Ob.lexAt_zero]
    exact decide_eq_true (by omega)
  | _ :: _, [], e, r, k, _, _, _ => by
    show Ob.lexAt e r (decide (_ + 1 < 0)) k 0 = false
    rw [Ob.lexAt_zero]
    exact decide_eq_false (by omega)
  | x :: xs, y :: ys, e, r, k, hs, he, hr => by
    have e0 := he 0 x y rfl rfl
    have r0 := hr 0 x y rfl rfl
    rw [Nat.add_zero] at e0 r0
    have hs2 : sameKs xs ys = true := by
      have : (sameK x y && sameKs xs ys) = true := hs
      rw [Bool.and_eq_true] at this
      exact this.2
    have ih := lexAt_tup xs ys e r (k + 1) hs2 (fun j a b h1 h2 => by have := he (j + 1) a b (by simpa using h1) (by simpa using h2); rw [← this]; congr 1; omega)
      (fun j a b h1 h2 => by have := hr (j + 1) a b (by simpa using h1) (by simpa using h2); rw [← this]; congr 1; omega)
    have em : min (x :: xs).length (y :: ys).length = min xs.length ys.length + 1 := by simp only [List.length_cons]; omega
    have el : decide ((x :: xs).length < (y :: ys).length) = decide (xs.length < ys.length) := by
      simp only [List.length_cons]
      exact decide_eq_decide.mpr (by omega)
    rw [em, el, Ob.lexAt_succ, e0, r0, ih]
    show _ = if x = y then tupLt xs ys else vLt x y
    by_cases h : x = y
    · rw [if_pos h, if_pos (decide_eq_true h)]
    · rw [if_neg h, if_neg (by simpa using h)]
theorem sameKs_get : ∀ {xs ys : List V}, sameKs xs ys = true → ∀ {j : Nat} {x y : V}, xs[j]? = some x → ys[j]? = some y → sameK x y = true
  | [], _, _, j, _, _, h, _ => by simp at h
  | _ :: _, [], _, j, _, _, _, h => by simp at h
  | x :: xs, y :: ys, hs, j, a, b, h1, h2 => by
    have hs' : (sameK x y && sameKs xs ys) = true := hs
    rw [Bool.and_eq_true] at hs'
    cases j with
    | zero => simp at h1 h2; subst h1; subst h2; exact hs'.1
    | succ j => exact sameKs_get hs'.2 (by simpa using h1) (by simpa using h2)
def rLtTM (K : PySem.W.Frag) : R2 := fun x y H Q => ∃ a b xs ys, x = .ref a ∧ y = .ref b ∧ SqT K H a xs ∧ SqT K H b ys ∧ sameKs xs ys = true ∧ Q (.bl (tupLt xs ys)) H
theorem op_ltTM {X : Cx} (hu : X.A.units + 64 < cLine) : OpR X (compareOp .Lt) (rLtTM X.K) := by
  intro pins s σ H x y v u Q I rx ry h
  obtain ⟨a, b, xs, ys, rfl, rfl, ha, hb, hk, q⟩ := h
  cases rx
  cases ry
  obtain ⟨its, r1, p1, _⟩ := I.tuple ha
  obtain ⟨its2, r2, p2, _⟩ := I.tuple hb
  have l1 : its.toArray.size = xs.length := by rw [List.size_toArray]; exact r1.length.symm
  have l2 : its2.toArray.size = ys.length := by rw [List.size_toArray]; exact r2.length.symm
  have get : ∀ (j : Nat) (h1 : j < its.toArray.size) (h2 : j < its2.toArray.size), ∃ x y, xs[j]? = some x ∧ ys[j]? = some y ∧ RelV x its.toArray[j] ∧ RelV y its2.toArray[j] ∧ sameK x y = true := by
    intro j h1 h2
    have g1 : j < xs.length := l1 ▸ h1
    have g2 : j < ys.length := l2 ▸ h2
    obtain ⟨u1, e1, q1⟩ := r1.get (List.getElem?_eq_getElem g1)
    obtain ⟨u2, e2, q2⟩ := r2.get (List.getElem?_eq_getElem g2)
    have f1 : its.toArray[j] = u1 := by
      have : its[j]? = some its[j] := List.getElem?_eq_getElem (by simpa using h1)
      rw [this] at e1
      simpa using Option.some.inj e1
    have f2 : its2.toArray[j] = u2 := by
      have : its2[j]? = some its2[j] := List.getElem?_eq_getElem (by simpa using h2)
      rw [this] at e2
      simpa using Option.some.inj e2
    exact ⟨xs[j], ys[j], List.getElem?_eq_getElem g1, List.getElem?_eq_getElem g2, f1 ▸ q1, f2 ▸ q2, sameKs_get hk (List.getElem?_eq_getElem g1) (List.getElem?_eq_getElem g2)⟩
  let e : Nat → Bool := fun j => match xs[j]?, ys[j]? with
    | some x, some y => decide (x = y)
    | _, _ => false
  let r : Nat → Bool := fun j => match xs[j]?, ys[j]? with
    | some x, some y => vLt x y
    | _, _ => false
  have key := Ob.RcOp.tuples_lt (A := X.A) (s := s) (e := e) (r := r) p1 p2 (by omega) (fun j h1 h2 => ?_) (fun j h1 h2 _ => ?_)
  · rw [l1, l2, lexAt_tup xs ys e r 0 hk (fun j x y h1 h2 => by rw [Nat.zero_add]; simp only [e, h1, h2]) (fun j x y h1 h2 => by rw [Nat.zero_add]; simp only [r, h1, h2])] at key
    exact key X.prog X.w X.xe _ ⟨.bl (tupLt xs ys), H, I, rfl, q⟩
  · obtain ⟨x, y, g1, g2, q1, q2, hk2⟩ := get j h1 h2
    have he : e j = decide (x = y) := by simp only [e, g1, g2]
    rw [he]
    cases x <;> cases y <;> first | cases hk2 | skip
    · obtain ⟨t1, z1⟩ := q1
      obtain ⟨t2, z2⟩ := q2
      rw [z1, z2]
      have := SeqAt.EqAt.int_int (A := X.A.in1) (s := s)
      rename_i i k
      have w1 := this i t1 k t2
      have w2 : (i == k) = decide (V.int i = V.int k) := by
        by_cases hh : i = k
        · subst hh; simp
        · rw [decide_eq_false (fun z => hh (V.int.inj z))]; exact beq_eq_false_iff_ne.mpr hh
      rw [w2] at w1
      exact w1
    · obtain ⟨t1, z1⟩ := q1
      obtain ⟨t2, z2⟩ := q2
      rw [z1, z2]
      have := SeqAt.EqAt.str_str (A := X.A.in1) (s := s)
      rename_i i k
      have w1 := this i t1 k t2
      have w2 : (i == k) = decide (V.str i = V.str k) := by
        by_cases hh : i = k
        · subst hh; simp
        · rw [decide_eq_false (fun z => hh (V.str.inj z))]; exact beq_eq_false_iff_ne.mpr hh
      rw [w2] at w1
      exact w1
  · obtain ⟨x, y, g1, g2, q1, q2, hk2⟩ := get j h1 h2
    have he : r j = vLt x y := by simp only [r, g1, g2]
    rw [he]
    cases x <;> cases y <;> first | cases hk2 | skip
    · obtain ⟨t1, z1⟩ := q1
      obtain ⟨t2, z2⟩ := q2
      rw [z1, z2]
      exact Ob.RcOp.lt_int _ _ _ _
    · obtain ⟨t1, z1⟩ := q1
      obtain ⟨t2, z2⟩ := q2
      rw [z1, z2]
      exact fun _ _ _ _ h => PyProof.Rows.lt_str h
/-! ### repr of data of None, bools, ints, texts and tuples -/
theorem call_reprD {X : Cx} (hg : X.A.guards = some []) (hu : X.A.units + 64 < cLine) :
    CallR X (.builtin "repr") (fun xs H Q => ∃ v d, xs = [v] ∧ Dp X.K H v d ∧ d.showable = true ∧ d.hasDict = false ∧ d.depth ≤ 60 ∧ d.shown.length ≤ sizeLine ∧ Q (.str d.shown) H) := by
  intro pins s σ H xs us Q I r h
  obtain ⟨v, d, rfl, hd, h1, h2, h3, h4, q⟩ := h
  cases r with
  | cons rv rn =>
    cases rn
    rename_i u
    obtain ⟨as, hr⟩ := Dp.reads I d v u hd rv
    have big : ∀ a : Addr, u = .ref a → wpAny (model X.prog X.w) X.A (call (.builtin "repr") [u]) (EP X pins σ Q) X.xe s := fun a e => by
      subst e
      exact PySem.repr_of_reads' hr h1 (fun z => by rw [h2] at z; cases z) hg (by omega) (fun _ _ e => e) (fun h' w tk k => ⟨.str d.shown, H, I.kept k, ⟨_, rfl⟩, q⟩) h4
    cases hd with
    | non =>
      cases (show u = Value.none from rv)
      exact PySem.P.repr_of_none ⟨.str _, H, I.tok _, ⟨_, rfl⟩, q⟩
    | bl b =>
      cases (show u = Value.bool b from rv)
      refine PySem.P.repr_of_bool ⟨.str _, H, I.tok _, ⟨_, rfl⟩, q⟩
    | int i =>
      obtain ⟨t, e⟩ := (show ∃ t, u = Value.int i t from rv)
      subst e
      have h1' : i.natAbs.log2 < 1920 := by simpa [PyData.showable] using h1
      exact PySem.P.repr_of_int h1' ⟨.str _, H, I.tok _, ⟨_, rfl⟩, q⟩
    | str x =>
      obtain ⟨t, e⟩ := (show ∃ t, u = Value.str x t from rv)
      subst e
      exact PySem.P.repr_of_str ⟨.str _, H, I.tok _, ⟨_, rfl⟩, q⟩ h4
    | lst hs ha => exact big _ rv
    | tup hs ha => exact big _ rv
end Sh
set_option Elab.async false
set_option linter.all false
set_option maxRecDepth 100000
set_option maxHeartbeats 2000000
namespace Sh
open PySem PySem.Spec PyProof.Rows
section
variable {prog : Program} {w : World} {A : Around} {E : Value → Shared → Prop} {s : Shared} {K : PySem.W.Frag} {x C f : Addr} {ox : Obj} {odd : Option Obj}
theorem truthy_own {Q : Bool → Shared → Prop} (X : K.In s.heap) (I : PySem.W.InstAt s.heap x ox C odd) (hs : PySem.W.findIn K (.ref C) "__bool__" = some (some (.ref f))) (hf : PySem.W.isFn K (.ref f) = true)
    (h : wpAny (model prog w) A (call (.ref f) [.ref x]) (fun r s₁ => ∃ b, r = Value.bool b ∧ Q b s₁) E s) : wpAny (model prog w) A (truthy (.ref x)) Q E s := by
  unfold truthy
  first
    | refine wpAny_bind (m := callSpecial? (.ref x) (Str.ofString "__bool__")) (PySem.W.special_fn X I hs (beq_iff_eq.mp hf) (wpAny_mono h (fun r s' hr => ?_) fun _ _ y => y))
    | refine wpAny_bind (wpAny_pure (wpAny_bind (m := callSpecial? (.ref x) (Str.ofString "__bool__")) (PySem.W.special_fn X I hs (beq_iff_eq.mp hf) (wpAny_mono h (fun r s' hr => ?_) fun _ _ y => y))))
  obtain ⟨b, rfl, hq⟩ := hr
  first
    | exact wpAny_pure hq
    | exact wpAny_bind (wpAny_pure hq)
theorem meets_bool_own : MeetsIn prog w (Builtin.«bool.__new__» ⟨[.type "bool", .ref x], []⟩) (fun A R s => K.In s.heap ∧ PySem.W.InstAt s.heap x ox C odd ∧ PySem.W.findIn K (.ref C) "__bool__" = some (some (.ref f)) ∧ PySem.W.isFn K (.ref f) = true ∧
    wpAny (model prog w) A.in1 (call (.ref f) [.ref x]) (fun r s₁ => ∃ b, r = Value.bool b ∧ R (.ok (.ret (.bool b))) s₁) (fun e s' => R (.error e) s') s) :=
  MeetsIn.of_wp fun A R s hs => by
    obtain ⟨X, I, h1, h2, h⟩ := hs
    have f1 := F.conv_sub_bool
    have key : ∀ Q : Bool → Shared → Prop, (∀ b s₁, R (.ok (.ret (.bool b))) s₁ → Q b s₁) → wpAny (model prog w) A.in1 (truthy (.ref x)) Q (fun e s' => R (.error e) s') s := fun Q hq =>
      truthy_own X I h1 h2 (wpAny_mono h (fun r s₁ ⟨b, e, k⟩ => ⟨b, e, hq b s₁ k⟩) fun _ _ z => z)
    obtain ⟨hp, g, d, tk, os⟩ := s
    repeat (any_goals (first | assumption | (with_reducible refine key _ fun b s₁ k => ?_) | wp_step))
    all_goals first | exact ⟨_, rfl, by assumption⟩ | skip
theorem call_bool_own {Q : Value → Shared → Prop} (X : K.In s.heap) (I : PySem.W.InstAt s.heap x ox C odd) (hs : PySem.W.findIn K (.ref C) "__bool__" = some (some (.ref f))) (hf : PySem.W.isFn K (.ref f) = true)
    (h : wpAny (model prog w) A.in1.in1 (call (.ref f) [.ref x]) (fun r s₁ => ∃ b, r = Value.bool b ∧ Q r s₁) E s) : wpAny (model prog w) A (call (.type "bool") [.ref x]) Q E s := by
  refine callType_newIn F.called_bool F.newNe_bool (F.typeCall_bool_1 _) (F.newCall_bool_1 _) (fun obj => F.args_object_init_2 obj _) F.entry_bool_new (meets_bool_own (K := K) (C := C) (f := f) (ox := ox) (odd := odd)) ⟨X, I, hs, hf, ?_⟩
  refine wpAny_mono h (fun r s₁ ⟨b, e, k⟩ => ⟨b, e, ?_⟩) fun _ _ z => z
  subst e
  exact ⟨rfl, k⟩
end
end Sh
namespace Sh
open PySem PySem.Spec PyProof.Rows L2
section
variable {X : Cx} {CX : CXT} {C g : Addr} {n : Nat} {sp : Sp} {E : XK}
theorem fnR_of {P : Program} {w : World} {K : PySem.W.Frag} {mg : Str → Option Value} {base : Heap} {k : Nat} {f : Addr} {fd : FuncData} {ps : List Str} (F : FnOk P w K mg base CX k f fd ps sp) (b : Binds K fd ps []) : FnR P w K mg base CX k f sp := by
  intro A outer s H us vs Q E hr e0 r h
  have hl := F.len _ _ _ _ h
  have KX : K.In s.heap := e0.mod.kin.keeps fun b o e => (e0.bs b o e).1
  have hul : (us ++ []).length = ps.length := by rw [List.append_nil, ← r.length]; exact hl
  have hb := b s us KX hul
  rw [List.append_nil] at hb
  exact F.run A outer s H ⟨us, []⟩ us vs Q E hr e0 hb r h
/-- the callee runs below the running body -/
theorem run_in {pins : List (Addr × Obj)} {σ : L2.St} {H : Hp} {s : Shared} {A : Around} {Q : VK} {us : List Value} {ws : List V} (F : FnR X.prog X.w X.K X.mg X.base CX n g sp) (hr : Room n A) (e0 : Env0 X.prog X.w X.K X.mg X.base A X.stack s H) (hx : Passes CX X E)
    (I : Inv X pins σ H s) (r : Vals ws us) (h : sp ws H Q E) : wpAny (model X.prog X.w) A (call (.ref g) us) (EP X pins σ Q) X.xe s := by
  refine wpAny_call (codeAny_mono (F A X.stack s H us ws Q E hr e0 r h) fun r s' hq => ?_)
  cases r with
  | error e => exact hx pins σ H s e s' I hq
  | ok fl =>
    cases fl with
    | ret u => exact I.after hq
    | next => exact False.elim hq
    | brk => exact False.elim hq
    | cont => exact False.elim hq
/-- bool(x), x an instance of the class at C with an own __bool__ -/
def rBoolO (C : Addr) (sp : Sp) (E : XK) : List V → Hp → VK → Prop := fun xs H Q => ∃ a dx fs, xs = [V.ref a] ∧ H a = some (.ins C dx fs) ∧ sp [.ref a] H (fun z H' => ∃ b, z = .bl b ∧ Q z H') E
theorem call_boolO (hs : PySem.W.findIn X.K (.ref C) "__bool__" = some (some (.ref g))) (hf : PySem.W.isFn X.K (.ref g) = true) (F : FnR X.prog X.w X.K X.mg X.base CX n g sp) (hr : Room (n + 2) X.A) (hx : Passes CX X E) : CallR X (.type "bool") (rBoolO C sp E) := by
  intro pins s σ H xs us Q I r h
  obtain ⟨a, dx, fs, rfl, ha, q⟩ := h
  obtain rfl := Vals.ref1 r
  obtain ⟨ox, od, J, _⟩ := StX.insC_at (C := C) I (.inr ⟨dx, fs, ha⟩)
  have hr2 : Room n X.A.in1.in1 := (show Room (n + 1) X.A.in1 from Room.in1 hr).in1
  refine call_bool_own I.kIn J hs hf (wpAny_mono (run_in (us := [.ref a]) (ws := [.ref a]) F hr2 I.env0.in1.in1 hx I (.cons rfl .nil) q) (fun v s' z => ?_) fun _ _ x => x)
  obtain ⟨z', H', I', rz, b, eb, qz⟩ := z
  subst eb
  cases (show v = Value.bool b from rz)
  exact ⟨b, rfl, .bl b, H', I', rfl, qz⟩
end
end Sh
set_option Elab.async false
set_option linter.all false
set_option maxRecDepth 100000
set_option maxHeartbeats 2000000
namespace Sh
open PySem PySem.Spec PyProof.Rows L2
/-- a class of the text -/
structure ClassAt (K : PySem.W.Frag) (mg : Str → Option Value) (x : Str) (C : Addr) : Prop where
  cl : Cls K C
  mgC : mg x = some (.ref C)
  makes : PySem.W.makesIn K C = true
  kp : PySem.W.keepIn K (.ref C) = true
/-- a method of the class at C -/
structure MethAt (K : PySem.W.Frag) (C : Addr) (m q : Str) (st : Stmt) (ps : List Str) : Prop where
  ex : ∃ (f : Addr) (fd : FuncData), L2.Fun K m q st f fd ∧ Binds K fd ps [] ∧ PySem.W.findIn K (.ref C) m = some (some (.ref f)) ∧ PySem.W.isFn K (.ref f) = true ∧ PySem.W.fnIn K f = true
structure MetC (P : Program) (w : World) (K : PySem.W.Frag) (mg : Str → Option Value) (base : Heap) (k : Nat) (C : Addr) (m : Str) (sp : Sp) : Prop where
  ex : ∃ (f : Addr) (fd : FuncData) (ps : List Str), FnOk P w K mg base CX0 k f fd ps sp ∧ Binds K fd ps [] ∧ PySem.W.findIn K (.ref C) m = some (some (.ref f)) ∧ PySem.W.isFn K (.ref f) = true ∧ PySem.W.fnIn K f = true
section
variable {P : Program} {w : World} {K : PySem.W.Frag} {mg : Str → Option Value} {base : Heap}
theorem MetC.mk0 {m q : Str} {C : Addr} {st : Stmt} {N ps : List Str} {k : Nat} {sp : Sp} (D : MethAt K C m q st ps) (S : FnScope N ps (defScope st)) (len : ∀ vs H Q E, sp vs H Q E → vs.length = ps.length)
    (hbody : ∀ (f : Addr) (cdv : Value) (A : Around) (outer : List Env) (s : Shared) (H : Hp) (vs : List V) (Q : VK) (E : XK), Room k (A.deeper (envOfC q (defScope st) s.heap.objs.size f cdv)) → sp vs H Q E →
      ∃ t, PSs (cxOf CX0 P w K mg base N q (defScope st) f cdv A outer s H E).nox (defBody st) t ∧ t { nx := fun _ H' => Q .non H', rt := Q } (start N vs) H) : MetC P w K mg base (k + 1) C m sp := by
  obtain ⟨f, fd, F, b, i, n, o⟩ := D.ex
  exact ⟨f, fd, ps, F.ok S len (hbody f), b, i, n, o⟩
end
section
variable {X : Cx} {k j : Nat} {x m : Str} {C : Addr} {sp : Sp} {p pos : Pos} {e fe : Expr} {es : List Expr} {t : TA} {tf : TE}
/-- C(e, ..) -/
theorem pe_mkC (c : ClassAt X.K X.mg x C) (d : MetC X.prog X.w X.K X.mg X.base k C "__init__" sp) (hr : Room j X.A) (hk : k + 1 ≤ j) (hg : Gl X x) (ha : PA X (e :: es) t)
    (hdb : (x == ("__debug__" : Str)) = false := by decide) (he : starEach (e :: es) X.env = (false, eval e X.env) :: starEach es X.env := by rfl) (hpl : (backTo pos (starEach es X.env)).any (·.1) = false := by rfl) :
    PE X (.Call (.Name x p) (e :: es) [] pos) (tMake C sp [] E0 t) := by
  obtain ⟨f, fd, ps, F, b, i, n, o⟩ := d.ex
  exact pe_make ⟨c.makes, i, n, c.kp⟩ F (hr.mono hk) hg c.mgC b .nil pass0 ha hdb he hpl
/-- o(e, ..), o an instance -/
theorem pe_instC (hf : PE X fe tf) (d : MetC X.prog X.w X.K X.mg X.base k C "__call__" sp) (hr : Room j X.A) (hk : k ≤ j) (ha : PA X (e :: es) t)
    (ht : eval (.Call fe (e :: es) [] pos) X.env = (do callWith pos (← eval fe X.env) [] (backTo pos (starEach (e :: es) X.env)) (backToKw pos (keywordEach [] X.env))) := by rfl)
    (he : starEach (e :: es) X.env = (false, eval e X.env) :: starEach es X.env := by rfl) (hpl : (backTo pos (starEach es X.env)).any (·.1) = false := by rfl) : PE X (.Call fe (e :: es) [] pos) (StX.tCallO X C sp E0 tf t) := by
  obtain ⟨f, fd, ps, F, b, i, n, o⟩ := d.ex
  exact StX.pe_callO hf ⟨i, n, o⟩ (fnR_of F b) (hr.mono hk) pass0 ha ht he hpl
/-- bool(o) -/
theorem call_boolC (d : MetC X.prog X.w X.K X.mg X.base k C "__bool__" sp) (hr : Room j X.A) (hk : k + 2 ≤ j) : CallR X (.type "bool") (rBoolO C sp E0) := by
  obtain ⟨f, fd, ps, F, b, i, n, o⟩ := d.ex
  exact call_boolO i n (fnR_of F b) (hr.mono hk) pass0
end
theorem putF_le (f : Str) (v : V) : ∀ fs : List (Str × V), (putF f v fs).length ≤ fs.length + 1
  | [] => Nat.le_refl _
  | (g, x) :: r => by
    show (if g = f then (g, v) :: r else (g, x) :: putF f v r).length ≤ _
    have := putF_le f v r
    split <;> simp <;> omega
theorem Keep.butI {H H' : Hp} {a C dx : Addr} {fs : List (Str × V)} (s : But a H H') (z : H a = some (.ins C dx fs)) : Keep H H' := fun b xs h => by
  rcases h with h | ⟨o, h⟩
  · exact .inl (s _ _ (ne_of h z (by intro q; cases q)) h)
  · exact .inr ⟨o, s _ _ (ne_of h z (by intro q; cases q)) h⟩
end Sh
set_option Elab.async false
set_option linter.all false
set_option maxRecDepth 100000
set_option maxHeartbeats 2000000
namespace Sh
open PySem PySem.Spec PyProof.Rows L2
section
variable {X : Cx} {C : Addr} {k j : Nat} {sp : Sp} {a : Expr} {ta : TE} {pos : Pos}
/-- not o, o an instance of the class at C with an own __bool__ -/
def tNotI (C : Addr) (sp : Sp) (ta : TE) : TE := fun σ H Q => ta σ H fun x H1 => ∃ p dx fs, x = .ref p ∧ H1 p = some (.ins C dx fs) ∧ sp [.ref p] H1 (fun z H2 => ∃ b, z = .bl b ∧ Q (.bl (!b)) H2) E0
theorem pe_notI (d : MetC X.prog X.w X.K X.mg X.base k C "__bool__" sp) (hr : Room j X.A) (hk : k ≤ j) (ha : PE X a ta) : PE X (.UnaryOp .Not a pos) (tNotI C sp ta) := by
  obtain ⟨f, fd, ps, F, b, i, n, o⟩ := d.ex
  refine ⟨fun pins s σ H Q I h => ?_⟩
  refine UnaryOp_ (thn (ha.run pins s σ H _ I h) fun v s1 ⟨x, H1, I1, r1, p, dx, fs, ex, hH, q⟩ => ?_)
  subst ex
  obtain rfl : v = .ref p := r1
  obtain ⟨ox, od, J, _⟩ := StX.insC_at (C := C) I1 (.inr ⟨dx, fs, hH⟩)
  refine not_of (truthy_own I1.kIn J i n (wpAny_mono (run_in (us := [.ref p]) (ws := [.ref p]) (fnR_of F b) (hr.mono hk) I1.env0 pass0 I1 (.cons rfl .nil) q) (fun v s' z => ?_) fun _ _ x => x))
  obtain ⟨z', H', I', rz, c, ec, qz⟩ := z
  subst ec
  obtain rfl : v = .bool c := rz
  exact ⟨c, rfl, .bl (!c), H', I', rfl, qz⟩
end
end Sh
set_option Elab.async false
set_option linter.all false
set_option maxRecDepth 100000
set_option maxHeartbeats 2000000
namespace Sh
open PySem PySem.Spec PyProof.Rows L2
section
variable {X : Cx} {k j : Nat} {C : Addr} {sp : Sp} {pos : Pos} {e fe : Expr} {es : List Expr} {t : TA} {tf : TE}
/-- o(e, ..), o an instance with fields: a reading that does not name the frame (for comprehensions) -/
def tInst (C : Addr) (sp : Sp) (tf : TE) (t : TA) : TE := fun σ H Q => tf σ H fun y H1 => ∃ a, y = V.ref a ∧ t σ H1 fun zs H2 => (∃ dx fs, H2 a = some (.ins C dx fs)) ∧ sp (V.ref a :: zs) H2 Q E0
theorem pe_instP (hf : PE X fe tf) (d : MetC X.prog X.w X.K X.mg X.base k C "__call__" sp) (hr : Room j X.A) (hk : k ≤ j) (ha : PA X (e :: es) t)
    (h1 : eval (.Call fe (e :: es) [] pos) X.env = (do callWith pos (← eval fe X.env) [] (backTo pos (starEach (e :: es) X.env)) (backToKw pos (keywordEach [] X.env))) := by rfl)
    (h2 : starEach (e :: es) X.env = (false, eval e X.env) :: starEach es X.env := by rfl) (h3 : (backTo pos (starEach es X.env)).any (·.1) = false := by rfl) : PE X (.Call fe (e :: es) [] pos) (tInst C sp tf t) := by
  obtain ⟨f, fd, ps, F, b, i, n, o⟩ := d.ex
  constructor
  intro pins s σ H Q I h
  refine Call_ (thn (hf.run pins s σ H _ I h) ?_) h1
  rintro u s1 ⟨_, H1, I1, ry, a, rfl, q⟩
  obtain rfl : u = .ref a := ry
  refine StX.callO_with (thn (ha.run pos pins s1 σ H1 _ I1 q) ?_) h2 h3
  rintro us s2 ⟨zs, H2, I2, rz, isC, q2⟩
  obtain ⟨ox, od, J, dat⟩ := StX.insC_at (C := C) I2 (.inr isC)
  exact ⟨⟨C, ox, od, J, dat⟩, StX.run_callO ⟨i, n, o⟩ (fnR_of F b) (hr.mono hk) pass0 I2 (.inr isC) rz q2⟩
end
end Sh
set_option Elab.async false
set_option linter.all false
set_option maxRecDepth 100000
set_option maxHeartbeats 2000000
/-! sorted of tuples of ints and texts, of any length, without and with a key def -/
namespace Sh
open PySem PySem.Spec PyProof.Rows L2
/-! ### a total order -/
def cd : V → List Int
  | .int i => [0, i]
  | .str s => 1 :: s.cps.toList.map Int.ofNat
  | _ => [2]
def cLt (a b : List V) : Bool := decide (a.map cd < b.map cd)
theorem ofNat_lt (a b : List Nat) : (a.map Int.ofNat < b.map Int.ofNat) ↔ a < b := by
  induction a generalizing b with
  | nil => cases b <;> simp
  | cons x a ih =>
    cases b with
    | nil => simp
    | cons y b =>
      rw [List.map_cons, List.map_cons, List.cons_lt_cons_iff, List.cons_lt_cons_iff, ih]
      constructor
      · rintro (h | ⟨h, k⟩)
        · exact .inl (Int.ofNat_lt.mp h)
        · exact .inr ⟨Int.ofNat.inj h, k⟩
      · rintro (h | ⟨h, k⟩)
        · exact .inl (Int.ofNat_lt.mpr h)
        · exact .inr ⟨congrArg Int.ofNat h, k⟩
theorem cd_lt {x y : V} (h : sameK x y = true) : vLt x y = decide (cd x < cd y) := by
  cases x <;> cases y <;> first | cases h | skip
  · rename_i i j
    show decide (i < j) = decide ([0, i] < [0, j])
    refine decide_eq_decide.mpr ?_
    simp [List.cons_lt_cons_iff]
  · rename_i a b
    show decide (a.cps.toList < b.cps.toList) = decide ((1 : Int) :: a.cps.toList.map Int.ofNat < 1 :: b.cps.toList.map Int.ofNat)
    refine decide_eq_decide.mpr ?_
    rw [List.cons_lt_cons_iff, ofNat_lt]
    simp
theorem cd_eq {x y : V} (h : sameK x y = true) : (x = y) ↔ (cd x = cd y) := by
  cases x <;> cases y <;> first | cases h | skip
  · rename_i i j
    simp [cd]
  · rename_i a b
    refine ⟨fun e => by rw [e], fun e => ?_⟩
    have e' : a.cps.toList.map Int.ofNat = b.cps.toList.map Int.ofNat := (List.cons.inj e).2
    have inj : Function.Injective Int.ofNat := fun a b h => Int.ofNat.inj h
    have e2 : a.cps.toList = b.cps.toList := by
      have := congrArg (List.map Int.toNat) e'
      simpa [List.map_map, Function.comp_def] using this
    have e3 : a.cps = b.cps := Array.toList_inj.mp e2
    cases a; cases b
    simp only at e3
    rw [e3]
theorem tup_cLt : ∀ {a b : List V}, sameKs a b = true → tupLt a b = cLt a b
  | [], [], _ => by simp [tupLt, cLt]
  | [], _ :: _, _ => by simp [tupLt, cLt]
  | _ :: _, [], _ => by simp [tupLt, cLt]
  | x :: xs, y :: ys, h => by
    have h' : (sameK x y && sameKs xs ys) = true := h
    rw [Bool.and_eq_true] at h'
    have ih := tup_cLt h'.2
    unfold tupLt cLt
    by_cases e : x = y
    · subst e
      rw [if_pos rfl, ih]
      unfold cLt
      refine decide_eq_decide.mpr ?_
      rw [List.map_cons, List.map_cons, List.cons_lt_cons_iff]
      constructor
      · exact fun k => .inr ⟨rfl, k⟩
      · rintro (k | ⟨_, k⟩)
        · exact absurd k (List.lt_irrefl _)
        · exact k
    · rw [if_neg e, cd_lt h'.1]
      refine decide_eq_decide.mpr ?_
      rw [List.map_cons, List.map_cons, List.cons_lt_cons_iff]
      constructor
      · exact fun k => .inl k
      · rintro (k | ⟨k, _⟩)
        · exact k
        · exact absurd ((cd_eq h'.1).mpr k) e
theorem swo_cLt {α : Type} (k : α → List V) : SrtO.Swo fun u v => cLt (k u) (k v) := by
  refine ⟨fun x y h => ?_, fun x y z h1 h2 => ?_⟩
  · have a := of_decide_eq_true h
    exact decide_eq_false fun b => List.lt_irrefl _ (List.lt_trans a b)
  · have a := of_decide_eq_false h1
    have b := of_decide_eq_false h2
    refine decide_eq_false fun c => ?_
    rcases Classical.em ((k y).map cd < (k x).map cd) with q | q
    · exact a q
    · -- x ≤ y, y ≤ z, z < x
      rcases Classical.em ((k x).map cd < (k y).map cd) with p | p
      · exact b (List.lt_trans c p)
      · have e : (k x).map cd = (k y).map cd := by
          have h1 : (k x).map cd ≤ (k y).map cd := List.not_lt.mp q
          have h2 : (k y).map cd ≤ (k x).map cd := List.not_lt.mp p
          exact List.le_antisymm h1 h2
        rw [e] at c
        exact b c
/-! ### tuples in a heap -/
def TupV (h : Heap) (v : Value) (ks : List V) : Prop := ∃ (a : Addr) (o : Obj) (its : List Value) (n : Nat), v = .ref a ∧ h.get? a = some o ∧ o.cls = .type "tuple" ∧ o.data = .seq its.toArray n ∧ Vals ks its
theorem TupV.keeps {h h' : Heap} {v : Value} {ks : List V} (x : TupV h v ks) (k : ∀ b o, h.get? b = some o → o.cls = .type "tuple" → h'.get? b = some o) : TupV h' v ks := by
  obtain ⟨a, o, its, n, e, ho, hc, hd, r⟩ := x
  exact ⟨a, o, its, n, e, k _ _ ho hc, hc, hd, r⟩
inductive First : String → V → Prop
  | int (i : Int) : First "int" (.int i)
  | str (s : Str) : First "str" (.str s)
def Head (T : String) (ks : List V) : Prop := ∃ x r, ks = x :: r ∧ First T x
section
variable {prog : Program} {w : World} {A : Around} {s : Shared} {E : Value → Shared → Prop} {Q : Bool → Shared → Prop}
theorem oneLt_str' (c : Bool) {p q : Str} {t u : Tok} (h : Q (decide (p.cps.toList < q.cps.toList)) s) : wpAny (model prog w) A (oneLt' c (.str p t) (.str q u)) Q E s := by
  cases c with
  | true => exact oneLt_str h
  | false => exact PySem.W.kat_one _ _ (PyProof.Rows.lt_str (Q := PySem.W.BoolBack Q) h)
theorem lex_mixed {b fin : Bool} : ∀ {ks ms : List V} {xs ys : List Value} (i : Nat), Vals ks xs → Vals ms ys → sameKs ks ms = true → fin = decide (ks.length < ms.length) → Q (tupLt ks ms) s → PySem.W.KatLex prog w A b fin Q (xs.zip ys) i s
  | [], [], _, _, i, .nil, .nil, _, e, h => by
    subst e
    exact PySem.W.kat_nil h
  | [], y :: ms, _, _, i, .nil, .cons _ _, _, e, h => by
    refine PySem.W.kat_nil ?_
    rw [e, show decide (([] : List V).length < (y :: ms).length) = true from decide_eq_true (by simp)]
    exact h
  | x :: ks, [], _, _, i, .cons _ _, .nil, _, e, h => by
    refine PySem.W.kat_nil ?_
    rw [e, show decide ((x :: ks).length < ([] : List V).length) = false from decide_eq_false (by simp)]
    exact h
  | x :: ks, y :: ms, _, _, i, .cons rx rxs, .cons ry rys, hs, e, h => by
    have h' : (sameK x y && sameKs ks ms) = true := hs
    rw [Bool.and_eq_true] at h'
    have e' : fin = decide (ks.length < ms.length) := by
      rw [e]
      exact decide_eq_decide.mpr (by simp)
    have hq : Q (if x = y then tupLt ks ms else vLt x y) s := h
    cases x <;> cases y <;> first | cases h'.1 | skip
    · rename_i i1 i2
      obtain ⟨t1, rfl⟩ := rx
      obtain ⟨t2, rfl⟩ := ry
      refine PySem.W.kat_cons (SeqAt.EqAt.int_int i1 t1 i2 t2 prog w _ _ ?_)
      by_cases c : i1 = i2
      · subst c
        rw [if_pos rfl] at hq
        rw [beq_self_eq_true]
        exact PySem.W.kat_yes (lex_mixed (i + 1) rxs rys h'.2 e' hq)
      · rw [if_neg (fun z => c (V.int.inj z))] at hq
        rw [show (i1 == i2) = false from beq_eq_false_iff_ne.mpr c]
        exact PySem.W.kat_no (TS.oneLt_ints _ hq)
    · rename_i s1 s2
      obtain ⟨t1, rfl⟩ := rx
      obtain ⟨t2, rfl⟩ := ry
      refine PySem.W.kat_cons (SeqAt.EqAt.str_str s1 t1 s2 t2 prog w _ _ ?_)
      by_cases c : s1 = s2
      · subst c
        rw [if_pos rfl] at hq
        rw [beq_self_eq_true]
        exact PySem.W.kat_yes (lex_mixed (i + 1) rxs rys h'.2 e' hq)
      · rw [if_neg (fun z => c (V.str.inj z))] at hq
        rw [show (s1 == s2) = false from beq_eq_false_iff_ne.mpr c]
        exact PySem.W.kat_no (oneLt_str' _ hq)
theorem tup_cmp {b : Bool} {vs : List Value} {k : Value → List V} (hp : ∀ v ∈ vs, TupV s.heap v (k v)) (hs : ∀ v ∈ vs, ∀ u ∈ vs, sameKs (k v) (k u) = true) : SrtO.Cmp prog w A s (tuples' b) (fun p => p.1 ∈ vs) (SrtO.lt2 fun v u => cLt (k v) (k u)) := by
  intro p q hm hm'
  show wpAny (model prog w) A (keyLt' (tuples' b) p.1 q.1) (fun r s' => s' = s ∧ r = cLt (k p.1) (k q.1)) (fun _ _ => False) s
  rw [← tup_cLt (hs _ hm _ hm')]
  have h2 := hs _ hm _ hm'
  obtain ⟨a, o, its, n, e, ho, hc, hd, r⟩ := hp _ hm
  obtain ⟨a', o', its', n', e', ho', hc', hd', r'⟩ := hp _ hm'
  generalize k p.1 = kp at r h2 ⊢
  generalize k q.1 = kq at r' h2 ⊢
  rw [e, e']
  refine PySem.W.kat_lt ho hd ho' hd' ?_
  refine lex_mixed (Q := fun b s' => s' = s ∧ b = tupLt kp kq) 0 r r' h2 ?_ ⟨rfl, rfl⟩
  rw [List.size_toArray, List.size_toArray, r.length, r'.length]
theorem tups_first {h : Heap} {T : String} {k : Value → List V} : ∀ (vs : List Value), (∀ v ∈ vs, TupV h v (k v)) → (∀ v ∈ vs, Head T (k v)) → ∃ fs, PySem.W.KatTups h vs fs ∧ fs.length = vs.length ∧ ∀ f ∈ fs, ∃ x, First T x ∧ RelV x f
  | [], _, _ => ⟨[], PySem.W.KatTups.nil, rfl, fun f hf => by simp at hf⟩
  | v :: vs, h1, h2 => by
    obtain ⟨fs, g1, g2, g3⟩ := tups_first vs (fun u hu => h1 u (List.mem_cons_of_mem _ hu)) (fun u hu => h2 u (List.mem_cons_of_mem _ hu))
    obtain ⟨a, o, its, n, e, ho, hc, hd, r⟩ := h1 v List.mem_cons_self
    obtain ⟨x, rr, ek, fx⟩ := h2 v List.mem_cons_self
    rw [ek] at r
    cases r with
    | cons rx rest =>
      rename_i u us
      refine ⟨u :: fs, ?_, by simp [g2], fun f hf => ?_⟩
      · rw [e]
        exact PySem.W.KatTups.cons ho hc hd (by simp) g1
      · rcases List.mem_cons.mp hf with q | q
        · rw [q]; exact ⟨x, fx, rx⟩
        · exact g3 f q
theorem tup_kind {T : String} {vs : List Value} {k : Value → List V} {Q : SortKind → Shared → Prop} (h0 : 0 < vs.length) (hp : ∀ v ∈ vs, TupV s.heap v (k v)) (ht : ∀ v ∈ vs, Head T (k v)) (hq : Q (tuples' (Value.type T != Value.type "tuple")) s) : wpAny (model prog w) A (keyKind' vs.toArray) Q E s := by
  obtain ⟨fs, g1, g2, g3⟩ := tups_first vs hp ht
  refine PySem.W.kat_kind (T := .type T) g1 (by omega) (fun f hm => ?_) (by
    have : T = "int" ∨ T = "str" := by
      cases fs with
      | nil => simp at g2; omega
      | cons f fs =>
        obtain ⟨x, fx, _⟩ := g3 f List.mem_cons_self
        cases fx
        · exact .inl rfl
        · exact .inr rfl
    rcases this with rfl | rfl <;> rfl) hq
  obtain ⟨x, fx, rx⟩ := g3 f hm
  cases fx with
  | int i => obtain ⟨t, rfl⟩ := rx; exact PySem.W.Looks.of_pure rfl
  | str z => obtain ⟨t, rfl⟩ := rx; exact PySem.W.Looks.of_pure rfl
end
/-! ### rows that stand beside each other -/
theorem paired_perm {α β : Type} {R : α → β → Prop} {l l' : List α} (p : l'.Perm l) : ∀ {m : List β}, Paired R l m → ∃ m', m'.Perm m ∧ Paired R l' m' := by
  induction p with
  | nil => intro m h; exact ⟨m, List.Perm.refl _, h⟩
  | cons x _ ih =>
    intro m h
    cases h with
    | cons r t =>
      obtain ⟨m', p', h'⟩ := ih t
      exact ⟨_ :: m', p'.cons _, .cons r h'⟩
  | swap x y l =>
    intro m h
    cases h with
    | cons r t =>
      cases t with
      | cons r2 t2 => exact ⟨_, List.Perm.swap _ _ _, .cons r2 (.cons r t2)⟩
  | trans _ _ ih1 ih2 =>
    intro m h
    obtain ⟨m1, p1, h1⟩ := ih2 h
    obtain ⟨m2, p2, h2⟩ := ih1 h1
    exact ⟨m2, p2.trans p1, h2⟩
end Sh
set_option Elab.async false
set_option linter.all false
set_option maxRecDepth 100000
set_option maxHeartbeats 2000000
namespace Sh
open PySem PySem.Spec PyProof.Rows L2
theorem paired_pairwise {α β : Type} {R : α → β → Prop} {P : α → α → Prop} {P' : β → β → Prop} (h : ∀ a a' b b', R a b → R a' b' → P a a' → P' b b') : ∀ {l : List α} {m : List β}, Paired R l m → l.Pairwise P → m.Pairwise P'
  | _, _, .nil, _ => List.Pairwise.nil
  | _, _, .cons r t, p => by
    obtain ⟨p1, p2⟩ := List.pairwise_cons.mp p
    refine List.pairwise_cons.mpr ⟨fun b' hb => ?_, paired_pairwise h t p2⟩
    have key : ∀ {l : List α} {m : List β}, Paired R l m → ∀ b ∈ m, ∃ a ∈ l, R a b := by
      intro l m hp
      induction hp with
      | nil => intro b hb; cases hb
      | cons r t ih =>
        intro b hb
        rcases List.mem_cons.mp hb with e | hb
        · subst e; exact ⟨_, List.mem_cons_self, r⟩
        · obtain ⟨a, ha, hr⟩ := ih b hb
          exact ⟨a, List.mem_cons_of_mem _ ha, hr⟩
    obtain ⟨a', ha, ra⟩ := key t b' hb
    exact h _ _ _ _ r ra (p1 a' ha)
theorem paired_mem {α β : Type} {R : α → β → Prop} {l : List α} {m : List β} (h : Paired R l m) : ∀ a ∈ l, ∃ b ∈ m, R a b := by
  induction h with
  | nil => intro b hb; cases hb
  | cons r t ih =>
    intro b hb
    rcases List.mem_cons.mp hb with e | hb
    · subst e; exact ⟨_, List.mem_cons_self, r⟩
    · obtain ⟨a, ha, hr⟩ := ih b hb
      exact ⟨a, List.mem_cons_of_mem _ ha, hr⟩
theorem paired_imp {α β : Type} {R S : α → β → Prop} {l : List α} {m : List β} (h : Paired R l m) (k : ∀ a b, R a b → S a b) : Paired S l m := by
  induction h with
  | nil => exact .nil
  | cons r t ih => exact .cons (k _ _ r) ih
theorem paired_snoc {α β : Type} {R : α → β → Prop} {l : List α} {m : List β} (h : Paired R l m) {a : α} {b : β} (r : R a b) : Paired R (l ++ [a]) (m ++ [b]) := by
  induction h with
  | nil => exact .cons r .nil
  | cons r0 t ih => exact .cons r0 ih
theorem paired_at {α β : Type} {R : α → β → Prop} : ∀ {l : List α} {m : List β}, l.length = m.length → (∀ (i : Nat) a b, l[i]? = some a → m[i]? = some b → R a b) → Paired R l m
  | [], [], _, _ => .nil
  | [], _ :: _, h, _ => by simp at h
  | _ :: _, [], h, _ => by simp at h
  | a :: l, b :: m, h, k => .cons (k 0 a b rfl rfl) (paired_at (by simpa using h) fun i x y h1 h2 => k (i + 1) x y (by simpa using h1) (by simpa using h2))
theorem paired_get {α β : Type} {R : α → β → Prop} {l : List α} {m : List β} (h : Paired R l m) : l.length = m.length ∧ ∀ (i : Nat) a b, l[i]? = some a → m[i]? = some b → R a b := by
  induction h with
  | nil => exact ⟨rfl, fun i a b e => by simp at e⟩
  | cons r t ih =>
    refine ⟨by simp [ih.1], fun i a b h1 h2 => ?_⟩
    cases i with
    | zero => simp at h1 h2; subst h1; subst h2; exact r
    | succ i => exact ih.2 i a b (by simpa using h1) (by simpa using h2)
/-- what stands at a value -/
def kvH (H : Hp) : Value → List V
  | .ref q => match H q with
    | some (.tup ks) => ks
    | _ => []
  | _ => []
theorem kvH_at {H : Hp} {q : Addr} {ks : List V} (h : H q = some (.tup ks)) : kvH H (.ref q) = ks := by
  unfold kvH
  simp only [h]
/-- a tuple of y's stands at v -/
def TupAt {α : Type} (g : α → List V) (H : Hp) (v : V) (y : α) : Prop := ∃ q, v = .ref q ∧ H q = some (.tup (g y))
theorem TupAt.sm {α : Type} {g : α → List V} {H H' : Hp} {v : V} {y : α} (h : TupAt g H v y) (s : Same H H') : TupAt g H' v y := let ⟨q, e, k⟩ := h; ⟨q, e, s _ _ k⟩
section
variable {X : Cx}
theorem Inv.tupV {pins : List (Addr × Obj)} {σ : L2.St} {H : Hp} {s : Shared} (I : Inv X pins σ H s) {q : Addr} {ks : List V} (h : H q = some (.tup ks)) : TupV s.heap (.ref q) ks := by
  obtain ⟨_, its, r, o, ho, hc, n, hd⟩ := I.hok q _ h
  exact ⟨q, o, its, n, rfl, ho, hc, hd, r⟩
def rSortM (K : PySem.W.Frag) : List V → Hp → VK → Prop := fun vs H Q => ∃ (α : Type) (g : α → List V) (T : String) (a : Addr) (xs : List V) (l : List α), vs = [.ref a] ∧ SqL K H a xs ∧ Items (TupAt g) H xs l ∧ (∀ y ∈ l, Head T (g y)) ∧ (∀ y ∈ l, ∀ z ∈ l, sameKs (g y) (g z) = true) ∧
  ∀ (l' : List α) (ys : List V) (p : Addr) (H' : Hp), l'.Perm l → l'.Pairwise (fun y z => cLt (g z) (g y) = false) → H p = none → Same H H' → H' p = some (.lst ys) → Items (TupAt g) H' ys l' → Q (.ref p) H'
theorem cr_sortM : CallR X (.builtin "sorted") (rSortM X.K) := by
  intro pins s σ H vs us Q I r h
  obtain ⟨α, g, T, a, xs, l, rfl, hs, it, ht, hsk, q⟩ := h
  obtain ⟨its, rv, hl, hz⟩ := I.list hs
  obtain ⟨u, rfl, ru⟩ := vals1 r
  obtain rfl : u = Value.ref a := ru
  have pr : Paired (fun u y => ∃ q, u = Value.ref q ∧ H q = some (.tup (g y))) its l := by
    refine paired_at (by rw [← rv.length, it.1]) fun i u y h1 h2 => ?_
    obtain ⟨x, hx, q', e, hq⟩ := it.get h2
    obtain ⟨u', hu, ru⟩ := rv.get hx
    rw [hu] at h1
    cases h1
    subst e
    obtain rfl : u = Value.ref q' := ru
    exact ⟨q', rfl, hq⟩
  have hk : ∀ v ∈ its, ∃ y ∈ l, kvH H v = g y ∧ TupV s.heap v (kvH H v) := by
    intro v hv
    obtain ⟨y, hy, q', e, hq⟩ := paired_mem pr v hv
    subst e
    refine ⟨y, hy, kvH_at hq, ?_⟩
    rw [kvH_at hq]
    exact Inv.tupV I hq
  have hsame : ∀ v ∈ its, ∀ u ∈ its, sameKs (kvH H v) (kvH H u) = true := by
    intro v hv u hu
    obtain ⟨y, hy, e1, _⟩ := hk v hv
    obtain ⟨z, hz', e2, _⟩ := hk u hu
    rw [e1, e2]
    exact hsk y hy z hz'
  refine SrtO.sorted_ord (swo_cLt (kvH H)) hl.isList (by rw [← rv.length]; exact hz) (fun h2 h₁ a' ha kk => ?_) fun out h1 h2 => ?_
  · intro h' keep
    have hp' : ∀ v ∈ its, TupV h' v (kvH H v) := fun v hv => by
      obtain ⟨_, _, _, tv⟩ := hk v hv
      exact tv.keeps fun b o e _ => keep b o (kk b o e).1 (kk b o e).2
    refine ⟨tuples' (Value.type T != Value.type "tuple"), fun Q' E' hq => ?_, tup_cmp (s := { s with heap := h' }) hp' hsame⟩
    refine tup_kind (s := { s with heap := h' }) (T := T) (k := kvH H) (by omega) hp' (fun v hv => ?_) hq
    obtain ⟨y, hy, e, _⟩ := hk v hv
    rw [e]
    exact ht y hy
  · obtain ⟨l', pl, pr'⟩ := paired_perm h2.perm pr
    have h3 : ∀ u ∈ out, ∃ a, u = Value.ref a := fun u hu => by
      obtain ⟨y, _, q', e, _⟩ := paired_mem pr' u hu
      exact ⟨q', e⟩
    obtain ⟨ep, he'⟩ := PyProof.Rows.sortedAll_at s.heap its out.toArray
    have hp : H (s.heap.objs.size + 1) = none := I.hok.fresh (Nat.le_succ _)
    have hlen : (out.map backV).length ≤ sizeLine := by
      rw [List.length_map, h2.perm.length_eq, ← rv.length]
      exact hz
    refine ⟨.ref (s.heap.objs.size + 1), upd H (s.heap.objs.size + 1) (.lst (out.map backV)), I.laid (t' := s.toks) (fun _ _ => PyProof.Rows.sortedAll_old) (Nat.le_succ _) ⟨hlen, out, ep, vals_back h3, he'⟩, rfl, ?_⟩
    refine q l' _ _ _ pl ?_ hp (same_new hp) upd_same ?_
    · refine paired_pairwise (R := fun u y => ∃ q, u = Value.ref q ∧ H q = some (.tup (g y))) ?_ pr' h1
      rintro u u' y y' ⟨q1, rfl, e1⟩ ⟨q2, rfl, e2⟩ h
      have h' : cLt (kvH H (.ref q2)) (kvH H (.ref q1)) = false := h
      rw [kvH_at e1, kvH_at e2] at h'
      exact h'
    · obtain ⟨e1, e2⟩ := paired_get pr'
      refine ⟨by rw [List.length_map]; exact e1, fun i x y hx hy => ?_⟩
      rw [List.getElem?_map] at hx
      cases hu : out[i]? with
      | none => rw [hu] at hx; cases hx
      | some u =>
        rw [hu] at hx
        obtain ⟨q', rfl, hq⟩ := e2 i u y hu hy
        cases hx
        exact ⟨q', rfl, same_new hp _ _ hq⟩
end
/-! ### with a key def -/
section
variable {X : Cx} {pins : List (Addr × Obj)} {σ : L2.St} {H : Hp} {s : Shared} {a g : Addr} {n N : Nat} {sp : Sp} {α : Type} {f : α → V} {gk : α → List V} {l : List α} {vs : List Value} {T : String} {P : PySem.Fin → Shared → Prop}
theorem list_sort_keyX (I : Inv X pins σ H s) (F : FnR X.prog X.w X.K X.mg X.base CX0 n g sp) (hr : Room n X.A.in1.in1)
    (ho : s.heap.get? a = some (seqObj "list" vs.toArray N)) (fpa : FpOk X pins H a) (rv : Vals (l.map f) vs) (hz : l.length ≤ sizeLine)
    (hk : ∀ y ∈ l, ∀ H1, Same H H1 → ∀ Q' : VK, (∀ q H2, Same H1 H2 → H2 q = some (.tup (gk y)) → Q' (.ref q) H2) → sp [f y] H1 Q' E0)
    (ht : ∀ y ∈ l, Head T (gk y)) (hs : ∀ y ∈ l, ∀ z ∈ l, sameKs (gk y) (gk z) = true)
    (h : ∀ (l' : List α) (s' : Shared) (H' : Hp), l'.Perm l → l'.Pairwise (fun y z => cLt (gk z) (gk y) = false) → Inv X pins σ H' s' → Same H H' → H' a = some (.lst (l'.map f)) → P (.done (.ret .none)) s') :
    wpAny (model X.prog X.w) X.A.in1.in1 (ksk_tree a (.ref g) false) P X.xe s := by
  have hlen : vs.length = l.length := by rw [← rv.length, List.length_map]
  obtain ⟨hn, hL, hfs, hex, hcell, hpin⟩ := id fpa
  have ha : a < s.heap.objs.size := Heap.lt_size ho
  have s1 := Heap.SameBut.update s.heap a (Obj.mapSeq fun _ => (#[] : Array Value))
  obtain ⟨e1, ho1⟩ : ∃ e1, (s.heap.update a (Obj.mapSeq fun _ => (#[] : Array Value))).get? a = some (seqObj "list" #[] e1) := ⟨_, get?_update_seq ho fun _ => #[]⟩
  unfold ksk_tree
  refine wpAny_bind (listItems_at ho rfl ?_)
  refine wpAny_bind (listUpdate_at ho rfl ?_ (by rw [List.size_toArray, hlen]; exact hz) (Nat.zero_le _))
  refine wpAny_bind (seqEpoch_at ho1 rfl ?_)
  refine wpAny_bind (wpAny_newTuple ?_ (by show vs.length ≤ _; rw [hlen]; exact hz))
  refine wpAny_bind (wpAny_newList ?_ (Nat.zero_le _))
  refine wpAny_holding ?_
  have J1 : Inv X pins σ H { s with heap := s.heap.update a (Obj.mapSeq fun _ => (#[] : Array Value)), toks := s.toks } := I.turned (fun b o hb e => (s1.2 b hb).trans e) hn hL hex hcell hpin
  have z1 : (s.heap.update a (Obj.mapSeq fun _ => (#[] : Array Value))).objs.size = s.heap.objs.size := Heap.size_update _ _ _
  show wpAny _ _ (ksk_rest a (.ref g) false vs.toArray e1 (.ref (((s.heap.update a (Obj.mapSeq fun _ => (#[] : Array Value))).push (seqObj "tuple" vs.toArray 0)).objs.size))) P X.xe { s with heap := ((s.heap.update a (Obj.mapSeq fun _ => (#[] : Array Value))).push (seqObj "tuple" vs.toArray 0)).push (seqObj "list" #[] 0) }
  generalize s.heap.update a (Obj.mapSeq fun _ => (#[] : Array Value)) = h1 at J1 ho1 z1 ⊢
  have z2 : (h1.push (seqObj "tuple" vs.toArray 0)).objs.size = h1.objs.size + 1 := size_push' _ _
  have J2 : Inv X pins σ (upd H (h1.push (seqObj "tuple" vs.toArray 0)).objs.size (.lst [])) { s with heap := (h1.push (seqObj "tuple" vs.toArray 0)).push (seqObj "list" #[] 0), toks := s.toks } :=
    J1.laid (fun b o e => Heap.get?_push_of_some _ (Heap.get?_push_of_some _ e)) (by rw [z2]; exact Nat.le_succ _) ⟨Nat.zero_le _, [], 0, .nil, Heap.get?_push_size _ rfl⟩
  have hk0 : H (h1.push (seqObj "tuple" vs.toArray 0)).objs.size = none := J1.hok.fresh (by rw [z2]; exact Nat.le_succ _)
  have hne : a ≠ (h1.push (seqObj "tuple" vs.toArray 0)).objs.size := by rw [z2, z1]; exact Nat.ne_of_lt (Nat.lt_succ_of_lt ha)
  have J3 : Inv X (pins ++ [(a, seqObj "list" #[] e1)]) σ (upd H (h1.push (seqObj "tuple" vs.toArray 0)).objs.size (.lst [])) { s with heap := (h1.push (seqObj "tuple" vs.toArray 0)).push (seqObj "list" #[] 0), toks := s.toks } :=
    J2.pins_of fun p hp => (List.mem_append.mp hp).elim (fun z => J2.pin p (List.mem_append_right _ z)) fun z => by
      rw [List.mem_singleton.mp z]
      exact ⟨Heap.get?_push_of_some _ (Heap.get?_push_of_some _ ho1), by rw [upd_ne hne]; exact hn, hL, hfs, fun v e => by cases e⟩
  generalize (h1.push (seqObj "tuple" vs.toArray 0)).objs.size = kS at J2 J3 hk0 hne ⊢
  generalize hs0 : ({ s with heap := (h1.push (seqObj "tuple" vs.toArray 0)).push (seqObj "list" #[] 0) } : Shared) = s0 at J3 ⊢
  clear hs0 J2 z2 J1 z1 ho1 h1
  unfold ksk_rest
  refine wpAny_bind (wpAny_rule ?_)
  first
    | rw [List.forIn_toArray]
    | (rw [← Array.forIn_toList]; simp only [List.toList_toArray])
    | rw [← Array.forIn_toList]
  refine wpAny_bind (ksk_fold (fun i s' => ∃ H' ys, Inv X (pins ++ [(a, seqObj "list" #[] e1)]) σ H' s' ∧ Same H H' ∧ H' kS = some (.lst ys) ∧ Paired (fun v y => ∃ q, v = V.ref q ∧ H' q = some (.tup (gk y))) ys (l.take i)) vs 0 s0
    ⟨_, [], J3, same_new hk0, upd_same, .nil⟩ ?step ?done)
  case step =>
    rintro j x s' hx ⟨H', ys, J, sm, hkS, pr⟩
    simp only [Nat.zero_add] at pr ⊢
    have hj : j < vs.length := (List.getElem?_eq_some_iff.mp hx).1
    have hjl : j < l.length := by omega
    have hy : l[j]? = some l[j] := List.getElem?_eq_getElem hjl
    have hym : l[j] ∈ l := List.getElem_mem hjl
    have rx : RelV (f l[j]) x := by
      obtain ⟨u, hu, ru⟩ := rv.get (i := j) (x := f l[j]) (by rw [List.getElem?_map, hy]; rfl)
      rw [hx] at hu
      cases hu
      exact ru
    have yl : ys.length = j := by
      have := Paired.length pr
      rw [List.length_take] at this
      omega
    refine wpAny_bind (wpAny_attempt (wpAny_mono (run_in (X := X.wish fun _ _ => False) (us := [x]) (ws := [f l[j]]) (Q := fun v H2 => ∃ q, v = .ref q ∧ Same H' H2 ∧ H2 q = some (.tup (gk l[j]))) F hr (J.wish _).env0.in1.in1 pass0 (J.wish _) (.cons rx .nil)
      (hk _ hym H' sm _ fun q H2 sm2 hq => ⟨q, rfl, sm2, hq⟩)) (fun v s'' he => ?_) fun _ _ hF => hF.elim))
    obtain ⟨v', H2, J', rv', q, rfl, sm2, hq⟩ := he
    obtain rfl : v = .ref q := rv'
    have J2 := J'.unwish
    have hkS2 := sm2 _ _ hkS
    obtain ⟨hzz, its, n2, rvi, hli, hget⟩ := J2.lstM hkS2
    try dsimp only
    have s2 := Heap.SameBut.update s''.heap kS (Obj.mapSeq (·.push (Value.ref q)))
    obtain ⟨c2, hc2⟩ : ∃ c2, (s''.heap.update kS (Obj.mapSeq (·.push (Value.ref q)))).get? kS = some (seqObj "list" (its.toArray.push (Value.ref q)) c2) := ⟨_, get?_update_seq hget (·.push (Value.ref q))⟩
    refine wpAny_bind (listUpdate_at hget rfl ?_ (by rw [List.size_toArray, ← hli]; exact hzz) (by rw [Array.size_push, List.size_toArray, ← hli]; omega))
    have et : l.take (j + 1) = l.take j ++ [l[j]] := by rw [List.take_succ, hy]; rfl
    refine wpAny_pure ⟨rfl, upd H2 kS (.lst (ys ++ [.ref q])), ys ++ [.ref q], ?_, same_mut (sm.trans sm2) hk0, upd_same, ?_⟩
    · refine J2.write (t' := s''.toks) (by rw [hkS2]; trivial) (.inl rfl) (fun b u hb e => (s2.2 b hb).trans e) ⟨_, hc2⟩ ⟨by rw [List.length_append, yl]; show j + 1 ≤ _; omega, its ++ [.ref q], c2, ?_, ?_⟩
      · exact paired_snoc rvi (show RelV (.ref q) (.ref q) from rfl)
      · rw [hc2, List.push_toArray]
    · rw [et]
      have up : ∀ q0 ks, H2 q0 = some (.tup ks) → upd H2 kS (.lst (ys ++ [.ref q])) q0 = some (.tup ks) := fun q0 ks e => by
        rw [upd_ne (ne_of e hkS2 (by intro z; cases z))]
        exact e
      exact paired_snoc (paired_imp pr fun v y ⟨q0, e, hq0⟩ => ⟨q0, e, up q0 _ (sm2 _ _ hq0)⟩) ⟨q, rfl, up q _ hq⟩
  case done =>
    rintro s' ⟨H', ys, J, sm, hkS, pr⟩
    rw [show l.take (0 + vs.length) = l from List.take_of_length_le (by omega)] at pr
    obtain ⟨hzz, its, n2, rvi, hli, hget⟩ := J.lstM hkS
    have pa := J.pin (a, seqObj "list" #[] e1) (List.mem_append_right _ (List.mem_append_right _ (List.mem_singleton.mpr rfl)))
    have hH'a : H' a = none := pa.2.1
    have hga : s'.heap.get? a = some (seqObj "list" #[] e1) := pa.1
    try dsimp only
    refine wpAny_bind (listItems_at hget rfl ?_)
    have hil : its.length = l.length := by rw [← hli, Paired.length pr]
    -- the keys
    have pk : Paired (fun u y => ∃ q, u = Value.ref q ∧ H' q = some (.tup (gk y))) its l := by
      obtain ⟨e1, e2⟩ := paired_get pr
      refine paired_at hil fun i u y h1 h2 => ?_
      have hi : i < ys.length := by
        have := (List.getElem?_eq_some_iff.mp h2).1
        omega
      obtain ⟨u', hu, ru⟩ := rvi.get (List.getElem?_eq_getElem hi)
      rw [h1] at hu
      cases hu
      obtain ⟨q, e, hq⟩ := e2 i _ y (List.getElem?_eq_getElem hi) h2
      rw [e] at ru
      exact ⟨q, ru, hq⟩
    have hkk : ∀ v ∈ its, ∃ y ∈ l, kvH H' v = gk y ∧ TupV s'.heap v (kvH H' v) := by
      intro v hv
      obtain ⟨y, hy, q', e, hq⟩ := paired_mem pk v hv
      subst e
      refine ⟨y, hy, kvH_at hq, ?_⟩
      rw [kvH_at hq]
      exact Inv.tupV J hq
    have hsame : ∀ v ∈ its, ∀ u ∈ its, sameKs (kvH H' v) (kvH H' u) = true := by
      intro v hv u hu
      obtain ⟨y, hy, e1, _⟩ := hkk v hv
      obtain ⟨z, hz', e2, _⟩ := hkk u hu
      rw [e1, e2]
      exact hs y hy z hz'
    have p2 : Paired (fun (p : Value × Value) y => kvH H' p.1 = gk y ∧ RelV (f y) p.2) (its.zip vs) l := by
      obtain ⟨_, e2⟩ := paired_get pk
      refine paired_at (by rw [List.length_zip]; omega) fun i p y h1 h2 => ?_
      rw [List.getElem?_zip_eq_some] at h1
      obtain ⟨q, e, hq⟩ := e2 i _ y h1.1 h2
      obtain ⟨u, hu, ru⟩ := rv.get (i := i) (x := f y) (by rw [List.getElem?_map, h2]; rfl)
      rw [h1.2] at hu
      cases hu
      refine ⟨?_, ru⟩
      rw [e]
      exact kvH_at hq
    have tail : ∀ st : SortSt, SrtO.Srtd (SrtO.lt2 fun v u => cLt (kvH H' v) (kvH H' u)) (arrOf st).toList → (arrOf st).toList.Perm (its.zip vs) → failedOf st = none → wpAny (model X.prog X.w) X.A.in1.in1 (ksk_tail a false e1 (.ref kS) st) P X.xe s' := by
      intro st hso hpe hfl
      obtain ⟨l', pl, pr'⟩ := paired_perm hpe p2
      have hkne : a ≠ kS := fun z => by rw [← z, hH'a] at hkS; cases hkS
      have s2 := Heap.SameBut.update s'.heap kS (Obj.mapSeq fun _ => (#[] : Array Value))
      obtain ⟨c2, hc2⟩ : ∃ c2, (s'.heap.update kS (Obj.mapSeq fun _ => (#[] : Array Value))).get? kS = some (seqObj "list" #[] c2) := ⟨_, get?_update_seq hget fun _ => #[]⟩
      have hga2 : (s'.heap.update kS (Obj.mapSeq fun _ => (#[] : Array Value))).get? a = some (seqObj "list" #[] e1) := (s2.2 a hkne).trans hga
      have K1 : Inv X (pins ++ [(a, seqObj "list" #[] e1)]) σ (upd H' kS (.lst [])) { s' with heap := s'.heap.update kS (Obj.mapSeq fun _ => (#[] : Array Value)), toks := s'.toks } :=
        J.write (by rw [hkS]; trivial) (.inl rfl) (fun b u hb e => (s2.2 b hb).trans e) ⟨_, hc2⟩ ⟨Nat.zero_le _, [], c2, .nil, hc2⟩
      unfold ksk_tail
      try dsimp only
      refine wpAny_bind (listUpdate_at hget rfl ?_ (by rw [List.size_toArray, ← hli]; exact hzz) (Nat.zero_le _))
      refine wpAny_bind (wpAny_letGo ?_)
      refine wpAny_bind (seqEpoch_at hga2 rfl ?_)
      have hsz : ((arrOf st).map (·.2)).size ≤ sizeLine := by
        have := hpe.length_eq
        rw [Array.length_toList, List.length_zip] at this
        rw [Array.size_map, this]
        omega
      simp only [Bool.false_eq_true, if_false]
      refine wpAny_bind (listUpdate_at hga2 rfl ?_ (Nat.zero_le _) (by omega))
      rw [hfl]
      simp only [bne_self_eq_false, Bool.false_eq_true, if_false]
      generalize hh2 : s'.heap.update kS (Obj.mapSeq fun _ => (#[] : Array Value)) = h2 at K1 hga2 ⊢
      have s3 := Heap.SameBut.update h2 a (Obj.mapSeq fun _ => (arrOf st).map (·.2))
      obtain ⟨c3, hc3⟩ : ∃ c3, (h2.update a (Obj.mapSeq fun _ => (arrOf st).map (·.2))).get? a = some (seqObj "list" ((arrOf st).map (·.2)) c3) := ⟨_, get?_update_seq hga2 fun _ => (arrOf st).map (·.2)⟩
      have hupa : upd H' kS (.lst []) a = none := by rw [upd_ne hkne]; exact hH'a
      have hvals : Vals (l'.map f) (((arrOf st).map (·.2)).toList) := by
        rw [Array.toList_map]
        have key : ∀ {ps : List (Value × Value)} {m : List α}, Paired (fun (p : Value × Value) y => kvH H' p.1 = gk y ∧ RelV (f y) p.2) ps m → Vals (m.map f) (ps.map (·.2)) := by
          intro ps m hp
          induction hp with
          | nil => exact .nil
          | cons r t ih => exact .cons r.2 ih
        exact key pr'
      have K3 : Inv X pins σ (upd (upd H' kS (.lst [])) a (.lst (l'.map f))) { s' with heap := h2.update a (Obj.mapSeq fun _ => (arrOf st).map (·.2)), toks := s'.toks } := by
        refine Inv.take (s := { s' with heap := h2, toks := s'.toks }) (Inv.unpinned K1) (fun b ob hb e => (s3.2 b hb).trans e) ⟨hupa, hL, hfs, hex, hcell, hpin⟩ ⟨?_, _, c3, hvals, ?_⟩
        · rw [List.length_map, pl.length_eq]; exact hz
        · rw [hc3, Array.toArray_toList]
      refine wpAny_pure (h l' _ _ pl ?_ K3 ?_ upd_same)
      · refine paired_pairwise (R := fun (p : Value × Value) y => kvH H' p.1 = gk y ∧ RelV (f y) p.2) ?_ pr' hso
        rintro p p' y y' ⟨k1, _⟩ ⟨k2, _⟩ hlt
        have hlt' : cLt (kvH H' p'.1) (kvH H' p.1) = false := hlt
        rw [k1, k2] at hlt'
        exact hlt'
      · exact fun b o e => by
          rw [upd_ne (ne_of_none e hn)]
          exact same_mut sm hk0 b o e
    have hzip : (its.toArray.zip vs.toArray).toList = its.zip vs := by simp
    unfold ksk_end
    try dsimp only
    simp only [Bool.false_eq_true, if_false]
    by_cases h2 : vs.toArray.size < 2
    · rw [if_pos h2, if_pos h2]
      refine wpAny_bind (wpAny_pure ?_)
      rw [StateT.run_pure]
      refine wpAny_bind (wpAny_pure ?_)
      try dsimp only
      rw [List.size_toArray] at h2
      refine tail (SortSt.mk' general' (its.toArray.zip vs.toArray) #[] 7 none) ?_ (by show (its.toArray.zip vs.toArray).toList.Perm _; rw [hzip]) rfl
      show SrtO.Srtd _ (its.toArray.zip vs.toArray).toList
      rw [hzip]
      have hl2 : (its.zip vs).length < 2 := by rw [List.length_zip]; omega
      match its.zip vs, hl2 with
      | [], _ => exact List.Pairwise.nil
      | [v], _ => exact List.pairwise_singleton _ _
      | _ :: _ :: l, h => exact absurd h (by simp)
    · rw [if_neg h2, if_neg h2]
      rw [List.size_toArray] at h2
      refine wpAny_bind (tup_kind (T := T) (vs := its) (k := kvH H') (by omega) (fun v hv => (hkk v hv).choose_spec.2.2) (fun v hv => ?_) ?_)
      · obtain ⟨y, hy, e, _⟩ := hkk v hv
        rw [e]
        exact ht y hy
      refine wpAny_bind (wpAny_mono (SrtO.wpS_sortO (st0 := SortSt.mk' (tuples' (Value.type T != Value.type "tuple")) (its.toArray.zip vs.toArray) #[] 7 none)
        (Q := fun _ st' => SrtO.Srtd (SrtO.lt2 fun v u => cLt (kvH H' v) (kvH H' u)) (arrOf st').toList ∧ (arrOf st').toList.Perm (its.zip vs) ∧ failedOf st' = none) (SrtO.swo2 (swo_cLt (kvH H'))) (tup_cmp (s := s') (fun v hv => (hkk v hv).choose_spec.2.2) hsame) rfl
        (fun p hp => ?_) rfl rfl fun st' a1 a2 a3 => ⟨a1, ?_, a3⟩) ?_ fun _ _ e => e)
      · have hp' : p ∈ (its.toArray.zip vs.toArray).toList := hp
        rw [hzip] at hp'
        exact (List.of_mem_zip (a := p.1) (b := p.2) hp').1
      · have := a2.perm
        have e : (arrOf (SortSt.mk' (tuples' (Value.type T != Value.type "tuple")) (its.toArray.zip vs.toArray) #[] 7 none)).toList = its.zip vs := hzip
        rw [e] at this
        exact this
      · rintro ⟨⟨⟩, st'⟩ s2 ⟨rfl, hp1, hp2, hf⟩
        try dsimp only
        exact tail st' hp1 hp2 hf
end
end Sh
set_option Elab.async false
set_option linter.all false
set_option maxRecDepth 100000
set_option maxHeartbeats 2000000
namespace Sh
open PySem PySem.Spec PyProof.Rows L2
/-- a list of these, or a dict whose keys they are -/
def KSrc (K : PySem.W.Frag) (H : Hp) (v : V) (xs : List V) : Prop := ∃ a, v = .ref a ∧ (SqL K H a xs ∨ ∃ kvs : List (Key × V), Rd H a (.dK kvs) ∧ xs = kvs.map fun p => kV p.1)
def rSortK (K : PySem.W.Frag) (sp : Sp) : List V → Hp → VK → Prop := fun vs H Q => ∃ (α : Type) (f : α → V) (gk : α → List V) (T : String) (l : List α) (v : V), vs = [v] ∧ KSrc K H v (l.map f) ∧
  (∀ y ∈ l, ∀ H1, Same H H1 → ∀ Q' : VK, (∀ q H2, Same H1 H2 → H2 q = some (.tup (gk y)) → Q' (.ref q) H2) → sp [f y] H1 Q' E0) ∧
  (∀ y ∈ l, Head T (gk y)) ∧ (∀ y ∈ l, ∀ z ∈ l, sameKs (gk y) (gk z) = true) ∧
  ∀ (l' : List α) (p : Addr) (H' : Hp), l'.Perm l → l'.Pairwise (fun y z => cLt (gk z) (gk y) = false) → H p = none → Same H H' → H' p = some (.lst (l'.map f)) → Q (.ref p) H'
section
variable {X : Cx} {n : Nat} {g : Addr} {sp : Sp}
theorem cr_sortKey (F : FnR X.prog X.w X.K X.mg X.base CX0 n g sp) (hr : Room (n + 2) X.A) (hc : X.calm = true) : CallRK X (.builtin "sorted") [Str.ofString "key"] (fun vs zs H Q => zs = [.ref g] ∧ rSortK X.K sp vs H Q) := by
  intro pins s σ H vs zs us ws Q I r rz h
  obtain ⟨rfl, α, f, gk, T, l, v, rfl, ⟨a, rfl, src⟩, hk, ht, hs, q⟩ := h
  obtain ⟨w1, rfl, e1⟩ := vals1 rz
  obtain rfl : w1 = Value.ref g := e1
  obtain ⟨u, rfl, ru⟩ := vals1 r
  obtain rfl : u = Value.ref a := ru
  have hr2 : Room n X.A.in1.in1 := (show Room (n + 1) X.A.in1 from Room.in1 hr).in1
  refine call_function_entry_kw kind_sorted plain_sorted entry_sorted (ksk_s1 _ _) ?_
  unfold Builtin.«sorted»
  refine wpAny_bind (m := checkCount "sorted" 1 1 _) (wpAny_pure ?_)
  have col : ∀ R : List Value → Shared → Prop, (∀ h' tk us, (∀ b o, s.heap.get? b = some o → h'.get? b = some o) → Vals (l.map f) us → l.length ≤ sizeLine → R us { s with heap := h', toks := tk }) → wpAny (model X.prog X.w) X.A.in1 (collect (.ref a)) R X.xe s := by
    intro R hR
    rcases src with hL | ⟨kvs, hD, ek⟩
    · obtain ⟨its, rv, hl, hz⟩ := I.list hL
      refine collect_list hl.isList (hR _ s.toks its (fun b o e => ?_) rv (by rw [List.length_map] at hz; exact hz)) (by rw [← rv.length]; exact hz)
      have hlt : b < s.heap.objs.size := Heap.lt_size e
      rw [Heap.get?_update_ne _ _ _ _ (Nat.ne_of_lt hlt)]
      exact Heap.get?_push_of_some _ e
    · obtain ⟨z, lo, vs, rel, dd⟩ := dk_rd I.hok hD
      obtain ⟨ep, hat⟩ := dd.dictAt
      have hl : kvs.length = vs.length := Paired.length rel
      refine PySem.W.kdu_collect (A := X.A.in1) (PySem.W.kdl_dict (knd := mixKind X.prog X.w) (kvs := vs) (ep := ep) lo) (I.ok.hd hc) hat (by rw [← hl]; exact z) fun h' tk acc hk hacc => ?_
      have ll : l.length = kvs.length := by
        have := congrArg List.length ek
        rw [List.length_map, List.length_map] at this
        exact this
      refine hR h' tk acc.toList hk ?_ (by rw [ll]; exact z)
      rw [ek]
      have el : acc.toList.length = acc.size := by simp
      refine vals_of_at (by rw [List.length_map, el, hacc.1, hl]) fun j x w h1 h2 => ?_
      obtain ⟨k, y, hky, hi⟩ := hacc.2 j w (by rw [← Array.getElem?_toList]; exact h2)
      have e1 : (kvs.map (·.1))[j]? = some k := by
        rw [KV.keys rel, List.getElem?_map, hky] <;> rfl
      have e2 : (kvs.map fun kv => kV kv.1)[j]? = some (kV k) := by
        have e3 : (kvs.map fun kv => kV kv.1) = (kvs.map (·.1)).map kV := by rw [List.map_map] <;> rfl
        rw [e3, List.getElem?_map, e1] <;> rfl
      rw [e2] at h1
      cases h1
      exact keyIs_rel hi
  refine wpAny_bind (col _ fun h' tk us hkp rv hz => ?_)
  have hul : us.length = l.length := by rw [← rv.length, List.length_map]
  refine wpAny_bind (wpAny_newList ?_ (by rw [hul]; exact hz))
  have I1 : Inv X pins σ H { s with heap := h', toks := tk } := I.kept hkp
  have hoL : (h'.push (seqObj "list" us.toArray 0)).get? h'.objs.size = some (seqObj "list" us.toArray 0) := Heap.get?_push_size _ rfl
  have hfr : H h'.objs.size = none := I1.hok.fresh (Nat.le_refl _)
  have fp : FpOk X pins H h'.objs.size := I1.fpOk (Nat.le_refl _) hfr
  have I2 : Inv X pins σ H { s with heap := h'.push (seqObj "list" us.toArray 0), toks := tk } := I1.kept fun b o e => Heap.get?_push_of_some _ e
  show wpAny _ _ _ _ _ { s with heap := h'.push (seqObj "list" us.toArray 0), toks := tk }
  refine wpAny_bind (wpAny_holding (wpAny_call_entry_kw slot_list_sort ⟨_, hoL, rfl⟩ entry_list_sort ?body (ksk_l1 _ _)))
  case body =>
    show wpAny (model X.prog X.w) X.A.in1.in1 (Builtin.«list.sort» ⟨[.ref h'.objs.size], [(Str.ofString "key", .ref g)]⟩) _ _ _
    rw [ksk_t1]
    refine list_sort_keyX I2 F hr2 hoL fp rv hz hk ht hs fun l' s' H' pl po J sm hp => ⟨_, rfl, ?_⟩
    exact wpAny_pure ⟨_, rfl, .ref h'.objs.size, H', J, rfl, q l' _ H' pl po hfr sm hp⟩
end
section
variable {X : Cx} {k j : Nat} {x : Str} {sp : Sp} {p p2 pos kpos : Pos} {e : Expr} {t : TA}
def tSortK (K : PySem.W.Frag) (sp : Sp) (t : TA) : TE := fun σ H Q => t σ H fun vs H1 => rSortK K sp vs H1 Q
/-- sorted(e, key=f), f a def of the text -/
theorem pe_sortK (c : Cal X.prog X.w X.K X.mg X.base CX0 k x sp) (hr : Room j X.A) (hk : k + 2 ≤ j) (hc : X.calm = true) (hg : Gl X "sorted") (hm : X.mg "sorted" = none) (hgx : Gl X x) (ha : PA X [e] t)
    (hdb : (x == ("__debug__" : Str)) = false := by decide)
    (he : backTo pos (starEach [e] X.env) = (false, eval e X.env) :: backTo pos (starEach [] X.env) := by rfl) (hpl : (backTo pos (starEach [e] X.env)).any (·.1) = false := by rfl) :
    PE X (.Call (.Name "sorted" p) [e] [⟨some (Str.ofString "key"), .Name x p2, kpos⟩] pos) (tSortK X.K sp t) := by
  obtain ⟨f, fd, ps, F, hmx, kp, b⟩ := c.ex
  have P0 := pe_callBK (p := p) (pos := pos) (cr_sortKey (fnR_of F b) (hr.mono hk) hc) hg hm (by rfl) ha (pk_cons (kpos := kpos) (nm := some (Str.ofString "key")) (pe_glob (pos := p2) (v := .ref f) hgx hmx rfl hdb) pk_nil) (by decide) (by decide) he hpl
  refine ⟨fun pins s σ H Q I h => P0.run pins s σ H Q I ?_⟩
  have e9 : (fun (vs : List V) (H1 : Hp) => ([V.ref f] : List V) = [.ref f] ∧ rSortK X.K sp vs H1 Q) = fun vs H1 => rSortK X.K sp vs H1 Q := by
    funext vs H1
    exact propext ⟨fun h => h.2, fun h => ⟨rfl, h⟩⟩
  show t σ H fun vs H1 => ([V.ref f] : List V) = [.ref f] ∧ rSortK X.K sp vs H1 Q
  rw [e9]
  exact h
end
/-! ### == by an own __eq__ -/
section
variable {X : Cx} {C : Addr} {k j : Nat} {sp : Sp}
def rEqI (C : Addr) (sp : Sp) : R2 := fun x y H Q => ∃ a dx fs b dy gs, x = .ref a ∧ y = .ref b ∧ H a = some (.ins C dx fs) ∧ H b = some (.ins C dy gs) ∧ sp [.ref a, .ref b] H (fun v H' => ∃ c, v = .bl c ∧ Q v H') E0
theorem op_eqI (d : MetC X.prog X.w X.K X.mg X.base k C "__eq__" sp) (hr : Room j X.A) (hk : k ≤ j) : OpR X (compareOp .Eq) (rEqI C sp) := by
  obtain ⟨f, fd, ps, F, b, hs, hf, ho⟩ := d.ex
  intro pins s σ H x y v u Q I rx ry h
  obtain ⟨a, dx, fs, a2, dy, gs, rfl, rfl, ha, hb, q⟩ := h
  obtain rfl : v = Value.ref a := rx
  obtain rfl : u = Value.ref a2 := ry
  obtain ⟨ox, od, J, _⟩ := StX.insC_at (C := C) I (.inr ⟨dx, fs, ha⟩)
  obtain ⟨ox', od', J', _⟩ := StX.insC_at (C := C) I (.inr ⟨dy, gs, hb⟩)
  obtain ⟨m, hF⟩ := I.fr
  show wpAny (model X.prog X.w) X.A (richCompare .Eq (.ref a) (.ref a2)) (EP X pins σ Q) X.xe s
  refine PySem.W.cmp_K (op := .Eq) (tb := .ref C) (hr.mono hk).units0 hF I.ok.mod.kin J J'.type (by simp [PySem.W.notFirst]) hs hf ?_
  refine wpAny_mono (run_in (us := [.ref a, .ref a2]) (ws := [.ref a, .ref a2]) (fnR_of F b) (hr.mono hk) I.env0 pass0 I (.cons rfl (.cons rfl .nil)) q) (fun v s' z => ?_) fun _ _ x => x
  obtain ⟨z', H', I', rz, c, ec, qz⟩ := z
  subst ec
  obtain rfl : v = .bool c := rz
  exact ⟨.bl c, H', I', rfl, qz⟩
end
end Sh
set_option Elab.async false
set_option linter.all false
set_option maxRecDepth 100000
set_option maxHeartbeats 2000000
namespace Sh
open PySem PySem.Spec PyProof.Rows L2
/-! ### a property of a class of the text -/
structure PropAt (K : PySem.W.Frag) (C : Addr) (f q : Str) (st : Stmt) : Prop where
  ex : ∃ (p g : Addr) (fd : FuncData), PropOf K C f p g ∧ L2.Fun K f q st g fd ∧ Binds K fd ["self"] []
structure PropC (P : Program) (w : World) (K : PySem.W.Frag) (mg : Str → Option Value) (base : Heap) (k : Nat) (C : Addr) (f : Str) (sp : Sp) : Prop where
  ex : ∃ (p g : Addr) (fd : FuncData) (ps : List Str), PropOf K C f p g ∧ FnOk P w K mg base CX0 k g fd ps sp ∧ Binds K fd ps []
section
variable {P : Program} {w : World} {K : PySem.W.Frag} {mg : Str → Option Value} {base : Heap}
theorem PropC.mk0 {f q : Str} {C : Addr} {st : Stmt} {N : List Str} {k : Nat} {sp : Sp} (D : PropAt K C f q st) (S : FnScope N ["self"] (defScope st)) (len : ∀ vs H Q E, sp vs H Q E → vs.length = 1)
    (hbody : ∀ (f : Addr) (cdv : Value) (A : Around) (outer : List Env) (s : Shared) (H : Hp) (vs : List V) (Q : VK) (E : XK), Room k (A.deeper (envOfC q (defScope st) s.heap.objs.size f cdv)) → sp vs H Q E →
      ∃ t, PSs (cxOf CX0 P w K mg base N q (defScope st) f cdv A outer s H E).nox (defBody st) t ∧ t { nx := fun _ H' => Q .non H', rt := Q } (start N vs) H) : PropC P w K mg base (k + 1) C f sp := by
  obtain ⟨p, g, fd, hp, F, b⟩ := D.ex
  exact ⟨p, g, fd, ["self"], hp, F.ok S len (hbody g), b⟩
end
section
variable {X : Cx} {k j : Nat} {f : Str} {C : Addr} {sp : Sp} {pos : Pos} {e : Expr} {ta : TE}
/-- o.f, f a property -/
theorem pe_propC (ho : PE X e ta) (c : Cls X.K C) (d : PropC X.prog X.w X.K X.mg X.base k C f sp) (hr : Room j X.A) (hk : k + 1 ≤ j) (hab : attributeBase e f X.env (eval e X.env) = eval e X.env := by rfl) :
    PE X (.Attribute e f pos) (tProp C sp [] E0 ta) := by
  obtain ⟨p, g, fd, ps, hp, F, b⟩ := d.ex
  exact pe_prop ho c hp F (hr.mono hk) b .nil pass0 hab
end
section
variable {X : Cx} {C : Addr} {k j : Nat} {sp : Sp} {a : Expr} {ta : TE}
/-- o as a test, o an instance of the class at C with an own __bool__ -/
def tTestI (C : Addr) (sp : Sp) (ta : TE) : TT := fun σ H Q => ta σ H fun x H1 => ∃ p dx fs, x = .ref p ∧ H1 p = some (.ins C dx fs) ∧ sp [.ref p] H1 (fun z H2 => ∃ b, z = .bl b ∧ Q b H2) E0
theorem pt_inst (d : MetC X.prog X.w X.K X.mg X.base k C "__bool__" sp) (hr : Room j X.A) (hk : k ≤ j) (ha : PE X a ta) (he : ∀ whole, isTrue a X.env whole = (do let v ← whole; standAt a.pos; holding [v] (truthy v))) : PT X a (tTestI C sp ta) := by
  obtain ⟨f, fd, ps, F, b, i, n, o⟩ := d.ex
  refine ⟨fun pins s σ H Q I h => ?_⟩
  refine isTrue_plain (thn (ha.run pins s σ H _ I h) fun v s1 ⟨x, H1, I1, r1, p, dx, fs, ex, hH, q⟩ => ?_) (he _)
  subst ex
  obtain rfl : v = .ref p := r1
  obtain ⟨ox, od, J, _⟩ := StX.insC_at (C := C) I1 (.inr ⟨dx, fs, hH⟩)
  refine truthy_own I1.kIn J i n (wpAny_mono (run_in (us := [.ref p]) (ws := [.ref p]) (fnR_of F b) (hr.mono hk) I1.env0 pass0 I1 (.cons rfl .nil) q) (fun v s' z => ?_) fun _ _ x => x)
  obtain ⟨z', H', I', rz, c, ec, qz⟩ := z
  subst ec
  obtain rfl : v = .bool c := rz
  exact ⟨c, rfl, H', I', qz⟩
end
/-! ### what walks over the keys of a dict -/
theorem lc_keys {d : Addr} {o : Obj} {kvs : List (Key × V)} {g : TG} {tt : TT} {te : TE} {vs : List Nat} {σ : L2.St} {H1 : Hp} {D : Addr} {Qd : Hp → Prop}
    (Pv : List Key → Hp → Prop) (h0 : Pv [] (upd H1 D (.lst []))) (hG : ∀ pre H, Pv pre H → H d = some (.frz o (.dK kvs)))
    (hs : ∀ pre k post H, kvs.map (·.1) = pre ++ k :: post → Pv pre H → g (kV k) (wipe σ vs) H fun σ2 H2 => wipe σ2 vs = wipe σ vs ∧ tt σ2 H2 fun b H3 =>
      if b = true then te σ2 H3 fun y' H4 => ∃ acc, H4 D = some (.lst acc) ∧ acc.length < sizeLine ∧ Pv (pre ++ [k]) (upd H4 D (.lst (acc ++ [y']))) else Pv (pre ++ [k]) H3) (hd : ∀ H, Pv (kvs.map (·.1)) H → Qd H) :
    ∃ W : Nat → Nat → Hp → Prop, (∃ m, W 0 m (upd H1 D (.lst []))) ∧ ∀ i m H, W i m H →
      ((Itk d o kvs).stop i H ∧ Qd H) ∨ ((Itk d o kvs).go i H ∧ ∃ Nx : Hp → Prop, (∀ H', Nx H' → ∃ m', m' < m ∧ W (i + 1) m' H') ∧ ∀ x H', (Itk d o kvs).yld i H x H' → g x (wipe σ vs) H' fun σ2 H2 => wipe σ2 vs = wipe σ vs ∧ tt σ2 H2 fun b H3 =>
        if b = true then te σ2 H3 fun y H4 => ∃ acc, H4 D = some (.lst acc) ∧ acc.length < sizeLine ∧ Nx (upd H4 D (.lst (acc ++ [y]))) else Nx H3) := by
  have w := walk_keys (d := d) (o := o) (kvs := kvs)
  refine lc_it w (fun i H => Pv ((kvs.map (·.1)).take i) H) (by simpa using h0) (fun i H _ p => hG _ H p) (fun i x H H' hi p y => ?_) (fun H p => hd H (by rw [List.take_of_length_le (by simp)] at p; exact p))
  obtain ⟨rfl, k, v, hk, rfl⟩ := y
  have hl : (kvs.map (·.1))[i]? = some k := by rw [List.getElem?_map, hk]; rfl
  obtain ⟨e1, e2⟩ := take_succ_of hl
  have q := hs _ k _ H' e2 p
  rw [← e1] at q
  exact q
/-- a dict comprehension over a tuple whose items are told by l -/
theorem dc_tupR {α : Type} {Rel : Hp → V → α → Prop} {l : List α} {xs : List V} {K : PySem.W.Frag} {a : Addr} {g : TG} {tt : TT} {tk tv : TE} {vs : List Nat} {σ : L2.St} {H1 : Hp} {D : Addr} {Qd : Hp → Prop} (hlen : xs.length = l.length)
    (Pv : List α → Hp → Prop) (h0 : Pv [] (upd H1 D (.dK []))) (hG : ∀ pre H, Pv pre H → SqT K H a xs ∧ ∀ (i : Nat) x y, xs[i]? = some x → l[i]? = some y → Rel H x y)
    (hs : ∀ pre y post x H, l = pre ++ y :: post → xs[pre.length]? = some x → Rel H x y → Pv pre H → g x (wipe σ vs) H fun σ2 H2 => wipe σ2 vs = wipe σ vs ∧ tt σ2 H2 fun b H3 =>
      if b = true then tk σ2 H3 fun y1 H4 => tv σ2 H4 fun z H5 => ∃ kvs k, y1 = kV k ∧ H5 D = some (.dK kvs) ∧ kvs.length < sizeLine ∧ Pv (pre ++ [y]) (upd H5 D (.dK (putK kvs k z))) else Pv (pre ++ [y]) H3) (hd : ∀ H, Pv l H → Qd H) :
    ∃ W : Nat → Nat → Hp → Prop, (∃ m, W 0 m (upd H1 D (.dK []))) ∧ ∀ i m H, W i m H →
      ((Itt K a).stop i H ∧ Qd H) ∨ ((Itt K a).go i H ∧ ∃ Nx : Hp → Prop, (∀ H', Nx H' → ∃ m', m' < m ∧ W (i + 1) m' H') ∧ ∀ x H', (Itt K a).yld i H x H' → g x (wipe σ vs) H' fun σ2 H2 => wipe σ2 vs = wipe σ vs ∧ tt σ2 H2 fun b H3 =>
        if b = true then tk σ2 H3 fun y H4 => tv σ2 H4 fun z H5 => ∃ kvs k, y = kV k ∧ H5 D = some (.dK kvs) ∧ kvs.length < sizeLine ∧ Nx (upd H5 D (.dK (putK kvs k z))) else Nx H3) := by
  refine dc_tup (K := K) (a := a) (xs := xs) (fun i H => Pv (l.take i) H) (by simpa using h0) (fun i H _ p => (hG _ H p).1) (fun i x H hx p => ?_) (fun H p => hd H (by rw [hlen, List.take_length] at p; exact p))
  have hi' : i < l.length := by
    have := (List.getElem?_eq_some_iff.mp hx).1
    omega
  have hl : l[i]? = some l[i] := by simp [hi']
  obtain ⟨e1, e2⟩ := take_succ_of hl
  have q := hs _ l[i] _ x H e2 (by rw [List.length_take, Nat.min_eq_left (Nat.le_of_lt hi')]; exact hx) ((hG _ H p).2 i x l[i] hx hl) p
  rw [← e1] at q
  exact q
end Sh
set_option Elab.async false
set_option linter.all false
set_option maxRecDepth 100000
namespace Sh
open PySem PySem.Spec PyProof.Rows L2
structure TxtC (K : PySem.W.Frag) (mg : Str → Option Value) (CB CE : Addr) : Prop extends Txt K mg where
  k_Book : ClassAt K mg "Book" CB
  m_Book___init__ : MethAt K CB "__init__" "Book.__init__" s_Book___init__ ["self", "signs", "rules"]
  p_Book_quarrel : PropAt K CB "quarrel" "Book.quarrel" s_Book_quarrel
  m_Book___eq__ : MethAt K CB "__eq__" "Book.__eq__" s_Book___eq__ ["self", "other"]
  m_Book___call__ : MethAt K CB "__call__" "Book.__call__" s_Book___call__ ["self", "text"]
  i_Book : C8.InsC K CB
  n_Book_signs : NoAttr K CB "signs"
  n_Book_rules : NoAttr K CB "rules"
  n_Book__lefts : NoAttr K CB "_lefts"
  n_Book__longest : NoAttr K CB "_longest"
  n_Book__quarrel : NoAttr K CB "_quarrel"
  n_Book__moves : NoAttr K CB "_moves"
  k_SameEnds : ClassAt K mg "SameEnds" CE
  m_SameEnds___init__ : MethAt K CE "__init__" "SameEnds.__init__" s_SameEnds___init__ ["self", "text", "one_end", "other_end"]
  m_SameEnds___bool__ : MethAt K CE "__bool__" "SameEnds.__bool__" s_SameEnds___bool__ ["self"]
  n_SameEnds_holds : NoAttr K CE "holds"
  n_SameEnds_text : NoAttr K CE "text"
  n_SameEnds_one_end : NoAttr K CE "one_end"
  n_SameEnds_other_end : NoAttr K CE "other_end"
end Sh
set_option Elab.async false
set_option linter.all false
set_option maxRecDepth 100000
set_option maxHeartbeats 2000000
/-! The law's own call, known to be the outermost one: no repr runs around it (guards = some []), which FnOk does not tell. -/
namespace Sh
open PySem PySem.Spec PyProof.Rows L2
section
variable {P : Program} {w : World} {K : PySem.W.Frag} {mg mb : Str → Option Value}
/-- one def run at one place B: what fn_of says for every place -/
theorem run_at {base : Heap} {j : Nat} {g : Addr} {q : Str} {st : Stmt} {fd : FuncData} {N ps : List Str} {B : Around} {out : List Env} {s0 : Shared} {H0 : Hp} {ar : Args} {us : List Value} {zs : List V} {R : VK} {X0 : XK}
    (F : L2.Fun K q q st g fd) (S : FnScope N ps (defScope st)) (hl : zs.length = ps.length) (room : Room (j + 1) B) (en : Env0 P w K mg base B out s0 H0) (bi : BindsTo s0 fd ar (ps.zip us)) (rv : Vals zs us)
    (body : ∀ cdv : Value, Room j (B.deeper (envOfC q (defScope st) s0.heap.objs.size g cdv)) →
      ∃ t, PSs (cxOf CX0 P w K mg base N q (defScope st) g cdv B out s0 H0 X0).nox (defBody st) t ∧ t { nx := fun _ H' => R .non H', rt := R } (start N zs) H0) :
    codeAny (model P w) B (.call (.ref g) ar) (CR CX0 out P w H0 s0 R X0) s0 := by
  obtain ⟨oc, od, kV, doc, pm, an, cdv, ct, osl, rfl, look, code⟩ := F.ex
  have inK : K.In s0.heap := en.mod.kin.keeps fun b o z => (en.bs b o z).1
  have noL : s0.heap.NoLimit := en.mod.nolimit.keeps fun b o z => (en.bs b o z).1
  refine codeAny_call_function room.depth (inK _ _ look) rfl S.co S.gen rfl (PySem.W.codeRec_of inK code) (bi _ _ _ _ ?_)
  refine wpAny_newFunctionEnv_cells S.kind ?_ fun env same s2 at2 => ?_
  · rintro ⟨n, v⟩ mem
    exact (S.par n (List.of_mem_zip mem).1).imp id fun z => ⟨z, PySem.W.cellsFrom_some _ _ _ (.inl z)⟩
  · subst same
    refine ⟨noL.keeps at2.toInCall.keep, codeAny_func ?_⟩
    obtain ⟨t, run, val⟩ := body cdv (room.deeper _)
    have I0 := inv_start (CX := CX0) (E := X0) S room.hd en hl rv at2
    refine wpAny_mono (run.nox.run [] s2 _ H0 _ I0 val) (fun fl s3 out3 => ?_) fun e s3 z => z
    match fl, out3 with
    | .ret u, ⟨v, _, H3, J, r3, z⟩ => exact ⟨v, H3, J.os, J.bare, J.base, J.hok, r3, z⟩
    | .next, ⟨_, H3, J, z⟩ => exact ⟨.non, H3, J.os, J.bare, J.base, J.hok, rfl, z⟩
    | .brk, ⟨_, _, _, z⟩ => exact z.elim
    | .cont, ⟨_, _, _, z⟩ => exact z.elim
/-- at most the script is tracked, as an object that keeps -/
def OnlyA (a : Addr) (ls : List V) (vs : List Value) (H : Hp) : Prop := ∀ b u, H b = some u → b = a ∧ u = .frz { cls := .type "list", data := .seq vs.toArray } (.lst ls)
theorem law_in {k : Nat} {fa a : Addr} {x p1 : Str} {st : Stmt} {fd : FuncData} {N : List Str} {s1 : Shared} {vs : List Value} {zs : List Int}
    (kin : K.In s1.heap) (glob : s1.heap.Ns mainGlobals mg) (bltn : s1.heap.Ns builtinsNs mb) (bboot : ∀ y : Str, y ≠ "__name__" → mb y = bootBuiltins y) (noL : s1.heap.NoLimit) (noG : s1.gens = #[])
    (scr : s1.heap.get? a = some { cls := .type "list", data := .seq vs.toArray }) (isI : IntsAre vs zs) (small : zs.length ≤ sizeLine) (room : Room (k + 1) callerA)
    (F : L2.Fun K x x st fa fd) (S : FnScope N [p1] (defScope st)) (bi : ∀ (s : Shared) (u : Value), BindsTo s fd ⟨[u], []⟩ [(p1, u)])
    (body : ∀ (base : Heap) (H : Hp) (cdv : Value), Room k (callerA.deeper (envOfC x (defScope st) s1.heap.objs.size fa cdv)) → SqL K H a (zs.map V.int) →
      ∃ t, PSs (cxOf CX0 P w K mg base N x (defScope st) fa cdv callerA [] s1 H fun _ _ _ => False).nox (defBody st) t ∧ t { nx := fun _ _ => V.non = V.bl true, rt := fun v _ => v = .bl true } (start N [.ref a]) H) :
    codeAny (model P w) callerA (.call (.ref fa) ⟨[.ref a], []⟩) (fun r s' => r = .ok (.ret (.bool true)) ∧ OldK s1.heap s'.heap ∧ s'.os = s1.os ∧ AllBare s'.gens) s1 := by
  have isV := vals_ints isI
  have sameL := isI.length
  have main : ∀ H : Hp, OnlyA a (zs.map V.int) vs H → SqL K H a (zs.map V.int) → HOk P w H s1.heap → (K.lookup a ≠ none → H a = none) →
      codeAny (model P w) callerA (.call (.ref fa) ⟨[.ref a], []⟩) (fun r s' => r = .ok (.ret (.bool true)) ∧ OldK s1.heap s'.heap ∧ s'.os = s1.os ∧ AllBare s'.gens) s1 := by
    intro H lone sq good apart
    -- what is not the script is not tracked
    have free : ∀ {b : Addr}, b ≠ a → H b = none := fun {b} n => by
      cases z : H b with
      | none => rfl
      | some u => exact absurd (lone b u z).1 n
    have nsF : ∀ {b : Addr} {m : Str → Option Value}, s1.heap.Ns b m → (hidT s1.heap H).Ns b m := by
      rintro b m ⟨o, es, ep, z, dat, rest⟩
      refine ⟨o, es, ep, hidT_get z (free ?_), dat, rest⟩
      rintro rfl
      rw [scr] at z
      cases z
      cases (show Data.seq vs.toArray _ = Data.dict es ep from dat)
    have kinF : K.In (hidT s1.heap H) := fun b o z => by
      by_cases n : b = a
      · subst n
        exact hidT_get (kin _ _ z) (apart (by rw [z]; simp))
      · exact hidT_get (kin b o z) (free n)
    obtain ⟨mc, c1, c2⟩ := noL
    have en : Env0 P w K mg (hidT s1.heap H) callerA [] s1 H := by
      refine ⟨rfl, ⟨kinF, nsF glob, ⟨mb, nsF bltn, bboot⟩, ⟨mc, nsF c1, c2⟩⟩, fun b o z => of_hidT z, Nat.le_of_eq (hidT_size _ _), trivial, fun b z => ?_, good, .of_eq noG⟩
      cases z
    refine codeAny_mono (run_at (R := fun v _ => v = .bl true) (zs := [.ref a]) (us := [.ref a]) F S rfl room en (bi s1 (.ref a)) (.cons rfl .nil) fun cdv r => body _ H cdv r sq) fun res s2 h => ?_
    match res, h with
    | .error e, h => exact (show False from h).elim
    | .ok .next, h => exact (show False from h).elim
    | .ok .brk, h => exact (show False from h).elim
    | .ok .cont, h => exact (show False from h).elim
    | .ok (.ret u), ⟨v, H2, os, bare, un, good2, rv, ev⟩ =>
      obtain rfl : v = .bl true := ev
      obtain rfl : u = Value.bool true := rv
      refine ⟨rfl, OldK.of_keep fun b o z => ?_, os, bare⟩
      cases q : H b with
      | none => exact un.keep b o z q (fun m => by cases m) (by simp)
      | some u =>
        obtain ⟨rfl, rfl⟩ := lone b u q
        have g1 := (good _ _ q).1
        rw [z] at g1
        cases g1
        exact (good2 _ _ (un.frzs _ _ _ q)).1
  by_cases own : K.lookup a = none
  · refine main (fun b => if b = a then some (.frz { cls := .type "list", data := .seq vs.toArray } (.lst (zs.map V.int))) else none) ?_ (.inl (.inr ⟨_, if_pos rfl⟩)) ?_ fun n => absurd own n
    · intro b u z
      by_cases n : b = a
      · exact ⟨n, (Option.some.inj ((if_pos n).symm.trans z)).symm⟩
      · cases (if_neg n).symm.trans z
    · intro b u z
      by_cases n : b = a
      · subst n
        cases (if_pos rfl).symm.trans z
        exact ⟨scr, by rw [List.length_map]; exact small, vs, _, isV, scr⟩
      · cases (if_neg n).symm.trans z
  · obtain ⟨o, z⟩ := Option.ne_none_iff_exists'.mp own
    have same := kin a o z
    rw [scr] at same
    cases same
    exact main (fun _ => none) (fun _ _ z => by cases z) (.inr ⟨_, vs.toArray, _, z, rfl, rfl, rfl, by rw [List.size_toArray, sameL]; exact small, by simpa using isV⟩) (fun _ _ z => by cases z) fun _ => rfl
end
/-- the law's claim from its body, walked where no repr runs around it -/
theorem walk_law {l : PySem.W.OpenLaw} {n k : Nat} {q : Program} {loose : List Str} {XP : (Str → Option Value) → Heap → Prop} {YP : World → Heap → Prop} {d : DefRec} {K : Params → PySem.W.Frag} {x p1 : Str} {st : Stmt} {N : List Str}
    (hn : l.most = some n) (hn2 : n ≤ sizeLine) (hdf : d.params.defaults = []) (room : Room (k + 1) callerA) (S : FnScope N [p1] (defScope st))
    (hY : ∀ (w : World) (h : Heap), YP w h → (K w.params).In h)
    (F : ∀ (w : World) (mg : Str → Option Value) (fa : Addr) (h : Heap), (K w.params).In h → h.Ns mainGlobals mg → mg d.name = some (.ref fa) →
      ∃ fd : FuncData, L2.Fun (K w.params) x x st fa fd ∧ (∀ (s : Shared) (u : Value), BindsTo s fd ⟨[u], []⟩ [(p1, u)]) ∧
        ∀ (s1 : Shared) (a : Addr) (zs : List Int) (base : Heap) (H : Hp) (cdv : Value), zs.length ≤ n → (∀ z ∈ zs, Builtin.Int.intBits z ≤ 1048576) → Room k (callerA.deeper (envOfC x (defScope st) s1.heap.objs.size fa cdv)) → SqL (K w.params) H a (zs.map V.int) →
          ∃ t, PSs (cxOf CX0 l.prog w (K w.params) mg base N x (defScope st) fa cdv callerA [] s1 H fun _ _ _ => False).nox (defBody st) t ∧ t { nx := fun _ _ => V.non = V.bl true, rt := fun v _ => v = .bl true } (start N [.ref a]) H) :
    PySem.W.WalkO q loose XP YP l.row.toRowW d [] (fun f vs => PySem.call f vs) := by
  refine Att.attach_callB hn hdf fun w s0 s1 mg mb fa o pm cd doc a vs zs G Y ho hd hcd hmg hobj isI len bits noG => ?_
  have kin := hY w _ Y
  obtain ⟨fd, Fn, bi, body⟩ := F w mg fa _ kin G.T.g hmg
  exact law_in kin G.T.g G.T.b G.T.builtins G.T.nolimit noG hobj isI (Nat.le_trans len hn2) room Fn S bi fun base H cdv r sq => body s1 a zs base H cdv len bits r sq
end Sh
set_option Elab.async false
set_option linter.all false
set_option maxRecDepth 100000
namespace Sh
open PySem PySem.Spec PyProof.Rows L2
section
variable {K : PySem.W.Frag} {h : Heap} {mg : Str → Option Value}
/-- a constant that the top has written -/
theorem con_mk {x : Str} {u : Value} {v : V} (X : K.In h) (Y : h.Ns mainGlobals mg) (a : PySem.W.nsIn K mainGlobals x = some (some u)) (r : RelV v u) : ∃ u, mg x = some u ∧ RelV v u := ⟨u, PySem.W.mg_of X Y a, r⟩
/-- a def -/
theorem def_mk {x : Str} {st : Stmt} {ps : List Str} {f : Addr} {oc kv dc pm cd ct : Value} {od an : Option Addr} {sl : Array (Option Value)} (X : K.In h) (Y : h.Ns mainGlobals mg) (a : PySem.W.nsIn K mainGlobals x = some (some (.ref f)))
    (l : K.lookup f = some ⟨oc, od, .func (PySem.W.fnOf x x (defArgs st) (defBody st) (defScope st) .none kv dc pm an cd ct), sl⟩) (c : PySem.W.codeIn K cd x = true) (k : PySem.W.keepIn K (.ref f) = true)
    (b : ∀ (kV doc pm : Value) (an : Option Addr) (cdv ct : Value) (us : List Value), us.length = ps.length → bindArgs (PySem.W.fnOf x x (defArgs st) (defBody st) (defScope st) .none kV doc pm an cdv ct) ⟨us, []⟩ = pure (ps.zip us)) : DefAt K mg x st ps := by
  have F := fun_mk (st := st) l c k
  exact ⟨f, _, F, PySem.W.mg_of X Y a, F.binds b⟩
/-- a method -/
theorem meth_mk {C : Addr} {m q : Str} {st : Stmt} {ps : List Str} {f : Addr} {oc kv dc pm cd ct : Value} {od an : Option Addr} {sl : Array (Option Value)}
    (l : K.lookup f = some ⟨oc, od, .func (PySem.W.fnOf m q (defArgs st) (defBody st) (defScope st) .none kv dc pm an cd ct), sl⟩) (c : PySem.W.codeIn K cd q = true) (k : PySem.W.keepIn K (.ref f) = true)
    (i : PySem.W.findIn K (.ref C) m = some (some (.ref f))) (n : PySem.W.isFn K (.ref f) = true) (o : PySem.W.fnIn K f = true)
    (b : ∀ (kV doc pm : Value) (an : Option Addr) (cdv ct : Value) (us : List Value), us.length = ps.length → bindArgs (PySem.W.fnOf m q (defArgs st) (defBody st) (defScope st) .none kV doc pm an cdv ct) ⟨us, []⟩ = pure (ps.zip us)) : MethAt K C m q st ps := by
  have F := fun_mk (st := st) l c k
  exact ⟨f, _, F, F.binds b, i, n, o⟩
/-- the law's def -/
theorem law_mk {x p1 : Str} {st : Stmt} {fa f : Addr} {oc kv dc pm cd ct : Value} {od an : Option Addr} {sl : Array (Option Value)} (X : K.In h) (Y : h.Ns mainGlobals mg) (g : mg x = some (.ref fa)) (a : PySem.W.nsIn K mainGlobals x = some (some (.ref f)))
    (l : K.lookup f = some ⟨oc, od, .func (PySem.W.fnOf x x (defArgs st) (defBody st) (defScope st) .none kv dc pm an cd ct), sl⟩) (c : PySem.W.codeIn K cd x = true) (k : PySem.W.keepIn K (.ref f) = true)
    (b : ∀ (kV doc pm : Value) (an : Option Addr) (cdv ct : Value) (s : Shared) (u : Value), BindsTo s (PySem.W.fnOf x x (defArgs st) (defBody st) (defScope st) .none kV doc pm an cdv ct) ⟨[u], []⟩ [(p1, u)]) :
    ∃ fd : FuncData, L2.Fun K x x st fa fd ∧ ∀ (s : Shared) (u : Value), BindsTo s fd ⟨[u], []⟩ [(p1, u)] := by
  cases g.symm.trans (PySem.W.mg_of X Y a)
  exact ⟨_, fun_mk l c k, b _ _ _ _ _ _⟩
end
end Sh
set_option Elab.async false
set_option linter.all false
set_option maxRecDepth 100000
namespace Sh
open PySem PySem.Spec PyProof.Rows L2
section
variable {K : PySem.W.Frag} {h : Heap} {mg : Str → Option Value}
theorem kit_self {C : Addr} : PySem.W.kitOne K (.ref C) (.ref C) = some true := if_pos (by simp)
/-- a property -/
theorem prop_mk {C p : Addr} {m q : Str} {st : Stmt} {f : Addr} {oc kv dc pm cd ct : Value} {od an : Option Addr} {sl : Array (Option Value)} {rest : List Value}
    (l : K.lookup f = some ⟨oc, od, .func (PySem.W.fnOf m q (defArgs st) (defBody st) (defScope st) .none kv dc pm an cd ct), sl⟩) (c : PySem.W.codeIn K cd q = true) (k : PySem.W.keepIn K (.ref f) = true)
    (i : PySem.W.findIn K (.ref C) m = some (some (.ref p))) (g : PySem.W.specialIn K (.ref p) "__get__" = some (some (.builtin "property.__get__"))) (t : PySem.W.takesIn K (.ref p) = some true) (r : PySem.W.recIn K p "property" = some (.ref f :: rest))
    (b : ∀ (kV doc pm : Value) (an : Option Addr) (cdv ct : Value) (us : List Value), us.length = 1 → bindArgs (PySem.W.fnOf m q (defArgs st) (defBody st) (defScope st) .none kV doc pm an cdv ct) ⟨us, []⟩ = pure ([("self" : Str)].zip us)) : PropAt K C m q st := by
  have F := fun_mk (st := st) l c k
  exact ⟨p, f, _, ⟨i, g, t, rest, r⟩, F, F.binds b⟩
end
end Sh
set_option Elab.async false
set_option linter.all false
set_option maxRecDepth 100000
set_option maxHeartbeats 4000000
/-! an own exception's __init__ that begins with super().__init__(e), over ValueError -/
namespace Sh
open PySem PySem.Spec PyProof.Rows L2 NdefX
/-- of the class at C: its super().__init__ as seen from D is ValueError's -/
structure SupC (K : PySem.W.Frag) (C D : Addr) : Prop where
  sub : PySem.W.mroIn K C (.ref D) = some true
  sup : PySem.W.ks_superIn K C D "__init__" = some (some (.builtin "ValueError.__init__"))
  ve : PySem.W.subIn K (.ref C) (.type "ValueError") = some true
/-- the def at f, its class cell at cc (the class at D), its code's file -/
structure SupF (P : Program) (K : PySem.W.Frag) (mg : Str → Option Value) (q : Str) (st : Stmt) (ps : List Str) (D f : Addr) (fd : FuncData) : Prop where
  ex : ∃ (cc cda : Addr) (oc kv doc pm ct : Value) (od an : Option Addr) (osl : Array (Option Value)), fd = PySem.W.fnX "__init__" q (defArgs st) (defBody st) (defScope st) [("__class__", cc)] .none kv doc pm an (.ref cda) ct ∧
    K.lookup f = some ⟨oc, od, .func fd, osl⟩ ∧ PySem.W.codeIn K (.ref cda) q = true ∧
    (∃ (cl : Value) (cld : Option Addr) (csl : Array (Option Value)), K.lookup cc = some ⟨cl, cld, .cell (some (.ref D)), csl⟩) ∧
    (∃ (cl : Value) (cld : Option Addr) (vs : Array Value) (csl : Array (Option Value)) (file : Str) (tf : Tok), K.lookup cda = some ⟨cl, cld, .fields vs, csl⟩ ∧ vs[2]? = some (.str file tf) ∧ ((P.main.file : Str) == file) = true)
  top : (P.main.scope.names.lookup ("super" : Str)).isSome = false
  mgs : mg "super" = none
  hD : ∃ cd, PySem.W.clsIn K D = some cd
  op : PySem.W.nsIn K cStatics "thirdparty.any" = some none
  hp : ∃ ar : Arg, ((defArgs st).posonlyargs ++ (defArgs st).args).head? = some ar ∧ ar.arg = "self"
  hks : (defScope st).names.lookup ("super" : Str) = some .globalImplicit
section
variable {CX : CXT} {P : Program} {w : World} {K : PySem.W.Frag} {mg : Str → Option Value} {base : Heap} {N ps : List Str} {k : Nat} {f cda cc D : Addr} {q : Str} {st : Stmt} {fd : FuncData} {sp : Sp}
theorem look1 {cc c : Addr} {y : Str} (h : List.lookup y [(("__class__" : Str), cc)] = some c) : y = "__class__" ∧ c = cc := by
  by_cases e : y = "__class__"
  · subst e
    simp [List.lookup] at h
    exact ⟨rfl, h.symm⟩
  · have e' : (y == ("__class__" : Str)) = false := by simpa using e
    simp [List.lookup, e'] at h
theorem cells1 {A : Around} {outer : List Env} {s : Shared} {H : Hp} {cl : Value} {cld : Option Addr} {csl : Array (Option Value)} {v : Option Value} (e0 : Env0 P w K mg base A outer s H) (hc : K.lookup cc = some ⟨cl, cld, .cell v, csl⟩) : CellsAt [("__class__", cc)] ["__class__"] [none] s.heap H := by
  have hb := e0.bs _ _ (e0.mod.kin _ _ hc)
  refine ⟨rfl, fun y c h => ?_, fun x y c h1 h2 => (look1 h1).1.trans (look1 h2).1.symm, fun i y h => ?_⟩
  · obtain ⟨_, rfl⟩ := look1 h
    exact ⟨hb.2, v, _, hb.1, rfl⟩
  · match i, h with
    | 0, h =>
      cases h
      exact ⟨cc, by simp [List.lookup], fun v e => by cases e⟩
    | _ + 1, h => cases h
/-- the statement super().__init__(e, ..) -/
theorem sup_run {X : Cx} {σ : L2.St} {H : Hp} {s : Shared} {body : List Stmt} {q : Str} {scope : Scope} {L f cda cc D a C : Addr} {fd : FuncData} {oc : Value} {od : Option Addr} {osl : Array (Option Value)} {ar : Arg} {p0 p1 p2 p3 p4 : Pos} {e : Expr} {es : List Expr} {ta : TA} {G : Hp → Prop}
    {cl cl2 : Value} {cld cld2 : Option Addr} {csl csl2 : Array (Option Value)} {fvs : Array Value} {file : Str} {tf : Tok}
    (I : Inv X [] σ H s) (henv : X.env = PySem.W.ksEnv q scope L f (.ref cda) cc) (hk : scope.kind = .function) (hks : scope.names.lookup ("super" : Str) = some .globalImplicit) (hkc : scope.names.lookup ("__class__" : Str) = some .free) (hka : scope.names.lookup ("self" : Str) = some .local)
    (lk : X.K.lookup f = some ⟨oc, od, .func fd, osl⟩) (hp : (fd.params.posonlyargs ++ fd.params.args).head? = some ar) (har : ar.arg = "self") (hcc : X.K.lookup cc = some ⟨cl, cld, .cell (some (.ref D)), csl⟩)
    (hcda : X.K.lookup cda = some ⟨cl2, cld2, .fields fvs, csl2⟩) (hvs : fvs[2]? = some (.str file tf)) (hfile : ((X.prog.main.file : Str) == file) = true) (htop : (X.prog.main.scope.names.lookup ("super" : Str)).isSome = false) (hmg : X.mg "super" = none) (hop : PySem.W.nsIn X.K cStatics "thirdparty.any" = some none)
    (hN : X.N[0]? = some ("self" : Str)) (hσ : σ[0]? = some (some (.ref a))) {cdD : ClassData} (hD : PySem.W.clsIn X.K D = some cdD) (T : OexC X.K C) (SC : SupC X.K C D) (ea : H a = some (exo a C none)) (ha : PA X (e :: es) ta)
    (he : starEach (e :: es) X.env = (false, eval e X.env) :: starEach es X.env) (hpl : ∀ pos, (backTo pos (starEach es X.env)).any (·.1) = false)
    {pl : Sem Bool} (hev : eval (.Call (.Attribute (.Call (.Name "super" p0) [] [] p1) "__init__" p2) (e :: es) [] p3) X.env = (do
      let ov ← attributeBase (.Call (.Name "super" p0) [] [] p1) "__init__" X.env (eval (.Call (.Name "super" p0) [] [] p1) X.env)
      standAt p2.atName
      let (f, first) ← holding [ov] (getMethod ov "__init__" pl)
      callWith p3 f first (backTo p3 (starEach (e :: es) X.env)) []))
    (hq : ta σ H fun us H1 => us.length ≤ 1000 ∧ H1 a = some (exo a C none) ∧ G H1) :
    _root_.PySem.wpAt (model X.prog X.w) X.A (.func body X.env) (exec (.Expr (.Call (.Attribute (.Call (.Name "super" p0) [] [] p1) "__init__" p2) (e :: es) [] p3) p4) X.env) (fun fl s' => fl = .next ∧ ∃ H1, Inv X [] σ H1 s' ∧ G H1) X.xe s := by
  have KX := I.kIn
  refine ks_wpAt_Expr_any (ks_wpAt_MethodCall (pl := pl) ?_ hev) (by unfold interactive; rw [I.ok.kind]; rfl)
  obtain ⟨oD, hD1, hD2⟩ : ∃ oD, s.heap.get? D = some oD ∧ oD.data = .cls cdD := by
    unfold PySem.W.clsIn at hD
    split at hD
    · rename_i c d cd' sl ho
      cases hD
      exact ⟨_, KX _ _ ho, rfl⟩
    · cases hD
  have k1 : X.env.kindOf "super" = some .globalImplicit := by rw [henv]; exact hks
  have k2 : X.env.kindOf "__class__" = some .free := by rw [henv]; exact hkc
  have k3 : X.env.kindOf "self" = some .local := by rw [henv]; exact hka
  refine ks_wpAt_super_base (f := f) (cc := cda) k1 k2 (by decide) (by rw [henv]) (KX _ _ lk) rfl hp (by rw [henv]) (KX _ _ hcda) rfl hvs hfile htop ?_
  obtain ⟨mb, g1, g2⟩ := I.mod.blt
  refine PySem.W.ks_loadName_global I.ok.kind k1 (Calls.loadGlobal_builtin (by rw [I.ok.glob]; exact I.mod.glob.keeps I.bk) hmg (by rw [I.ok.blt]; exact g1.keeps I.bk) ((g2 _ (by decide)).trans (by first | boot_by_name | rfl | kernel_rfl)) ⟨rfl, ?_⟩)
  refine wpAny_loadName_free I.ok.kind k2 (by rw [henv]; simp [List.lookup]) ⟨_, KX _ _ hcc, rfl⟩ ?_
  obtain ⟨m, hn, hl⟩ := I.loc
  obtain ⟨u, ru, lo⟩ := hl 0 _ _ hN hσ (.inl (by rw [henv]; exact hka))
  obtain rfl : u = Value.ref a := ru
  have hm : m "self" = some (.ref a) := by
    rcases lo with ⟨_, hm⟩ | ⟨hk | hk, _⟩
    · exact hm
    · rw [k3] at hk; cases hk
    · rw [k3] at hk; cases hk
  rw [har]
  refine wpAny_loadName_local I.ok.kind k3 hn hm ?_
  refine ks_wpAny_isType_cls hD1 hD2 ⟨rfl, ?_⟩
  obtain ⟨t1, hx⟩ := exo_at I.hok ea
  have IA : PySem.W.InstAt s.heap a { cls := .ref C, dict := none, data := .fields #[.ref t1, .none, .none, .none, .bool false, .none] } C none := ⟨hx, rfl, rfl, trivial⟩
  obtain ⟨cdC, hcC⟩ : ∃ cd, PySem.W.clsIn X.K C = some cd := by
    obtain ⟨nm, q, N, bs, bm, sn, sub, ab, col, dd, k0, k1, k2, k3, k5, hC, hbm⟩ := T.cls
    exact ⟨_, by unfold PySem.W.clsIn; rw [hC] <;> rfl⟩
  have hsup := SC.sup
  unfold PySem.W.ks_superIn at hsup
  rw [hcC, Option.bind_some] at hsup
  have hsz : s.heap.objs.size ≤ s.heap.objs.size := Nat.le_refl _
  obtain ⟨hh, g, d, t, os⟩ := s
  refine ks_wpAny_call_super hD1 hD2 hx rfl (fun c z => by cases z) (PySem.W.looks_mroIn KX SC.sub) (fun h' hso k => ?_)
  have I1 : Inv X [] σ H ⟨h', g, d, t, os⟩ := I.kept (t' := t) k
  have X1 : X.K.In h' := I1.kIn
  have hx1 := k _ _ hx
  have IA1 : PySem.W.InstAt h' a { cls := .ref C, dict := none, data := .fields #[.ref t1, .none, .none, .none, .bool false, .none] } C none := ⟨hx1, rfl, rfl, trivial⟩
  refine PySem.W.kxs_getMethod PySem.W.kxs_ValueError hso (PySem.W.looks_opaque X1 hop) (l₀ := cdC.mro) (fun A Q E s k q => wpAny_bind ((PySem.W.looks_clsIn X1 hcC) A _ E s k (wpAny_pure q))) rfl X1 hsup (IA1.type.andThen (PySem.W.looks_subIn X1 SC.ve)) (PySem.W.ks_ne X1 IA1 hcC) (by decide) ?_
  have I2 : Inv X [] σ H ⟨h'.push (PySem.W.kxs_mw "ValueError.__init__" a), g, d, t + 1, os⟩ := I1.kept (t' := t + 1) fun b o e => Heap.get?_push_of_some _ e
  have fp : FpOk X [] H h'.objs.size := I1.fpOk (Nat.le_refl _) (I1.hok.fresh (Nat.le_refl _))
  have I3 : Inv X [(h'.objs.size, PySem.W.kxs_mw "ValueError.__init__" a)] σ H ⟨h'.push (PySem.W.kxs_mw "ValueError.__init__" a), g, d, t + 1, os⟩ := I2.pins_of fun p hp => by
    rw [List.mem_singleton.mp hp]
    exact ⟨Heap.get?_push_size _ rfl, fp.1, fp.2.1, fp.2.2.1, fun v z => by cases z⟩
  show wpAny _ _ (callWith p3 (.ref h'.objs.size) [] (backTo p3 (starEach (e :: es) X.env)) []) _ _ _
  refine PySem.W.kxs_callWith (i := "ValueError.__init__") (x := a) (by rw [he]; show (false || (backTo p3 (starEach es X.env)).any (·.1)) = false; rw [hpl]; rfl) ?_
  have hs := ha.run p3 _ _ σ H _ I3 hq
  rw [he] at hs ⊢
  refine PySem.Calls.evalArgs_plain (thn hs fun us s1 ⟨vs, H1, J, r1, hl, ea1, hG⟩ => ?_)
  have hu : s1.heap.get? h'.objs.size = some (PySem.W.kxs_mw "ValueError.__init__" a) := (J.pin _ (List.mem_append_right _ List.mem_cons_self)).1
  refine ⟨hu, ?_⟩
  show wpAny _ _ (call (.ref h'.objs.size) us) _ _ _
  obtain ⟨nm, qn, N, bs, bm, sn, sub, ab, col, dd, k0, k1', k2', k3', k5, hC, hbm⟩ := T.cls
  obtain ⟨t2, he2⟩ := exo_at J.hok ea1
  have hlen : us.length ≤ sizeLine := by
    rw [← r1.length, sizeLine_eq]
    omega
  have hC2 := J.kIn _ _ hC
  obtain ⟨hp2, gn2, dr2, tk2, os2⟩ := s1
  refine wpAny_call (codeAny_of_tree ?_)
  show wpAny _ X.A.in1 (callAny (.ref h'.objs.size) ⟨us, []⟩) _ _ _
  simp only [callAny]
  refine wpAny_bind (wpAny_load hu ?_)
  simp only [PySem.W.kxs_mw, show (Value.type "method-wrapper" == Value.type "method" || Value.type "method-wrapper" == Value.type "builtin_function_or_method" || Value.type "method-wrapper" == Value.type "method-wrapper") = true by decide, if_true]
  refine PySem.W.KFB.if_so (by decide) ?_
  refine wpAny_bind (PySem.W.check_bound_init F.excBase_ValueError.toExcCallFacts hC2 he2 rfl ?_)
  refine wpAny_bind (wpAny_pure (wpAny_pure ?_))
  refine ⟨plainId_quiet F.excBase_ValueError.init.plain _, codeAny_builtin F.excBase_ValueError.initEntry ?_⟩
  refine PySem.W.exc_init_tree (cls := .ref C) (t0 := t2) (dv := none) (c2 := .none) (c3 := .none) (b4 := .bool false) he2 hlen ?_
  intro h3 k3 e3 t3
  have J2 := J.write (t' := tk2) (x := a) (e := a) (o := exo a C none) (by rw [ea1]; exact True.intro) (.inl rfl) k3 ⟨_, e3⟩ (exo_ok e3)
  have eu : upd H1 a (exo a C none) = H1 := by
    funext b
    by_cases hb : b = a
    · rw [hb, upd_same, ea1]
    · rw [upd_ne hb]
  rw [eu] at J2
  exact ⟨trivial, H1, J2.pins_of (fun p hp => absurd hp (by simp)), hG⟩
theorem fn_sup {p0 p1 p2 p3 p4 : Pos} {es : List Expr} {e : Expr} {rest : List Stmt} (F : SupF P K mg q st ps D f fd) (S : NScope N ps ["__class__"] (defScope st))
    (hself : ps.head? = some "self") (hst : defBody st = .Expr (.Call (.Attribute (.Call (.Name "super" p0) [] [] p1) "__init__" p2) (e :: es) [] p3) p4 :: rest)
    (len : ∀ vs H Q E, sp vs H Q E → vs.length = ps.length)
    (hbody : ∀ (cc cda : Addr) (A : Around) (outer : List Env) (s : Shared) (H : Hp) (vs : List V) (Q : VK) (E : XK), Room k (A.deeper (PySem.W.ksEnv q (defScope st) s.heap.objs.size f (.ref cda) cc)) → sp vs H Q E →
      ∃ ta t pl, PA (ncx CX P w K mg base N ⟨"__init__", q, defArgs st, defBody st, defScope st, [("__class__", cc)], cda⟩ f A outer s H E) (e :: es) ta ∧ PSs (ncx CX P w K mg base N ⟨"__init__", q, defArgs st, defBody st, defScope st, [("__class__", cc)], cda⟩ f A outer s H E) rest t ∧ starEach (e :: es) (PySem.W.ksEnv q (defScope st) s.heap.objs.size f (.ref cda) cc) = (false, eval e (PySem.W.ksEnv q (defScope st) s.heap.objs.size f (.ref cda) cc)) :: starEach es (PySem.W.ksEnv q (defScope st) s.heap.objs.size f (.ref cda) cc) ∧ (∀ pos, (backTo pos (starEach es (PySem.W.ksEnv q (defScope st) s.heap.objs.size f (.ref cda) cc))).any (·.1) = false) ∧
        eval (.Call (.Attribute (.Call (.Name "super" p0) [] [] p1) "__init__" p2) (e :: es) [] p3) (PySem.W.ksEnv q (defScope st) s.heap.objs.size f (.ref cda) cc) = (do
          let ov ← attributeBase (.Call (.Name "super" p0) [] [] p1) "__init__" (PySem.W.ksEnv q (defScope st) s.heap.objs.size f (.ref cda) cc) (eval (.Call (.Name "super" p0) [] [] p1) (PySem.W.ksEnv q (defScope st) s.heap.objs.size f (.ref cda) cc))
          standAt p2.atName
          let (g0, first) ← holding [ov] (getMethod ov "__init__" pl)
          callWith p3 g0 first (backTo p3 (starEach (e :: es) (PySem.W.ksEnv q (defScope st) s.heap.objs.size f (.ref cda) cc))) []) ∧
        ∃ (a C : Addr) (ws : List V), vs = .ref a :: ws ∧ OexC K C ∧ SupC K C D ∧ H a = some (exo a C none) ∧
        ta (startF N vs [none]) H (fun us H1 => us.length ≤ 1000 ∧ H1 a = some (exo a C none) ∧ t { nx := fun _ H' => Q .non H', rt := Q } (startF N vs [none]) H1)) :
    FnOk P w K mg base CX (k + 1) f fd ps sp := by
  obtain ⟨cc, cda, oc, kv, doc, pm, ct, od, an, osl, rfl, lk, hcd, ⟨cl, cld, csl, hcc⟩, ⟨cl2, cld2, fvs, csl2, file, tf, hcda, hvs, hfile⟩⟩ := F.ex
  refine ⟨len, fun A outer s H args us vs Q E hr e0 hb r hsp => ?_⟩
  have hl := len _ _ _ _ hsp
  have KX : K.In s.heap := e0.mod.kin.keeps fun b o e => (e0.bs b o e).1
  have lim : s.heap.NoLimit := e0.mod.nolimit.keeps fun b o e => (e0.bs b o e).1
  refine ks_codeAny_call_defAt (binds := ps.zip us) (body := defBody st) hr.depth (KX _ _ lk) rfl lim (PySem.W.codeRec_of KX hcd) rfl hb S.nocell (fun ⟨n, v⟩ hy => S.par n (List.of_mem_zip hy).1) (fun h₁ hns kp => ?_) S.co S.gen S.kind
  have I0 : Inv (ncx CX P w K mg base N ⟨"__init__", q, defArgs st, defBody st, defScope st, [("__class__", cc)], cda⟩ f A outer s H E) [] (startF N vs [none]) H { s with heap := h₁, toks := s.toks + (ps.zip us).length } := inv_startN S hr.hd e0 hl r (cells1 e0 hcc) hns kp
  obtain ⟨ta, t, pl, hpa, hps, he, hpl, hev, a, C, ws, rfl, T, SC, ea, hta⟩ := hbody cc cda A outer s H vs Q E (hr.deeper _) hsp
  obtain ⟨cdD, hD⟩ := F.hD
  obtain ⟨ar, har1, har2⟩ := F.hp
  obtain ⟨ps', rfl⟩ : ∃ ps', ps = ("self" : Str) :: ps' := by
    cases ps with
    | nil => cases hself
    | cons x xs => cases hself; exact ⟨xs, rfl⟩
  have hN0 : N[0]? = some ("self" : Str) := by
    have := congrArg (fun l => l[0]?) S.pre
    simpa using this
  have key : _root_.PySem.wpAt (model P w) (A.deeper (PySem.W.ksEnv q (defScope st) s.heap.objs.size f (.ref cda) cc)) (.func (defBody st) (PySem.W.ksEnv q (defScope st) s.heap.objs.size f (.ref cda) cc)) (execs (.Expr (.Call (.Attribute (.Call (.Name "super" p0) [] [] p1) "__init__" p2) (e :: es) [] p3) p4 :: rest) (PySem.W.ksEnv q (defScope st) s.heap.objs.size f (.ref cda) cc))
      (SP (ncx CX P w K mg base N ⟨"__init__", q, defArgs st, defBody st, defScope st, [("__class__", cc)], cda⟩ f A outer s H E) [] { nx := fun _ H' => Q .non H', rt := Q })
      (ncx CX P w K mg base N ⟨"__init__", q, defArgs st, defBody st, defScope st, [("__class__", cc)], cda⟩ f A outer s H E).xe { s with heap := h₁, toks := s.toks + ((("self" : Str) :: ps').zip us).length } := by
    refine ks_wpAt_execs_cons (ks_wpAt_mono (sup_run (G := fun H1 => t { nx := fun _ H' => Q .non H', rt := Q } (startF N (.ref a :: ws) [none]) H1) I0 rfl S.kind F.hks (S.frk _ List.mem_cons_self) (S.par _ List.mem_cons_self) lk har1 har2 hcc hcda hvs hfile F.top F.mgs F.op hN0 rfl hD T SC ea hpa he hpl hev hta) (fun fl s' ⟨e1, H1, J, hG⟩ => ?_) fun _ _ z => z)
    subst e1
    exact wpAt_of_wpAny (hps.run [] s' _ H1 _ J hG)
  rw [← hst] at key
  refine ks_wpAt_mono key (fun fl s' hs => ?_) fun _ _ z => z
  have fin : ∀ {σ' : L2.St} {H' : Hp} {v : V} {u : Value}, Inv (ncx CX P w K mg base N ⟨"__init__", q, defArgs st, defBody st, defScope st, [("__class__", cc)], cda⟩ f A outer s H E) [] σ' H' s' → L2.RelV v u → Q v H' → CE outer P w H s Q u s' :=
    fun {σ' H' v u} J rv q => ⟨v, H', J.os, J.bare, J.base, J.hok, rv, q⟩
  cases fl with
  | ret u =>
    obtain ⟨v, σ', H', J, rv, q⟩ := hs
    exact fin J rv q
  | next =>
    obtain ⟨σ', H', J, q⟩ := hs
    exact fin (v := V.non) (u := Value.none) J rfl q
  | brk =>
    obtain ⟨_, _, _, q⟩ := hs
    exact False.elim q
  | cont =>
    obtain ⟨_, _, _, q⟩ := hs
    exact False.elim q
end
end Sh
set_option Elab.async false
set_option linter.all false
set_option maxRecDepth 100000
/-! own exceptions over ValueError: made, raised, told by defs that may raise -/
namespace Sh
open PySem PySem.Spec PyProof.Rows L2 NdefX
/-- an exception class of the text: its __init__ (own or an ancestor's, written in the class at D) at f -/
structure ExcAt (K : PySem.W.Frag) (mg : Str → Option Value) (x : Str) (C f D : Addr) : Prop where
  oex : OexC K C
  mgC : mg x = some (.ref C)
  iC : PySem.W.findIn K (.ref C) "__init__" = some (some (.ref f))
  tI : PySem.W.typeIn K (.ref f) = some (.type "function")
  sup : SupC K C D
  xf : XfC K C
/-- its __init__ stands in the text -/
structure XInit (P : Program) (K : PySem.W.Frag) (mg : Str → Option Value) (q : Str) (st : Stmt) (ps : List Str) (D f : Addr) : Prop where
  ex : ∃ fd, SupF P K mg q st ps D f fd ∧ Binds K fd ps []
/-- __init__(self, thing): super().__init__(..), then self.fld = thing -/
def spX1 (K : PySem.W.Frag) (D : Addr) (fld : Str) (ok : V → Prop) : Sp := fun vs H Q _ => ∃ (a C : Addr) (v : V), vs = [.ref a, v] ∧ OexC K C ∧ SupC K C D ∧ PySem.W.findIn K (.ref C) fld = some none ∧ H a = some (exo a C none) ∧ ok v ∧
  ∀ dx, H dx = none → dx ≠ a → Q .non (upd (upd H dx (exd dx [(fld, v)])) a (exo a C (some dx)))
theorem mk1 {K : PySem.W.Frag} {mg : Str → Option Value} {x fld : Str} {C f D : Addr} {ok : V → Prop} {v : V} {H1 : Hp} {Q : XK} {E : XK} (T : ExcAt K mg x C f D) (hno : PySem.W.findIn K (.ref C) fld = some none) (hv : ok v) (k : ∀ d, H1 d = none → Q (.ref C) (some d) (upd H1 d (.xd [(fld, v)]))) :
    [v].length ≤ 1000 ∧ ∀ a, H1 a = none → spX1 K D fld ok (.ref a :: ([v] ++ [])) (upd H1 a (exo a C none)) (fun u H2 => u = .non ∧ ∃ (d : Addr) (fs : List (Str × V)), H2 a = some (exo a C (some d)) ∧ H2 d = some (exd d fs) ∧ H1 d = none ∧ Q (.ref C) (some d) (upd (del H2 a) d (.xd fs))) E := by
  refine ⟨by simp, fun a ha => ⟨a, C, v, rfl, T.oex, T.sup, hno, upd_same, hv, fun dx h1 h2 => ⟨rfl, dx, [(fld, v)], upd_same, ?_, ?_, ?_⟩⟩⟩
  · rw [upd_ne h2, upd_same]
  · rw [upd_ne h2] at h1; exact h1
  · rw [upd_ne h2] at h1
    have e : upd (del (upd (upd (upd H1 a (exo a C none)) dx (exd dx [(fld, v)])) a (exo a C (some dx))) a) dx (.xd [(fld, v)]) = upd H1 dx (.xd [(fld, v)]) := by
      funext b
      by_cases hb : b = dx
      · rw [hb, upd_same, upd_same]
      · rw [upd_ne hb, upd_ne hb]
        by_cases hba : b = a
        · rw [hba, del_same, ha]
        · rw [del_ne hba, upd_ne hba, upd_ne hb, upd_ne hba]
    rw [e]
    exact k dx h1
/-- such an __init__ keeps its promise -/
structure XiOk (P : Program) (w : World) (K : PySem.W.Frag) (mg : Str → Option Value) (base : Heap) (k : Nat) (f : Addr) (sp : Sp) : Prop where
  ex : ∃ (fd : FuncData) (ps : List Str), FnOk P w K mg base CX0 k f fd ps sp ∧ Binds K fd ps []
/-! ### a def that may raise -/
section
variable {P : Program} {w : World} {K : PySem.W.Frag} {mg : Str → Option Value} {base : Heap}
theorem Cal.mkX {x : Str} {st : Stmt} {N ps : List Str} {k : Nat} {sp : Sp} (D : DefAt K mg x st ps) (S : FnScope N ps (defScope st)) (len : ∀ vs H Q E, sp vs H Q E → vs.length = ps.length)
    (hbody : ∀ (f : Addr) (cdv : Value) (A : Around) (outer : List Env) (s : Shared) (H : Hp) (vs : List V) (Q : VK) (E : XK), Room k (A.deeper (envOfC x (defScope st) s.heap.objs.size f cdv)) → sp vs H Q E →
      ∃ t, PSs (cxOf (L2.CX P w) P w K mg base N x (defScope st) f cdv A outer s H E) (defBody st) t ∧ t { nx := fun _ H' => Q .non H', rt := Q } (start N vs) H) : Cal P w K mg base (L2.CX P w) (k + 1) x sp := by
  obtain ⟨f, fd, F, m, b⟩ := D.ex
  exact ⟨f, fd, ps, F.okX S len (fun cdv A outer s H vs Q E hr h => hbody f cdv A outer s H vs Q E hr h), m, F.kp, b⟩
end
section
variable {X : Cx} {k j : Nat} {x : Str} {sp : Sp} {p pos : Pos} {e : Expr} {es : List Expr} {t : TA} {W : WX}
/-- f(e, ..), f a def that may raise; what it raises is wished by W -/
theorem pe_cX (c : Cal X.prog X.w X.K X.mg X.base (L2.CX X.prog X.w) k x sp) (hr : Room j X.A) (hk : k ≤ j) (tk : Takes X W) (hg : Gl X x) (ha : PA X (e :: es) t)
    (hdb : (x == ("__debug__" : Str)) = false := by decide) (he : starEach (e :: es) X.env = (false, eval e X.env) :: starEach es X.env := by rfl) (hpl : (backTo pos (starEach es X.env)).any (·.1) = false := by rfl) :
    PE X (.Call (.Name x p) (e :: es) [] pos) (tCallS sp (WE W) t) := by
  obtain ⟨f, fd, ps, F, hm, kp, b⟩ := c.ex
  exact pe_callS F (hr.mono hk) hg hm kp b (fun σ => passAt tk σ) ha hdb he hpl
/-- the same where it does not raise -/
theorem pe_cXn (c : Cal X.prog X.w X.K X.mg X.base (L2.CX X.prog X.w) k x sp) (hr : Room j X.A) (hk : k ≤ j) (hg : Gl X x) (ha : PA X (e :: es) t)
    (hdb : (x == ("__debug__" : Str)) = false := by decide) (he : starEach (e :: es) X.env = (false, eval e X.env) :: starEach es X.env := by rfl) (hpl : (backTo pos (starEach es X.env)).any (·.1) = false := by rfl) :
    PE X (.Call (.Name x p) (e :: es) [] pos) (tCall sp [] E0 t) := by
  obtain ⟨f, fd, ps, F, hm, kp, b⟩ := c.ex
  exact pe_call F (hr.mono hk) hg hm kp b .nil passL ha hdb he hpl
/-- raise C(e) -/
theorem ps_raiseX {C D f : Addr} {pos2 : Pos} (T : ExcAt X.K X.mg x C f D) (F : XiOk X.prog X.w X.K X.mg X.base k f sp) (hr : Room j X.A) (hk : k + 1 ≤ j) (hc : X.calm = true) (tk : Takes X W) (hg : Gl X x) (ha : PA X (e :: es) t)
    (hdb : (x == ("__debug__" : Str)) = false := by decide) (he : starEach (e :: es) X.env = (false, eval e X.env) :: starEach es X.env := by rfl) (hpl : (backTo pos (starEach es X.env)).any (·.1) = false := by rfl) :
    PS X (.Raise (some (.Call (.Name x p) (e :: es) [] pos)) none pos2) (fun _ σ H => tMkO C sp [] t σ H fun cls d H' => W cls d σ H') := by
  obtain ⟨fd, ps, F, b⟩ := F.ex
  exact ps_raise hc tk (pmk_oex (ds := []) (dvs := []) T.oex T.iC T.tI F (hr.mono hk) b .nil (fun _ _ _ _ _ _ _ z => z.elim) hg T.mgC ha hdb he hpl)
/-- repr of a text -/
theorem call_repr_str : CallR X (.builtin "repr") (fun xs H Q => ∃ z, xs = [.str z] ∧ (reprText z).length ≤ sizeLine ∧ Q (.str (reprText z)) H) := by
  intro pins s σ H xs us Q I r h
  obtain ⟨z, rfl, hz, q⟩ := h
  obtain ⟨u, rfl, t, rfl⟩ := vals1 r
  exact PySem.P.repr_of_str ⟨.str _, H, I.tok _, ⟨_, rfl⟩, q⟩ hz
end
end Sh
set_option Elab.async false
set_option linter.all false
set_option maxRecDepth 100000
namespace Sh
open PySem PySem.Spec PyProof.Rows L2
theorem nsc_NotSettled : NdefX.NScope ["self", "text", "__class__"] ["self", "text"] ["__class__"] (defScope s_NotSettled___init__) := NdefX.nscope_by (by decide +kernel)
theorem nsc_Unlike : NdefX.NScope ["self", "word", "__class__"] ["self", "word"] ["__class__"] (defScope s_Unlike___init__) := NdefX.nscope_by (by decide +kernel)
structure TxtX (P : Program) (K : PySem.W.Frag) (mg : Str → Option Value) (CB CE XN FN XU FU : Addr) : Prop extends TxtC K mg CB CE where
  e_NotSettled : ExcAt K mg "NotSettled" XN FN XN
  q_NotSettled : XInit P K mg "NotSettled.__init__" s_NotSettled___init__ ["self", "text"] XN FN
  nf_NotSettled_text : PySem.W.findIn K (.ref XN) "text" = some none
  e_Unlike : ExcAt K mg "Unlike" XU FU XU
  q_Unlike : XInit P K mg "Unlike.__init__" s_Unlike___init__ ["self", "word"] XU FU
  nf_Unlike_word : PySem.W.findIn K (.ref XU) "word" = some none
  mm_NotSettled_NotSettled : PySem.W.exmOne K (.ref XN) (.ref XN) = some true
  mm_Unlike_NotSettled : PySem.W.exmOne K (.ref XU) (.ref XN) = some false
  mm_Unlike_Unlike : PySem.W.exmOne K (.ref XU) (.ref XU) = some true
end Sh
set_option Elab.async false
set_option linter.all false
set_option maxRecDepth 100000
set_option maxHeartbeats 2000000
/-! try with several clauses «except C as n» -/
namespace Sh
open PySem PySem.Spec PyProof.Rows L2
abbrev ClA := Value × Nat × (Addr → Value → Option Addr → TS)
def outA (D : Ends) (i : Nat) : Ends := { nx := fun σ' H' => D.nx (σ'.set i none) H', rt := D.rt, bk := fun σ' H' => D.bk (σ'.set i none) H', ct := fun σ' H' => D.ct (σ'.set i none) H' }
/-- what the clauses wish of an exception of the body -/
def wAsN (K : PySem.W.Frag) (Wo : WX) (D : Ends) : List ClA → WX
  | [] => Wo
  | p :: r => fun cls d σ H => ∃ b, PySem.W.exmOne K cls p.1 = some b ∧ (b = true → ∀ a, H a = none → p.2.2 a cls d (outA D p.2.1) (σ.set p.2.1 (some (.ref a))) H) ∧ (b = false → wAsN K Wo D r cls d σ H)
inductive HdsA (X : Cx) : List ExceptHandler → List ClA → Prop
  | nil : HdsA X [] []
  | cons {x n : Str} {c : Value} {i : Nat} {ts : Addr → Value → Option Addr → TS} {b0 : Stmt} {su : List Stmt} {np pos' : Pos} {hds : List ExceptHandler} {l : List ClA} (hi : X.N[i]? = some n) (hl : X.env.kindOf n = some .local) (hc : Names X x c)
      (hsu : ∀ (a : Addr) (oe : Obj) (cls : Value) (d : Option Addr) (pn : List (Addr × Obj)), Zc cls d oe → (∃ vs, oe.data = .fields vs) → PSs (X.suite a ((a, oe) :: pn)) (b0 :: su) (ts a cls d)) (r : HdsA X hds l) :
      HdsA X (.ExceptHandler (some (.Name x np)) (some n) (b0 :: su) pos' :: hds) ((c, i, ts) :: l)
section
variable {X : Cx} {body : List Stmt} {h0 : ExceptHandler} {hds : List ExceptHandler} {l : List ClA} {pos : Pos} {tb : WX → TS} {Wo : WX}
theorem ps_try_asN (hs : X.stack = X.env :: X.outer) (hf : X.env.frame = some X.env.locals) (hN : X.N.Nodup) (tk : Takes X Wo)
    (hb : ∀ (W : WX) (pn : List (Addr × Obj)) (xe : Value → Shared → Prop), Takes (X.tr pn xe) W → PassesOwn (model X.prog X.w) X.A X.env xe → PSs (X.tr pn xe) body (tb W))
    (hh : HdsA X (h0 :: hds) l) : PS X (.Try body (h0 :: hds) [] [] pos) (fun D σ H => tb (wAsN X.K Wo D l) D σ H) := by
  refine ⟨fun pins s σ H D I hgo => ?_⟩
  have okX := I.ok
  have frX : X.A.frames = some (X.env :: X.outer) := okX.frames.trans (congrArg some hs)
  refine wpAny_Try_except (wpAny_mono ((hb (wAsN X.K Wo D l) (X.pn ++ pins) (fun e s₁ => wpAny (model X.prog X.w) X.A (noteFrame e X.env) (fun _ s₂ => wpAny (model X.prog X.w) X.A (setFlight e none) (fun _ s₃ =>
    wpAny (model X.prog X.w) X.A (handleBy e X.env (h0 :: hds)) (SP X pins D) X.xe s₃) X.xe s₂) X.xe s₁) (fun u s' air => ?_) PassesOwn.looking).run [] s σ H D (I.toTry _) hgo) (fun fl s1 done => ?_) fun _ _ he => he)
  · obtain ⟨a, B, sI, pn0, σ1, H1, cls, d, rfl, J0, nb, up, sky, na, os, ag, wish⟩ := air
    have J : Inv X pins σ1 H1 sI := J0.ofTry okX
    show wpAny (model X.prog X.w) X.A (noteFrame (.ref a) X.env) _ _ _
    refine Sky.land Zc.steady frX hf (hs ▸ sky) fun g3 fl3 up3 => ?_
    have J3 : Inv X pins σ1 H1 { s' with heap := g3 } := J.landed nb fl3.1 (up.trans up3) os ag
    obtain ⟨oe3, vs3, at3, z3, d3⟩ := fl3.there
    have offF : a ∉ frs (X.env :: X.outer) := fun hm => by
      obtain ⟨_, o', e', isF⟩ := fl3.2.2.1.mem hm
      cases at3.symm.trans e'
      exact isF _ d3
    have offL : a ≠ X.env.locals := fun z => offF (List.mem_filterMap.mpr ⟨X.env, List.mem_cons_self, hf.trans (congrArg some z.symm)⟩)
    have offO : a ∉ X.fs := fun hm => let ⟨e, he, q⟩ := List.mem_filterMap.mp hm; offF (List.mem_filterMap.mpr ⟨e, List.mem_cons_of_mem _ he, q⟩)
    have S3 := J3.suite at3 d3 na offL offO
    have steps : ∀ {hs' : List ExceptHandler} {l' : List ClA}, HdsA X hs' l' → wAsN X.K Wo D l' cls d σ1 H1 → wpAny (model X.prog X.w) X.A (handleBy (.ref a) X.env hs') (SP X pins D) X.xe { s' with heap := g3 } := by
      intro hs' l' hk
      induction hk with
      | nil =>
        intro wo
        refine wpAny_handleBy_nil ?_
        obtain ⟨_, _, _, oe, vs, Tb, oT, ts', he, _, hd, h1, _⟩ := id fl3
        unfold PySem.passOn
        refine wpAny_bind (wpAny_field he hd h1 ?_)
        rw [if_neg (show ¬ ((Value.ref Tb == Value.none) = true) from by simp)]
        have away : wpAny (model X.prog X.w) X.A (setFlight (.ref a) X.env.frame) (fun _ s4 => wpAny (model X.prog X.w) X.A (throw (.ref a) : Sem Flow) (SP X pins D) X.xe s4) X.xe { s' with heap := g3 } := by
          rw [hf]
          exact HandSPX.setFlight_upZ fl3 fun h4 hh4 up4 => wpAny_throw (tk _ _ ⟨a, B, sI, pins, σ1, H1, cls, d, rfl, J, nb, (up.trans up3).trans up4, .inr (.inr (hs ▸ hh4)), na, os, ag, wo⟩)
        first
          | exact wpAny_bind (wpAny_pure (wpAny_bind away))
          | exact wpAny_bind away
      | @cons x n c i ts b0 su np pos' hd2 l2 hi hl hc hsu r ih =>
        intro wo
        obtain ⟨b, hb1, hy, hn⟩ := wo
        refine wpAny_handleBy_cons (codeAny_handlers_test ?_) (fun q => by cases q)
        have LTy : PySem.W.Looks (model X.prog X.w) g3 (typeOf (.ref a)) cls := fun _ _ _ s k q => wpAny_typeOf_ref (k _ _ at3) (by rw [z3.1]; exact q)
        have LMa := PySem.W.exm_one (M := model X.prog X.w) J3.kIn LTy hb1
        have named : ∀ {Q : Value → Shared → Prop} {E : Value → Shared → Prop}, Q c { s' with heap := g3 } → wpAny (model X.prog X.w) (X.A.mark (some (.ref a))) (eval (.Name x np) X.env) Q E { s' with heap := g3 } := fun {Q E} q => by
          obtain ⟨hg, hdb, hm | ⟨hm, hv, hnn⟩⟩ := hc
          · exact ld_glob (X := X.suite a ((a, oe3) :: (X.pn ++ pins))) S3 hg hm q hdb
          · exact ld_blt (X := X.suite a ((a, oe3) :: (X.pn ++ pins))) S3 hg hm hv q hnn hdb
        refine named (LMa.here ?_)
        cases b with
        | false => exact ih (hn rfl)
        | true =>
          refine codeAny_handlers_suite_as (HandSPX.lands_againZ fl3 fun g4 fl4 up4 => ?_)
          have J4 : Inv X pins σ1 H1 { s' with heap := g4 } := J.landed nb fl4.1 ((up.trans up3).trans up4) os ag
          obtain ⟨oe4, vs4, at4, z4, d4⟩ := fl4.there
          have S4 := J4.suite at4 d4 na offL offO
          refine store_ok (X := X.suite a ((a, oe4) :: (X.pn ++ pins))) (v := .ref a) S4 hN hi (.inl hl) rfl (fun s5 S5 => ?_) (.inr hl)
          refine wpAny_mono ((hsu a oe4 cls d (X.pn ++ pins) z4 ⟨_, d4⟩).run [] s5 _ H1 _ S5 (hy rfl a na)) (fun fl s6 end6 => ?_) (fun _ _ z => z.elim)
          have shut : ∀ {σ6 : L2.St} {H6 : Hp} {Q : Shared → Prop}, Inv (X.suite a ((a, oe4) :: (X.pn ++ pins))) [] σ6 H6 s6 → (∀ s7, Inv X pins (σ6.set i none) H6 s7 → Q s7) →
              wpAny (model X.prog X.w) X.A (do bindName X.env n .none; unbindBehindTheSuite X.env n pos') (fun _ s7 => Q s7) X.xe s6 := fun {σ6 H6 Q} S6 hq => gone_ok (S6.unsuite okX) hN hi hl hq
          cases fl with
          | next => exact let ⟨_, _, S6, q6⟩ := end6; shut S6 fun s7 J7 => ⟨_, _, J7, q6⟩
          | brk => exact let ⟨_, _, S6, q6⟩ := end6; shut S6 fun s7 J7 => ⟨_, _, J7, q6⟩
          | cont => exact let ⟨_, _, S6, q6⟩ := end6; shut S6 fun s7 J7 => ⟨_, _, J7, q6⟩
          | ret u => exact let ⟨_, _, _, S6, r6, q6⟩ := end6; shut S6 fun s7 J7 => ⟨_, _, _, J7, r6, q6⟩
    exact steps hh wish
  · cases fl with
    | next => exact let ⟨σ', H', J', q⟩ := done; wpAny_execs_nil ⟨σ', H', J'.ofTry okX, q⟩
    | brk => exact let ⟨σ', H', J', q⟩ := done; ⟨σ', H', J'.ofTry okX, q⟩
    | cont => exact let ⟨σ', H', J', q⟩ := done; ⟨σ', H', J'.ofTry okX, q⟩
    | ret u => exact let ⟨v, σ', H', J', r, q⟩ := done; ⟨v, σ', H', J'.ofTry okX, r, q⟩
end
end Sh
set_option Elab.async false
set_option linter.all false
set_option maxRecDepth 100000
set_option maxHeartbeats 4000000
namespace Sh
open PySem PySem.Spec PyProof.Rows L2
open SX (S S_inj S_len S_cat)
local macro_rules | `(tactic| walk_at "nx") => `(tactic| repeat (with_reducible first | refine Sh.gn_mk ?_ | refine Sh.nx_mk ?_ | refine Sh.st_nx ?_ | refine Sh.rt_mk ?_ | refine Sh.ct_mk ?_ | refine Sh.bk_mk ?_))
local macro_rules | `(tactic| walk_at "sq") => `(tactic| first | exact SqL.of upd_same | exact SqT.of upd_same | exact SqL.of (by assumption) | exact SqT.of (by assumption) | assumption | exact Or.inl (SqL.of (by assumption)) | exact Or.inr (SqT.of (by assumption)) | exact Or.inl (by assumption) | exact Or.inr (by assumption))
local macro_rules | `(tactic| walk_at "hp") => `(tactic| first | exact upd_same | assumption)
local macro_rules | `(tactic| walk_at "sz") => `(tactic| first | exact Nat.le_of_ble_eq_true rfl | omega)
local macro_rules | `(tactic| walk_at "sd") => `(tactic| first | omega | exact rfl | assumption | (show (0 : Int) < _; omega) | exact And.intro (by omega) (by omega) | exact Or.inl (And.intro (by omega) (by omega)) | exact Or.inr (And.intro (by omega) (by omega)) | omega | exact Sh.sz_S (by omega) | decide)
local macro_rules | `(tactic| walk_at "rd1") => `(tactic| first
  | (with_reducible first | refine Sh.gn_mk ?_ | refine Sh.nx_mk ?_ | refine Sh.st_nx ?_ | refine Sh.rt_mk ?_ | refine Sh.ct_mk ?_ | refine Sh.bk_mk ?_)
  | refine Exists.intro (α := V) _ (And.intro rfl ?_)
  | refine Exists.intro (α := Bool) _ (And.intro rfl ?_)
  | refine Exists.intro (α := Int) _ (And.intro rfl ?_)
  | refine Exists.intro (α := PySem.Str) _ (And.intro rfl ?_)
  | refine Exists.intro (α := Int) _ (Exists.intro (α := Int) _ (And.intro rfl (And.intro rfl ?_)))
  | refine Exists.intro (α := PySem.Str) _ (Exists.intro (α := PySem.Str) _ (And.intro rfl (And.intro rfl ?_)))
  | refine Exists.intro (α := Int) _ (Exists.intro (α := Int) _ (And.intro rfl ?_))
  | refine Or.inl (Exists.intro (α := Int) _ (And.intro rfl ?_))
  | refine Exists.intro _ (Exists.intro _ (Exists.intro _ (Exists.intro _ (And.intro rfl (And.intro rfl (And.intro (by walk_at "sq") (And.intro rfl ?_)))))))
  | refine Exists.intro _ (Exists.intro _ (Exists.intro _ (Exists.intro _ (And.intro rfl (And.intro rfl (And.intro (by walk_at "hp") (And.intro rfl ?_)))))))
  | refine And.intro (by walk_at "sd") ?_
  )
local macro_rules | `(tactic| walk_at "rd") => `(tactic| repeat walk_at "rd1")
local macro_rules | `(tactic| walk_at "lk") => `(tactic| first | exact rfl | (rw [lookup_putF, if_pos rfl]) | (rw [lookup_putF, if_neg (by decide +kernel)]; walk_at "lk"))

section
variable {P : Program} {w : World} {K : PySem.W.Frag} {mg : Str → Option Value} {base : Heap}
/-- _law_pick(source, many): any number from 0 to many - 1; the source changes alone -/
def spPick : Sp := fun vs H Q _ => ∃ (a : Addr) (m : Int), vs = [.ref a, .int m] ∧ Src H a ∧ 0 < m ∧ m < 1000000 ∧ ∀ (r : Int) (H' : Hp), 0 ≤ r → r < m → Src H' a → But a H H' → Q (.int r) H'
theorem c__law_pick (T : Txt K mg) : Cal P w K mg base CX0 1 "_law_pick" spPick := by
  refine Cal.mk0 T.d__law_pick sc__law_pick (fun vs H Q E h => ?_) (fun f cdv A outer s H vs Q E hr h => ?_)
  · obtain ⟨a, m, rfl, _⟩ := h
    rfl
  · obtain ⟨a, m, rfl, ⟨d, sd, c, ha⟩, h0, h1, k⟩ := h
    refine ⟨_, (pss_cons (ps_if (pt_cmpR op_gt (pe_ix ix_list (pv 0) pe_int (fun _ _ => rfl)) pe_int (nomark _))
    (pss_cons (ps_set (i := 2) sc__law_pick.nd rfl (Or.inl rfl) (pe_op op_mod (pe_callTy call_int1 (by rfl) T.b_int (by decide +kernel) (pa_cons (pe_ix ix_list (pv 0) pe_int (fun _ _ => rfl)) pa_nil)) (pv 1)))
    (pss_cons (ps_asg (pe_op op_fdiv (pe_ix ix_list (pv 0) pe_int (fun _ _ => rfl)) (pv 1)) (pg_sub (pv 0) pe_int set_list))
    (pss_one (ps_ret (pv 2)))))
    pss_nil)
  (pss_cons (ps_asg (pe_op op_add (pe_ix ix_list (pv 0) pe_int (fun _ _ => rfl)) pe_int) (pg_sub (pv 0) pe_int set_list))
  (pss_cons (ps_set (i := 3) sc__law_pick.nd rfl (Or.inl rfl) (pe_op op_mod (pe_callTy call_int1 (by rfl) T.b_int (by decide +kernel) (pa_cons (pe_op op_mul (pe_op op_add (pe_ix ix_list (pv 0) pe_int (fun _ _ => rfl)) (pe_op op_mul pe_int (pe_ix ix_list (pv 0) pe_int (fun _ _ => rfl)))) pe_int) pa_nil)) pe_int))
  (pss_cons (ps_set (i := 3) sc__law_pick.nd rfl (Or.inl rfl) (pe_op op_mod (pe_callTy call_int1 (by rfl) T.b_int (by decide +kernel) (pa_cons (pe_op op_add (pe_op op_add (pe_op op_mul (pv 3) (pv 3)) (pe_op op_mul pe_int (pe_ix ix_list (pv 0) pe_int (fun _ _ => rfl)))) (pe_ix ix_list (pv 0) pe_int (fun _ _ => rfl))) pa_nil)) pe_int))
  (pss_cons (ps_set (i := 3) sc__law_pick.nd rfl (Or.inl rfl) (pe_op op_mod (pe_callTy call_int1 (by rfl) T.b_int (by decide +kernel) (pa_cons (pe_op op_add (pe_op op_mul (pv 3) pe_int) pe_int) pa_nil)) pe_int))
  (pss_cons (ps_set (i := 3) sc__law_pick.nd rfl (Or.inl rfl) (pe_op op_mod (pe_callTy call_int1 (by rfl) T.b_int (by decide +kernel) (pa_cons (pe_op op_add (pe_op op_mul (pv 3) (pv 3)) (pv 3)) pa_nil)) pe_int))
  (pss_one (ps_ret (pe_op op_mod (pe_callTy call_int1 (by rfl) T.b_int (by decide +kernel) (pa_cons (pe_op op_fdiv (pv 3) pe_int) pa_nil)) (pv 1)))))))))), ?_⟩
    walk_at "rd"
    refine ite2 (fun c0 => ?_) (fun c0 => ?_)
    · walk_at "rd"
      exact k _ _ (Int.emod_nonneg _ (by omega)) (Int.emod_lt_of_pos _ h0) ⟨_, _, _, upd_same⟩ but_upd
    · walk_at "rd"
      exact k _ _ (Int.emod_nonneg _ (by omega)) (Int.emod_lt_of_pos _ h0) ⟨_, _, _, upd_same⟩ but_upd
/-- _law_source(script, place): a new source -/
def spSource (K : PySem.W.Frag) : Sp := fun vs H Q _ => ∃ (a : Addr) (ns : List Int) (i : Int), vs = [.ref a, .int i] ∧ SqL K H a (ns.map V.int) ∧ (∀ z ∈ ns, Builtin.Int.intBits z ≤ 1048576) ∧ ns.length ≤ 63 ∧ 0 ≤ i ∧ i < 100 ∧
  ∀ (p : Addr) (H' : Hp), H p = none → Same H H' → Src H' p → Q (.ref p) H'
theorem cut_ints (ns : List Int) : ∃ ms : List Int, cutV (ns.map V.int) none (some 4) = ms.map V.int := ⟨_, by unfold cutV; rw [← List.map_drop, ← List.map_take]⟩
theorem c__law_source (T : Txt K mg) : Cal P w K mg base CX0 1 "_law_source" (spSource K) := by
  refine Cal.mk0 T.d__law_source sc__law_source (fun vs H Q E h => ?_) (fun f cdv A outer s H vs Q E hr h => ?_)
  · obtain ⟨a, ns, i, rfl, _⟩ := h
    rfl
  · obtain ⟨a, ns, i, rfl, hS, hb, hl, hi0, hi1, k⟩ := h
    obtain ⟨ms, hms⟩ := cut_ints ns
    refine ⟨_, (pss_cons (ps_set (i := 2) sc__law_source.nd rfl (Or.inl rfl) (pe_ifExp (pt_cmpR op_lt (pv 1) (pe_callB call_len_seq (by rfl) T.b_len (by decide +kernel) (pa_cons (pv 0) pa_nil)) (nomark _)) (pe_ix ix_list (pv 0) (pv 1) (fun _ _ => rfl)) (pe_op op_add (pe_op op_mul pe_int (pv 1)) pe_int)))
  (pss_cons (ps_set (i := 3) sc__law_source.nd rfl (Or.inl rfl) (pe_op op_add (pe_op op_mul pe_int (pv 1)) pe_int))
  (pss_cons (ps_for PassesOwn.never rfl (pi_list (pe_slice sl_list (pv 0) po_none (po_some pe_int))) (pg_name (i := 4) sc__law_source.nd rfl (Or.inl rfl))
    (pss_one (ps_set (i := 3) sc__law_source.nd rfl (Or.inl rfl) (pe_op op_mod (pe_callTy call_int1 (by rfl) T.b_int (by decide +kernel) (pa_cons (pe_op op_add (pe_op op_mul (pv 3) pe_int) (pe_op op_mod (pe_callTy call_int1 (by rfl) T.b_int (by decide +kernel) (pa_cons (pv 4) pa_nil)) pe_int)) pa_nil)) pe_int))))
  (pss_cons (ps_set (i := 3) sc__law_source.nd rfl (Or.inl rfl) (pe_op op_mod (pe_callTy call_int1 (by rfl) T.b_int (by decide +kernel) (pa_cons (pe_op op_add (pe_op op_mul (pv 3) pe_int) (pe_op op_mod (pe_callTy call_int1 (by rfl) T.b_int (by decide +kernel) (pa_cons (pv 2) pa_nil)) pe_int)) pa_nil)) pe_int))
  (pss_cons (ps_set (i := 5) sc__law_source.nd rfl (Or.inl rfl) (pe_callB call_abs (by rfl) T.b_abs (by decide +kernel) (pa_cons (pv 2) pa_nil)))
  (pss_cons (ps_if (pt_cmpR op_lt (pv 5) (pe_op op_pow pe_int pe_int) (nomark _))
    (pss_one (ps_ret (pe_lst (pa_cons pe_int (pa_cons (pv 3) (pa_cons pe_int pa_nil))))))
    pss_nil)
  (pss_cons (ps_if (pt_cmpR op_gt (pe_op op_shr (pv 5) pe_int) pe_int (nomark _))
    (pss_one (ps_set (i := 5) sc__law_source.nd rfl (Or.inl rfl) (pe_op op_sub (pv 5) (pe_op op_shlW (pe_op op_shr (pv 5) pe_int) pe_int))))
    pss_nil)
  (pss_one (ps_ret (pe_lst (pa_cons (pv 5) (pa_cons (pv 3) (pa_cons pe_int pa_nil))))))))))))), ?_⟩
    -- cell
    refine st_asgJ (fun v H' => H' = H ∧ ∃ z, v = V.int z ∧ Builtin.Int.intBits z ≤ 1048576) (fun Q' kQ => ?_) ?_
    · refine ⟨_, rfl, _, rfl, _, _, rfl, .inl hS, _, _, rfl, rfl, _, rfl, ?_⟩
      refine ite2 (fun c0 => ?_) (fun c0 => ?_)
      · have c1 : i < (ns.map V.int).length := of_decide_eq_true c0
        rw [List.length_map] at c1
        have c2 : i.toNat < ns.length := by omega
        refine ⟨_, rfl, _, rfl, _, _, _, .int ns[i.toNat], rfl, rfl, hS, ?_, kQ _ _ ⟨rfl, _, rfl, hb _ (List.getElem_mem c2)⟩⟩
        exact atI_at hi0 (by simp [c2])
      · walk_at "rd"
        refine kQ _ _ ⟨rfl, _, rfl, ?_⟩
        refine Nat.le_trans ((PySem.intBits_le_iff (m := 20)).mpr ?_) (by decide)
        show (7 * i + 5).natAbs < 2 ^ 20
        omega
    · rintro v H' ⟨rfl, cell, rfl, hcell⟩
      walk_at "rd"
      -- script[:4]
      refine ⟨_, _, rfl, hS, fun p hp => ?_⟩
      rw [hms]
      refine ⟨p, rfl, ⟨_, SqL.of upd_same⟩, for_lst (K := K) (a := p) (f := V.int) (l := ms) (fun pre σ H2 => ∃ (sd : Int) (v : Option V), σ = [some (.ref a), some (.int i), some (.int cell), some (.int sd), v, none] ∧ H2 = upd H' p (.lst (ms.map V.int)))
        ⟨_, _, rfl, rfl⟩ (fun pre σ H2 ⟨_, _, _, e⟩ => e ▸ SqL.of upd_same) ?_ ?_⟩
      · rintro pre x post σ H2 e ⟨sd, v, rfl, rfl⟩
        walk_at "rd"
        exact ⟨_, _, rfl, rfl⟩
      · rintro σ H2 ⟨sd, v, rfl, rfl⟩
        walk_at "rd"
        refine ite2 (fun c0 => ?_) (fun c0 => ?_)
        · walk_at "rd"
          refine ⟨by walk_at "sz", fun q hq => ?_⟩
          have s1 : Same H' (upd H' p (.lst (ms.map V.int))) := same_new hp
          exact k q _ (s1.free hq) (s1.trans (same_new hq)) ⟨_, _, _, upd_same⟩
        · walk_at "nx"
          refine st_ifJ (fun σ' H3 => H3 = upd H' p (.lst (ms.map V.int)) ∧ ∃ n sd v, σ' = [some (.ref a), some (.int i), some (.int cell), some (.int sd), v, some (.int n)]) (fun N kN => ?_) ?_
          · walk_at "rd"
            refine ite2 (fun c1 => ?_) (fun c1 => ?_)
            · walk_at "rd"
              have hn : Builtin.Int.intBits (if cell < 0 then -cell else cell) ≤ 1048576 := by
                split
                · exact PySem.intBits_neg_le hcell
                · exact hcell
              refine ⟨?_, ?_⟩
              · have h2 := PySem.intBits_le_of_natAbs (x := (if cell < 0 then -cell else cell) / 2 ^ Int.toNat 2500) (y := if cell < 0 then -cell else cell) (by first | exact Int.natAbs_ediv_le_natAbs _ _ | exact Int.natAbs_div_le_natAbs _ _) hn
                refine ⟨by decide, ?_⟩
                show _ + (2500 : Int) ≤ 134217728
                omega
              · walk_at "rd"
                exact kN _ _ ⟨rfl, _, _, _, rfl⟩
            · walk_at "rd"
              exact kN _ _ ⟨rfl, _, _, _, rfl⟩
          · rintro σ' H3 ⟨rfl, n, sd', v', rfl⟩
            walk_at "rd"
            refine ⟨by walk_at "sz", fun q hq => ?_⟩
            have s1 : Same H' (upd H' p (.lst (ms.map V.int))) := same_new hp
            exact k q _ (s1.free hq) (s1.trans (same_new hq)) ⟨_, _, _, upd_same⟩
end
end Sh
set_option Elab.async false
set_option linter.all false
set_option maxRecDepth 100000
set_option maxHeartbeats 4000000
namespace Sh
open PySem PySem.Spec PyProof.Rows L2
open SX (S S_inj S_len S_cat)
local macro_rules | `(tactic| walk_at "nx") => `(tactic| repeat (with_reducible first | refine Sh.gn_mk ?_ | refine Sh.nx_mk ?_ | refine Sh.st_nx ?_ | refine Sh.rt_mk ?_ | refine Sh.ct_mk ?_ | refine Sh.bk_mk ?_))
local macro_rules | `(tactic| walk_at "sq") => `(tactic| first | exact SqL.of upd_same | exact SqT.of upd_same | exact SqL.of (by assumption) | exact SqT.of (by assumption) | assumption | exact Or.inl (SqL.of (by assumption)) | exact Or.inr (SqT.of (by assumption)) | exact Or.inl (by assumption) | exact Or.inr (by assumption))
local macro_rules | `(tactic| walk_at "hp") => `(tactic| first | exact upd_same | assumption)
local macro_rules | `(tactic| walk_at "sz") => `(tactic| first | exact Nat.le_of_ble_eq_true rfl | omega)
local macro_rules | `(tactic| walk_at "sd") => `(tactic| first | omega | exact rfl | assumption | (show (0 : Int) < _; omega) | exact And.intro (by omega) (by omega) | exact Or.inl (And.intro (by omega) (by omega)) | exact Or.inr (And.intro (by omega) (by omega)) | omega | exact Sh.sz_S (by omega) | decide)
local macro_rules | `(tactic| walk_at "rd1") => `(tactic| first
  | (with_reducible first | refine Sh.gn_mk ?_ | refine Sh.nx_mk ?_ | refine Sh.st_nx ?_ | refine Sh.rt_mk ?_ | refine Sh.ct_mk ?_ | refine Sh.bk_mk ?_)
  | refine Exists.intro (α := V) _ (And.intro rfl ?_)
  | refine Exists.intro (α := Bool) _ (And.intro rfl ?_)
  | refine Exists.intro (α := Int) _ (And.intro rfl ?_)
  | refine Exists.intro (α := PySem.Str) _ (And.intro rfl ?_)
  | refine Exists.intro (α := Int) _ (Exists.intro (α := Int) _ (And.intro rfl (And.intro rfl ?_)))
  | refine Exists.intro (α := PySem.Str) _ (Exists.intro (α := PySem.Str) _ (And.intro rfl (And.intro rfl ?_)))
  | refine Exists.intro (α := Int) _ (Exists.intro (α := Int) _ (And.intro rfl ?_))
  | refine Or.inl (Exists.intro (α := Int) _ (And.intro rfl ?_))
  | refine Exists.intro _ (Exists.intro _ (Exists.intro _ (Exists.intro _ (And.intro rfl (And.intro rfl (And.intro (by walk_at "sq") (And.intro rfl ?_)))))))
  | refine Exists.intro _ (Exists.intro _ (Exists.intro _ (Exists.intro _ (And.intro rfl (And.intro rfl (And.intro (by walk_at "hp") (And.intro rfl ?_)))))))
  | refine And.intro (by walk_at "sd") ?_
  )
local macro_rules | `(tactic| walk_at "rd") => `(tactic| repeat walk_at "rd1")
local macro_rules | `(tactic| walk_at "lk") => `(tactic| first | exact rfl | (rw [lookup_putF, if_pos rfl]) | (rw [lookup_putF, if_neg (by decide +kernel)]; walk_at "lk"))

section
variable {P : Program} {w : World} {K : PySem.W.Frag} {mg : Str → Option Value} {base : Heap}
/-- the signs that the law draws -/
def sgMenu : List (List Nat) := [[97, 98], [97, 98, 99], [97, 98], [97, 99], [97, 98, 99], [98, 122], [97], [98, 99, 100], [97, 98], [107, 109, 122], [97, 98, 99], [120, 121]]
def spSigns : Sp := fun vs H Q _ => ∃ (a : Addr), vs = [.ref a] ∧ Src H a ∧ ∀ (sg : List Nat) (H' : Hp), sg ∈ sgMenu → Src H' a → But a H H' → Q (.str (S sg)) H'
theorem sgMenu_V : ([V.str "ab", V.str "abc", V.str "ab", V.str "ac", V.str "abc", V.str "bz", V.str "a", V.str "bcd", V.str "ab", V.str "kmz", V.str "abc", V.str "xy"] : List V) = sgMenu.map fun l => V.str (S l) := by decide +kernel
theorem c__law_signs (T : Txt K mg) : Cal P w K mg base CX0 2 "_law_signs" spSigns := by
  have c__law_pick := c__law_pick (P := P) (w := w) (base := base) T
  refine Cal.mk0 T.d__law_signs sc__law_signs (fun vs H Q E h => ?_) (fun f cdv A outer s H vs Q E hr h => ?_)
  · obtain ⟨a, rfl, _⟩ := h
    rfl
  · obtain ⟨a, rfl, hs, k⟩ := h
    refine ⟨_, (pss_cons (ps_set (i := 1) sc__law_signs.nd rfl (Or.inl rfl) (pe_lst (pa_cons pe_str (pa_cons pe_str (pa_cons pe_str (pa_cons pe_str (pa_cons pe_str (pa_cons pe_str (pa_cons pe_str (pa_cons pe_str (pa_cons pe_str (pa_cons pe_str (pa_cons pe_str (pa_cons pe_str pa_nil))))))))))))))
  (pss_one (ps_ret (pe_ix ix_list (pv 1) (pe_c c__law_pick hr (by decide) rfl (pa_cons (pv 0) (pa_cons (pe_callB call_len_seq (by rfl) T.b_len (by decide +kernel) (pa_cons (pv 1) pa_nil)) pa_nil))) (fun _ _ => rfl))))), ?_⟩
    refine ⟨by walk_at "sz", fun p hp => ?_⟩
    rw [sgMenu_V]
    have ns := same_new (o := .lst (sgMenu.map fun l => V.str (S l))) hp
    obtain ⟨d, sd, c, ha⟩ := id hs
    have hs1 : Src (upd H p (.lst (sgMenu.map fun l => V.str (S l)))) a := ⟨d, sd, c, ns _ _ ha⟩
    have npa : p ≠ a := (ne_of_none ha hp).symm
    refine ⟨_, rfl, _, rfl, _, rfl, p, _, rfl, .inl (SqL.of upd_same), ?_⟩
    refine ⟨_, _, rfl, hs1, by decide, by decide, fun r H2 r0 r1 s2 b2 => ?_⟩
    have r1' : r < 12 := r1
    have hr2 : r.toNat < sgMenu.length := by show _ < 12; omega
    refine ⟨p, _, r, .str (S sgMenu[r.toNat]), rfl, rfl, SqL.of (b2 _ _ npa upd_same), atI_at r0 (by rw [List.getElem?_map, List.getElem?_eq_getElem hr2]; rfl), ?_⟩
    exact k _ _ (List.getElem_mem hr2) s2 (But.trans (But.same ns) b2)
/-- a drawn text -/
def spText : Sp := fun vs H Q _ => ∃ (a : Addr) (sg : List Nat) (m : Int), vs = [.ref a, .str (S sg), .int m] ∧ Src H a ∧ 0 < sg.length ∧ sg.length ≤ 1000 ∧ 0 ≤ m ∧ m < 1000 ∧
  ∀ (t : List Nat) (H' : Hp), (t.length : Int) ≤ m → (∀ c ∈ t, c ∈ sg) → Src H' a → But a H H' → Q (.str (S t)) H'
theorem c__law_text (T : Txt K mg) : Cal P w K mg base CX0 2 "_law_text" spText := by
  have c__law_pick := c__law_pick (P := P) (w := w) (base := base) T
  refine Cal.mk0 T.d__law_text sc__law_text (fun vs H Q E h => ?_) (fun f cdv A outer s H vs Q E hr h => ?_)
  · obtain ⟨a, sg, m, rfl, _⟩ := h
    rfl
  · obtain ⟨a, sg, m, rfl, hs, hg0, hg1, hm0, hm1, k⟩ := h
    refine ⟨_, (pss_cons (ps_set (i := 3) sc__law_text.nd rfl (Or.inl rfl) pe_str)
  (pss_cons (ps_for PassesOwn.never rfl (pi_range1 (by rfl) T.b_range (pa_cons (pe_c c__law_pick hr (by decide) rfl (pa_cons (pv 0) (pa_cons (pe_op op_add (pv 2) pe_int) pa_nil))) pa_nil)) (pg_name (i := 4) sc__law_text.nd rfl (Or.inl rfl))
    (pss_one (ps_set (i := 3) sc__law_text.nd rfl (Or.inl rfl) (pe_op op_add_str (pv 3) (pe_ix ix_str (pv 1) (pe_c c__law_pick hr (by decide) rfl (pa_cons (pv 0) (pa_cons (pe_callB call_len_str (by rfl) T.b_len (by decide +kernel) (pa_cons (pv 1) pa_nil)) pa_nil))) (fun _ _ => rfl))))))
  (pss_one (ps_ret (pv 3))))), ?_⟩
    walk_at "rd"
    refine ⟨_, _, rfl, hs, by omega, by omega, fun n H1 n0 n1 s1 b1 => ?_⟩
    refine ⟨_, rfl, by omega, by omega, for_range (lo := 0) (n := n.toNat) (fun i σ H2 => ∃ (t : List Nat) (v : Option V), σ = [some (.ref a), some (.str (S sg)), some (.int m), some (.str (S t)), v] ∧ t.length = i ∧ (∀ c ∈ t, c ∈ sg) ∧ Src H2 a ∧ But a H H2)
      ⟨[], _, rfl, rfl, by simp, s1, b1⟩ ?_ ?_⟩
    · rintro i σ H2 hi ⟨t, v, rfl, ht, hc, s2, b2⟩
      refine ⟨_, rfl, _, rfl, _, rfl, _, rfl, _, rfl, sz_S (by omega), ?_⟩
      refine ⟨_, _, rfl, s2, by rw [S_len]; omega, by rw [S_len]; omega, fun r H3 r0 r1 s3 b3 => ?_⟩
      rw [S_len] at r1
      have hr2 : r.toNat < sg.length := by omega
      refine ⟨_, r, sg[r.toNat], rfl, rfl, sz_S (by omega), atI_at r0 (by show sg[r.toNat]? = _; simp [hr2]), ?_⟩
      refine ⟨_, _, rfl, rfl, by show (S t).length + (S [sg[r.toNat]]).length ≤ _; rw [S_len, S_len]; exact Nat.le_trans (m := 1000000) (by simp; omega) (by decide), ?_⟩
      refine ⟨t ++ [sg[r.toNat]], some (.int (0 + i)), ?_, by simp [ht], ?_, s3, b2.trans b3⟩
      · rw [← S_cat]; rfl
      · intro c hcc
        rcases List.mem_append.mp hcc with q | q
        · exact hc c q
        · rw [List.mem_singleton] at q; rw [q]; exact List.getElem_mem hr2
    · rintro σ H2 ⟨t, v, rfl, ht, hc, s2, b2⟩
      walk_at "rd"
      exact k _ _ (by omega) hc s2 b2
/-- (len(text), text) -/
def spKey : Sp := fun vs H Q _ => ∃ t : List Nat, vs = [.str (S t)] ∧ t.length ≤ 1000000 ∧ ∀ p, H p = none → Q (.ref p) (upd H p (.tup [.int t.length, .str (S t)]))
theorem c_text_key (T : Txt K mg) : Cal P w K mg base CX0 1 "text_key" spKey := by
  refine Cal.mk0 T.d_text_key sc_text_key (fun vs H Q E h => ?_) (fun f cdv A outer s H vs Q E hr h => ?_)
  · obtain ⟨t, rfl, _⟩ := h
    rfl
  · obtain ⟨t, rfl, ht, k⟩ := h
    refine ⟨_, (pss_one (ps_ret (pe_tup (pa_cons (pe_callB call_len_str (by rfl) T.b_len (by decide +kernel) (pa_cons (pv 0) pa_nil)) (pa_cons (pv 0) pa_nil))))), ?_⟩
    refine ⟨_, rfl, _, rfl, sz_S ht, _, rfl, by walk_at "sz", fun p hp => ?_⟩
    have q := k p hp
    rw [← S_len] at q
    exact q
theorem c__law_key (T : Txt K mg) : Cal P w K mg base CX0 1 "_law_key" spKey := by
  refine Cal.mk0 T.d__law_key sc__law_key (fun vs H Q E h => ?_) (fun f cdv A outer s H vs Q E hr h => ?_)
  · obtain ⟨t, rfl, _⟩ := h
    rfl
  · obtain ⟨t, rfl, ht, k⟩ := h
    refine ⟨_, (pss_one (ps_ret (pe_tup (pa_cons (pe_callB call_len_str (by rfl) T.b_len (by decide +kernel) (pa_cons (pv 0) pa_nil)) (pa_cons (pv 0) pa_nil))))), ?_⟩
    refine ⟨_, rfl, _, rfl, sz_S ht, _, rfl, by walk_at "sz", fun p hp => ?_⟩
    have q := k p hp
    rw [← S_len] at q
    exact q
/-- a drawn rule: its left side has 1 to longest signs, its right side none, or one and the left side two or more -/
def RuleOk (sg : List Nat) (m : Nat) (r : List Nat × List Nat) : Prop :=
  1 ≤ r.1.length ∧ r.1.length ≤ m ∧ (∀ c ∈ r.1, c ∈ sg) ∧ (∀ c ∈ r.2, c ∈ sg) ∧ r.2.length ≤ 1 ∧ r.2.length < r.1.length
def rTup (r : List Nat × List Nat) : List V := [.str (S r.1), .str (S r.2)]
def spRule : Sp := fun vs H Q _ => ∃ (a : Addr) (sg : List Nat) (m : Int), vs = [.ref a, .str (S sg), .int m] ∧ Src H a ∧ 0 < sg.length ∧ sg.length ≤ 1000 ∧ 1 ≤ m ∧ m ≤ 4 ∧
  ∀ (r : List Nat × List Nat) (p : Addr) (H' : Hp), RuleOk sg m.toNat r → Src H' a → But a H H' → H p = none → H' p = some (.tup (rTup r)) → Q (.ref p) H'
theorem c__law_rule (T : Txt K mg) : Cal P w K mg base CX0 2 "_law_rule" spRule := by
  have c__law_pick := c__law_pick (P := P) (w := w) (base := base) T
  refine Cal.mk0 T.d__law_rule sc__law_rule (fun vs H Q E h => ?_) (fun f cdv A outer s H vs Q E hr h => ?_)
  · obtain ⟨a, sg, m, rfl, _⟩ := h
    rfl
  · obtain ⟨a, sg, m, rfl, hs, hg0, hg1, hm0, hm1, k⟩ := h
    refine ⟨_, (pss_cons (ps_set (i := 3) sc__law_rule.nd rfl (Or.inl rfl) (pe_op op_add pe_int (pe_c c__law_pick hr (by decide) rfl (pa_cons (pv 0) (pa_cons (pv 2) pa_nil)))))
  (pss_cons (ps_if (PW.pt (pw_and (pt_cmpR op_eq (pv 3) pe_int (nomark _)) (pw_and1 (pt_cmpR op_gt (pe_c c__law_pick hr (by decide) rfl (pa_cons (pv 0) (pa_cons pe_int pa_nil))) pe_int (nomark _)))))
    (pss_one (ps_set (i := 3) sc__law_rule.nd rfl (Or.inl rfl) (pe_callB (call_min2 rfl) (by rfl) T.b_min (by decide +kernel) (pa_cons pe_int (pa_cons (pv 2) pa_nil)))))
    pss_nil)
  (pss_cons (ps_set (i := 4) sc__law_rule.nd rfl (Or.inl rfl) (pe_join pe_str (pe_lc (own := [("_law_k", 5)]) (g := gName 5) (tt := tYes) rfl sc__law_rule.nd (pi_range1 (by rfl) T.b_range (pa_cons (pv 3) pa_nil)) (blkOk_by (N := ["_law_source_here", "_law_signs_here", "_law_longest", "_law_size", "_law_left_here", "_law_k"]) (sc := defScope s__law_rule) (by decide +kernel)) (fun _ _ _ _ _ => (pg_name (i := 5) sc__law_rule.nd rfl (Or.inl rfl))) (fun _ _ _ _ _ => pts_nil) (fun _ _ _ _ _ => (pe_ix ix_str (pv 1) (pe_c c__law_pick hr (by decide) rfl (pa_cons (pv 0) (pa_cons (pe_callB call_len_str (by rfl) T.b_len (by decide +kernel) (pa_cons (pv 1) pa_nil)) pa_nil))) (fun _ _ => rfl))))))
  (pss_cons (ps_if (PW.pt (pw_or (pt_cmpR op_eq (pv 3) pe_int (nomark _)) (pw_or1 (pt_cmpR op_eq (pe_c c__law_pick hr (by decide) rfl (pa_cons (pv 0) (pa_cons pe_int pa_nil))) pe_int (nomark _)))))
    (pss_one (ps_ret (pe_tup (pa_cons (pv 4) (pa_cons pe_str pa_nil)))))
    pss_nil)
  (pss_one (ps_ret (pe_tup (pa_cons (pv 4) (pa_cons (pe_ix ix_str (pv 1) (pe_c c__law_pick hr (by decide) rfl (pa_cons (pv 0) (pa_cons (pe_callB call_len_str (by rfl) T.b_len (by decide +kernel) (pa_cons (pv 1) pa_nil)) pa_nil))) (fun _ _ => rfl)) pa_nil))))))))), ?_⟩
    walk_at "rd"
    refine ⟨_, _, rfl, hs, by omega, by omega, fun n H1 n0 n1 s1 b1 => ?_⟩
    refine ⟨_, _, rfl, rfl, ?_⟩
    walk_at "nx"
    refine st_ifJ (fun σ' H' => ∃ z : Int, 1 ≤ z ∧ z ≤ m ∧ σ' = [some (.ref a), some (.str (S sg)), some (.int m), some (.int z), none, none] ∧ Src H' a ∧ But a H H') (fun N kN => ?_) ?_
    · walk_at "rd"
      refine ite2 (fun c0 => ?_) (fun c0 => ?_)
      · walk_at "rd"
        refine ⟨_, _, rfl, s1, by decide, by decide, fun r H2 r0 r1 s2 b2 => ?_⟩
        walk_at "rd"
        refine ite2 (fun c1 => ?_) (fun c1 => ?_)
        · walk_at "rd"
          refine kN _ _ ⟨_, ?_, ?_, rfl, s2, b1.trans b2⟩
          · split <;> omega
          · split <;> omega
        · walk_at "nx"
          exact kN _ _ ⟨_, by omega, by omega, rfl, s2, b1.trans b2⟩
      · walk_at "nx"
        refine iteF ?_
        walk_at "nx"
        exact kN _ _ ⟨_, by omega, by omega, rfl, s1, b1⟩
    · rintro σ' H2 ⟨z, z0, z1, rfl, s2, b2⟩
      refine ⟨⟨_, rfl⟩, _, rfl, _, rfl, by omega, by omega, fun D hD => lc_range (lo := 0) (n := z.toNat) (fun i H3 => ∃ l : List Nat, l.length = i ∧ (∀ c ∈ l, c ∈ sg) ∧ H3 D = some (.lst (l.map fun c => .str (S [c]))) ∧ Src H3 a ∧ But a H2 H3) ?_ ?_ ?_⟩
      · obtain ⟨d, sd, c, ha⟩ := id s2
        exact ⟨[], rfl, by simp, upd_same, ⟨d, sd, c, same_new hD _ _ ha⟩, But.same (same_new hD)⟩
      · rintro i H3 hi ⟨l, hl, hc, h3, s3, b3⟩
        refine ⟨rfl, ty_T ?_⟩
        walk_at "rd"
        refine ⟨_, _, rfl, s3, by rw [S_len]; omega, by rw [S_len]; omega, fun r H4 r0 r1 s4 b4 => ?_⟩
        rw [S_len] at r1
        have hr2 : r.toNat < sg.length := by omega
        have nDa : D ≠ a := by
          obtain ⟨d, sd, c, ha⟩ := id s2
          exact (ne_of_none ha hD).symm
        refine ⟨_, r, sg[r.toNat], rfl, rfl, sz_S (by omega), atI_at r0 (by show sg[r.toNat]? = _; simp [hr2]), ?_⟩
        have h4 := b4 _ _ nDa h3
        refine ⟨_, h4, by rw [List.length_map, hl]; exact Nat.lt_of_le_of_lt (m := 4) (by omega) (by decide), l ++ [sg[r.toNat]], by simp [hl], ?_, ?_, ?_, ?_⟩
        · intro c hcc
          rcases List.mem_append.mp hcc with q | q
          · exact hc c q
          · rw [List.mem_singleton] at q; rw [q]; exact List.getElem_mem hr2
        · rw [List.map_append]; exact upd_same
        · obtain ⟨d, sd, c, ha⟩ := id s4
          exact ⟨d, sd, c, by rw [upd_ne nDa.symm]; exact ha⟩
        · exact but_mut (b3.trans b4) hD
      · rintro H3 ⟨l, hl, hc, h3, s3, b3⟩
        have hjoin : Txt.join (S []) (l.map fun c => S [c]) = S l := by
          have := join_nil (l.map fun c => [c])
          rw [flat_one, List.map_map] at this
          exact this
        have hsum : ∀ l : List Nat, ((l.map fun c => S [c]).map (·.length)).sum = l.length := by
          intro l
          induction l with
          | nil => rfl
          | cons x l ih => rw [List.map_cons, List.map_cons, List.sum_cons, ih, S_len]; simp [Nat.add_comm]
        refine ⟨_, D, l.map fun c => S [c], rfl, rfl, .inl (SqL.of (by rw [List.map_map]; exact h3)), ?_, ?_⟩
        · show ((l.map fun c => S [c]).map (·.length)).sum + (l.map fun c => S [c]).length * 0 ≤ 16777216
          rw [hsum]
          omega
        · show gName 4 (.str (Txt.join (S []) (l.map fun c => S [c]))) _ _ _
          rw [hjoin]
          have nDa : D ≠ a := by
            obtain ⟨d, sd, c, ha⟩ := id s2
            exact (ne_of_none ha hD).symm
          have hDH : H D = none := b2.none_of nDa hD
          have fin : ∀ (r : List Nat) (H4 : Hp) (p : Addr), (∀ c ∈ r, c ∈ sg) → r.length ≤ 1 → r.length < l.length → Src H4 a → But a H3 H4 → H4 p = none → Q (.ref p) (upd H4 p (.tup (rTup (l, r)))) := by
            intro r H4 p hr0 hr1 hr2 s4 b4 hp
            have npa : p ≠ a := by
              obtain ⟨d, sd, c, ha⟩ := id s4
              exact (ne_of_none ha hp).symm
            refine k (l, r) p _ ⟨by show 1 ≤ l.length; omega, by show l.length ≤ m.toNat; omega, hc, hr0, hr1, hr2⟩ ?_ ?_ ?_ upd_same
            · obtain ⟨d, sd, c, ha⟩ := id s4
              exact ⟨d, sd, c, by rw [upd_ne npa.symm]; exact ha⟩
            · exact ((b2.trans b3).trans b4).trans (But.same (same_new hp))
            · exact ((b2.trans b3).trans b4).none_of npa hp
          walk_at "rd"
          refine ite2 (fun c0 => ?_) (fun c0 => ?_)
          · refine iteT ?_
            walk_at "rd"
            refine ⟨by walk_at "sz", fun p hp => ?_⟩
            exact fin [] H3 p (by simp) (by simp) (by show 0 < l.length; omega) s3 (But.refl a H3) hp
          · have hz : ¬ z = 1 := fun e => c0 (by rw [e]; rfl)
            walk_at "rd"
            refine ⟨_, _, rfl, s3, by decide, by decide, fun r H4 r0 r1 s4 b4 => ?_⟩
            walk_at "rd"
            refine ite2 (fun c1 => ?_) (fun c1 => ?_)
            · walk_at "rd"
              refine ⟨by walk_at "sz", fun p hp => ?_⟩
              exact fin [] H4 p (by simp) (by simp) (by show 0 < l.length; omega) s4 b4 hp
            · walk_at "rd"
              refine ⟨_, _, rfl, s4, by rw [S_len]; omega, by rw [S_len]; omega, fun r2 H5 r20 r21 s5 b5 => ?_⟩
              rw [S_len] at r21
              have hr2 : r2.toNat < sg.length := by omega
              refine ⟨_, r2, sg[r2.toNat], rfl, rfl, sz_S (by omega), atI_at r20 (by show sg[r2.toNat]? = _; simp [hr2]), ?_⟩
              refine ⟨by walk_at "sz", fun p hp => ?_⟩
              exact fin [sg[r2.toNat]] H5 p (by intro c hc; rw [List.mem_singleton] at hc; rw [hc]; exact List.getElem_mem hr2) (by simp) (by show 1 < l.length; omega) s5 (b4.trans b5) hp
end
end Sh
/-! texts, rules, piles, ends: plain Lean -/
namespace Bk
abbrev T := List Nat
abbrev Rule := T × T

def fits (p : T) (r : Rule) : Bool := r.1.isSuffixOf p
def useR (p : T) (r : Rule) : T := p.take (p.length - r.1.length) ++ r.2
def used (R : List Rule) (p : T) : Option T := (R.find? (fits p)).map (useR p)
def drain (R : List Rule) : Nat → T → T
  | 0, p => p
  | n + 1, p => match used R p with
    | none => p
    | some q => drain R n q
def pushS (R : List Rule) (p : T) (c : Nat) : T := drain R (p.length + 1) (p ++ [c])
def left (R : List Rule) (t : T) : T := t.foldl (pushS R) []

/-- every right side is shorter than its left side and has at most one sign -/
def Wf (R : List Rule) : Prop := ∀ r ∈ R, r.2.length < r.1.length ∧ r.2.length ≤ 1

inductive Step (R : List Rule) : T → T → Prop where
  | mk (x y : T) (r : Rule) (h : r ∈ R) : Step R (x ++ r.1 ++ y) (x ++ r.2 ++ y)
inductive Reach (R : List Rule) : T → T → Prop where
  | refl (t : T) : Reach R t t
  | step {a b c : T} : Step R a b → Reach R b c → Reach R a c
def IsEnd (R : List Rule) (t : T) : Prop := ∀ u, ¬ Step R t u

theorem Reach.trans {R : List Rule} {a b c : T} (h : Reach R a b) (k : Reach R b c) : Reach R a c := by
  induction h with
  | refl => exact k
  | step s _ ih => exact .step s (ih k)
theorem Step.ctx {R : List Rule} {a b : T} (x y : T) (h : Step R a b) : Step R (x ++ a ++ y) (x ++ b ++ y) := by
  cases h with
  | mk p q r hr =>
    have := Step.mk (R := R) (x ++ p) (q ++ y) r hr
    simpa [List.append_assoc] using this
theorem Reach.ctx {R : List Rule} {a b : T} (x y : T) (h : Reach R a b) : Reach R (x ++ a ++ y) (x ++ b ++ y) := by
  induction h with
  | refl => exact .refl _
  | step s _ ih => exact .step (s.ctx x y) ih
theorem Step.len {R : List Rule} (w : Wf R) {a b : T} (h : Step R a b) : b.length < a.length := by
  cases h with
  | mk p q r hr => have := (w r hr).1; simp; omega
theorem Reach.len {R : List Rule} (w : Wf R) {a b : T} (h : Reach R a b) : b.length ≤ a.length := by
  induction h with
  | refl => exact Nat.le_refl _
  | step s _ ih => have := s.len w; omega

theorem fits_iff {p : T} {r : Rule} : fits p r = true ↔ ∃ x, p = x ++ r.1 := by
  unfold fits
  rw [List.isSuffixOf_iff_suffix]
  constructor
  · rintro ⟨x, h⟩; exact ⟨x, h.symm⟩
  · rintro ⟨x, h⟩; exact ⟨x, h.symm⟩
theorem useR_app {x : T} {r : Rule} : useR (x ++ r.1) r = x ++ r.2 := by
  unfold useR
  simp
theorem used_some {R : List Rule} {p q : T} (h : used R p = some q) : ∃ x r, r ∈ R ∧ p = x ++ r.1 ∧ q = x ++ r.2 := by
  unfold used at h
  cases e : R.find? (fits p) with
  | none => rw [e] at h; cases h
  | some r =>
    rw [e] at h
    have hr := List.mem_of_find?_eq_some e
    have hf := List.find?_some e
    obtain ⟨x, hx⟩ := fits_iff.mp hf
    subst hx
    simp only [Option.map_some, Option.some.injEq] at h
    rw [useR_app] at h
    exact ⟨x, r, hr, rfl, h.symm⟩
theorem used_none {R : List Rule} {p : T} (h : used R p = none) : ∀ r ∈ R, ∀ x, p ≠ x ++ r.1 := by
  intro r hr x e
  unfold used at h
  rw [Option.map_eq_none_iff, List.find?_eq_none] at h
  exact h r hr (fits_iff.mpr ⟨x, e⟩)
theorem used_step {R : List Rule} {p q : T} (h : used R p = some q) : Step R p q := by
  obtain ⟨x, r, hr, rfl, rfl⟩ := used_some h
  have := Step.mk (R := R) x [] r hr
  simpa using this
theorem drain_reach {R : List Rule} : ∀ (n : Nat) (p : T), Reach R p (drain R n p)
  | 0, p => .refl _
  | n + 1, p => by
    unfold drain
    split
    · exact .refl _
    · next q h => exact .step (used_step h) (drain_reach n q)
theorem drain_none {R : List Rule} (w : Wf R) : ∀ (n : Nat) (p : T), p.length ≤ n → used R (drain R n p) = none
  | 0, p, h => by
    have : p = [] := by cases p with | nil => rfl | cons => simp at h
    subst this
    unfold drain
    cases e : used R [] with
    | none => rfl
    | some q => have := (used_step e).len w; simp at this
  | n + 1, p, h => by
    unfold drain
    split
    · next e => exact e
    · next q e =>
      have := (used_step e).len w
      exact drain_none w n q (by omega)
/-- all but the last sign is an end -/
def Near (R : List Rule) (p : T) : Prop := ∃ x y, p = x ++ y ∧ y.length ≤ 1 ∧ IsEnd R x
theorem isEnd_iff {R : List Rule} {t : T} : IsEnd R t ↔ ∀ r ∈ R, ∀ x y, t ≠ x ++ r.1 ++ y := by
  constructor
  · intro h r hr x y e
    exact h (x ++ r.2 ++ y) (e ▸ Step.mk x y r hr)
  · intro h u s
    cases s with
    | mk x y r hr => exact h r hr x y rfl
theorem IsEnd.pre {R : List Rule} {x y : T} (h : IsEnd R (x ++ y)) : IsEnd R x := by
  rw [isEnd_iff] at h ⊢
  intro r hr a b e
  refine h r hr a (b ++ y) ?_
  rw [e]; simp [List.append_assoc]
theorem IsEnd.infix {R : List Rule} {x y z : T} (h : IsEnd R (x ++ y ++ z)) : IsEnd R y := by
  rw [isEnd_iff] at h ⊢
  intro r hr a b e
  refine h r hr (x ++ a) (b ++ z) ?_
  rw [e]; simp [List.append_assoc]
theorem near_end {R : List Rule} (w : Wf R) {p : T} (h : Near R p) (hu : used R p = none) : IsEnd R p := by
  obtain ⟨x, y, rfl, hy, hx⟩ := h
  rw [isEnd_iff] at hx ⊢
  intro r hr a b e
  rcases List.append_eq_append_iff.mp e with ⟨c, e1, e2⟩ | ⟨c, e1, e2⟩
  · -- a ++ r.1 = x ++ c, y = c ++ b
    cases b with
    | nil => exact used_none hu r hr a (by rw [e]; simp)
    | cons b0 b' =>
      have : c = [] := by
        cases c with
        | nil => rfl
        | cons c0 c' =>
          have q := congrArg List.length e2
          simp at q
          omega
      subst this
      exact hx r hr a [] (by simpa using e1.symm)
  · exact hx r hr a c e1
theorem near_used {R : List Rule} (w : Wf R) {p q : T} (h : Near R p) (hu : used R p = some q) : Near R q := by
  obtain ⟨x, y, rfl, hy, hx⟩ := h
  obtain ⟨a, r, hr, e, rfl⟩ := used_some hu
  refine ⟨a, r.2, rfl, (w r hr).2, ?_⟩
  have hl := (w r hr).1
  rcases List.append_eq_append_iff.mp e with ⟨c, e1, e2⟩ | ⟨c, e1, e2⟩
  · -- a = x ++ c, y = c ++ r.1
    have : c = [] := by
      cases c with
      | nil => rfl
      | cons c0 c' =>
        have q := congrArg List.length e2
        simp at q
        omega
    subst this
    simp at e1
    rw [e1]; exact hx
  · rw [e1] at hx; exact hx.pre
theorem near_drain {R : List Rule} (w : Wf R) : ∀ (n : Nat) (p : T), Near R p → p.length ≤ n → IsEnd R (drain R n p)
  | 0, p, h, hn => by
    have hu := drain_none w 0 p hn
    exact near_end w h hu
  | n + 1, p, h, hn => by
    unfold drain
    split
    · next e => exact near_end w h e
    · next q e =>
      have := (used_step e).len w
      exact near_drain w n q (near_used w h e) (by omega)
theorem push_end {R : List Rule} (w : Wf R) {p : T} {c : Nat} (h : IsEnd R p) : IsEnd R (pushS R p c) :=
  near_drain w _ _ ⟨p, [c], rfl, Nat.le_refl _, h⟩ (by simp)
theorem foldl_end {R : List Rule} (w : Wf R) : ∀ (t p : T), IsEnd R p → IsEnd R (t.foldl (pushS R) p)
  | [], _, h => h
  | c :: t, p, h => foldl_end w t _ (push_end w h)
theorem end_nil {R : List Rule} (w : Wf R) : IsEnd R [] := by
  intro u s
  have := s.len w
  simp at this
theorem left_end {R : List Rule} (w : Wf R) (t : T) : IsEnd R (left R t) := foldl_end w t [] (end_nil w)
theorem foldl_reach {R : List Rule} : ∀ (t p : T), Reach R (p ++ t) (t.foldl (pushS R) p)
  | [], p => by simpa using Reach.refl (R := R) p
  | c :: t, p => by
    have h1 : Reach R (p ++ [c]) (pushS R p c) := drain_reach _ _
    have h2 := h1.ctx [] t
    have h3 := foldl_reach (R := R) t (pushS R p c)
    simp only [List.nil_append, List.append_assoc, List.singleton_append] at h2
    exact h2.trans h3
theorem left_reach {R : List Rule} (t : T) : Reach R t (left R t) := by
  exact foldl_reach (R := R) t []
theorem reach_end {R : List Rule} {a b : T} (h : IsEnd R a) (k : Reach R a b) : b = a := by
  cases k with
  | refl => rfl
  | step s _ => exact absurd s (h _)
theorem left_of_end {R : List Rule} {t : T} (h : IsEnd R t) : left R t = t := reach_end h (left_reach t)

/-! ### overlaps -/
def Join (R : List Rule) (a b : T) : Prop := ∃ c, Reach R a c ∧ Reach R b c
theorem Join.symm {R : List Rule} {a b : T} (h : Join R a b) : Join R b a := by
  obtain ⟨c, h1, h2⟩ := h; exact ⟨c, h2, h1⟩
theorem Join.ctx {R : List Rule} {a b : T} (x y : T) (h : Join R a b) : Join R (x ++ a ++ y) (x ++ b ++ y) := by
  obtain ⟨c, h1, h2⟩ := h; exact ⟨_, h1.ctx x y, h2.ctx x y⟩

/-- the overlap of a with b at a place below the length of a: the text, if they agree -/
def over (a b : T) (k : Nat) : Option T :=
  if (a.drop k).take (min (a.length - k) b.length) = b.take (min (a.length - k) b.length) then some (a ++ b.drop (min (a.length - k) b.length)) else none
/-- both results -/
def res1 (r : Rule) (t : T) : T := r.2 ++ t.drop r.1.length
def res2 (r : Rule) (t : T) (k : Nat) : T := t.take k ++ r.2 ++ t.drop (k + r.1.length)
/-- the overlaps of all pairs of rules, each with equal ends -/
def Meets (R : List Rule) : Prop := ∀ r ∈ R, ∀ q ∈ R, ∀ k, k < r.1.length → ∀ t, over r.1 q.1 k = some t → left R (res1 r t) = left R (res2 q t k)

theorem over_app {p b y a z : T} (h : p ++ b ++ y = a ++ z) (hk : p.length < a.length) :
    ∃ t y', over a b p.length = some t ∧ p ++ b ++ y = t ++ y' ∧ t.drop a.length ++ y' = z ∧ t.drop (p.length + b.length) ++ y' = y ∧ t.take p.length = p := by
  have hlen : (p ++ b ++ y).length = (a ++ z).length := by rw [h]
  simp at hlen
  rw [List.append_assoc] at h
  rcases List.append_eq_append_iff.mp h with ⟨c, e1, e2⟩ | ⟨c, e1, e2⟩
  · -- a = p ++ c, b ++ y = c ++ z
    subst e1
    rcases List.append_eq_append_iff.mp e2 with ⟨d, e3, e4⟩ | ⟨d, e3, e4⟩
    · -- c = b ++ d, y = d ++ z : b within a
      subst e3; subst e4
      refine ⟨p ++ (b ++ d), z, ?_, ?_, ?_, ?_, ?_⟩
      · unfold over
        have : min ((p ++ (b ++ d)).length - p.length) b.length = b.length := by simp
        rw [this]
        simp
      · simp [List.append_assoc]
      · simp
      · rw [← List.append_assoc p b d, ← List.length_append, List.drop_left]
      · simp
    · -- b = c ++ d, z = d ++ y
      subst e3; subst e4
      refine ⟨p ++ c ++ d, y, ?_, ?_, ?_, ?_, ?_⟩
      · unfold over
        have : min ((p ++ c).length - p.length) (c ++ d).length = c.length := by simp
        rw [this]
        simp
      · simp [List.append_assoc]
      · rw [List.drop_left]
      · simp [← Nat.add_assoc]
      · simp [List.append_assoc]
  · -- p = a ++ c
    subst e1
    simp at hk
    omega
theorem local_le {R : List Rule} (M : Meets R) {x1 y1 x2 y2 : T} {r q : Rule} (hr : r ∈ R) (hq : q ∈ R) (e : x1 ++ r.1 ++ y1 = x2 ++ q.1 ++ y2) (hl : x1.length ≤ x2.length) :
    Join R (x1 ++ r.2 ++ y1) (x2 ++ q.2 ++ y2) := by
  have e' : x1 ++ (r.1 ++ y1) = x2 ++ (q.1 ++ y2) := by simpa [List.append_assoc] using e
  obtain ⟨p, hp⟩ : ∃ p, x2 = x1 ++ p := by
    rcases List.append_eq_append_iff.mp e' with ⟨c, e1, _⟩ | ⟨c, e1, _⟩
    · exact ⟨c, e1⟩
    · have : c = [] := by
        have := congrArg List.length e1
        simp at this
        cases c with
        | nil => rfl
        | cons => simp at this; omega
      subst this
      exact ⟨[], by simpa using e1.symm⟩
  subst hp
  have e2 : r.1 ++ y1 = p ++ (q.1 ++ y2) := by
    rw [List.append_assoc] at e'
    exact List.append_cancel_left e'
  by_cases hk : p.length < r.1.length
  · obtain ⟨t, y', ho, _, hz, hy, htk⟩ := over_app (p := p) (b := q.1) (y := y2) (a := r.1) (z := y1) (by rw [e2, List.append_assoc]) hk
    have m := M r hr q hq p.length hk t ho
    have j : Join R (res1 r t) (res2 q t p.length) := ⟨_, left_reach _, m ▸ left_reach _⟩
    have j2 := j.ctx x1 y'
    have a1 : x1 ++ res1 r t ++ y' = x1 ++ r.2 ++ y1 := by
      unfold res1; rw [← hz]; simp [List.append_assoc]
    have a2 : x1 ++ res2 q t p.length ++ y' = x1 ++ p ++ q.2 ++ y2 := by
      unfold res2; rw [← hy, htk]; simp [List.append_assoc]
    rw [a1, a2] at j2
    exact j2
  · -- apart
    obtain ⟨m, hm⟩ : ∃ m, p = r.1 ++ m := by
      rcases List.append_eq_append_iff.mp e2 with ⟨c, e1, _⟩ | ⟨c, e1, _⟩
      · exact ⟨c, e1⟩
      · have : c = [] := by
          have := congrArg List.length e1
          simp at this
          cases c with
          | nil => rfl
          | cons => simp at this; omega
        subst this
        exact ⟨[], by simpa using e1.symm⟩
    subst hm
    have hy1 : y1 = m ++ (q.1 ++ y2) := by
      rw [List.append_assoc] at e2
      exact List.append_cancel_left e2
    subst hy1
    refine ⟨x1 ++ r.2 ++ m ++ q.2 ++ y2, ?_, ?_⟩
    · have := Step.mk (R := R) (x1 ++ r.2 ++ m) y2 q hq
      refine .step ?_ (.refl _)
      simpa [List.append_assoc] using this
    · have := Step.mk (R := R) x1 (m ++ q.2 ++ y2) r hr
      refine .step ?_ (.refl _)
      simpa [List.append_assoc] using this
theorem local_conf {R : List Rule} (M : Meets R) {s a b : T} (h : Step R s a) (k : Step R s b) : Join R a b := by
  generalize hs : s = s' at k
  cases h with
  | mk x1 y1 r hr =>
    cases k with
    | mk x2 y2 q hq =>
      by_cases hl : x1.length ≤ x2.length
      · exact local_le M hr hq hs hl
      · exact (local_le M hq hr hs.symm (by omega)).symm
/-- in a book whose overlaps meet each text has one end -/
theorem one_end {R : List Rule} (w : Wf R) (M : Meets R) : ∀ (n : Nat) (s : T), s.length ≤ n → ∀ a b, Reach R s a → Reach R s b → IsEnd R a → IsEnd R b → a = b
  | n, s, hn, a, b, ha, hb, ea, eb => by
    cases ha with
    | refl => exact (reach_end ea hb).symm
    | step s1 r1 =>
      cases hb with
      | refl => exact absurd s1 (eb _)
      | step s2 r2 =>
        rename_i u v
        cases n with
        | zero => have := s1.len w; omega
        | succ n =>
          have l1 := s1.len w
          have l2 := s2.len w
          obtain ⟨c, c1, c2⟩ := local_conf M s1 s2
          have z1 := one_end w M n u (by omega) a (left R c) r1 (c1.trans (left_reach c)) ea (left_end w c)
          have z2 := one_end w M n v (by omega) b (left R c) r2 (c2.trans (left_reach c)) eb (left_end w c)
          rw [z1, z2]
theorem left_eq {R : List Rule} (w : Wf R) (M : Meets R) {s a : T} (h : Reach R s a) : left R s = left R a :=
  one_end w M s.length s (Nat.le_refl _) _ _ (left_reach s) (h.trans (left_reach a)) (left_end w s) (left_end w a)
/-- pieces may be shrunk apart -/
theorem left_app {R : List Rule} (w : Wf R) (M : Meets R) (x y : T) : left R (x ++ y) = left R (left R x ++ left R y) := by
  refine left_eq w M ?_
  have h1 := (left_reach (R := R) x).ctx [] y
  have h2 := (left_reach (R := R) y).ctx (left R x) []
  simp only [List.nil_append, List.append_nil] at h1 h2
  exact h1.trans h2
theorem left_congr {R : List Rule} (w : Wf R) (M : Meets R) {x x' y y' : T} (h : left R x = left R x') (k : left R y = left R y') : left R (x ++ y) = left R (x' ++ y') := by
  rw [left_app w M x y, left_app w M x' y', h, k]

/-! ### exchanging signs -/
def Swap (R : List Rule) (x y : T) : Prop := left R (x ++ y) = left R (y ++ x)
theorem Swap.app {R : List Rule} (w : Wf R) (M : Meets R) {x y z : T} (h : Swap R x z) (k : Swap R y z) : Swap R (x ++ y) z := by
  unfold Swap at *
  have e1 : left R (x ++ y ++ z) = left R (x ++ z ++ y) := by
    rw [List.append_assoc, List.append_assoc]
    exact left_congr w M rfl k
  have e2 : left R (x ++ z ++ y) = left R (z ++ x ++ y) := left_congr w M h rfl
  rw [e1, e2, List.append_assoc]
theorem Swap.symm {R : List Rule} {x y : T} (h : Swap R x y) : Swap R y x := Eq.symm h
theorem swap_all {R : List Rule} (w : Wf R) (M : Meets R) {s : List Nat} (h : ∀ a ∈ s, ∀ b ∈ s, Swap R [a] [b]) :
    ∀ x y : T, (∀ c ∈ x, c ∈ s) → (∀ c ∈ y, c ∈ s) → Swap R x y := by
  have one : ∀ (a : Nat), a ∈ s → ∀ y : T, (∀ c ∈ y, c ∈ s) → Swap R y [a] := by
    intro a ha y
    induction y with
    | nil => intro _; unfold Swap; simp
    | cons b y ih =>
      intro hy
      exact Swap.app (x := [b]) (y := y) w M (h b (hy b List.mem_cons_self) a ha) (ih fun c hc => hy c (List.mem_cons_of_mem _ hc))
  intro x
  induction x with
  | nil => intro y _ _; unfold Swap; simp
  | cons a x ih =>
    intro y hx hy
    exact Swap.app (x := [a]) (y := x) w M (one a (hx a List.mem_cons_self) y hy).symm (ih y (fun c hc => hx c (List.mem_cons_of_mem _ hc)) hy)
end Bk
/-! the pile of the program: rules by their left sides; plain Lean -/
namespace Bk
def firstAt : List Rule → Nat → T → Option (Nat × T)
  | [], _, _ => none
  | r :: R, k, l => if r.1 = l then some (k, r.2) else firstAt R (k + 1) l
theorem firstAt_app (R Q : List Rule) (k : Nat) (l : T) : firstAt (R ++ Q) k l = match firstAt R k l with
    | some z => some z
    | none => firstAt Q (k + R.length) l := by
  induction R generalizing k with
  | nil => simp [firstAt]
  | cons r R ih =>
    simp only [List.cons_append, firstAt]
    by_cases h : r.1 = l
    · simp [h]
    · simp only [h, if_false]
      rw [ih (k + 1)]
      have : k + 1 + R.length = k + (r :: R).length := by simp; omega
      rw [this]
theorem firstAt_snoc (R : List Rule) (r : Rule) (l : T) : firstAt (R ++ [r]) 0 l = match firstAt R 0 l with
    | some z => some z
    | none => if r.1 = l then some (R.length, r.2) else none := by
  rw [firstAt_app]
  simp [firstAt]
theorem firstAt_snoc_some {R : List Rule} (r : Rule) {l : T} {z : Nat × T} (h : firstAt R 0 l = some z) : firstAt (R ++ [r]) 0 l = some z := by
  rw [firstAt_snoc, h]
theorem firstAt_snoc_none {R : List Rule} (r : Rule) {l : T} (h : firstAt R 0 l = none) : firstAt (R ++ [r]) 0 l = if r.1 = l then some (R.length, r.2) else none := by
  rw [firstAt_snoc, h]
theorem firstAt_none {R : List Rule} {k : Nat} {l : T} : firstAt R k l = none ↔ ∀ r ∈ R, r.1 ≠ l := by
  induction R generalizing k with
  | nil => simp [firstAt]
  | cons r R ih =>
    simp only [firstAt, List.mem_cons, forall_eq_or_imp]
    by_cases h : r.1 = l
    · simp [h]
    · simp [h, ih]
theorem firstAt_some {R : List Rule} {k j : Nat} {l s : T} (h : firstAt R k l = some (j, s)) : k ≤ j ∧ R[j - k]? = some (l, s) ∧ ∀ i, i < j - k → ∀ r, R[i]? = some r → r.1 ≠ l := by
  induction R generalizing k with
  | nil => simp [firstAt] at h
  | cons r R ih =>
    simp only [firstAt] at h
    by_cases hr : r.1 = l
    · rw [if_pos hr] at h
      simp only [Option.some.injEq, Prod.mk.injEq] at h
      obtain ⟨rfl, rfl⟩ := h
      refine ⟨Nat.le_refl _, by simp [← hr], fun i hi => by omega⟩
    · rw [if_neg hr] at h
      obtain ⟨h1, h2, h3⟩ := ih h
      have e : j - k = (j - (k + 1)) + 1 := by omega
      refine ⟨by omega, by rw [e]; simpa using h2, fun i hi q hq => ?_⟩
      cases i with
      | zero => simp at hq; rw [← hq]; exact hr
      | succ i => exact h3 i (by omega) q (by simpa using hq)
/-- the length of the longest left side -/
def lg (R : List Rule) : Nat := (R.map (·.1.length)).foldl max 0
theorem foldl_max_le {l : List Nat} {a : Nat} : a ≤ l.foldl max a ∧ ∀ x ∈ l, x ≤ l.foldl max a := by
  induction l generalizing a with
  | nil => simp
  | cons b l ih =>
    obtain ⟨h1, h2⟩ := ih (a := max a b)
    simp only [List.foldl_cons, List.mem_cons, forall_eq_or_imp]
    exact ⟨Nat.le_trans (Nat.le_max_left _ _) h1, Nat.le_trans (Nat.le_max_right _ _) h1, h2⟩
theorem foldl_max_mem {l : List Nat} {a : Nat} : l.foldl max a = a ∨ l.foldl max a ∈ l := by
  induction l generalizing a with
  | nil => simp
  | cons b l ih =>
    simp only [List.foldl_cons, List.mem_cons]
    rcases ih (a := max a b) with h | h
    · rw [h]
      rcases Nat.le_total a b with q | q
      · right; left; exact Nat.max_eq_right q
      · left; exact Nat.max_eq_left q
    · exact .inr (.inr h)
theorem lg_le {R : List Rule} {r : Rule} (h : r ∈ R) : r.1.length ≤ lg R := foldl_max_le.2 _ (List.mem_map_of_mem h)
theorem lg_eq {R : List Rule} {m : Nat} (h1 : m ∈ 0 :: R.map (·.1.length)) (h2 : ∀ y ∈ 0 :: R.map (·.1.length), y ≤ m) : m = lg R := by
  have a : lg R ≤ m := by
    rcases foldl_max_mem (l := R.map (·.1.length)) (a := 0) with h | h
    · unfold lg; rw [h]; exact Nat.zero_le _
    · exact h2 _ (List.mem_cons_of_mem _ h)
  have b : m ≤ lg R := by
    rcases List.mem_cons.mp h1 with h | h
    · rw [h]; exact Nat.zero_le _
    · exact foldl_max_le.2 _ h
  omega
/-- the best rule of left sides up to i signs: its number, its size, its right side -/
def bestUp (R : List Rule) (t : T) : Nat → Option (Nat × Nat × T)
  | 0 => none
  | i + 1 => match firstAt R 0 (t.drop (t.length - (i + 1))) with
    | none => bestUp R t i
    | some (k, r) => match bestUp R t i with
      | none => some (k, i + 1, r)
      | some b => if k < b.1 then some (k, i + 1, r) else some b
/-- rules with at most i signs that stand at the end -/
def Fit (R : List Rule) (t : T) (i k : Nat) (r : Rule) : Prop := R[k]? = some r ∧ 1 ≤ r.1.length ∧ r.1.length ≤ i ∧ ∃ x, t = x ++ r.1
theorem suffix_drop {t x l : T} (h : t = x ++ l) : t.drop (t.length - l.length) = l := by
  subst h; simp
theorem bestUp_spec (R : List Rule) (t : T) : ∀ i, i ≤ t.length → match bestUp R t i with
    | none => ∀ k r, ¬ Fit R t i k r
    | some (k, s, r) => (∃ l, Fit R t i k (l, r) ∧ l.length = s) ∧ ∀ k' r', Fit R t i k' r' → k ≤ k'
  | 0, _ => by
    simp only [bestUp]
    rintro k r ⟨_, h1, h2, _⟩
    omega
  | i + 1, hi => by
    have ih := bestUp_spec R t i (by omega)
    have wide : ∀ (k : Nat) (r : Rule), Fit R t (i + 1) k r → Fit R t i k r ∨ (r.1.length = i + 1 ∧ R[k]? = some r ∧ r.1 = t.drop (t.length - (i + 1))) := by
      rintro k r ⟨h1, h2, h3, x, hx⟩
      by_cases e : r.1.length = i + 1
      · exact .inr ⟨e, h1, by rw [← e]; exact (suffix_drop hx).symm⟩
      · exact .inl ⟨h1, h2, by omega, x, hx⟩
    have mono : ∀ (k : Nat) (r : Rule), Fit R t i k r → Fit R t (i + 1) k r := fun k r ⟨h1, h2, h3, h4⟩ => ⟨h1, h2, by omega, h4⟩
    simp only [bestUp]
    cases hf : firstAt R 0 (t.drop (t.length - (i + 1))) with
    | none =>
      have hn := firstAt_none.mp hf
      have no : ∀ (k : Nat) (r : Rule), R[k]? = some r → r.1 ≠ t.drop (t.length - (i + 1)) := fun k r h => hn r (List.mem_of_getElem? h)
      cases hb : bestUp R t i with
      | none =>
        rw [hb] at ih
        intro k r h
        rcases wide k r h with q | ⟨_, q1, q2⟩
        · exact ih k r q
        · exact no k r q1 q2
      | some b =>
        obtain ⟨k, s, r⟩ := b
        rw [hb] at ih
        obtain ⟨⟨l, h1, h2⟩, h3⟩ := ih
        refine ⟨⟨l, mono _ _ h1, h2⟩, fun k' r' h => ?_⟩
        rcases wide k' r' h with q | ⟨_, q1, q2⟩
        · exact h3 k' r' q
        · exact absurd q2 (no k' r' q1)
    | some z =>
      obtain ⟨k, r⟩ := z
      obtain ⟨_, f2, f3⟩ := firstAt_some hf
      rw [Nat.sub_zero] at f2 f3
      have hl : (t.drop (t.length - (i + 1))).length = i + 1 := by rw [List.length_drop]; omega
      have new : Fit R t (i + 1) k (t.drop (t.length - (i + 1)), r) := ⟨f2, by simp only; omega, by simp only; omega, t.take (t.length - (i + 1)), by simp⟩
      have least : ∀ (k' : Nat) (r' : Rule), R[k']? = some r' → r'.1 = t.drop (t.length - (i + 1)) → k ≤ k' := fun k' r' h e => by
        rcases Nat.lt_or_ge k' k with q | q
        · exact absurd e (f3 k' q r' h)
        · exact q
      cases hb : bestUp R t i with
      | none =>
        rw [hb] at ih
        refine ⟨⟨_, new, hl⟩, fun k' r' h => ?_⟩
        rcases wide k' r' h with q | ⟨_, q1, q2⟩
        · exact absurd q (ih k' r')
        · exact least k' r' q1 q2
      | some b =>
        obtain ⟨kb, sb, rb⟩ := b
        rw [hb] at ih
        obtain ⟨⟨l, h1, h2⟩, h3⟩ := ih
        simp only
        by_cases hk : k < kb
        · rw [if_pos hk]
          refine ⟨⟨_, new, hl⟩, fun k' r' h => ?_⟩
          rcases wide k' r' h with q | ⟨_, q1, q2⟩
          · have := h3 k' r' q; omega
          · exact least k' r' q1 q2
        · rw [if_neg hk]
          refine ⟨⟨l, mono _ _ h1, h2⟩, fun k' r' h => ?_⟩
          rcases wide k' r' h with q | ⟨_, q1, q2⟩
          · exact h3 k' r' q
          · have := least k' r' q1 q2; omega
theorem find_least {R : List Rule} {p : Rule → Bool} {k : Nat} {r : Rule} (h1 : R[k]? = some r) (h2 : p r = true) (h3 : ∀ k' r', R[k']? = some r' → p r' = true → k ≤ k') : R.find? p = some r := by
  induction R generalizing k with
  | nil => simp at h1
  | cons a R ih =>
    cases k with
    | zero =>
      simp at h1
      subst h1
      simp [h2]
    | succ k =>
      have ha : p a = false := by
        cases e : p a with
        | false => rfl
        | true => have := h3 0 a (by simp) e; omega
      rw [List.find?_cons, ha]
      exact ih (k := k) (by simpa using h1) (fun k' r' q1 q2 => by have := h3 (k' + 1) r' (by simpa using q1) q2; omega)
/-- what the program finds is what the first fitting rule gives -/
theorem used_best {R : List Rule} (w : Wf R) (t : T) : used R t = (bestUp R t (min (lg R) t.length)).map fun b => t.take (t.length - b.2.1) ++ b.2.2 := by
  have sp := bestUp_spec R t (min (lg R) t.length) (by omega)
  have full : ∀ (k : Nat) (r : Rule), R[k]? = some r → fits t r = true → Fit R t (min (lg R) t.length) k r := by
    intro k r h f
    obtain ⟨x, hx⟩ := fits_iff.mp f
    have hm := List.mem_of_getElem? h
    have h1 := (w r hm).1
    have h2 := lg_le hm
    have h3 : r.1.length ≤ t.length := by rw [hx]; simp
    exact ⟨h, by omega, by omega, x, hx⟩
  cases hb : bestUp R t (min (lg R) t.length) with
  | none =>
    rw [hb] at sp
    simp only [Option.map_none]
    unfold used
    rw [Option.map_eq_none_iff, List.find?_eq_none]
    intro r hr f
    obtain ⟨k, hk, rfl⟩ := List.mem_iff_getElem.mp hr
    exact sp k R[k] (full k R[k] (by simp [hk]) f)
  | some b =>
    obtain ⟨k, s, r⟩ := b
    rw [hb] at sp
    obtain ⟨⟨l, ⟨h1, h2, h3, x, hx⟩, hs⟩, h4⟩ := sp
    have hf : R.find? (fits t) = some (l, r) := find_least h1 (fits_iff.mpr ⟨x, hx⟩) (fun k' r' q1 q2 => h4 k' r' (full k' r' q1 q2))
    unfold used
    rw [hf]
    simp only [Option.map_some, useR, hs]
end Bk
set_option Elab.async false
set_option linter.all false
set_option maxRecDepth 100000
set_option maxHeartbeats 4000000
namespace Sh
open PySem PySem.Spec PyProof.Rows L2
open SX (S S_inj S_len S_cat)
open Bk (Rule firstAt lg bestUp used left drain pushS Wf)
local macro_rules | `(tactic| walk_at "nx") => `(tactic| repeat (with_reducible first | refine Sh.gn_mk ?_ | refine Sh.nx_mk ?_ | refine Sh.st_nx ?_ | refine Sh.rt_mk ?_ | refine Sh.ct_mk ?_ | refine Sh.bk_mk ?_))
local macro_rules | `(tactic| walk_at "sq") => `(tactic| first | exact SqL.of upd_same | exact SqT.of upd_same | exact SqL.of (by assumption) | exact SqT.of (by assumption) | assumption | exact Or.inl (SqL.of (by assumption)) | exact Or.inr (SqT.of (by assumption)) | exact Or.inl (by assumption) | exact Or.inr (by assumption))
local macro_rules | `(tactic| walk_at "hp") => `(tactic| first | exact upd_same | assumption)
local macro_rules | `(tactic| walk_at "sz") => `(tactic| first | exact Nat.le_of_ble_eq_true rfl | omega)
local macro_rules | `(tactic| walk_at "sd") => `(tactic| first | omega | exact rfl | assumption | (show (0 : Int) < _; omega) | exact And.intro (by omega) (by omega) | exact Or.inl (And.intro (by omega) (by omega)) | exact Or.inr (And.intro (by omega) (by omega)) | omega | exact Sh.sz_S (by omega) | decide)
local macro_rules | `(tactic| walk_at "rd1") => `(tactic| first
  | (with_reducible first | refine Sh.gn_mk ?_ | refine Sh.nx_mk ?_ | refine Sh.st_nx ?_ | refine Sh.rt_mk ?_ | refine Sh.ct_mk ?_ | refine Sh.bk_mk ?_)
  | refine Exists.intro (α := V) _ (And.intro rfl ?_)
  | refine Exists.intro (α := Bool) _ (And.intro rfl ?_)
  | refine Exists.intro (α := Int) _ (And.intro rfl ?_)
  | refine Exists.intro (α := PySem.Str) _ (And.intro rfl ?_)
  | refine Exists.intro (α := Int) _ (Exists.intro (α := Int) _ (And.intro rfl (And.intro rfl ?_)))
  | refine Exists.intro (α := PySem.Str) _ (Exists.intro (α := PySem.Str) _ (And.intro rfl (And.intro rfl ?_)))
  | refine Exists.intro (α := Int) _ (Exists.intro (α := Int) _ (And.intro rfl ?_))
  | refine Or.inl (Exists.intro (α := Int) _ (And.intro rfl ?_))
  | refine Exists.intro _ (Exists.intro _ (Exists.intro _ (Exists.intro _ (And.intro rfl (And.intro rfl (And.intro (by walk_at "sq") (And.intro rfl ?_)))))))
  | refine Exists.intro _ (Exists.intro _ (Exists.intro _ (Exists.intro _ (And.intro rfl (And.intro rfl (And.intro (by walk_at "hp") (And.intro rfl ?_)))))))
  | refine And.intro (by walk_at "sd") ?_
  )
local macro_rules | `(tactic| walk_at "rd") => `(tactic| repeat walk_at "rd1")
local macro_rules | `(tactic| walk_at "lk") => `(tactic| first | exact rfl | (rw [lookup_putF, if_pos rfl]) | (rw [lookup_putF, if_neg (by decide +kernel)]; walk_at "lk"))

section
variable {P : Program} {w : World} {K : PySem.W.Frag} {mg : Str → Option Value} {base : Heap}
/-! ### kinds of values -/
def tys : List String := ["NoneType", "bool", "int", "str", "list", "tuple", "dict"]
def isaB (n m : String) : Bool := n == m || (n == "bool" && m == "int")
theorem kit_all : ∀ n ∈ tys, ∀ m ∈ ["tuple", "list", "str", "int", "bool"], kitB n m = some (isaB n m) := by decide +kernel
theorem ty_tup {H : Hp} {a : Addr} {xs : List V} (h : SqT K H a xs) : TyX K H (.ref a) (.type "tuple") := by
  rcases h with (h | ⟨o, h⟩) | ⟨o, its, n, hk, hc, _⟩
  · exact .base (.tup h)
  · exact .fTuple h
  · exact .kTuple hk hc
theorem ty_lst {H : Hp} {a : Addr} {xs : List V} (h : SqL K H a xs) : TyX K H (.ref a) (.type "list") := by
  rcases h with (h | ⟨o, h⟩) | ⟨o, its, n, hk, hc, _⟩
  · exact .base (.lst h)
  · exact .base (.frz h)
  · exact .kList hk hc
def spListed (K : PySem.W.Frag) : Sp := fun vs H Q _ => ∃ (v : V) (n : String), vs = [v] ∧ TyX K H v (.type n) ∧ n ∈ tys ∧ Q (.bl (n == "tuple" || n == "list")) H
theorem isaB_tup {n : String} (h : n ∈ tys) : isaB n "tuple" = (n == "tuple") := by
  simp only [tys, List.mem_cons, List.not_mem_nil, or_false] at h
  rcases h with rfl | rfl | rfl | rfl | rfl | rfl | rfl <;> decide
theorem isaB_lst {n : String} (h : n ∈ tys) : isaB n "list" = (n == "list") := by
  simp only [tys, List.mem_cons, List.not_mem_nil, or_false] at h
  rcases h with rfl | rfl | rfl | rfl | rfl | rfl | rfl <;> decide
theorem isaB_str {n : String} (h : n ∈ tys) : isaB n "str" = (n == "str") := by
  simp only [tys, List.mem_cons, List.not_mem_nil, or_false] at h
  rcases h with rfl | rfl | rfl | rfl | rfl | rfl | rfl <;> decide
theorem c_is_listed (T : Txt K mg) : Cal P w K mg base CX0 1 "is_listed" (spListed K) := by
  refine Cal.mk0 T.d_is_listed sc_is_listed (fun vs H Q E h => ?_) (fun f cdv A outer s H vs Q E hr h => ?_)
  · obtain ⟨v, n, rfl, _⟩ := h
    rfl
  · obtain ⟨v, n, rfl, ht, hn, k⟩ := h
    refine ⟨_, (pss_one (ps_ret (pe_or (pe_callB call_isi (by rfl) T.b_isinstance (by decide +kernel) (pa_cons (pv 0) (pa_cons (pe_bltn (v := .ty "tuple") (by rfl) T.b_tuple (by decide +kernel) rfl) pa_nil))) (pe_one (pe_callB call_isi (by rfl) T.b_isinstance (by decide +kernel) (pa_cons (pv 0) (pa_cons (pe_bltn (v := .ty "list") (by rfl) T.b_list (by decide +kernel) rfl) pa_nil))))))), ?_⟩
    walk_at "rd"
    refine ⟨_, _, _, _, _, rfl, .ty _, ht, kit_ty (kit_all _ hn _ (by decide)), _, rfl, ?_⟩
    rw [isaB_tup hn]
    by_cases c : (n == "tuple") = true
    · rw [c] at k ⊢
      exact iteT k
    · rw [Bool.not_eq_true] at c
      rw [c] at k ⊢
      refine iteF ?_
      walk_at "rd"
      refine ⟨_, _, _, _, _, rfl, .ty _, ht, kit_ty (kit_all _ hn _ (by decide)), ?_⟩
      rw [isaB_lst hn]
      exact k
/-! ### signs -/
def letters : List Nat := (Str.ofString "abcdefghijklmnopqrstuvwxyz").cps.toList
def okAt (sg : List Nat) (k : Nat) : Bool := decide (sg.getD k 0 ∈ letters) && (k == 0 || decide ([sg.getD (k - 1) 0] < [sg.getD k 0]))
def isSigns (sg : List Nat) : Bool := decide (1 ≤ sg.length) && decide (sg.length ≤ 8) && (List.range sg.length).all (okAt sg)
theorem menu_signs : ∀ sg ∈ sgMenu, isSigns sg = true := by decide +kernel
theorem menu_len : ∀ sg ∈ sgMenu, 0 < sg.length ∧ sg.length ≤ 3 := by decide +kernel
/-- is_signs of a text -/
def spIsSigns : Sp := fun vs H Q _ => ∃ sg : List Nat, vs = [.str (S sg)] ∧ sg.length ≤ 1000000 ∧ Q (.bl (isSigns sg)) H
theorem getD_some {l : List Nat} {k : Nat} (h : k < l.length) : l[k]? = some (l.getD k 0) := by
  rw [List.getD_eq_getElem?_getD, List.getElem?_eq_getElem h]; rfl
theorem c_is_signs (T : Txt K mg) : Cal P w K mg base CX0 1 "is_signs" spIsSigns := by
  refine Cal.mk0 T.d_is_signs sc_is_signs (fun vs H Q E h => ?_) (fun f cdv A outer s H vs Q E hr h => ?_)
  · obtain ⟨sg, rfl, _⟩ := h
    rfl
  · obtain ⟨sg, rfl, hl, k⟩ := h
    refine ⟨_, (pss_cons (ps_if (PW.pt (pw_or (pt_not (pt_val (pe_callB call_isi (by rfl) T.b_isinstance (by decide +kernel) (pa_cons (pv 0) (pa_cons (pe_bltn (v := .ty "str") (by rfl) T.b_str (by decide +kernel) rfl) pa_nil))))) (pw_or1 (pt_not (pt_chain op_le op_le pe_int (pe_callB call_len_str (by rfl) T.b_len (by decide +kernel) (pa_cons (pv 0) pa_nil)) pe_int)))))
    (pss_one (ps_ret pe_bl))
    pss_nil)
  (pss_cons (ps_for PassesOwn.never rfl (pi_range1 (by rfl) T.b_range (pa_cons (pe_callB call_len_str (by rfl) T.b_len (by decide +kernel) (pa_cons (pv 0) pa_nil)) pa_nil)) (pg_name (i := 1) sc_is_signs.nd rfl (Or.inl rfl))
    (pss_one (ps_if (PW.pt (pw_or (pt_cmpR op_notIn_sign (pe_ix ix_str (pv 0) (pv 1) (fun _ _ => rfl)) (pe_gK rfl T.g_LETTERS) (by rfl)) (pw_or1 (PW.pt (pw_and (pt_cmpR op_gt (pv 1) pe_int (nomark _)) (pw_and1 (pt_cmpR op_ge_str (pe_ix ix_str (pv 0) (pe_op op_sub (pv 1) pe_int) (fun _ _ => rfl)) (pe_ix ix_str (pv 0) (pv 1) (fun _ _ => rfl)) (nomark _))))))))
      (pss_one (ps_ret pe_bl))
      pss_nil)))
  (pss_one (ps_ret pe_bl)))), ?_⟩
    walk_at "rd"
    refine ⟨_, _, _, _, _, rfl, .ty _, .base (.str _), kit_ty (r := true) (by decide +kernel), _, rfl, ?_⟩
    refine iteF ?_
    have hSl := S_len sg
    have bad : ∀ b : Bool, isSigns sg = b → Q (.bl b) H := fun b e => e ▸ k
    walk_at "rd"
    refine ite2 (fun c0 => ?_) (fun c0 => ?_)
    · have c0' : (1 : Int) ≤ (S sg).length := of_decide_eq_true c0
      walk_at "rd"
      refine ite2 (fun c1 => ?_) (fun c1 => ?_)
      · walk_at "rd"
        refine bad false ?_
        have c1' : ¬ ((S sg).length : Int) ≤ 8 := by simpa using c1
        have c2 : ¬ sg.length ≤ 8 := by omega
        simp only [isSigns, c2, decide_false, Bool.and_false, Bool.false_and]
      · have c1' : ((S sg).length : Int) ≤ 8 := by simpa using c1
        walk_at "rd"
        refine for_range (lo := 0) (n := (((S sg).length : Int)).toNat) (fun i σ H2 => (∃ v, σ = [some (.str (S sg)), v]) ∧ H2 = H ∧ ∀ j, j < i → okAt sg j = true)
          ⟨⟨_, rfl⟩, rfl, fun j hj => by omega⟩ ?_ ?_
        · rintro i σ H2 hi ⟨⟨v, rfl⟩, rfl, ok⟩
          have hi2 : i < sg.length := by omega
          have e1 : atI sg ((0 : Int) + i) = some (sg.getD i 0) := atI_at (by omega) (by rw [show ((0 : Int) + i).toNat = i by omega]; exact getD_some hi2)
          walk_at "rd"
          refine ⟨_, _, _, rfl, rfl, sz_S hl, e1, ?_⟩
          refine ⟨_, _, rfl, rfl, ?_⟩
          have notOk : okAt sg i = false → isSigns sg = false := fun e => by
            cases hb : isSigns sg with
            | false => rfl
            | true =>
              simp only [isSigns, Bool.and_eq_true, List.all_eq_true] at hb
              rw [hb.2 i (List.mem_range.mpr hi2)] at e
              cases e
          have more : okAt sg i = true → ∀ j, j < i + 1 → okAt sg j = true := fun e j hj => by
            rcases Nat.lt_succ_iff_lt_or_eq.mp hj with q | q
            · exact ok j q
            · rw [q]; exact e
          walk_at "rd"
          refine ite2 (fun d0 => ?_) (fun d0 => ?_)
          · refine iteT ?_
            walk_at "rd"
            refine bad false (notOk ?_)
            have d1 : ¬ sg.getD i 0 ∈ letters := by
              intro hm
              have : decide (sg.getD i 0 ∈ letters) = true := decide_eq_true hm
              rw [show (PySem.Str.cps (Str.ofString "abcdefghijklmnopqrstuvwxyz")).toList = letters from rfl, this] at d0
              cases d0
            simp only [okAt, d1, decide_false, Bool.false_and]
          · have d1 : sg.getD i 0 ∈ letters := by
              by_cases hm : sg.getD i 0 ∈ letters
              · exact hm
              · exact absurd (by rw [show (PySem.Str.cps (Str.ofString "abcdefghijklmnopqrstuvwxyz")).toList = letters from rfl, decide_eq_false hm]; rfl) d0
            walk_at "rd"
            refine ite2 (fun d2 => ?_) (fun d2 => ?_)
            · have d3 : (0 : Int) < 0 + i := of_decide_eq_true d2
              have e2 : atI sg ((0 : Int) + i - 1) = some (sg.getD (i - 1) 0) := atI_at (by omega) (by rw [show ((0 : Int) + i - 1).toNat = i - 1 by omega]; exact getD_some (by omega))
              walk_at "rd"
              refine ⟨_, _, _, rfl, rfl, sz_S hl, e2, ?_⟩
              walk_at "rd"
              refine ⟨_, _, _, rfl, rfl, sz_S hl, e1, ?_⟩
              refine ⟨_, _, rfl, rfl, ?_⟩
              walk_at "rd"
              refine ite2 (fun d4 => ?_) (fun d4 => ?_)
              · walk_at "rd"
                refine bad false (notOk ?_)
                have d5 : decide ([sg.getD (i - 1) 0] < [sg.getD i 0]) = false := by
                  cases hd : decide ([sg.getD (i - 1) 0] < [sg.getD i 0]) with
                  | false => rfl
                  | true =>
                    have d4' : (!decide ([sg.getD (i - 1) 0] < [sg.getD i 0])) = true := d4
                    rw [hd] at d4'; cases d4'
                have d6 : (i == 0) = false := by rw [beq_eq_false_iff_ne]; omega
                simp only [okAt, d5, d6, Bool.or_false, Bool.and_false]
              · walk_at "rd"
                refine ⟨⟨_, rfl⟩, rfl, more ?_⟩
                have d5 : decide ([sg.getD (i - 1) 0] < [sg.getD i 0]) = true := by
                  cases hd : decide ([sg.getD (i - 1) 0] < [sg.getD i 0]) with
                  | true => rfl
                  | false =>
                    refine absurd ?_ d4
                    show (!decide ([sg.getD (i - 1) 0] < [sg.getD i 0])) = true
                    rw [hd]; rfl
                simp only [okAt, d1, d5, decide_true, Bool.or_true, Bool.and_true]
            · have d3 : i = 0 := by
                have : ¬ (0 : Int) < 0 + i := by simpa using d2
                omega
              refine iteF ?_
              walk_at "rd"
              refine ⟨⟨_, rfl⟩, rfl, more ?_⟩
              subst d3
              simp only [okAt, d1, decide_true, Bool.true_and, beq_self_eq_true, Bool.true_or]
        · rintro σ H2 ⟨⟨v, rfl⟩, rfl, ok⟩
          walk_at "rd"
          refine bad true ?_
          have c2 : 1 ≤ sg.length := by omega
          have c3 : sg.length ≤ 8 := by omega
          simp only [isSigns, c2, c3, decide_true, Bool.true_and, List.all_eq_true]
          intro j hj
          exact ok j (by have := List.mem_range.mp hj; omega)
    · have c0' : ¬ (1 : Int) ≤ (S sg).length := by simpa using c0
      walk_at "rd"
      refine iteT ?_
      walk_at "rd"
      refine bad false ?_
      have c2 : ¬ 1 ≤ sg.length := by omega
      simp only [isSigns, c2, decide_false, Bool.false_and]
/-- check_signs: what are signs passes -/
def spCheckSigns : Sp := fun vs H Q _ => ∃ sg : List Nat, vs = [.str (S sg)] ∧ isSigns sg = true ∧ Q .non H
theorem signs_len {sg : List Nat} (h : isSigns sg = true) : 1 ≤ sg.length ∧ sg.length ≤ 8 := by
  simp only [isSigns, Bool.and_eq_true, decide_eq_true_eq] at h
  exact h.1
theorem c_check_signs (T : Txt K mg) : Cal P w K mg base CX0 2 "check_signs" spCheckSigns := by
  have c_is_signs := c_is_signs (P := P) (w := w) (base := base) T
  refine Cal.mk0 T.d_check_signs sc_check_signs (fun vs H Q E h => ?_) (fun f cdv A outer s H vs Q E hr h => ?_)
  · obtain ⟨sg, rfl, _⟩ := h
    rfl
  · obtain ⟨sg, rfl, hs, k⟩ := h
    have hl := signs_len hs
    refine ⟨_, (pss_one (ps_if (pt_not (pt_truth (pe_c c_is_signs hr (by decide) rfl (pa_cons (pv 0) pa_nil)) (by intro _; rfl)))
    (pss_one ps_never)
    pss_nil)), ?_⟩
    walk_at "rd"
    refine ⟨sg, rfl, by omega, ?_⟩
    rw [hs]
    walk_at "rd"
    refine iteF ?_
    walk_at "rd"
    exact k
/-- is_text of a text -/
def isText (sg t : List Nat) (lo hi : Int) : Bool := decide (lo ≤ t.length) && decide ((t.length : Int) ≤ hi) && t.all fun c => decide (c ∈ sg)
def spIsText : Sp := fun vs H Q _ => ∃ (sg t : List Nat) (lo hi : Int), vs = [.str (S sg), .str (S t), .int lo, .int hi] ∧ t.length ≤ 1000000 ∧ Q (.bl (isText sg t lo hi)) H
theorem c_is_text (T : Txt K mg) : Cal P w K mg base CX0 1 "is_text" spIsText := by
  refine Cal.mk0 T.d_is_text sc_is_text (fun vs H Q E h => ?_) (fun f cdv A outer s H vs Q E hr h => ?_)
  · obtain ⟨sg, t, lo, hi, rfl, _⟩ := h
    rfl
  · obtain ⟨sg, t, lo, hi, rfl, hl, k⟩ := h
    refine ⟨_, (pss_cons (ps_if (PW.pt (pw_or (pt_not (pt_val (pe_callB call_isi (by rfl) T.b_isinstance (by decide +kernel) (pa_cons (pv 1) (pa_cons (pe_bltn (v := .ty "str") (by rfl) T.b_str (by decide +kernel) rfl) pa_nil))))) (pw_or1 (pt_not (pt_chain op_le op_le (pv 2) (pe_callB call_len_str (by rfl) T.b_len (by decide +kernel) (pa_cons (pv 1) pa_nil)) (pv 3))))))
    (pss_one (ps_ret pe_bl))
    pss_nil)
  (pss_cons (ps_for PassesOwn.never rfl (pi_str (pv 1)) (pg_name (i := 4) sc_is_text.nd rfl (Or.inl rfl))
    (pss_one (ps_if (pt_cmpR op_notIn_sign (pv 4) (pv 0) (by rfl))
      (pss_one (ps_ret pe_bl))
      pss_nil)))
  (pss_one (ps_ret pe_bl)))), ?_⟩
    have hSl := S_len t
    walk_at "rd"
    refine ⟨_, _, _, _, _, rfl, .ty _, .base (.str _), kit_ty (r := true) (by decide +kernel), _, rfl, ?_⟩
    refine iteF ?_
    have bad : ∀ b : Bool, isText sg t lo hi = b → Q (.bl b) H := fun b e => e ▸ k
    walk_at "rd"
    refine ite2 (fun c0 => ?_) (fun c0 => ?_)
    · have c0' : lo ≤ (S t).length := of_decide_eq_true c0
      walk_at "rd"
      refine ite2 (fun c1 => ?_) (fun c1 => ?_)
      · walk_at "rd"
        refine bad false ?_
        have c1' : ¬ ((S t).length : Int) ≤ hi := by simpa using c1
        have c2 : ¬ (t.length : Int) ≤ hi := by omega
        simp only [isText, c2, decide_false, Bool.and_false, Bool.false_and]
      · have c1' : ((S t).length : Int) ≤ hi := by simpa using c1
        walk_at "rd"
        refine for_str (l := t) (fun pre σ H2 => (∃ v, σ = [some (.str (S sg)), some (.str (S t)), some (.int lo), some (.int hi), v]) ∧ H2 = H ∧ ∀ c ∈ pre, c ∈ sg) ⟨⟨_, rfl⟩, rfl, by simp⟩ ?_ ?_
        · rintro pre c post σ H2 e ⟨⟨v, rfl⟩, rfl, ok⟩
          walk_at "rd"
          refine ⟨_, _, rfl, rfl, _, rfl, ?_⟩
          refine ite2 (fun d0 => ?_) (fun d0 => ?_)
          · walk_at "rd"
            refine bad false ?_
            have d1 : c ∉ sg := by
              intro hm
              have d2 : (!decide (c ∈ sg)) = true := d0
              rw [decide_eq_true hm] at d2
              cases d2
            have d2 : (t.all fun c => decide (c ∈ sg)) = false := by
              rw [List.all_eq_false]
              exact ⟨c, by rw [e]; simp, by rw [decide_eq_false d1]; exact Bool.false_ne_true⟩
            simp only [isText, d2, Bool.and_false]
          · walk_at "rd"
            refine ⟨⟨_, rfl⟩, rfl, fun x hx => ?_⟩
            rcases List.mem_append.mp hx with q | q
            · exact ok x q
            · rw [List.mem_singleton] at q
              rw [q]
              by_cases hm : c ∈ sg
              · exact hm
              · refine absurd ?_ d0
                show (!decide (c ∈ sg)) = true
                rw [decide_eq_false hm]; rfl
        · rintro σ H2 ⟨⟨v, rfl⟩, rfl, ok⟩
          walk_at "rd"
          refine bad true ?_
          have c2 : lo ≤ (t.length : Int) := by omega
          have c3 : (t.length : Int) ≤ hi := by omega
          simp only [isText, c2, c3, decide_true, Bool.true_and, List.all_eq_true]
          exact fun c hc => decide_eq_true (ok c hc)
    · have c0' : ¬ lo ≤ (S t).length := by simpa using c0
      walk_at "rd"
      refine iteT ?_
      walk_at "rd"
      refine bad false ?_
      have c2 : ¬ lo ≤ (t.length : Int) := by omega
      simp only [isText, c2, decide_false, Bool.false_and]
def spCheckText : Sp := fun vs H Q _ => ∃ (sg t : List Nat), vs = [.str (S sg), .str (S t)] ∧ t.length ≤ 200 ∧ (∀ c ∈ t, c ∈ sg) ∧ Q .non H
theorem c_check_text (T : Txt K mg) : Cal P w K mg base CX0 2 "check_text" spCheckText := by
  have c_is_text := c_is_text (P := P) (w := w) (base := base) T
  refine Cal.mk0 T.d_check_text sc_check_text (fun vs H Q E h => ?_) (fun f cdv A outer s H vs Q E hr h => ?_)
  · obtain ⟨sg, t, rfl, _⟩ := h
    rfl
  · obtain ⟨sg, t, rfl, hl, hc, k⟩ := h
    refine ⟨_, (pss_one (ps_if (pt_not (pt_truth (pe_c c_is_text hr (by decide) rfl (pa_cons (pv 0) (pa_cons (pv 1) (pa_cons pe_int (pa_cons (pe_gK rfl T.g_LONGEST_TEXT) pa_nil))))) (by intro _; rfl)))
    (pss_one ps_never)
    pss_nil)), ?_⟩
    walk_at "rd"
    refine ⟨sg, t, 0, 200, rfl, by omega, ?_⟩
    have e : isText sg t 0 200 = true := by
      have c2 : (0 : Int) ≤ (t.length : Int) := by omega
      have c3 : (t.length : Int) ≤ 200 := by omega
      simp only [isText, c2, c3, decide_true, Bool.true_and, List.all_eq_true]
      exact fun c h => decide_eq_true (hc c h)
    rw [e]
    walk_at "rd"
    refine iteF ?_
    walk_at "rd"
    exact k
end
end Sh
set_option Elab.async false
set_option linter.all false
set_option maxRecDepth 100000
set_option maxHeartbeats 4000000
namespace Sh
open PySem PySem.Spec PyProof.Rows L2
open SX (S S_inj S_len S_cat)
open Bk (Rule firstAt lg bestUp used left drain pushS Wf)
local macro_rules | `(tactic| walk_at "nx") => `(tactic| repeat (with_reducible first | refine Sh.gn_mk ?_ | refine Sh.nx_mk ?_ | refine Sh.st_nx ?_ | refine Sh.rt_mk ?_ | refine Sh.ct_mk ?_ | refine Sh.bk_mk ?_))
local macro_rules | `(tactic| walk_at "sq") => `(tactic| first | exact SqL.of upd_same | exact SqT.of upd_same | exact SqL.of (by assumption) | exact SqT.of (by assumption) | assumption | exact Or.inl (SqL.of (by assumption)) | exact Or.inr (SqT.of (by assumption)) | exact Or.inl (by assumption) | exact Or.inr (by assumption))
local macro_rules | `(tactic| walk_at "hp") => `(tactic| first | exact upd_same | assumption)
local macro_rules | `(tactic| walk_at "sz") => `(tactic| first | exact Nat.le_of_ble_eq_true rfl | omega)
local macro_rules | `(tactic| walk_at "sd") => `(tactic| first | omega | exact rfl | assumption | (show (0 : Int) < _; omega) | exact And.intro (by omega) (by omega) | exact Or.inl (And.intro (by omega) (by omega)) | exact Or.inr (And.intro (by omega) (by omega)) | omega | exact Sh.sz_S (by omega) | decide)
local macro_rules | `(tactic| walk_at "rd1") => `(tactic| first
  | (with_reducible first | refine Sh.gn_mk ?_ | refine Sh.nx_mk ?_ | refine Sh.st_nx ?_ | refine Sh.rt_mk ?_ | refine Sh.ct_mk ?_ | refine Sh.bk_mk ?_)
  | refine Exists.intro (α := V) _ (And.intro rfl ?_)
  | refine Exists.intro (α := Bool) _ (And.intro rfl ?_)
  | refine Exists.intro (α := Int) _ (And.intro rfl ?_)
  | refine Exists.intro (α := PySem.Str) _ (And.intro rfl ?_)
  | refine Exists.intro (α := Int) _ (Exists.intro (α := Int) _ (And.intro rfl (And.intro rfl ?_)))
  | refine Exists.intro (α := PySem.Str) _ (Exists.intro (α := PySem.Str) _ (And.intro rfl (And.intro rfl ?_)))
  | refine Exists.intro (α := Int) _ (Exists.intro (α := Int) _ (And.intro rfl ?_))
  | refine Or.inl (Exists.intro (α := Int) _ (And.intro rfl ?_))
  | refine Exists.intro _ (Exists.intro _ (Exists.intro _ (Exists.intro _ (And.intro rfl (And.intro rfl (And.intro (by walk_at "sq") (And.intro rfl ?_)))))))
  | refine Exists.intro _ (Exists.intro _ (Exists.intro _ (Exists.intro _ (And.intro rfl (And.intro rfl (And.intro (by walk_at "hp") (And.intro rfl ?_)))))))
  | refine And.intro (by walk_at "sd") ?_
  )
local macro_rules | `(tactic| walk_at "rd") => `(tactic| repeat walk_at "rd1")
local macro_rules | `(tactic| walk_at "lk") => `(tactic| first | exact rfl | (rw [lookup_putF, if_pos rfl]) | (rw [lookup_putF, if_neg (by decide +kernel)]; walk_at "lk"))

section
variable {P : Program} {w : World} {K : PySem.W.Frag} {mg : Str → Option Value} {base : Heap}
/-- a tuple of rules stands at a -/
structure RulesAt (K : PySem.W.Frag) (H : Hp) (a : Addr) (xs : List V) (R : List Rule) : Prop where
  sq : SqT K H a xs
  len : xs.length = R.length
  it : ∀ (i : Nat) x r, xs[i]? = some x → R[i]? = some r → ∃ q, x = .ref q ∧ SqT K H q (rTup r)
theorem RulesAt.keep {H H' : Hp} {a : Addr} {xs : List V} {R : List Rule} (h : RulesAt K H a xs R) (k : Keep H H') : RulesAt K H' a xs R :=
  ⟨k.seq h.sq, h.len, fun i x r h1 h2 => let ⟨q, e, s⟩ := h.it i x r h1 h2; ⟨q, e, k.seq s⟩⟩
theorem RulesAt.same {H H' : Hp} {a : Addr} {xs : List V} {R : List Rule} (h : RulesAt K H a xs R) (k : Same H H') : RulesAt K H' a xs R := h.keep (Keep.same k)
theorem RulesAt.get {H : Hp} {a : Addr} {xs : List V} {R : List Rule} (h : RulesAt K H a xs R) {i : Nat} {r : Rule} (hr : R[i]? = some r) : ∃ q, xs[i]? = some (.ref q) ∧ SqT K H q (rTup r) := by
  obtain ⟨hi, _⟩ := List.getElem?_eq_some_iff.mp hr
  have hi2 : i < xs.length := by rw [h.len]; exact hi
  obtain ⟨q, e, s⟩ := h.it i xs[i] r (List.getElem?_eq_getElem hi2) hr
  exact ⟨q, by rw [List.getElem?_eq_getElem hi2, e], s⟩
/-- the dict of the left sides -/
def LeftsK (H : Hp) (kvs : List (Key × V)) (R : List Rule) : Prop :=
  ∀ l : List Nat, (firstAt R 0 l = none → valV kvs (Sum.inr (S l)) = none) ∧ ∀ k r, firstAt R 0 l = some (k, r) → ∃ q, valV kvs (Sum.inr (S l)) = some (.ref q) ∧ H q = some (.tup [.int (k : Nat), .str (S r)])
theorem LeftsK.same {H H' : Hp} {kvs : List (Key × V)} {R : List Rule} (h : LeftsK H kvs R) (s : Same H H') : LeftsK H' kvs R :=
  fun l => ⟨(h l).1, fun k r e => let ⟨q, e1, e2⟩ := (h l).2 k r e; ⟨q, e1, s _ _ e2⟩⟩
/-- .. stands at p -/
def LeftsAt (H : Hp) (p : Addr) (R : List Rule) : Prop := ∃ kvs, H p = some (.dK kvs) ∧ LeftsK H kvs R
theorem LeftsAt.same {H H' : Hp} {p : Addr} {R : List Rule} (h : LeftsAt H p R) (s : Same H H') : LeftsAt H' p R := let ⟨kvs, e, k⟩ := h; ⟨kvs, s _ _ e, k.same s⟩
theorem LeftsAt.but {H H' : Hp} {p a : Addr} {R : List Rule} (h : LeftsAt H p R) (s : But a H H') (z : Src H a) : LeftsAt H' p R := by
  obtain ⟨kvs, e, k⟩ := h
  obtain ⟨d, sd, c, ha⟩ := z
  refine ⟨kvs, s _ _ (ne_of e ha (by intro q; cases q)) e, fun l => ⟨(k l).1, fun j r e => ?_⟩⟩
  obtain ⟨q, e1, e2⟩ := (k l).2 j r e
  exact ⟨q, e1, s _ _ (ne_of e2 ha (by intro q; cases q)) e2⟩
def spFirst (K : PySem.W.Frag) : Sp := fun vs H Q _ => ∃ (a : Addr) (xs : List V) (R : List Rule), vs = [.ref a] ∧ RulesAt K H a xs R ∧ R.length ≤ 64 ∧ ∀ (p : Addr) (H' : Hp), H p = none → Same H H' → LeftsAt H' p R → Q (.ref p) H'
theorem lefts_snoc {H H' : Hp} {kvs : List (Key × V)} {R : List Rule} {r : Rule} {q : Addr} (h : LeftsK H kvs R) (s : ∀ b o, H b = some o → (∃ ys, o = .tup ys) → H' b = some o) (hn : valV kvs (Sum.inr (S r.1)) = none)
    (hq : H' q = some (.tup [.int (R.length : Nat), .str (S r.2)])) : LeftsK H' (putK kvs (Sum.inr (S r.1)) (.ref q)) (R ++ [r]) := by
  have none_of : firstAt R 0 r.1 = none := by
    cases e : firstAt R 0 r.1 with
    | none => rfl
    | some z =>
      obtain ⟨q, e1, _⟩ := (h r.1).2 z.1 z.2 e
      rw [hn] at e1; cases e1
  intro l
  rw [valV_put]
  by_cases hl : l = r.1
  · subst hl
    rw [Bk.firstAt_snoc_none r none_of]
    simp only [if_true]
    refine ⟨fun e => by simp at e, fun k z e => ?_⟩
    simp only [Option.some.injEq, Prod.mk.injEq] at e
    obtain ⟨rfl, rfl⟩ := e
    exact ⟨q, rfl, hq⟩
  · have hne : ¬ (Sum.inr (S l) : Key) = Sum.inr (S r.1) := fun e => hl (S_inj (Sum.inr.inj e))
    rw [if_neg hne]
    cases e : firstAt R 0 l with
    | none =>
      rw [Bk.firstAt_snoc_none r e, if_neg (Ne.symm hl)]
      exact ⟨fun _ => (h l).1 e, fun k z e => by cases e⟩
    | some z =>
      rw [Bk.firstAt_snoc_some r e]
      refine ⟨fun e => (by cases e), fun k y e' => ?_⟩
      cases e'
      obtain ⟨q', e1, e2⟩ := (h l).2 k y e
      exact ⟨q', e1, s _ _ e2 ⟨_, rfl⟩⟩
theorem lefts_skip {H : Hp} {kvs : List (Key × V)} {R : List Rule} {r : Rule} (h : LeftsK H kvs R) (hn : valV kvs (Sum.inr (S r.1)) ≠ none) : LeftsK H kvs (R ++ [r]) := by
  intro l
  cases e : firstAt R 0 l with
  | some z =>
    rw [Bk.firstAt_snoc_some r e]
    exact ⟨fun e => (by cases e), fun k y e' => by cases e'; exact (h l).2 _ _ e⟩
  | none =>
    have hne : ¬ r.1 = l := fun e' => hn (by rw [e']; exact (h l).1 e)
    rw [Bk.firstAt_snoc_none r e, if_neg hne]
    exact ⟨fun _ => (h l).1 e, fun k z e => by cases e⟩
theorem c_first_rules (T : Txt K mg) : Cal P w K mg base CX0 1 "first_rules" (spFirst K) := by
  refine Cal.mk0 T.d_first_rules sc_first_rules (fun vs H Q E h => ?_) (fun f cdv A outer s H vs Q E hr h => ?_)
  · obtain ⟨a, xs, R, rfl, _⟩ := h
    rfl
  · obtain ⟨a, xs, R, rfl, hR, hl, k⟩ := h
    have hu := hu_of hr
    have hlx := hR.len
    refine ⟨_, (pss_cons (ps_set (i := 1) sc_first_rules.nd rfl (Or.inl rfl) pe_dnewK)
  (pss_cons (ps_for PassesOwn.never rfl (pi_range1 (by rfl) T.b_range (pa_cons (pe_callB call_len_seq (by rfl) T.b_len (by decide +kernel) (pa_cons (pv 0) pa_nil)) pa_nil)) (pg_name (i := 2) sc_first_rules.nd rfl (Or.inl rfl))
    (pss_cons (ps_asg (pe_ix ix_tup (pv 0) (pv 2) (fun _ _ => rfl)) (pg_tup (by rfl) (pgs_cons (pg_name (i := 3) sc_first_rules.nd rfl (Or.inl rfl)) (pgs_cons (pg_name (i := 4) sc_first_rules.nd rfl (Or.inl rfl)) pgs_nil))))
    (pss_one (ps_if (pt_cmp (pc_dnotin hu (pv 3) (pv 1)))
      (pss_one (ps_dput hu (pv 1) (pv 3) (pe_tup (pa_cons (pv 2) (pa_cons (pv 4) pa_nil))) rfl))
      pss_nil))))
  (pss_one (ps_ret (pv 1))))), ?_⟩
    walk_at "rd"
    intro p hp
    have hR1 := hR.same (same_new (o := .dK []) hp)
    refine ⟨_, rfl, a, xs, rfl, .inr hR1.sq, ?_⟩
    walk_at "rd"
    refine for_range (lo := 0) (n := ((xs.length : Int)).toNat) (fun i σ H2 => ∃ (kvs : List (Key × V)) (v2 v3 v4 : Option V), σ = [some (.ref a), some (.ref p), v2, v3, v4] ∧ Same H H2 ∧ H2 p = some (.dK kvs) ∧ kvs.length ≤ i ∧ LeftsK H2 kvs (R.take i))
      ⟨[], _, _, _, rfl, same_new hp, upd_same, Nat.le_refl _, fun l => ⟨fun _ => rfl, fun k r e => by simp [firstAt] at e⟩⟩ ?_ ?_
    · rintro i σ H2 hi ⟨kvs, v2, v3, v4, rfl, s2, hp2, hk, L⟩
      have hi2 : i < R.length := by omega
      have hr2 : R[i]? = some R[i] := by simp [hi2]
      obtain ⟨q, hq, sq⟩ := (hR.same s2).get hr2
      refine ⟨_, rfl, _, rfl, a, xs, _, .ref q, rfl, rfl, (hR.same s2).sq, atI_at (by omega) (by rw [show ((0 : Int) + i).toNat = i by omega]; exact hq), ?_⟩
      refine ⟨q, _, rfl, sq, rfl, _, _, rfl, _, _, rfl, rfl, ?_⟩
      have et : R.take (i + 1) = R.take i ++ [R[i]] := by rw [List.take_succ, hr2]; rfl
      walk_at "rd"
      refine ⟨p, _, rfl, DGet.k (k := Sum.inr (S R[i].1)) hp2, ?_⟩
      walk_at "rd"
      cases hv : valV kvs (Sum.inr (S R[i].1) : Key) with
      | none =>
        refine iteT ?_
        refine ⟨_, rfl, _, rfl, by walk_at "sz", fun q2 hq2 => ?_⟩
        have nq : q2 ≠ p := (ne_of_none hp2 hq2).symm
        refine ⟨_, rfl, _, rfl, p, _, rfl, DPut.k (k := Sum.inr (S R[i].1)) (by rw [upd_ne nq.symm]; exact hp2) (by exact Nat.lt_of_le_of_lt (m := 64) (by omega) (by decide)), ?_⟩
        have s3 : Same H2 (upd H2 q2 (.tup [.int (0 + (i : Int)), .str (S R[i].2)])) := same_new hq2
        refine ⟨_, _, _, _, rfl, same_mut (s2.trans s3) hp, upd_same, ?_, ?_⟩
        · rw [putK_new _ hv]; simp; omega
        · rw [et]
          refine lefts_snoc L (fun b o hb ⟨ys, e⟩ => ?_) hv ?_
          · rw [upd_ne (ne_of hb hp2 (by intro z; rw [e] at z; cases z))]
            exact s3 b o hb
          · rw [upd_ne nq, List.length_take, Nat.min_eq_left (by omega)]
            rw [upd_same]
            simp
      | some z =>
        refine iteF ?_
        walk_at "rd"
        refine ⟨_, _, _, _, rfl, s2, hp2, by omega, ?_⟩
        rw [et]
        exact lefts_skip L (by rw [hv]; simp)
    · rintro σ H2 ⟨kvs, v2, v3, v4, rfl, s2, hp2, hk, L⟩
      walk_at "rd"
      refine k p H2 hp s2 ⟨kvs, hp2, ?_⟩
      rw [List.take_of_length_le (by omega)] at L
      exact L
/-- the longest left side -/
def spLongest (K : PySem.W.Frag) : Sp := fun vs H Q _ => ∃ (a : Addr) (xs : List V) (R : List Rule), vs = [.ref a] ∧ RulesAt K H a xs R ∧ R.length ≤ 64 ∧ (∀ r ∈ R, r.1.length ≤ 1000000) ∧ ∀ (H' : Hp), Same H H' → Q (.int (lg R : Nat)) H'
theorem c_longest_left (T : Txt K mg) : Cal P w K mg base CX0 1 "longest_left" (spLongest K) := by
  refine Cal.mk0 T.d_longest_left sc_longest_left (fun vs H Q E h => ?_) (fun f cdv A outer s H vs Q E hr h => ?_)
  · obtain ⟨a, xs, R, rfl, _⟩ := h
    rfl
  · obtain ⟨a, xs, R, rfl, hR, hl, hz, k⟩ := h
    refine ⟨_, (pss_one (ps_ret (pe_callB (cr_max rfl) (by rfl) T.b_max (by decide +kernel) (pa_cons (pe_op op_cat (pe_lst (pa_cons pe_int pa_nil)) (pe_lc (own := [("rule", 1)]) (g := gName 1) (tt := tYes) rfl sc_longest_left.nd (pi_tup (pv 0)) (blkOk_by (N := ["rules", "rule"]) (sc := defScope s_longest_left) (by decide +kernel)) (fun _ _ _ _ _ => (pg_name (i := 1) sc_longest_left.nd rfl (Or.inl rfl))) (fun _ _ _ _ _ => pts_nil) (fun _ _ _ _ _ => (pe_callB call_len_str (by rfl) T.b_len (by decide +kernel) (pa_cons (pe_ix ix_tupB (pv 1) pe_int (fun _ _ => rfl)) pa_nil))))) pa_nil)))), ?_⟩
    refine ⟨by walk_at "sz", fun p1 hp1 => ?_⟩
    have s1 : Same H (upd H p1 (.lst [.int 0])) := same_new hp1
    refine ⟨_, rfl, a, rfl, ⟨_, (hR.same s1).sq⟩, fun D hD => lc_tupR (K := K) (a := a) (xs := xs) (l := R) (Rel := fun H v r => ∃ q, v = .ref q ∧ SqT K H q (rTup r)) hR.len
      (fun pre H3 => H3 D = some (.lst (pre.map fun r => V.int (r.1.length : Nat))) ∧ Same (upd H p1 (.lst [.int 0])) H3) ⟨upd_same, same_new hD⟩ (fun pre H3 ⟨_, s3⟩ => ⟨(hR.same (s1.trans s3)).sq, (hR.same (s1.trans s3)).it⟩) ?_ ?_⟩
    · rintro pre r post x H3 e hx ⟨q, rfl, sq⟩ ⟨h3, s3⟩
      have hrm : r ∈ R := by rw [e]; simp
      refine ⟨rfl, ty_T ?_⟩
      refine ⟨_, rfl, q, _, 0, .str (S r.1), rfl, rfl, sq, rfl, _, rfl, sz_S (hz r hrm), ?_⟩
      have hpl : pre.length ≤ 64 := by
        have := congrArg List.length e
        simp at this
        omega
      refine ⟨_, h3, by rw [List.length_map]; exact Nat.lt_of_le_of_lt (m := 64) hpl (by decide), ?_, same_mut s3 hD⟩
      rw [List.map_append, S_len]
      exact upd_same
    · rintro H3 ⟨h3, s3⟩
      refine ⟨p1, D, _, _, rfl, rfl, s3 _ _ upd_same, h3, ?_, fun p2 hp2 => ?_⟩
      · rw [List.length_map]; exact Nat.le_trans (m := 65) (by simp; omega) (by decide)
      · refine ⟨p2, (0 :: R.map fun r => r.1.length).map Int.ofNat, rfl, SqL.of ?_, by simp, fun m hm hle => ?_⟩
        · rw [upd_same, List.map_map]
          simp only [List.map_cons, List.map_map]
          rfl
        · obtain ⟨n, hn, rfl⟩ := List.mem_map.mp hm
          have : n = lg R := Bk.lg_eq hn (fun y hy => by
            have := hle (Int.ofNat y) (List.mem_map_of_mem hy)
            exact Int.ofNat_le.mp this)
          rw [this]
          exact k _ ((s1.trans s3).trans (same_new hp2))
/-- used_at_end: the first rule that fits, or None -/
def optS : Option (List Nat) → V
  | none => .non
  | some u => .str (S u)
def spUsed : Sp := fun vs H Q _ => ∃ (p : Addr) (R : List Rule) (t : List Nat), vs = [.ref p, .int (lg R : Nat), .str (S t)] ∧ LeftsAt H p R ∧ Wf R ∧ t.length ≤ 100000 ∧ ∀ (H' : Hp), Same H H' → Q (optS (used R t)) H'
/-- best so far -/
def BestV (H : Hp) : V → Option (Nat × Nat × List Nat) → Prop
  | v, none => v = .non
  | v, some (k, s, r) => ∃ q, v = .ref q ∧ H q = some (.tup [.int (k : Nat), .int (s : Nat), .str (S r)])
theorem BestV.same {H H' : Hp} {v : V} : ∀ {b}, BestV H v b → Same H H' → BestV H' v b
  | none, h, _ => h
  | some (_, _, _), ⟨q, e, h⟩, s => ⟨q, e, s _ _ h⟩
theorem c_used_at_end (T : Txt K mg) : Cal P w K mg base CX0 1 "used_at_end" spUsed := by
  refine Cal.mk0 T.d_used_at_end sc_used_at_end (fun vs H Q E h => ?_) (fun f cdv A outer s H vs Q E hr h => ?_)
  · obtain ⟨p, R, t, rfl, _⟩ := h
    rfl
  · obtain ⟨p, R, t, rfl, ⟨kvs, hp, L⟩, hw, hl, k⟩ := h
    have hu := hu_of hr
    have hSl := S_len t
    refine ⟨_, (pss_cons (ps_set (i := 3) sc_used_at_end.nd rfl (Or.inl rfl) pe_non)
  (pss_cons (ps_for PassesOwn.never rfl (pi_range2 (by rfl) T.b_range (pa_cons pe_int (pa_cons (pe_op op_add (pe_callB (call_min2 rfl) (by rfl) T.b_min (by decide +kernel) (pa_cons (pv 1) (pa_cons (pe_callB call_len_str (by rfl) T.b_len (by decide +kernel) (pa_cons (pv 2) pa_nil)) pa_nil))) pe_int) pa_nil))) (pg_name (i := 4) sc_used_at_end.nd rfl (Or.inl rfl))
    (pss_cons (ps_set (i := 5) sc_used_at_end.nd rfl (Or.inl rfl) (pe_dget1 hu (pv 0) (pe_slice sl_str (pv 2) (po_some (pe_op op_sub (pe_callB call_len_str (by rfl) T.b_len (by decide +kernel) (pa_cons (pv 2) pa_nil)) (pv 4))) po_none) ⟨rfl, rfl, rfl, rfl⟩))
    (pss_one (ps_if (PW.pt (pw_and (pt_cmpR op_notN (pv 5) pe_non (nomark _)) (pw_and1 (PW.pt (pw_or (pt_cmpR op_isN (pv 3) pe_non (nomark _)) (pw_or1 (pt_cmpR op_lt (pe_ix ix_tup (pv 5) pe_int (fun _ _ => rfl)) (pe_ix ix_tup (pv 3) pe_int (fun _ _ => rfl)) (nomark _))))))))
      (pss_one (ps_set (i := 3) sc_used_at_end.nd rfl (Or.inl rfl) (pe_tup (pa_cons (pe_ix ix_tup (pv 5) pe_int (fun _ _ => rfl)) (pa_cons (pv 4) (pa_cons (pe_ix ix_tup (pv 5) pe_int (fun _ _ => rfl)) pa_nil))))))
      pss_nil))))
  (pss_cons (ps_if (pt_cmpR op_isN (pv 3) pe_non (nomark _))
    (pss_one (ps_ret pe_non))
    pss_nil)
  (pss_one (ps_ret (pe_op op_add_str (pe_slice sl_str (pv 2) po_none (po_some (pe_op op_sub (pe_callB call_len_str (by rfl) T.b_len (by decide +kernel) (pa_cons (pv 2) pa_nil)) (pe_ix ix_tup (pv 3) pe_int (fun _ _ => rfl))))) (pe_ix ix_tup (pv 3) pe_int (fun _ _ => rfl)))))))), ?_⟩
    walk_at "rd"
    refine for_range (lo := 1) (n := _) (fun i σ H2 => ∃ (vb : V) (v4 v5 : Option V), σ = [some (.ref p), some (.int (lg R : Nat)), some (.str (S t)), some vb, v4, v5] ∧ Same H H2 ∧ BestV H2 vb (bestUp R t i))
      ⟨_, _, _, rfl, Same.refl H, rfl⟩ ?_ ?_
    · rintro i σ H2 hi ⟨vb, v4, v5, rfl, s2, hb⟩
      have hi2 : i < t.length := by
        split at hi <;> omega
      have hL := L.same s2
      refine ⟨_, rfl, p, rfl, .inl ⟨kvs, .inl (s2 _ _ hp)⟩, ?_⟩
      walk_at "rd"
      rw [cut_from (by omega), hSl, show ((t.length : Int) - (1 + (i : Int))).toNat = t.length - (i + 1) by omega]
      refine ⟨_, DGet.k (k := Sum.inr (S (t.drop (t.length - (i + 1))))) (s2 _ _ hp), ?_⟩
      walk_at "nx"
      cases hf : firstAt R 0 (t.drop (t.length - (i + 1))) with
      | none =>
        rw [(hL _).1 hf]
        have eb : bestUp R t (i + 1) = bestUp R t i := by simp only [bestUp, hf]
        walk_at "rd"
        refine iteF ?_
        walk_at "rd"
        refine iteF ?_
        walk_at "rd"
        exact ⟨_, _, _, rfl, s2, eb ▸ hb⟩
      | some z =>
        obtain ⟨k2, r2⟩ := z
        obtain ⟨q, hq, hqt⟩ := (hL _).2 _ _ hf
        rw [hq]
        have s3 : ∀ q2 o, H2 q2 = none → Same H (upd H2 q2 o) := fun q2 o h => s2.trans (same_new h)
        cases hbb : bestUp R t i with
        | none =>
          rw [hbb] at hb
          have hb' : vb = .non := hb
          subst hb'
          have eb : bestUp R t (i + 1) = some (k2, i + 1, r2) := by simp only [bestUp, hf, hbb]
          walk_at "rd"
          refine ⟨by walk_at "sz", fun q2 hq2 => ?_⟩
          refine ⟨_, _, _, rfl, s3 _ _ hq2, ?_⟩
          rw [eb]
          refine ⟨q2, rfl, ?_⟩
          rw [upd_same]
          show some (HO.tup [V.int (k2 : Nat), V.int (1 + (i : Int)), V.str (S r2)]) = _
          rw [show (1 + (i : Int)) = ((i + 1 : Nat) : Int) by omega]
        | some b =>
          obtain ⟨k3, s3', r3⟩ := b
          rw [hbb] at hb
          obtain ⟨q3, rfl, hq3⟩ := id hb
          walk_at "rd"
          refine ite2 (fun c0 => ?_) (fun c0 => ?_)
          · have c1 : k2 < k3 := by have := of_decide_eq_true c0; omega
            have eb : bestUp R t (i + 1) = some (k2, i + 1, r2) := by simp only [bestUp, hf, hbb, if_pos c1]
            walk_at "rd"
            refine ⟨by walk_at "sz", fun q2 hq2 => ?_⟩
            refine ⟨_, _, _, rfl, s3 _ _ hq2, ?_⟩
            rw [eb]
            refine ⟨q2, rfl, ?_⟩
            rw [upd_same]
            show some (HO.tup [V.int (k2 : Nat), V.int (1 + (i : Int)), V.str (S r2)]) = _
            rw [show (1 + (i : Int)) = ((i + 1 : Nat) : Int) by omega]
          · have c1 : ¬ k2 < k3 := by
              intro h
              exact c0 (decide_eq_true (by omega))
            have eb : bestUp R t (i + 1) = some (k3, s3', r3) := by simp only [bestUp, hf, hbb, if_neg c1]
            walk_at "rd"
            exact ⟨_, _, _, rfl, s2, by rw [eb]; exact hb⟩
    · rintro σ H2 ⟨vb, v4, v5, rfl, s2, hb⟩
      have hn : ((if ((S t).length : Int) < (lg R : Nat) then ((S t).length : Int) else (lg R : Nat)) + 1 - 1).toNat = min (lg R) t.length := by
        split <;> omega
      rw [hn] at hb
      have hU := Bk.used_best hw t
      cases hbb : bestUp R t (min (lg R) t.length) with
      | none =>
        rw [hbb] at hb hU
        have hb' : vb = .non := hb
        subst hb'
        walk_at "rd"
        have q := k H2 s2
        rw [hU] at q
        exact q
      | some b =>
        obtain ⟨k3, s3', r3⟩ := b
        rw [hbb] at hb hU
        obtain ⟨q3, rfl, hq3⟩ := id hb
        walk_at "rd"
        have sp := Bk.bestUp_spec R t (min (lg R) t.length) (by omega)
        rw [hbb] at sp
        obtain ⟨⟨l, ⟨_, _, _, x, hx⟩, hs⟩, _⟩ := sp
        have hst : s3' ≤ t.length := by
          rw [hx, List.length_append]
          show s3' ≤ x.length + l.length
          omega
        have hU2 : used R t = some (t.take (t.length - s3') ++ r3) := hU
        have hlen := (Bk.used_step hU2).len hw
        rw [cut_to (by omega), hSl, show ((t.length : Int) - (s3' : Int)).toNat = t.length - s3' by omega]
        refine ⟨?_, ?_⟩
        · rw [S_len, S_len, ← List.length_append]
          exact Nat.le_trans (m := 100000) (by omega) (by decide)
        · rw [S_cat]
          have q := k H2 s2
          rw [hU2] at q
          exact q
/-- what is left over -/
def spLeft : Sp := fun vs H Q _ => ∃ (p : Addr) (R : List Rule) (t : List Nat), vs = [.ref p, .int (lg R : Nat), .str (S t)] ∧ LeftsAt H p R ∧ Wf R ∧ t.length ≤ 100000 ∧ ∀ (H' : Hp), Same H H' → Q (.str (S (left R t))) H'
theorem left_snoc (R : List Rule) (t : List Nat) (c : Nat) : left R (t ++ [c]) = pushS R (left R t) c := by
  unfold left; rw [List.foldl_append]; rfl
theorem left_len {R : List Rule} (w : Wf R) (t : List Nat) : (left R t).length ≤ t.length := (Bk.left_reach t).len w
theorem c_left_over (T : Txt K mg) : Cal P w K mg base CX0 2 "left_over" spLeft := by
  have c_used_at_end := c_used_at_end (P := P) (w := w) (base := base) T
  refine Cal.mk0 T.d_left_over sc_left_over (fun vs H Q E h => ?_) (fun f cdv A outer s H vs Q E hr h => ?_)
  · obtain ⟨p, R, t, rfl, _⟩ := h
    rfl
  · obtain ⟨p, R, t, rfl, L, hw, hl, k⟩ := h
    refine ⟨_, (pss_cons (ps_set (i := 3) sc_left_over.nd rfl (Or.inl rfl) pe_str)
  (pss_cons (ps_for PassesOwn.never rfl (pi_str (pv 2)) (pg_name (i := 4) sc_left_over.nd rfl (Or.inl rfl))
    (pss_cons (ps_set (i := 3) sc_left_over.nd rfl (Or.inl rfl) (pe_op op_add_str (pv 3) (pv 4)))
    (pss_cons (ps_set (i := 5) sc_left_over.nd rfl (Or.inl rfl) (pe_c c_used_at_end hr (by decide) rfl (pa_cons (pv 0) (pa_cons (pv 1) (pa_cons (pv 3) pa_nil)))))
    (pss_one (ps_while PassesOwn.never (pt_cmpR op_notN (pv 5) pe_non (nomark _))
      (pss_cons (ps_set (i := 3) sc_left_over.nd rfl (Or.inl rfl) (pv 5))
      (pss_one (ps_set (i := 5) sc_left_over.nd rfl (Or.inl rfl) (pe_c c_used_at_end hr (by decide) rfl (pa_cons (pv 0) (pa_cons (pv 1) (pa_cons (pv 3) pa_nil))))))))))))
  (pss_one (ps_ret (pv 3))))), ?_⟩
    walk_at "rd"
    refine for_str (l := t) (fun pre σ H2 => ∃ (v4 v5 : Option V), σ = [some (.ref p), some (.int (lg R : Nat)), some (.str (S t)), some (.str (S (left R pre))), v4, v5] ∧ Same H H2)
      ⟨_, _, rfl, Same.refl H⟩ ?_ ?_
    · rintro pre c post σ H2 e ⟨v4, v5, rfl, s2⟩
      have hpl : pre.length + 1 ≤ t.length := by
        have := congrArg List.length e
        simp at this
        omega
      have hlp := left_len hw pre
      refine ⟨_, rfl, _, rfl, _, _, rfl, rfl, by rw [S_len, S_len]; exact Nat.le_trans (m := 100001) (by simp; omega) (by decide), ?_⟩
      rw [S_cat]
      walk_at "nx"
      refine ⟨_, rfl, _, rfl, _, rfl, p, R, left R pre ++ [c], rfl, L.same s2, hw, by simp; omega, fun H3 s3 => ?_⟩
      walk_at "nx"
      refine ⟨fun m σ H4 => ∃ (q : List Nat) (v4 : Option V), σ = [some (.ref p), some (.int (lg R : Nat)), some (.str (S t)), some (.str (S q)), v4, some (optS (used R q))] ∧ Same H H4 ∧ q.length ≤ m ∧ q.length ≤ 100000 ∧ drain R m q = left R (pre ++ [c]),
        ⟨(left R pre).length + 1, left R pre ++ [c], _, rfl, s2.trans s3, by simp, by simp; omega, (left_snoc R pre c).symm⟩, ?_⟩
      rintro m σ H4 ⟨q, v4, rfl, s4, hm, hq, hd⟩
      cases hu1 : used R q with
      | none =>
        have e1 : drain R m q = q := by
          cases m with
          | zero => rfl
          | succ m => simp only [drain, hu1]
        rw [e1] at hd
        walk_at "rd"
        refine iteF ?_
        walk_at "nx"
        exact ⟨_, _, by rw [hd], s4⟩
      | some u =>
        have hlt := (Bk.used_step hu1).len hw
        cases m with
        | zero => omega
        | succ m =>
          have hd2 : drain R m u = left R (pre ++ [c]) := by
            rw [← hd]; simp only [drain, hu1]
          walk_at "rd"
          refine iteT ⟨_, fun _ _ h => h, ?_⟩
          refine ⟨_, rfl, ?_⟩
          walk_at "nx"
          refine ⟨_, rfl, _, rfl, _, rfl, p, R, u, rfl, L.same s4, hw, by omega, fun H5 s5 => ?_⟩
          walk_at "nx"
          exact ⟨m, Nat.lt_succ_self m, u, _, rfl, s4.trans s5, by omega, by omega, hd2⟩
    · rintro σ H2 ⟨v4, v5, rfl, s2⟩
      walk_at "rd"
      exact k H2 s2
end
end Sh
/-! overlaps as the program lists them; plain Lean -/
namespace Bk
abbrev Ov := T × Nat × Nat × Nat
def ovAt (i : Nat) (l : T) (j : Nat) (r : T) (k : Nat) : Option Ov := if k = 0 ∧ j ≤ i then none else (over l r k).map fun t => (t, i, k, j)
def ovP (i : Nat) (l : T) (j : Nat) (r : T) (n : Nat) : List Ov := (List.range n).filterMap (ovAt i l j r)
def lf (R : List Rule) (i : Nat) : T := (R.getD i ([], [])).1
def ovJ (R : List Rule) (i n : Nat) : List Ov := (List.range n).flatMap fun j => ovP i (lf R i) j (lf R j) (lf R i).length
def ovI (R : List Rule) (n : Nat) : List Ov := (List.range n).flatMap fun i => ovJ R i R.length
def ovs (R : List Rule) : List Ov := ovI R R.length
theorem ovP_succ (i : Nat) (l : T) (j : Nat) (r : T) (n : Nat) : ovP i l j r (n + 1) = ovP i l j r n ++ (ovAt i l j r n).toList := by
  unfold ovP
  rw [List.range_succ, List.filterMap_append]
  cases h : ovAt i l j r n <;> simp [h]
theorem ovJ_succ (R : List Rule) (i n : Nat) : ovJ R i (n + 1) = ovJ R i n ++ ovP i (lf R i) n (lf R n) (lf R i).length := by
  unfold ovJ
  rw [List.range_succ, List.flatMap_append]
  simp
theorem ovI_succ (R : List Rule) (n : Nat) : ovI R (n + 1) = ovI R n ++ ovJ R n R.length := by
  unfold ovI
  rw [List.range_succ, List.flatMap_append]
  simp
theorem lf_get {R : List Rule} {i : Nat} {r : Rule} (h : R[i]? = some r) : lf R i = r.1 := by
  unfold lf
  rw [List.getD_eq_getElem?_getD, h]; rfl
theorem mem_ovs {R : List Rule} {o : Ov} : o ∈ ovs R ↔ ∃ i r j q k t, R[i]? = some r ∧ R[j]? = some q ∧ k < r.1.length ∧ ¬ (k = 0 ∧ j ≤ i) ∧ over r.1 q.1 k = some t ∧ o = (t, i, k, j) := by
  unfold ovs ovI ovJ ovP ovAt
  simp only [List.mem_flatMap, List.mem_range, List.mem_filterMap]
  constructor
  · rintro ⟨i, hi, j, hj, k, hk, h⟩
    have hr : R[i]? = some R[i] := by simp [hi]
    have hq : R[j]? = some R[j] := by simp [hj]
    rw [lf_get hr, lf_get hq] at h
    rw [lf_get hr] at hk
    by_cases c : k = 0 ∧ j ≤ i
    · rw [if_pos c] at h; cases h
    · rw [if_neg c, Option.map_eq_some_iff] at h
      obtain ⟨t, h1, rfl⟩ := h
      exact ⟨i, R[i], j, R[j], k, t, hr, hq, hk, c, h1, rfl⟩
  · rintro ⟨i, r, j, q, k, t, hr, hq, hk, c, h1, rfl⟩
    refine ⟨i, (List.getElem?_eq_some_iff.mp hr).1, j, (List.getElem?_eq_some_iff.mp hq).1, k, by rw [lf_get hr]; exact hk, ?_⟩
    rw [lf_get hr, lf_get hq, if_neg c, h1]; rfl
/-- a text is less than another one -/
def keyLt (a b : T) : Bool := if a.length = b.length then decide (a < b) else decide (a.length < b.length)
/-- an overlap whose results have one end -/
def okOv (R : List Rule) (o : Ov) : Bool := match R[o.2.1]?, R[o.2.2.2]? with
  | some r, some q => decide (left R (res1 r o.1) = left R (res2 q o.1 o.2.2.1))
  | _, _ => true
def qstep (R : List Rule) (best : Option T) (o : Ov) : Option T :=
  if (match best with | none => true | some b => keyLt o.1 b) = true then (if okOv R o = true then best else some o.1) else best
def quarrel (R : List Rule) : Option T := (ovs R).foldl (qstep R) none
theorem qstep_none {R : List Rule} {b : Option T} {o : Ov} (h : qstep R b o = none) : b = none ∧ okOv R o = true := by
  unfold qstep at h
  cases hb : b with
  | none =>
    subst hb
    refine ⟨rfl, ?_⟩
    simp only [if_true] at h
    cases c : okOv R o with
    | true => rfl
    | false => rw [c] at h; simp at h
  | some b' =>
    subst hb
    exfalso
    cases c : okOv R o <;> cases d : keyLt o.1 b' <;> simp [c, d] at h
theorem foldl_q {R : List Rule} : ∀ (l : List Ov) (b : Option T), l.foldl (qstep R) b = none → b = none ∧ ∀ o ∈ l, okOv R o = true
  | [], b, h => ⟨h, by simp⟩
  | o :: l, b, h => by
    obtain ⟨h1, h2⟩ := foldl_q l (qstep R b o) h
    have := qstep_none h1
    exact ⟨this.1, fun o' ho => by
      rcases List.mem_cons.mp ho with rfl | q
      · exact this.2
      · exact h2 o' q⟩
theorem foldl_q' {R : List Rule} : ∀ (l : List Ov), (∀ o ∈ l, okOv R o = true) → l.foldl (qstep R) none = none
  | [], _ => rfl
  | o :: l, h => by
    have : qstep R none o = none := by
      unfold qstep
      simp only [if_true]
      rw [if_pos (h o List.mem_cons_self)]
    rw [List.foldl_cons, this]
    exact foldl_q' l fun o' ho => h o' (List.mem_cons_of_mem _ ho)
theorem quarrel_none {R : List Rule} : quarrel R = none ↔ ∀ o ∈ ovs R, okOv R o = true :=
  ⟨fun h => (foldl_q _ _ h).2, foldl_q' _⟩
theorem over_symm {a b t : T} (h : over a b 0 = some t) : over b a 0 = some t := by
  unfold over at h ⊢
  simp only [List.drop_zero, Nat.sub_zero] at h ⊢
  rw [Nat.min_comm b.length a.length]
  generalize hm : min a.length b.length = m at h ⊢
  by_cases c : a.take m = b.take m
  · rw [if_pos c] at h
    rw [if_pos c.symm, ← h]
    congr 1
    rcases Nat.le_total a.length b.length with q | q
    · have e : m = a.length := by omega
      have e1 : a.drop m = [] := List.drop_eq_nil_of_le (by omega)
      have e2 : a.take m = a := List.take_of_length_le (by omega)
      rw [e1, List.append_nil, ← e2, c, List.take_append_drop]
    · have e1 : b.drop m = [] := List.drop_eq_nil_of_le (by omega)
      have e2 : b.take m = b := List.take_of_length_le (by omega)
      rw [e1, List.append_nil, ← e2, ← c, List.take_append_drop]
  · rw [if_neg c] at h; cases h
/-- a book without quarrel meets -/
theorem meets_of {R : List Rule} (w : Wf R) (h : quarrel R = none) : Meets R := by
  have ok := quarrel_none.mp h
  have use : ∀ (i : Nat) (r : Rule) (j : Nat) (q : Rule) (k : Nat) (t : T), R[i]? = some r → R[j]? = some q → k < r.1.length → ¬ (k = 0 ∧ j ≤ i) → over r.1 q.1 k = some t → left R (res1 r t) = left R (res2 q t k) := by
    intro i r j q k t hr hq hk c ho
    have := ok (t, i, k, j) (mem_ovs.mpr ⟨i, r, j, q, k, t, hr, hq, hk, c, ho, rfl⟩)
    unfold okOv at this
    simp only [hr, hq, decide_eq_true_eq] at this
    exact this
  intro r hr q hq k hk t ho
  obtain ⟨i, hi, rfl⟩ := List.mem_iff_getElem.mp hr
  obtain ⟨j, hj, rfl⟩ := List.mem_iff_getElem.mp hq
  have gi : R[i]? = some R[i] := by simp [hi]
  have gj : R[j]? = some R[j] := by simp [hj]
  by_cases c : k = 0 ∧ j ≤ i
  · obtain ⟨rfl, hji⟩ := c
    -- at place 0 the pair stands the other way round, or it is one rule
    by_cases e : j = i
    · subst e
      unfold over at ho
      simp at ho
      subst ho
      unfold res1 res2
      simp
    · have h1 := over_symm ho
      have hk' : 0 < R[j].1.length := by
        have := (w R[j] hq).1
        omega
      have := use j R[j] i R[i] 0 t gj gi hk' (by omega) h1
      unfold res1 res2 at this ⊢
      simp at this ⊢
      exact this.symm
  · exact use i R[i] j R[j] k t gi gj hk c ho
end Bk
namespace Bk
theorem ovP_len (i : Nat) (l : T) (j : Nat) (r : T) (n : Nat) : (ovP i l j r n).length ≤ n := by
  unfold ovP
  exact Nat.le_trans (List.length_filterMap_le _ _) (by simp)
theorem ovJ_len (R : List Rule) (i n : Nat) : (ovJ R i n).length ≤ n * (lf R i).length := by
  induction n with
  | zero => simp [ovJ]
  | succ n ih =>
    rw [ovJ_succ, List.length_append, Nat.succ_mul]
    have := ovP_len i (lf R i) n (lf R n) (lf R i).length
    omega
theorem ovI_len {R : List Rule} {m : Nat} (h : ∀ i, (lf R i).length ≤ m) (n : Nat) : (ovI R n).length ≤ n * (R.length * m) := by
  induction n with
  | zero => simp [ovI]
  | succ n ih =>
    rw [ovI_succ, List.length_append, Nat.succ_mul]
    have h1 := ovJ_len R n R.length
    have h2 : R.length * (lf R n).length ≤ R.length * m := Nat.mul_le_mul_left _ (h n)
    omega
theorem lf_le {R : List Rule} {m : Nat} (h : ∀ r ∈ R, r.1.length ≤ m) (i : Nat) : (lf R i).length ≤ m := by
  unfold lf
  rw [List.getD_eq_getElem?_getD]
  cases e : R[i]? with
  | none => simp
  | some r => exact h r (List.mem_of_getElem? e)
end Bk
set_option Elab.async false
set_option linter.all false
set_option maxRecDepth 100000
set_option maxHeartbeats 4000000
namespace Sh
open PySem PySem.Spec PyProof.Rows L2
open SX (S S_inj S_len S_cat)
open Bk (Rule firstAt lg bestUp used left drain pushS Wf Ov ovAt ovP ovJ ovI ovs lf over res1 res2 okOv qstep quarrel keyLt)
local macro_rules | `(tactic| walk_at "nx") => `(tactic| repeat (with_reducible first | refine Sh.gn_mk ?_ | refine Sh.nx_mk ?_ | refine Sh.st_nx ?_ | refine Sh.rt_mk ?_ | refine Sh.ct_mk ?_ | refine Sh.bk_mk ?_))
local macro_rules | `(tactic| walk_at "sq") => `(tactic| first | exact SqL.of upd_same | exact SqT.of upd_same | exact SqL.of (by assumption) | exact SqT.of (by assumption) | assumption | exact Or.inl (SqL.of (by assumption)) | exact Or.inr (SqT.of (by assumption)) | exact Or.inl (by assumption) | exact Or.inr (by assumption))
local macro_rules | `(tactic| walk_at "hp") => `(tactic| first | exact upd_same | assumption)
local macro_rules | `(tactic| walk_at "sz") => `(tactic| first | exact Nat.le_of_ble_eq_true rfl | omega)
local macro_rules | `(tactic| walk_at "sd") => `(tactic| first | omega | exact rfl | assumption | (show (0 : Int) < _; omega) | exact And.intro (by omega) (by omega) | exact Or.inl (And.intro (by omega) (by omega)) | exact Or.inr (And.intro (by omega) (by omega)) | omega | exact Sh.sz_S (by omega) | decide)
local macro_rules | `(tactic| walk_at "rd1") => `(tactic| first
  | (with_reducible first | refine Sh.gn_mk ?_ | refine Sh.nx_mk ?_ | refine Sh.st_nx ?_ | refine Sh.rt_mk ?_ | refine Sh.ct_mk ?_ | refine Sh.bk_mk ?_)
  | refine Exists.intro (α := V) _ (And.intro rfl ?_)
  | refine Exists.intro (α := Bool) _ (And.intro rfl ?_)
  | refine Exists.intro (α := Int) _ (And.intro rfl ?_)
  | refine Exists.intro (α := PySem.Str) _ (And.intro rfl ?_)
  | refine Exists.intro (α := Int) _ (Exists.intro (α := Int) _ (And.intro rfl (And.intro rfl ?_)))
  | refine Exists.intro (α := PySem.Str) _ (Exists.intro (α := PySem.Str) _ (And.intro rfl (And.intro rfl ?_)))
  | refine Exists.intro (α := Int) _ (Exists.intro (α := Int) _ (And.intro rfl ?_))
  | refine Or.inl (Exists.intro (α := Int) _ (And.intro rfl ?_))
  | refine Exists.intro _ (Exists.intro _ (Exists.intro _ (Exists.intro _ (And.intro rfl (And.intro rfl (And.intro (by walk_at "sq") (And.intro rfl ?_)))))))
  | refine Exists.intro _ (Exists.intro _ (Exists.intro _ (Exists.intro _ (And.intro rfl (And.intro rfl (And.intro (by walk_at "hp") (And.intro rfl ?_)))))))
  | refine And.intro (by walk_at "sd") ?_
  )
local macro_rules | `(tactic| walk_at "rd") => `(tactic| repeat walk_at "rd1")
local macro_rules | `(tactic| walk_at "lk") => `(tactic| first | exact rfl | (rw [lookup_putF, if_pos rfl]) | (rw [lookup_putF, if_neg (by decide +kernel)]; walk_at "lk"))

section
variable {P : Program} {w : World} {K : PySem.W.Frag} {mg : Str → Option Value} {base : Heap}
def ovTup (o : Ov) : List V := [.str (S o.1), .int (o.2.1 : Nat), .int (o.2.2.1 : Nat), .int (o.2.2.2 : Nat)]
def OvV (H : Hp) (v : V) (o : Ov) : Prop := ∃ q, v = .ref q ∧ H q = some (.tup (ovTup o))
theorem OvV.same {H H' : Hp} {v : V} {o : Ov} (s : Same H H') (h : OvV H v o) : OvV H' v o := let ⟨q, e, h⟩ := h; ⟨q, e, s _ _ h⟩
theorem OvV.mut {H : Hp} {v : V} {o : Ov} {p : Addr} {xs ys : List V} (hp : H p = some (.lst xs)) (h : OvV H v o) : OvV (upd H p (.lst ys)) v o := by
  obtain ⟨q, e, h⟩ := h
  exact ⟨q, e, by rw [upd_ne (ne_of h hp (by intro z; cases z))]; exact h⟩
def spRows (K : PySem.W.Frag) : Sp := fun vs H Q _ => ∃ (a : Addr) (xs : List V) (R : List Rule), vs = [.ref a] ∧ RulesAt K H a xs R ∧ R.length ≤ 64 ∧ (∀ r ∈ R, r.1.length ≤ 4) ∧
  ∀ (p : Addr) (ys : List V) (H' : Hp), H p = none → Same H H' → H' p = some (.lst ys) → Items OvV H' ys (ovs R) → Q (.ref p) H'
theorem c_overlap_rows (T : Txt K mg) : Cal P w K mg base CX0 1 "overlap_rows" (spRows K) := by
  refine Cal.mk0 T.d_overlap_rows sc_overlap_rows (fun vs H Q E h => ?_) (fun f cdv A outer s H vs Q E hr h => ?_)
  · obtain ⟨a, xs, R, rfl, _⟩ := h
    rfl
  · obtain ⟨a, xs, R, rfl, hR, hl, h4, k⟩ := h
    have hlx := hR.len
    refine ⟨_, (pss_cons (ps_set (i := 1) sc_overlap_rows.nd rfl (Or.inl rfl) (pe_lst pa_nil))
  (pss_cons (ps_for PassesOwn.never rfl (pi_range1 (by rfl) T.b_range (pa_cons (pe_callB call_len_seq (by rfl) T.b_len (by decide +kernel) (pa_cons (pv 0) pa_nil)) pa_nil)) (pg_name (i := 2) sc_overlap_rows.nd rfl (Or.inl rfl))
    (pss_cons (ps_set (i := 3) sc_overlap_rows.nd rfl (Or.inl rfl) (pe_ix ix_tup (pe_ix ix_tup (pv 0) (pv 2) (fun _ _ => rfl)) pe_int (fun _ _ => rfl)))
    (pss_one (ps_for PassesOwn.never rfl (pi_range1 (by rfl) T.b_range (pa_cons (pe_callB call_len_seq (by rfl) T.b_len (by decide +kernel) (pa_cons (pv 0) pa_nil)) pa_nil)) (pg_name (i := 4) sc_overlap_rows.nd rfl (Or.inl rfl))
      (pss_cons (ps_set (i := 5) sc_overlap_rows.nd rfl (Or.inl rfl) (pe_ix ix_tup (pe_ix ix_tup (pv 0) (pv 4) (fun _ _ => rfl)) pe_int (fun _ _ => rfl)))
      (pss_one (ps_for PassesOwn.never rfl (pi_range1 (by rfl) T.b_range (pa_cons (pe_callB call_len_str (by rfl) T.b_len (by decide +kernel) (pa_cons (pv 3) pa_nil)) pa_nil)) (pg_name (i := 6) sc_overlap_rows.nd rfl (Or.inl rfl))
        (pss_cons (ps_if (PW.pt (pw_and (pt_cmpR op_eq (pv 6) pe_int (nomark _)) (pw_and1 (pt_cmpR op_ge (pv 2) (pv 4) (nomark _)))))
          (pss_one ps_continue)
          pss_nil)
        (pss_cons (ps_set (i := 7) sc_overlap_rows.nd rfl (Or.inl rfl) (pe_callB (call_min2 rfl) (by rfl) T.b_min (by decide +kernel) (pa_cons (pe_op op_sub (pe_callB call_len_str (by rfl) T.b_len (by decide +kernel) (pa_cons (pv 3) pa_nil)) (pv 6)) (pa_cons (pe_callB call_len_str (by rfl) T.b_len (by decide +kernel) (pa_cons (pv 5) pa_nil)) pa_nil))))
        (pss_one (ps_if (pt_cmpR op_eq (pe_slice sl_str (pv 3) (po_some (pv 6)) (po_some (pe_op op_add (pv 6) (pv 7)))) (pe_slice sl_str (pv 5) po_none (po_some (pv 7))) (nomark _))
          (pss_one (ps_expr (pe_bm PySem.F.plainAttrs_list PySem.F.slot_list_append PySem.F.type_list_append mt_append (pv 1) (pa_cons (pe_tup (pa_cons (pe_op op_add_str (pv 3) (pe_slice sl_str (pv 5) (po_some (pv 7)) po_none)) (pa_cons (pv 2) (pa_cons (pv 6) (pa_cons (pv 4) pa_nil))))) pa_nil))))
          pss_nil)))))))))))
  (pss_one (ps_ret (pv 1))))), ?_⟩
    refine ⟨by walk_at "sz", fun p hp => ?_⟩
    have s1 : Same H (upd H p (.lst [])) := same_new hp
    refine ⟨_, rfl, a, xs, rfl, .inr (hR.same s1).sq, ?_⟩
    walk_at "rd"
    refine for_range (lo := 0) (n := ((xs.length : Int)).toNat) (fun i σ H2 => ∃ (ys : List V) (v2 v3 v4 v5 v6 v7 : Option V), σ = [some (.ref a), some (.ref p), v2, v3, v4, v5, v6, v7] ∧ Same H H2 ∧ H2 p = some (.lst ys) ∧ Items OvV H2 ys (ovI R i))
      ⟨[], _, _, _, _, _, _, rfl, s1, upd_same, Items.nil⟩ ?_ ?_
    · rintro i σ H2 hi ⟨ys, v2, v3, v4, v5, v6, v7, rfl, s2, hp2, it2⟩
      rw [Int.zero_add]
      have hi2 : i < R.length := by omega
      have hr2 : R[i]? = some R[i] := by simp [hi2]
      have hli : lf R i = R[i].1 := Bk.lf_get hr2
      obtain ⟨q, hq, sq⟩ := (hR.same s2).get hr2
      refine ⟨_, rfl, _, rfl, a, xs, _, .ref q, rfl, rfl, (hR.same s2).sq, atI_nat hq, q, _, 0, .str (S R[i].1), rfl, rfl, sq, rfl, ?_⟩
      walk_at "nx"
      refine ⟨_, rfl, a, xs, rfl, .inr (hR.same s2).sq, ?_⟩
      walk_at "rd"
      refine for_range (lo := 0) (n := ((xs.length : Int)).toNat) (fun j σ H3 => ∃ (ys : List V) (v4 v5 v6 v7 : Option V), σ = [some (.ref a), some (.ref p), some (.int (i : Nat)), some (.str (S R[i].1)), v4, v5, v6, v7] ∧ Same H H3 ∧ H3 p = some (.lst ys) ∧ Items OvV H3 ys (ovI R i ++ Bk.ovJ R i j))
        ⟨ys, _, _, _, _, rfl, s2, hp2, by simpa [ovJ] using it2⟩ ?_ ?_
      · rintro j σ H3 hj ⟨ys, v4, v5, v6, v7, rfl, s3, hp3, it3⟩
        rw [Int.zero_add]
        have hj2 : j < R.length := by omega
        have hr3 : R[j]? = some R[j] := by simp [hj2]
        have hlj : lf R j = R[j].1 := Bk.lf_get hr3
        obtain ⟨q3, hq3, sq3⟩ := (hR.same s3).get hr3
        have l4 : R[i].1.length ≤ 4 := h4 _ (List.getElem_mem hi2)
        have l4j : R[j].1.length ≤ 4 := h4 _ (List.getElem_mem hj2)
        refine ⟨_, rfl, _, rfl, a, xs, _, .ref q3, rfl, rfl, (hR.same s3).sq, atI_nat hq3, q3, _, 0, .str (S R[j].1), rfl, rfl, sq3, rfl, ?_⟩
        walk_at "nx"
        have hSl := S_len R[i].1
        have hSlj := S_len R[j].1
        walk_at "rd"
        refine for_range (lo := 0) (n := (((S R[i].1).length : Int)).toNat) (fun k σ H4 => ∃ (ys : List V) (v6 v7 : Option V), σ = [some (.ref a), some (.ref p), some (.int (i : Nat)), some (.str (S R[i].1)), some (.int (j : Nat)), some (.str (S R[j].1)), v6, v7] ∧ Same H H4 ∧ H4 p = some (.lst ys) ∧ Items OvV H4 ys (ovI R i ++ ovJ R i j ++ ovP i R[i].1 j R[j].1 k))
          ⟨ys, _, _, rfl, s3, hp3, by simpa [ovP] using it3⟩ ?_ ?_
        · rintro k4 σ H4 hk ⟨ys, v6, v7, rfl, s4, hp4, it4⟩
          rw [Int.zero_add]
          have hk2 : k4 < R[i].1.length := by omega
          have hz5 : ys.length < sizeLine := by
            have z1 := Bk.ovI_len (Bk.lf_le h4) i
            have z2 := Bk.ovJ_len R i j
            have z3 := Bk.ovP_len i R[i].1 j R[j].1 k4
            have z4 : i * (R.length * 4) ≤ 64 * (64 * 4) := Nat.mul_le_mul (by omega) (Nat.mul_le_mul (by omega) (by omega))
            have z5 : j * (lf R i).length ≤ 64 * 4 := Nat.mul_le_mul (by omega) (Bk.lf_le h4 i)
            have z6 := it4.1
            rw [List.length_append, List.length_append] at z6
            exact Nat.lt_of_le_of_lt (m := 100000) (by omega) (by decide)
          walk_at "nx"
          refine st_ifK (decide (k4 = 0 ∧ j ≤ i)) (fun Q' hQ => ?_) (fun hb => ?_) (fun hb => ?_)
          · walk_at "rd"
            refine ite2 (fun c => ?_) (fun c => ?_)
            · have c1 : k4 = 0 := by have := V.int.inj (of_decide_eq_true c); omega
              walk_at "rd"
              exact q_of hQ (decide_eq_decide.mpr (by omega))
            · have c1 : ¬ k4 = 0 := by
                intro e
                subst e
                exact c rfl
              exact q_of hQ (decide_eq_false (by omega)).symm
          · have hb' := of_decide_eq_true hb
            refine ⟨ys, _, _, rfl, s4, hp4, ?_⟩
            rw [Bk.ovP_succ, show ovAt i R[i].1 j R[j].1 k4 = none from if_pos hb']
            simpa using it4
          · have hb' := of_decide_eq_false hb
            walk_at "nx"
            have hmin : (if ((S R[j].1).length : Int) < (S R[i].1).length - (k4 : Int) then ((S R[j].1).length : Int) else (S R[i].1).length - (k4 : Int)) = ((min (R[i].1.length - k4) R[j].1.length : Nat) : Int) := by
              split <;> omega
            refine ⟨_, rfl, _, rfl, by walk_at "sd", _, rfl, _, _, rfl, rfl, _, rfl, _, rfl, by walk_at "sd", _, _, rfl, ?_⟩
            rw [hmin]
            generalize hm : min (R[i].1.length - k4) R[j].1.length = m
            walk_at "rd"
            rw [cut_mid (by omega) (by omega), cut_to (by omega)]
            rw [show ((k4 : Nat) : Int).toNat = k4 by omega, show (((k4 : Nat) : Int) + (m : Nat)).toNat - k4 = m by omega, show ((m : Nat) : Int).toNat = m by omega]
            by_cases hc : (R[i].1.drop k4).take m = R[j].1.take m
            · have ho : ovAt i R[i].1 j R[j].1 k4 = some (R[i].1 ++ R[j].1.drop m, i, k4, j) := by
                unfold ovAt over
                rw [if_neg hb', hm, if_pos hc]; rfl
              rw [show decide (V.str (S ((R[i].1.drop k4).take m)) = V.str (S (R[j].1.take m))) = true from decide_eq_true (by rw [hc])]
              refine iteT ?_
              refine ⟨_, rfl, .inl ⟨rfl, _, SqL.of hp4⟩, ?_⟩
              walk_at "rd"
              rw [cut_from (by omega), show ((m : Nat) : Int).toNat = m by omega]
              refine ⟨by rw [S_len, S_len]; exact Nat.le_trans (m := 8) (by simp; omega) (by decide), ?_⟩
              rw [S_cat]
              walk_at "rd"
              refine ⟨by walk_at "sz", fun q9 hq9 => ?_⟩
              have s5 : Same H4 (upd H4 q9 (.tup (ovTup (R[i].1 ++ R[j].1.drop m, i, k4, j)))) := same_new hq9
              refine ⟨p, _, _, rfl, rfl, s5 _ _ hp4, hz5, ?_⟩
              refine ⟨_, _, _, rfl, same_mut (s4.trans s5) hp, upd_same, ?_⟩
              rw [Bk.ovP_succ, ho, ← List.append_assoc]
              exact it4.snoc (fun x y r => (r.same s5).mut (s5 _ _ hp4)) ⟨q9, rfl, by rw [upd_ne (ne_of_none hp4 hq9).symm]; exact upd_same⟩
            · have ho : ovAt i R[i].1 j R[j].1 k4 = none := by
                unfold ovAt over
                rw [if_neg hb', hm, if_neg hc]; rfl
              rw [show decide (V.str (S ((R[i].1.drop k4).take m)) = V.str (S (R[j].1.take m))) = false from decide_eq_false (fun e => hc (S_inj (V.str.inj e)))]
              refine iteF ?_
              walk_at "rd"
              refine ⟨ys, _, _, rfl, s4, hp4, ?_⟩
              rw [Bk.ovP_succ, ho]
              simpa using it4
        · rintro σ H4 ⟨ys, v6, v7, rfl, s4, hp4, it4⟩
          walk_at "nx"
          refine ⟨ys, _, _, _, _, rfl, s4, hp4, ?_⟩
          rw [Bk.ovJ_succ, hli, hlj, ← List.append_assoc]
          rw [show (((S R[i].1).length : Int)).toNat = R[i].1.length by omega] at it4
          exact it4
      · rintro σ H3 ⟨ys, v4, v5, v6, v7, rfl, s3, hp3, it3⟩
        walk_at "nx"
        refine ⟨ys, _, _, _, _, _, _, rfl, s3, hp3, ?_⟩
        rw [Bk.ovI_succ]
        rw [show ((xs.length : Int)).toNat = R.length by omega] at it3
        exact it3
    · rintro σ H2 ⟨ys, v2, v3, v4, v5, v6, v7, rfl, s2, hp2, it2⟩
      walk_at "rd"
      rw [show ((xs.length : Int)).toNat = R.length by omega] at it2
      exact k p ys H2 hp s2 hp2 it2
end
end Sh
set_option Elab.async false
set_option linter.all false
set_option maxRecDepth 100000
set_option maxHeartbeats 4000000
namespace Sh
open PySem PySem.Spec PyProof.Rows L2
open SX (S S_inj S_len S_cat)
open Bk (Rule firstAt lg bestUp used left drain pushS Wf Ov ovAt ovP ovJ ovI ovs lf over res1 res2 okOv qstep quarrel keyLt)
local macro_rules | `(tactic| walk_at "nx") => `(tactic| repeat (with_reducible first | refine Sh.gn_mk ?_ | refine Sh.nx_mk ?_ | refine Sh.st_nx ?_ | refine Sh.rt_mk ?_ | refine Sh.ct_mk ?_ | refine Sh.bk_mk ?_))
local macro_rules | `(tactic| walk_at "sq") => `(tactic| first | exact SqL.of upd_same | exact SqT.of upd_same | exact SqL.of (by assumption) | exact SqT.of (by assumption) | assumption | exact Or.inl (SqL.of (by assumption)) | exact Or.inr (SqT.of (by assumption)) | exact Or.inl (by assumption) | exact Or.inr (by assumption))
local macro_rules | `(tactic| walk_at "hp") => `(tactic| first | exact upd_same | assumption)
local macro_rules | `(tactic| walk_at "sz") => `(tactic| first | exact Nat.le_of_ble_eq_true rfl | omega)
local macro_rules | `(tactic| walk_at "sd") => `(tactic| first | omega | exact rfl | assumption | (show (0 : Int) < _; omega) | exact And.intro (by omega) (by omega) | exact Or.inl (And.intro (by omega) (by omega)) | exact Or.inr (And.intro (by omega) (by omega)) | omega | exact Sh.sz_S (by omega) | decide)
local macro_rules | `(tactic| walk_at "rd1") => `(tactic| first
  | (with_reducible first | refine Sh.gn_mk ?_ | refine Sh.nx_mk ?_ | refine Sh.st_nx ?_ | refine Sh.rt_mk ?_ | refine Sh.ct_mk ?_ | refine Sh.bk_mk ?_)
  | refine Exists.intro (α := V) _ (And.intro rfl ?_)
  | refine Exists.intro (α := Bool) _ (And.intro rfl ?_)
  | refine Exists.intro (α := Int) _ (And.intro rfl ?_)
  | refine Exists.intro (α := PySem.Str) _ (And.intro rfl ?_)
  | refine Exists.intro (α := Int) _ (Exists.intro (α := Int) _ (And.intro rfl (And.intro rfl ?_)))
  | refine Exists.intro (α := PySem.Str) _ (Exists.intro (α := PySem.Str) _ (And.intro rfl (And.intro rfl ?_)))
  | refine Exists.intro (α := Int) _ (Exists.intro (α := Int) _ (And.intro rfl ?_))
  | refine Or.inl (Exists.intro (α := Int) _ (And.intro rfl ?_))
  | refine Exists.intro _ (Exists.intro _ (Exists.intro _ (Exists.intro _ (And.intro rfl (And.intro rfl (And.intro (by walk_at "sq") (And.intro rfl ?_)))))))
  | refine Exists.intro _ (Exists.intro _ (Exists.intro _ (Exists.intro _ (And.intro rfl (And.intro rfl (And.intro (by walk_at "hp") (And.intro rfl ?_)))))))
  | refine And.intro (by walk_at "sd") ?_
  )
local macro_rules | `(tactic| walk_at "rd") => `(tactic| repeat walk_at "rd1")
local macro_rules | `(tactic| walk_at "lk") => `(tactic| first | exact rfl | (rw [lookup_putF, if_pos rfl]) | (rw [lookup_putF, if_neg (by decide +kernel)]; walk_at "lk"))

section
variable {P : Program} {w : World} {K : PySem.W.Frag} {mg : Str → Option Value} {base : Heap}
def spBoth (K : PySem.W.Frag) : Sp := fun vs H Q _ => ∃ (a : Addr) (xs : List V) (R : List Rule) (q : Addr) (t : List Nat) (i k j : Nat) (r1 r2 : Rule), vs = [.ref a, .ref q] ∧ RulesAt K H a xs R ∧ R.length ≤ 64 ∧ (∀ r ∈ R, r.1.length ≤ 4 ∧ r.2.length ≤ 1) ∧
  H q = some (.tup (ovTup (t, i, k, j))) ∧ R[i]? = some r1 ∧ R[j]? = some r2 ∧ t.length ≤ 100 ∧
  ∀ (p : Addr) (H' : Hp), H p = none → Same H H' → H' p = some (.tup [.str (S (res1 r1 t)), .str (S (res2 r2 t k))]) → Q (.ref p) H'
theorem c_both_results (T : Txt K mg) : Cal P w K mg base CX0 1 "both_results" (spBoth K) := by
  refine Cal.mk0 T.d_both_results sc_both_results (fun vs H Q E h => ?_) (fun f cdv A outer s H vs Q E hr h => ?_)
  · obtain ⟨a, xs, R, q, t, i, k, j, r1, r2, rfl, _⟩ := h
    rfl
  · obtain ⟨a, xs, R, q, t, i, k, j, r1, r2, rfl, hR, hl, h4, hq, hi, hj, ht, kk⟩ := h
    have hlx := hR.len
    obtain ⟨q1, hx1, sq1⟩ := hR.get hi
    obtain ⟨q2, hx2, sq2⟩ := hR.get hj
    have hlt1 := h4 _ (List.mem_of_getElem? hi)
    have hlt2 := h4 _ (List.mem_of_getElem? hj)
    refine ⟨_, (pss_cons (ps_asg (pv 1) (pg_tup (by rfl) (pgs_cons (pg_name (i := 2) sc_both_results.nd rfl (Or.inl rfl)) (pgs_cons (pg_name (i := 3) sc_both_results.nd rfl (Or.inl rfl)) (pgs_cons (pg_name (i := 4) sc_both_results.nd rfl (Or.inl rfl)) (pgs_cons (pg_name (i := 5) sc_both_results.nd rfl (Or.inl rfl)) pgs_nil))))))
  (pss_cons (ps_set (i := 6) sc_both_results.nd rfl (Or.inl rfl) (pe_op op_add_str (pe_ix ix_tup (pe_ix ix_tup (pv 0) (pv 3) (fun _ _ => rfl)) pe_int (fun _ _ => rfl)) (pe_slice sl_str (pv 2) (po_some (pe_callB call_len_str (by rfl) T.b_len (by decide +kernel) (pa_cons (pe_ix ix_tup (pe_ix ix_tup (pv 0) (pv 3) (fun _ _ => rfl)) pe_int (fun _ _ => rfl)) pa_nil))) po_none)))
  (pss_cons (ps_set (i := 7) sc_both_results.nd rfl (Or.inl rfl) (pe_op op_add_str (pe_op op_add_str (pe_slice sl_str (pv 2) po_none (po_some (pv 4))) (pe_ix ix_tup (pe_ix ix_tup (pv 0) (pv 5) (fun _ _ => rfl)) pe_int (fun _ _ => rfl))) (pe_slice sl_str (pv 2) (po_some (pe_op op_add (pv 4) (pe_callB call_len_str (by rfl) T.b_len (by decide +kernel) (pa_cons (pe_ix ix_tup (pe_ix ix_tup (pv 0) (pv 5) (fun _ _ => rfl)) pe_int (fun _ _ => rfl)) pa_nil)))) po_none)))
  (pss_one (ps_ret (pe_tup (pa_cons (pv 6) (pa_cons (pv 7) pa_nil)))))))), ?_⟩
    walk_at "rd"
    refine ⟨q, _, rfl, SqT.of hq, rfl, _, _, rfl, _, _, rfl, _, _, rfl, _, _, rfl, rfl, ?_⟩
    walk_at "rd"
    refine ⟨a, xs, _, .ref q1, rfl, rfl, hR.sq, atI_nat hx1, q1, _, 1, .str (S r1.2), rfl, rfl, sq1, rfl, ?_⟩
    refine ⟨_, rfl, _, rfl, _, rfl, ?_⟩
    refine ⟨a, xs, _, .ref q1, rfl, rfl, hR.sq, atI_nat hx1, ?_⟩
    refine ⟨q1, _, 0, .str (S r1.1), rfl, rfl, sq1, rfl, ?_⟩
    refine ⟨_, rfl, sz_S (by omega), _, rfl, _, rfl, sz_S (t := t) (by omega), ?_⟩
    walk_at "nx"
    refine ⟨_, _, rfl, rfl, ?_, ?_⟩
    · rw [cut_from (by omega), S_len, S_len]
      exact Nat.le_trans (m := 101) (by simp; omega) (by decide)
    rw [cut_from (by omega), S_cat, S_len, show ((r1.1.length : Nat) : Int).toNat = r1.1.length by omega]
    walk_at "rd"
    refine ⟨sz_S (t := t) (by omega), ?_⟩
    refine ⟨_, rfl, _, rfl, ?_⟩
    refine ⟨a, xs, _, .ref q2, rfl, rfl, hR.sq, atI_nat hx2, q2, _, 1, .str (S r2.2), rfl, rfl, sq2, rfl, ?_⟩
    rw [cut_to (by omega)]
    refine ⟨_, _, rfl, rfl, ?_, ?_⟩
    · rw [S_len, S_len]
      exact Nat.le_trans (m := 101) (by simp; omega) (by decide)
    rw [S_cat]
    refine ⟨_, rfl, _, rfl, _, rfl, _, rfl, ?_⟩
    refine ⟨a, xs, _, .ref q2, rfl, rfl, hR.sq, atI_nat hx2, q2, _, 0, .str (S r2.1), rfl, rfl, sq2, rfl, ?_⟩
    refine ⟨_, rfl, sz_S (by omega), _, _, rfl, rfl, ?_⟩
    refine ⟨_, rfl, _, rfl, sz_S (t := t) (by omega), ?_⟩
    rw [cut_from (by rw [S_len]; omega)]
    refine ⟨_, _, rfl, rfl, ?_, ?_⟩
    · rw [S_len, S_len]
      exact Nat.le_trans (m := 301) (by simp; omega) (by decide)
    rw [S_cat]
    walk_at "rd"
    refine ⟨by walk_at "sz", fun p hp => ?_⟩
    refine kk p _ hp (same_new hp) ?_
    rw [upd_same, S_len]
    rw [show (((k : Nat) : Int)).toNat = k by omega, show (((k : Nat) : Int) + (r2.1.length : Nat)).toNat = k + r2.1.length by omega]
    rfl
theorem key_lt (t u : List Nat) : tupLt [.int (t.length : Nat), .str (S t)] [.int (u.length : Nat), .str (S u)] = keyLt t u := by
  unfold keyLt
  show (if V.int (t.length : Nat) = V.int (u.length : Nat) then (if V.str (S t) = V.str (S u) then false else decide ((S t).cps.toList < (S u).cps.toList)) else decide ((t.length : Int) < (u.length : Int))) = _
  by_cases h : t.length = u.length
  · rw [if_pos (by rw [h]), if_pos h]
    by_cases e : t = u
    · subst e
      rw [if_pos rfl]
      exact (decide_eq_false (fun z => List.lt_irrefl (α := Nat) t z)).symm
    · rw [if_neg (fun z => e (S_inj (V.str.inj z)))]
  · rw [if_neg (fun z => h (by have := V.int.inj z; omega)), if_neg h]
    exact decide_eq_decide.mpr (by omega)
theorem ovs_len {R : List Rule} (h4 : ∀ r ∈ R, r.1.length ≤ 4) {o : Ov} (h : o ∈ ovs R) : o.1.length ≤ 8 := by
  obtain ⟨i, r, j, q, k, t, hr, hq, hk, c, ho, rfl⟩ := Bk.mem_ovs.mp h
  unfold over at ho
  have h1 := h4 _ (List.mem_of_getElem? hr)
  have h2 := h4 _ (List.mem_of_getElem? hq)
  split at ho
  · cases ho
    simp
    omega
  · cases ho
def qlt : Option (List Nat) → List Nat → Bool
  | none, _ => true
  | some b, t => keyLt t b
theorem qstep_eq (R : List Rule) (b : Option (List Nat)) (o : Ov) : qstep R b o = if qlt b o.1 = true then (if okOv R o = true then b else some o.1) else b := by
  unfold qstep
  cases b <;> rfl
theorem qstep_or (R : List Rule) (b : Option (List Nat)) (o : Ov) : qstep R b o = b ∨ qstep R b o = some o.1 := by
  unfold qstep
  cases b <;> (repeat' split) <;> first | exact .inl rfl | exact .inr rfl
theorem qfold_mem {R : List Rule} : ∀ (l : List Ov) (b : Option (List Nat)) {u : List Nat}, l.foldl (qstep R) b = some u → b = some u ∨ ∃ o ∈ l, o.1 = u
  | [], b, u, h => .inl h
  | o :: l, b, u, h => by
    rcases qfold_mem l _ h with q | ⟨o', m, e⟩
    · rcases qstep_or R b o with z | z
      · rw [z] at q; exact .inl q
      · rw [z] at q; exact .inr ⟨o, List.mem_cons_self, Option.some.inj q⟩
    · exact .inr ⟨o', List.mem_cons_of_mem _ m, e⟩
theorem ov_inv {R : List Rule} {t : List Nat} {i k j : Nat} (h : (t, i, k, j) ∈ ovs R) : ∃ r q, R[i]? = some r ∧ R[j]? = some q := by
  obtain ⟨i', r, j', q, k', t', hr, hq, hk, c, ho, e⟩ := Bk.mem_ovs.mp h
  cases e
  exact ⟨r, q, hr, hq⟩
def spQuarrel (K : PySem.W.Frag) : Sp := fun vs H Q _ => ∃ (a p : Addr) (xs : List V) (R : List Rule), vs = [.ref a, .ref p, .int (lg R : Nat)] ∧ RulesAt K H a xs R ∧ LeftsAt H p R ∧ Wf R ∧ R.length ≤ 64 ∧ (∀ r ∈ R, r.1.length ≤ 4 ∧ r.2.length ≤ 1) ∧
  ∀ (H' : Hp), Same H H' → Q (optS (quarrel R)) H'
theorem c_quarrel_of (T : Txt K mg) : Cal P w K mg base CX0 3 "quarrel_of" (spQuarrel K) := by
  have c_overlap_rows := c_overlap_rows (P := P) (w := w) (base := base) T
  have c_both_results := c_both_results (P := P) (w := w) (base := base) T
  have c_text_key := c_text_key (P := P) (w := w) (base := base) T
  have c_left_over := c_left_over (P := P) (w := w) (base := base) T
  refine Cal.mk0 T.d_quarrel_of sc_quarrel_of (fun vs H Q E h => ?_) (fun f cdv A outer s H vs Q E hr h => ?_)
  · obtain ⟨a, p, xs, R, rfl, _⟩ := h
    rfl
  · obtain ⟨a, p, xs, R, rfl, hR, hL, hw, hl, h4, kk⟩ := h
    have h4' : ∀ r ∈ R, r.1.length ≤ 4 := fun r m => (h4 r m).1
    refine ⟨_, (pss_cons (ps_set (i := 3) sc_quarrel_of.nd rfl (Or.inl rfl) pe_non)
  (pss_cons (ps_for PassesOwn.never rfl (pi_list (pe_c c_overlap_rows hr (by decide) rfl (pa_cons (pv 0) pa_nil))) (pg_name (i := 4) sc_quarrel_of.nd rfl (Or.inl rfl))
    (pss_one (ps_if (PW.pt (pw_or (pt_cmpR op_isN (pv 3) pe_non (nomark _)) (pw_or1 (pt_cmpR (op_ltTM hr.units) (pe_c c_text_key hr (by decide) rfl (pa_cons (pe_ix ix_tup (pv 4) pe_int (fun _ _ => rfl)) pa_nil)) (pe_c c_text_key hr (by decide) rfl (pa_cons (pv 3) pa_nil)) (nomark _)))))
      (pss_cons (ps_asg (pe_c c_both_results hr (by decide) rfl (pa_cons (pv 0) (pa_cons (pv 4) pa_nil))) (pg_tup (by rfl) (pgs_cons (pg_name (i := 5) sc_quarrel_of.nd rfl (Or.inl rfl)) (pgs_cons (pg_name (i := 6) sc_quarrel_of.nd rfl (Or.inl rfl)) pgs_nil))))
      (pss_one (ps_if (pt_cmpR op_ne (pe_c c_left_over hr (by decide) rfl (pa_cons (pv 1) (pa_cons (pv 2) (pa_cons (pv 5) pa_nil)))) (pe_c c_left_over hr (by decide) rfl (pa_cons (pv 1) (pa_cons (pv 2) (pa_cons (pv 6) pa_nil)))) (nomark _))
        (pss_one (ps_set (i := 3) sc_quarrel_of.nd rfl (Or.inl rfl) (pe_ix ix_tup (pv 4) pe_int (fun _ _ => rfl))))
        pss_nil)))
      pss_nil)))
  (pss_one (ps_ret (pv 3))))), ?_⟩
    walk_at "rd"
    refine ⟨a, xs, R, rfl, hR, hl, h4', fun p1 ys H1 hp1 s1 hq1 it1 => ?_⟩
    walk_at "nx"
    refine ⟨p1, rfl, ⟨_, SqL.of hq1⟩, ?_⟩
    refine for_lstR (K := K) (a := p1) (xs := ys) (l := ovs R) (Rel := OvV) it1.1 (fun pre σ H2 => ∃ (v4 v5 v6 : Option V), σ = [some (.ref a), some (.ref p), some (.int (lg R : Nat)), some (optS (pre.foldl (qstep R) none)), v4, v5, v6] ∧ Same H1 H2)
      ⟨_, _, _, rfl, Same.refl H1⟩ (fun pre σ H2 ⟨_, _, _, _, s2⟩ => ⟨SqL.of (s2 _ _ hq1), fun i x y h1 h2 => (it1.2 i x y h1 h2).same s2⟩) ?_ ?_
    · rintro pre o post x σ H2 e hx ⟨q, rfl, hq⟩ ⟨v4, v5, v6, rfl, s2⟩
      have ho : o ∈ ovs R := by rw [e]; simp
      have s02 := s1.trans s2
      have hto' := ovs_len h4' ho
      obtain ⟨t, i, k, j⟩ := o
      have hto : t.length ≤ 8 := hto'
      walk_at "nx"
      generalize hb : pre.foldl (qstep R) none = b
      have qt : SqT K H2 q [.str (S t), .int (i : Nat), .int (k : Nat), .int (j : Nat)] := SqT.of hq
      have e2 : (pre ++ [(t, i, k, j)]).foldl (qstep R) none = qstep R b (t, i, k, j) := by rw [List.foldl_append, hb]; rfl
      rw [e2]
      refine if_KH (qlt b t) (fun H' => Same H2 H') (fun Q' hQ => ?_) (fun hb1 H3 s3 => ?_) (fun hb1 H3 s3 => ?_)
      · cases b with
        | none =>
          walk_at "rd"
          exact hQ _ (Same.refl _)
        | some u =>
          have hu8 : u.length ≤ 8 := by
            rcases qfold_mem _ _ hb with z | ⟨o, m, rfl⟩
            · cases z
            · exact ovs_len h4' (by rw [e]; exact List.mem_append_left _ m)
          walk_at "rd"
          refine ⟨t, rfl, by omega, fun p3 hp3 => ?_⟩
          have s3 : Same H2 (upd H2 p3 (.tup [.int (t.length : Nat), .str (S t)])) := same_new hp3
          walk_at "rd"
          refine ⟨u, rfl, by omega, fun p4 hp4 => ?_⟩
          have s4 := s3.trans (same_new (o := .tup [.int (u.length : Nat), .str (S u)]) hp4)
          refine ⟨p3, p4, _, _, rfl, rfl, SqT.of (same_new hp4 _ _ upd_same), SqT.of upd_same, rfl, _, rfl, ?_⟩
          exact q_of (hQ _ s4) (key_lt t u)
      · obtain ⟨r1, r2, hr1, hr2⟩ := ov_inv ho
        walk_at "nx"
        refine ⟨_, rfl, _, rfl, a, xs, R, q, t, i, k, j, r1, r2, rfl, hR.same (s02.trans s3), hl, h4, s3 _ _ hq, hr1, hr2, by omega, fun p3 H4 hp3 s4 hq3 => ?_⟩
        walk_at "nx"
        refine ⟨p3, _, rfl, SqT.of hq3, rfl, _, _, rfl, _, _, rfl, rfl, ?_⟩
        walk_at "nx"
        have s24 := s3.trans s4
        have hL4 := hL.same (s02.trans s24)
        have l1 := (h4 _ (List.mem_of_getElem? hr1)).2
        have l2 := (h4 _ (List.mem_of_getElem? hr2)).2
        have hk : okOv R (t, i, k, j) = decide (left R (res1 r1 t) = left R (res2 r2 t k)) := by
          unfold okOv
          rw [hr1, hr2]
        have hq2 : qstep R b (t, i, k, j) = if okOv R (t, i, k, j) = true then b else some t := by
          rw [qstep_eq]
          exact if_pos hb1
        refine if_KH (!okOv R (t, i, k, j)) (fun H' => Same H4 H') (fun Q' hQ => ?_) (fun hb2 H5 s5 => ?_) (fun hb2 H5 s5 => ?_)
        · walk_at "nx"
          refine ⟨_, rfl, _, rfl, _, rfl, p, R, res1 r1 t, rfl, hL4, hw, by unfold res1; simp; omega, fun H5 s5 => ?_⟩
          refine ⟨_, rfl, _, rfl, _, rfl, p, R, res2 r2 t k, rfl, hL4.same s5, hw, by unfold res2; simp; omega, fun H6 s6 => ?_⟩
          refine ⟨rfl, _, rfl, q_of (hQ _ (s5.trans s6)) ?_⟩
          rw [hk]
          by_cases ee : left R (res1 r1 t) = left R (res2 r2 t k)
          · rw [decide_eq_true ee, decide_eq_true (by rw [ee])]
          · rw [decide_eq_false ee, decide_eq_false (fun z => ee (S_inj (V.str.inj z)))]
        · have hok : okOv R (t, i, k, j) = false := by simpa using hb2
          walk_at "nx"
          refine ⟨_, rfl, q, _, _, _, rfl, rfl, SqT.of ((s24.trans s5) _ _ hq), rfl, ?_⟩
          walk_at "nx"
          rw [hq2, hok]
          exact ⟨_, _, _, rfl, s2.trans (s24.trans s5)⟩
        · have hok : okOv R (t, i, k, j) = true := by simpa using hb2
          walk_at "nx"
          rw [hq2, hok]
          exact ⟨_, _, _, rfl, s2.trans (s24.trans s5)⟩
      · walk_at "nx"
        have hq2 : qstep R b (t, i, k, j) = b := by
          rw [qstep_eq]
          exact if_neg (by show ¬ qlt b t = true; rw [hb1]; decide)
        rw [hq2]
        exact ⟨_, _, _, rfl, s2.trans s3⟩
    · rintro σ H2 ⟨v4, v5, v6, rfl, s2⟩
      walk_at "rd"
      exact kk H2 (s1.trans s2)
end
end Sh
set_option Elab.async false
set_option linter.all false
set_option maxRecDepth 100000
set_option maxHeartbeats 4000000
namespace Sh
open PySem PySem.Spec PyProof.Rows L2
open SX (S S_inj S_len S_cat)
open Bk (Rule firstAt lg bestUp used left drain pushS Wf)
/-- a comprehension over a list whose items are told by l -/
theorem lc_lstF {α : Type} {f : α → V} {l : List α} {K : PySem.W.Frag} {a : Addr} {g : TG} {tt : TT} {te : TE} {vs : List Nat} {σ : L2.St} {H1 : Hp} {D : Addr} {Qd : Hp → Prop}
    (Pv : List α → Hp → Prop) (h0 : Pv [] (upd H1 D (.lst []))) (hG : ∀ pre H, Pv pre H → SqL K H a (l.map f))
    (hs : ∀ pre y post H, l = pre ++ y :: post → Pv pre H → g (f y) (wipe σ vs) H fun σ2 H2 => wipe σ2 vs = wipe σ vs ∧ tt σ2 H2 fun b H3 =>
      if b = true then te σ2 H3 fun y' H4 => ∃ acc, H4 D = some (.lst acc) ∧ acc.length < sizeLine ∧ Pv (pre ++ [y]) (upd H4 D (.lst (acc ++ [y']))) else Pv (pre ++ [y]) H3) (hd : ∀ H, Pv l H → Qd H) :
    ∃ W : Nat → Nat → Hp → Prop, (∃ m, W 0 m (upd H1 D (.lst []))) ∧ ∀ i m H, W i m H →
      ((Itl K a).stop i H ∧ Qd H) ∨ ((Itl K a).go i H ∧ ∃ Nx : Hp → Prop, (∀ H', Nx H' → ∃ m', m' < m ∧ W (i + 1) m' H') ∧ ∀ x H', (Itl K a).yld i H x H' → g x (wipe σ vs) H' fun σ2 H2 => wipe σ2 vs = wipe σ vs ∧ tt σ2 H2 fun b H3 =>
        if b = true then te σ2 H3 fun y H4 => ∃ acc, H4 D = some (.lst acc) ∧ acc.length < sizeLine ∧ Nx (upd H4 D (.lst (acc ++ [y]))) else Nx H3) := by
  have w := walk_list (K := K) (a := a) (xs := l.map f)
  refine lc_it w (fun i H => Pv (l.take i) H) (by simpa using h0) (fun i H _ p => hG _ H p) (fun i x H H' hi p y => ?_) (fun H p => hd H (by simpa using p))
  obtain ⟨rfl, hx⟩ := y
  have hi' : i < l.length := by simpa using hi
  have hl : l[i]? = some l[i] := by simp [hi']
  obtain ⟨e1, e2⟩ := take_succ_of hl
  have hx2 : x = f l[i] := by
    rw [List.getElem?_map, hl] at hx
    exact (Option.some.inj hx).symm
  subst hx2
  have q := hs _ l[i] _ H' e2 p
  rw [← e1] at q
  exact q
local macro_rules | `(tactic| walk_at "nx") => `(tactic| repeat (with_reducible first | refine Sh.gn_mk ?_ | refine Sh.nx_mk ?_ | refine Sh.st_nx ?_ | refine Sh.rt_mk ?_ | refine Sh.ct_mk ?_ | refine Sh.bk_mk ?_))
local macro_rules | `(tactic| walk_at "sq") => `(tactic| first | exact SqL.of upd_same | exact SqT.of upd_same | exact SqL.of (by assumption) | exact SqT.of (by assumption) | assumption | exact Or.inl (SqL.of (by assumption)) | exact Or.inr (SqT.of (by assumption)) | exact Or.inl (by assumption) | exact Or.inr (by assumption))
local macro_rules | `(tactic| walk_at "hp") => `(tactic| first | exact upd_same | assumption)
local macro_rules | `(tactic| walk_at "sz") => `(tactic| first | exact Nat.le_of_ble_eq_true rfl | omega)
local macro_rules | `(tactic| walk_at "sd") => `(tactic| first | omega | exact rfl | assumption | (show (0 : Int) < _; omega) | exact And.intro (by omega) (by omega) | exact Or.inl (And.intro (by omega) (by omega)) | exact Or.inr (And.intro (by omega) (by omega)) | omega | exact Sh.sz_S (by omega) | decide)
local macro_rules | `(tactic| walk_at "rd1") => `(tactic| first
  | (with_reducible first | refine Sh.gn_mk ?_ | refine Sh.nx_mk ?_ | refine Sh.st_nx ?_ | refine Sh.rt_mk ?_ | refine Sh.ct_mk ?_ | refine Sh.bk_mk ?_)
  | refine Exists.intro (α := V) _ (And.intro rfl ?_)
  | refine Exists.intro (α := Bool) _ (And.intro rfl ?_)
  | refine Exists.intro (α := Int) _ (And.intro rfl ?_)
  | refine Exists.intro (α := PySem.Str) _ (And.intro rfl ?_)
  | refine Exists.intro (α := Int) _ (Exists.intro (α := Int) _ (And.intro rfl (And.intro rfl ?_)))
  | refine Exists.intro (α := PySem.Str) _ (Exists.intro (α := PySem.Str) _ (And.intro rfl (And.intro rfl ?_)))
  | refine Exists.intro (α := Int) _ (Exists.intro (α := Int) _ (And.intro rfl ?_))
  | refine Or.inl (Exists.intro (α := Int) _ (And.intro rfl ?_))
  | refine Exists.intro _ (Exists.intro _ (Exists.intro _ (Exists.intro _ (And.intro rfl (And.intro rfl (And.intro (by walk_at "sq") (And.intro rfl ?_)))))))
  | refine Exists.intro _ (Exists.intro _ (Exists.intro _ (Exists.intro _ (And.intro rfl (And.intro rfl (And.intro (by walk_at "hp") (And.intro rfl ?_)))))))
  | refine And.intro (by walk_at "sd") ?_
  )
local macro_rules | `(tactic| walk_at "rd") => `(tactic| repeat walk_at "rd1")
local macro_rules | `(tactic| walk_at "lk") => `(tactic| first | exact rfl | (rw [lookup_putF, if_pos rfl]) | (rw [lookup_putF, if_neg (by decide +kernel)]; walk_at "lk"))

section
variable {P : Program} {w : World} {K : PySem.W.Frag} {mg : Str → Option Value} {base : Heap}
abbrev vS (t : List Nat) : V := .str (S t)
/-- the begins of the left sides -/
def Beg (ls : List (List Nat)) (u : List Nat) : Prop := u = [] ∨ ∃ l ∈ ls, ∃ n, n < l.length ∧ u = l.take n
def spKept (K : PySem.W.Frag) : Sp := fun vs H Q _ => ∃ (p : Addr) (ls : List (List Nat)) (m : Nat) (t : List Nat), vs = [.ref p, .int (m : Nat), .str (S t)] ∧ H p = some (.lst (ls.map vS)) ∧ ls.length ≤ 64 ∧ (∀ l ∈ ls, l.length ≤ 4) ∧ m ≤ 4 ∧ t.length ≤ 100 ∧
  ∀ (u : List Nat) (H' : Hp), Beg ls u → Same H H' → Q (.str (S u)) H'
theorem c_kept_tail (T : Txt K mg) : Cal P w K mg base CX0 1 "kept_tail" (spKept K) := by
  refine Cal.mk0 T.d_kept_tail sc_kept_tail (fun vs H Q E h => ?_) (fun f cdv A outer s H vs Q E hr h => ?_)
  · obtain ⟨p, ls, m, t, rfl, _⟩ := h
    rfl
  · obtain ⟨p, ls, m, t, rfl, hp, hl, h4, hm, ht, kk⟩ := h
    have hSl := S_len t
    refine ⟨_, (pss_cons (ps_for PassesOwn.never rfl (pi_range3 (by rfl) T.b_range (pa_cons (pe_callB (call_min2 rfl) (by rfl) T.b_min (by decide +kernel) (pa_cons (pe_op op_sub (pv 1) pe_int) (pa_cons (pe_callB call_len_str (by rfl) T.b_len (by decide +kernel) (pa_cons (pv 2) pa_nil)) pa_nil))) (pa_cons pe_int (pa_cons (pe_un un_neg pe_int) pa_nil)))) (pg_name (i := 3) sc_kept_tail.nd rfl (Or.inr rfl))
    (pss_cons (ps_set (i := 4) sc_kept_tail.nd rfl (Or.inr rfl) (pe_slice sl_str (pv 2) (po_some (pe_op op_sub (pe_callB call_len_str (by rfl) T.b_len (by decide +kernel) (pa_cons (pv 2) pa_nil)) (pv 3))) po_none))
    (pss_one (ps_if (pt_val (pe_callB (cr_any rfl) (by rfl) T.b_any (by decide +kernel) (pa_cons (pe_lc (own := [("left", 5)]) (g := gName 5) (tt := tYes) rfl sc_kept_tail.nd (pi_list (pv 0)) (blkOk_by (N := ["lefts", "longest", "text", "size", "tail", "left"]) (sc := defScope s_kept_tail) (by decide +kernel)) (fun _ _ _ _ _ => (pg_name (i := 5) sc_kept_tail.nd rfl (Or.inl rfl))) (fun _ _ _ _ _ => pts_nil) (fun _ _ _ _ _ => (pe_and (pe_m1 PySem.F.slot_str_startswith PySem.F.type_str_startswith mt_startswith (pv 5) (pv 4)) (pe_one (pe_cmpR op_gt (pe_callB call_len_str (by rfl) T.b_len (by decide +kernel) (pa_cons (pv 5) pa_nil)) (pv 3) (nomark _)))))) pa_nil)))
      (pss_one (ps_ret (pv 4)))
      pss_nil))))
  (pss_one (ps_ret pe_str))), ?_⟩
    walk_at "rd"
    refine ⟨_, _, _, _, rfl, RgC.neg (by split <;> omega) (by split <;> omega) (by omega) (by omega), ?_⟩
    refine for_rangeC (n := _) (fun i σ H2 => ∃ (v3 v4 v5 : Option V), σ = [some (.ref p), some (.int (m : Nat)), some (.str (S t)), v3, v4, v5] ∧ Same H H2)
      ⟨_, _, _, rfl, Same.refl H⟩ ?_ ?_
    · rintro i σ H2 hi ⟨v3, v4, v5, rfl, s2⟩
      obtain ⟨d, hd, hd1, hd2, hd3⟩ : ∃ d : Nat, (if ((S t).length : Int) < (m : Int) - 1 then ((S t).length : Int) else (m : Int) - 1) + (i : Nat) * (-1) = (d : Int) ∧ 1 ≤ d ∧ d ≤ t.length ∧ d < m := by
        refine ⟨((if ((S t).length : Int) < (m : Int) - 1 then ((S t).length : Int) else (m : Int) - 1) + (i : Nat) * (-1)).toNat, ?_, ?_, ?_, ?_⟩ <;> split at hi <;> split <;> omega
      rw [hd]
      walk_at "nx"
      refine ⟨_, rfl, _, rfl, _, rfl, sz_S (t := t) (by omega), _, rfl, _, _, rfl, rfl, _, rfl, _, rfl, sz_S (t := t) (by omega), ?_⟩
      rw [cut_from (by omega), hSl, show ((t.length : Int) - (d : Int)).toNat = t.length - d by omega]
      generalize hu : t.drop (t.length - d) = u
      have hul : u.length = d := by rw [← hu]; simp; omega
      walk_at "nx"
      refine if_KH (ls.any fun l => u.isPrefixOf l && decide (d < l.length)) (fun H' => Same H2 H') (fun Q' hQ => ?_) (fun hb H3 s3 => ?_) (fun hb H3 s3 => ?_)
      · walk_at "nx"
        refine ⟨_, rfl, p, rfl, ⟨_, SqL.of (s2 _ _ hp)⟩, fun D hD => lc_lstF (K := K) (a := p) (f := vS) (l := ls) (fun pre H3 => H3 D = some (.lst ((pre.map fun l => (u.isPrefixOf l && decide (d < l.length))).map V.bl)) ∧ Same H2 H3)
          ⟨upd_same, same_new hD⟩ (fun pre H3 ⟨_, s3⟩ => SqL.of (s3 _ _ (s2 _ _ hp))) ?_ ?_⟩
        · rintro pre l post H3 e ⟨h3, s3⟩
          refine ⟨rfl, ty_T ?_⟩
          have hll := h4 l (by rw [e]; simp)
          have hpl : pre.length ≤ 64 := by
            have := congrArg List.length e
            simp at this
            omega
          refine ev_J (fun v H' => v = .bl (u.isPrefixOf l && decide (d < l.length)) ∧ H' = H3) (fun Q'' hQ2 => ?_) ?_
          · refine ⟨_, rfl, ⟨_, rfl⟩, _, rfl, _, _, rfl, rfl, _, rfl, ?_⟩
            rw [startswith_S]
            cases hc : u.isPrefixOf l with
            | false => exact iteF (hQ2 _ _ ⟨by rw [hc]; rfl, rfl⟩)
            | true =>
              refine iteT ⟨_, rfl, _, rfl, sz_S (t := l) (by omega), _, rfl, _, _, rfl, rfl, ?_⟩
              refine hQ2 _ _ ⟨?_, rfl⟩
              rw [S_len, hc, Bool.true_and]
              exact congrArg V.bl (decide_eq_decide.mpr (by omega))
          · rintro v H' ⟨rfl, rfl⟩
            refine ⟨_, h3, by rw [List.length_map, List.length_map]; exact Nat.lt_of_le_of_lt (m := 64) hpl (by decide), ?_, same_mut s3 hD⟩
            rw [List.map_append, List.map_append]
            exact upd_same
        · rintro H3 ⟨h3, s3⟩
          refine ⟨D, _, rfl, SqL.of h3, _, rfl, ?_⟩
          refine q_of (hQ _ s3) ?_
          rw [List.any_map]
          rfl
      · obtain ⟨l, hl1, hl2⟩ := List.any_eq_true.mp hb
        rw [Bool.and_eq_true] at hl2
        have hpre := List.prefix_iff_eq_take.mp (List.isPrefixOf_iff_prefix.mp hl2.1)
        walk_at "rd"
        exact kk u H3 (.inr ⟨l, hl1, d, of_decide_eq_true hl2.2, by rw [← hul]; exact hpre⟩) (s2.trans s3)
      · walk_at "nx"
        exact ⟨_, _, _, rfl, s2.trans s3⟩
    · rintro σ H2 ⟨v3, v4, v5, rfl, s2⟩
      walk_at "rd"
      exact kk [] H2 (.inl rfl) s2
end
end Sh
set_option Elab.async false
set_option linter.all false
set_option maxRecDepth 100000
set_option maxHeartbeats 4000000
namespace Sh
open PySem PySem.Spec PyProof.Rows L2
open SX (S S_inj S_len S_cat)
open Bk (Rule firstAt lg bestUp used left drain pushS Wf)
local macro_rules | `(tactic| walk_at "nx") => `(tactic| repeat (with_reducible first | refine Sh.gn_mk ?_ | refine Sh.nx_mk ?_ | refine Sh.st_nx ?_ | refine Sh.rt_mk ?_ | refine Sh.ct_mk ?_ | refine Sh.bk_mk ?_))
local macro_rules | `(tactic| walk_at "sq") => `(tactic| first | exact SqL.of upd_same | exact SqT.of upd_same | exact SqL.of (by assumption) | exact SqT.of (by assumption) | assumption | exact Or.inl (SqL.of (by assumption)) | exact Or.inr (SqT.of (by assumption)) | exact Or.inl (by assumption) | exact Or.inr (by assumption))
local macro_rules | `(tactic| walk_at "hp") => `(tactic| first | exact upd_same | assumption)
local macro_rules | `(tactic| walk_at "sz") => `(tactic| first | exact Nat.le_of_ble_eq_true rfl | omega)
local macro_rules | `(tactic| walk_at "sd") => `(tactic| first | omega | exact rfl | assumption | (show (0 : Int) < _; omega) | exact And.intro (by omega) (by omega) | exact Or.inl (And.intro (by omega) (by omega)) | exact Or.inr (And.intro (by omega) (by omega)) | omega | exact Sh.sz_S (by omega) | decide)
local macro_rules | `(tactic| walk_at "rd1") => `(tactic| first
  | (with_reducible first | refine Sh.gn_mk ?_ | refine Sh.nx_mk ?_ | refine Sh.st_nx ?_ | refine Sh.rt_mk ?_ | refine Sh.ct_mk ?_ | refine Sh.bk_mk ?_)
  | refine Exists.intro (α := V) _ (And.intro rfl ?_)
  | refine Exists.intro (α := Bool) _ (And.intro rfl ?_)
  | refine Exists.intro (α := Int) _ (And.intro rfl ?_)
  | refine Exists.intro (α := PySem.Str) _ (And.intro rfl ?_)
  | refine Exists.intro (α := Int) _ (Exists.intro (α := Int) _ (And.intro rfl (And.intro rfl ?_)))
  | refine Exists.intro (α := PySem.Str) _ (Exists.intro (α := PySem.Str) _ (And.intro rfl (And.intro rfl ?_)))
  | refine Exists.intro (α := Int) _ (Exists.intro (α := Int) _ (And.intro rfl ?_))
  | refine Or.inl (Exists.intro (α := Int) _ (And.intro rfl ?_))
  | refine Exists.intro _ (Exists.intro _ (Exists.intro _ (Exists.intro _ (And.intro rfl (And.intro rfl (And.intro (by walk_at "sq") (And.intro rfl ?_)))))))
  | refine Exists.intro _ (Exists.intro _ (Exists.intro _ (Exists.intro _ (And.intro rfl (And.intro rfl (And.intro (by walk_at "hp") (And.intro rfl ?_)))))))
  | refine And.intro (by walk_at "sd") ?_
  )
local macro_rules | `(tactic| walk_at "rd") => `(tactic| repeat walk_at "rd1")
local macro_rules | `(tactic| walk_at "lk") => `(tactic| first | exact rfl | (rw [lookup_putF, if_pos rfl]) | (rw [lookup_putF, if_neg (by decide +kernel)]; walk_at "lk"))

section
variable {P : Program} {w : World} {K : PySem.W.Frag} {mg : Str → Option Value} {base : Heap}
/-- the names numbered so far -/
structure NumV (ls ns : List (List Nat)) (kvs : List (Key × V)) : Prop where
  nod : ns.Nodup
  beg : ∀ u ∈ ns, Beg ls u
  len : kvs.length ≤ ns.length
  new : ∀ u, u ∉ ns → valV kvs (Sum.inr (S u)) = none
  val : ∀ u ∈ ns, ∃ i : Int, valV kvs (Sum.inr (S u)) = some (.int i)
theorem beg_len {ls ns : List (List Nat)} (h : ns.Nodup) (b : ∀ u ∈ ns, Beg ls u) (h4 : ∀ l ∈ ls, l.length ≤ 4) : ns.length ≤ 1 + ls.length * 4 := by
  have e : ∀ ls : List (List Nat), (∀ l ∈ ls, l.length ≤ 4) → (ls.flatMap fun l => (List.range l.length).map l.take).length ≤ ls.length * 4 := by
    intro ls
    induction ls with
    | nil => intro _; simp
    | cons l ls ih =>
      intro h
      rw [List.flatMap_cons, List.length_append, List.length_map, List.length_range, List.length_cons]
      have := ih fun x m => h x (List.mem_cons_of_mem _ m)
      have := h l List.mem_cons_self
      omega
  have s : ns ⊆ [] :: (ls.flatMap fun l => (List.range l.length).map l.take) := by
    intro u hu
    rcases b u hu with rfl | ⟨l, hl, n, hn, rfl⟩
    · exact List.mem_cons_self
    · exact List.mem_cons_of_mem _ (List.mem_flatMap.mpr ⟨l, hl, List.mem_map.mpr ⟨n, List.mem_range.mpr hn, rfl⟩⟩)
  have := List.Nodup.length_le_of_subset h s
  have := e ls h4
  simp only [List.length_cons] at *
  omega
theorem Beg.len {ls : List (List Nat)} (h4 : ∀ l ∈ ls, l.length ≤ 4) {u : List Nat} (h : Beg ls u) : u.length ≤ 4 := by
  rcases h with rfl | ⟨l, hl, n, hn, rfl⟩
  · simp
  · have := h4 l hl
    simp
    omega
theorem NumV.more {ls ns : List (List Nat)} {kvs : List (Key × V)} (h : NumV ls ns kvs) {u : List Nat} (b : Beg ls u) (n : u ∉ ns) (i : Int) : NumV ls (ns ++ [u]) (putK kvs (Sum.inr (S u)) (.int i)) := by
  refine ⟨?_, ?_, ?_, ?_, ?_⟩
  · rw [List.nodup_append]
    refine ⟨h.nod, by simp, fun a ha b hb => ?_⟩
    have : b = u := by simpa using hb
    subst this
    intro e
    exact n (e ▸ ha)
  · intro v hv
    rcases List.mem_append.mp hv with q | q
    · exact h.beg v q
    · have : v = u := by simpa using q
      exact this ▸ b
  · rw [putK_new _ (h.new u n)]
    have := h.len
    simp
    omega
  · intro v hv
    have h1 : v ∉ ns := fun z => hv (List.mem_append_left _ z)
    have h2 : v ≠ u := fun z => hv (by rw [z]; simp)
    rw [valV_put, if_neg (fun e => h2 (S_inj (Sum.inr.inj e)))]
    exact h.new v h1
  · intro v hv
    rw [valV_put]
    by_cases e : v = u
    · rw [if_pos (by rw [e])]
      exact ⟨i, rfl⟩
    · rw [if_neg (fun z => e (S_inj (Sum.inr.inj z)))]
      rcases List.mem_append.mp hv with q | q
      · exact h.val v q
      · exact absurd (by simpa using q) e
theorem NumV.start (ls : List (List Nat)) : NumV ls [[]] (mergeK [] [((Sum.inr (S []) : Key), .int 0)]) := by
  have e : NumV ls [] [] := ⟨List.nodup_nil, fun u h => (by cases h), Nat.le_refl _, fun u h => rfl, fun u h => (by cases h)⟩
  exact e.more (.inl rfl) (by simp) 0
theorem lg_le4 {R : List Rule} {m : Nat} (h : ∀ r ∈ R, r.1.length ≤ m) : lg R ≤ m := by
  unfold lg
  rcases Bk.foldl_max_mem (l := R.map (·.1.length)) (a := 0) with q | q
  · rw [q]; omega
  · obtain ⟨r, hr, e⟩ := List.mem_map.mp q
    rw [← e]
    exact h r hr
theorem putK_leS (c : List (Key × V)) (k : Key) (x : V) : (putK c k x).length ≤ c.length + 1 := by
  unfold putK
  split <;> simp
structure MInv (H : Hp) (pD pN pM pV : Addr) (ls ns : List (List Nat)) (kvs : List (Key × V)) (ms : List V) : Prop where
  d : H pD = some (.lst (ls.map vS))
  n : H pN = some (.lst (ns.map vS))
  m : H pM = some (.dK kvs)
  v : H pV = some (.lst ms)
theorem MInv.same {H H' : Hp} {pD pN pM pV : Addr} {ls ns : List (List Nat)} {kvs : List (Key × V)} {ms : List V} (h : MInv H pD pN pM pV ls ns kvs ms) (s : Same H H') : MInv H' pD pN pM pV ls ns kvs ms :=
  ⟨s _ _ h.d, s _ _ h.n, s _ _ h.m, s _ _ h.v⟩
def spMoves (K : PySem.W.Frag) : Sp := fun vs H Q _ => ∃ (a : Addr) (xs : List V) (R : List Rule) (sg : List Nat), vs = [.str (S sg), .ref a] ∧ RulesAt K H a xs R ∧ R.length ≤ 64 ∧ (∀ r ∈ R, r.1.length ≤ 4) ∧ sg.length ≤ 26 ∧
  ∀ (p : Addr) (H' : Hp), Same H H' → Q (.ref p) H'
theorem c_end_moves (T : Txt K mg) : Cal P w K mg base CX0 2 "end_moves" (spMoves K) := by
  have c_longest_left := c_longest_left (P := P) (w := w) (base := base) T
  have c_kept_tail := c_kept_tail (P := P) (w := w) (base := base) T
  refine Cal.mk0 T.d_end_moves sc_end_moves (fun vs H Q E h => ?_) (fun f cdv A outer s H vs Q E hr h => ?_)
  · obtain ⟨a, xs, R, sg, rfl, _⟩ := h
    rfl
  · obtain ⟨a, xs, R, sg, rfl, hR, hl, h4, hsg, kk⟩ := h
    have hu := hu_of hr
    have hSl := S_len sg
    refine ⟨_, (pss_cons (ps_setLc (i := 2) (own := [("rule", 11)]) (g := gName 11) (tt := tYes) (by rfl) sc_end_moves.nd rfl rfl (sw_true rfl rfl rfl (by decide +kernel)) (pi_tup (pv 1)) (blkOk_by (N := ["signs", "rules", "lefts", "names", "numbers", "moves", "longest", "row", "sign", "text", "tail", "rule", "left"]) (sc := defScope s_end_moves) (by decide +kernel)) (fun _ _ _ _ _ => (pg_name (i := 11) sc_end_moves.nd rfl (Or.inl rfl))) (fun _ _ _ _ _ => pts_nil) (fun _ _ _ _ _ => (pe_ix ix_tupB (pv 11) pe_int (fun _ _ => rfl))))
  (pss_cons (ps_set (i := 3) sc_end_moves.nd rfl (Or.inl rfl) (pe_lst (pa_cons pe_str pa_nil)))
  (pss_cons (ps_set (i := 4) sc_end_moves.nd rfl (Or.inl rfl) (pe_disp (pps_cons pe_str pe_int pps_nil) (by rfl) (by rfl) (fun z => by cases z) (by decide)))
  (pss_cons (ps_set (i := 5) sc_end_moves.nd rfl (Or.inl rfl) (pe_lst pa_nil))
  (pss_cons (ps_set (i := 6) sc_end_moves.nd rfl (Or.inl rfl) (pe_c c_longest_left hr (by decide) rfl (pa_cons (pv 1) pa_nil)))
  (pss_cons (ps_while PassesOwn.never (pt_cmpR op_lt (pe_callB call_len_seq (by rfl) T.b_len (by decide +kernel) (pa_cons (pv 5) pa_nil)) (pe_callB call_len_seq (by rfl) T.b_len (by decide +kernel) (pa_cons (pv 3) pa_nil)) (nomark _))
    (pss_cons (ps_set (i := 7) sc_end_moves.nd rfl (Or.inl rfl) pe_dnewK)
    (pss_cons (ps_for PassesOwn.never rfl (pi_str (pv 0)) (pg_name (i := 8) sc_end_moves.nd rfl (Or.inl rfl))
      (pss_cons (ps_set (i := 9) sc_end_moves.nd rfl (Or.inr rfl) (pe_op op_add_str (pe_ix ix_list (pv 3) (pe_callB call_len_seq (by rfl) T.b_len (by decide +kernel) (pa_cons (pv 5) pa_nil)) (fun _ _ => rfl)) (pv 8)))
      (pss_one (ps_if (pt_not (pt_val (pe_callB (cr_any rfl) (by rfl) T.b_any (by decide +kernel) (pa_cons (pe_lc (own := [("left", 12)]) (g := gName 12) (tt := tYes) rfl sc_end_moves.nd (pi_list (pv 2)) (blkOk_by (N := ["signs", "rules", "lefts", "names", "numbers", "moves", "longest", "row", "sign", "text", "tail", "rule", "left"]) (sc := defScope s_end_moves) (by decide +kernel)) (fun _ _ _ _ _ => (pg_name (i := 12) sc_end_moves.nd rfl (Or.inl rfl))) (fun _ _ _ _ _ => pts_nil) (fun _ _ _ _ _ => (pe_m1 PySem.F.slot_str_endswith PySem.F.type_str_endswith mt_endswith (pv 9) (pv 12)))) pa_nil))))
        (pss_cons (ps_set (i := 10) sc_end_moves.nd rfl (Or.inl rfl) (pe_c c_kept_tail hr (by decide) rfl (pa_cons (pv 2) (pa_cons (pv 6) (pa_cons (pv 9) pa_nil)))))
        (pss_cons (ps_if (pt_cmp (pc_dnotin hu (pv 10) (pv 4)))
          (pss_cons (ps_dput hu (pv 4) (pv 10) (pe_callB call_len_seq (by rfl) T.b_len (by decide +kernel) (pa_cons (pv 3) pa_nil)) rfl)
          (pss_one (ps_expr (pe_bm PySem.F.plainAttrs_list PySem.F.slot_list_append PySem.F.type_list_append mt_append (pv 3) (pa_cons (pv 10) pa_nil)))))
          pss_nil)
        (pss_one (ps_dput hu (pv 7) (pv 8) (pe_dget hu (pv 4) (pv 10) (fun _ _ => rfl)) rfl))))
        pss_nil))))
    (pss_one (ps_expr (pe_bm PySem.F.plainAttrs_list PySem.F.slot_list_append PySem.F.type_list_append mt_append (pv 5) (pa_cons (pv 7) pa_nil)))))))
  (pss_one (ps_ret (pv 5))))))))), ?_⟩
    walk_at "rd"
    have h4' : ∀ l ∈ R.map (·.1), l.length ≤ 4 := by
      intro l hl
      obtain ⟨r, hr, rfl⟩ := List.mem_map.mp hl
      exact h4 r hr
    refine ⟨a, rfl, ⟨_, hR.sq⟩, fun pD hpD => lc_tupR (K := K) (a := a) (xs := xs) (l := R) (Rel := fun H v r => ∃ q, v = .ref q ∧ SqT K H q (rTup r)) hR.len
      (fun pre H3 => H3 pD = some (.lst ((pre.map (·.1)).map vS)) ∧ Same H H3) ⟨upd_same, same_new hpD⟩ (fun pre H3 ⟨_, s3⟩ => ⟨(hR.same s3).sq, (hR.same s3).it⟩) ?_ ?_⟩
    · rintro pre r post x H3 e hx ⟨q, rfl, sq⟩ ⟨h3, s3⟩
      refine ⟨rfl, ty_T ?_⟩
      have hpl : pre.length ≤ 64 := by
        have := congrArg List.length e
        simp at this
        omega
      refine ⟨_, rfl, q, _, 0, .str (S r.1), rfl, rfl, sq, rfl, _, h3, by rw [List.length_map, List.length_map]; exact Nat.lt_of_le_of_lt (m := 64) hpl (by decide), ?_, same_mut s3 hpD⟩
      rw [List.map_append, List.map_append]
      exact upd_same
    · rintro H1 ⟨hD1, s1⟩
      walk_at "nx"
      refine ⟨by walk_at "sz", fun pN hpN => ?_⟩
      have hDN : pD ≠ pN := ne_of_none hD1 hpN
      have s2 := same_new (o := .lst [.str (Str.ofString "")]) hpN
      walk_at "nx"
      intro pM hpM
      have s3 := s2.trans (same_new (o := .dK []) hpM)
      refine ⟨upd_same, [((Sum.inr (S []) : Key), .int 0)], rfl, by decide, ?_⟩
      generalize hN2 : upd H1 pN (.lst [.str (Str.ofString "")]) = HN at hpM s2 s3 ⊢
      have hn2 : HN pN = some (.lst ([[]].map vS)) := by rw [← hN2]; exact upd_same
      have s4 : Same HN (upd (upd HN pM (.dK [])) pM (.dK (mergeK [] [((Sum.inr (S []) : Key), .int 0)]))) := same_mut (same_new hpM) hpM
      generalize hM2 : upd (upd HN pM (.dK [])) pM (.dK (mergeK [] [((Sum.inr (S []) : Key), .int 0)])) = HM at s4 ⊢
      have hm2 : HM pM = some (.dK (mergeK [] [((Sum.inr (S []) : Key), .int 0)])) := by rw [← hM2]; exact upd_same
      walk_at "nx"
      refine ⟨by walk_at "sz", fun pV hpV => ?_⟩
      have hn3 := s4 _ _ hn2
      have hd3 := s4 _ _ (s2 _ _ hD1)
      have hNV : pN ≠ pV := ne_of_none hn3 hpV
      have hDV : pD ≠ pV := ne_of_none hd3 hpV
      have s5 := same_new (o := .lst []) hpV
      have s05 : Same H (upd HM pV (.lst [])) := ((s1.trans s2).trans s4).trans s5
      have M0 : MInv (upd HM pV (.lst [])) pD pN pM pV (R.map (·.1)) [[]] (mergeK [] [((Sum.inr (S []) : Key), .int 0)]) [] :=
        ⟨s5 _ _ hd3, s5 _ _ hn3, s5 _ _ hm2, upd_same⟩
      have hpN0 : H pN = none := by
        cases e : H pN with
        | none => rfl
        | some o => rw [s1 _ _ e] at hpN; cases hpN
      have hpM0 : H pM = none := by
        cases e : H pM with
        | none => rfl
        | some o => rw [s2 _ _ (s1 _ _ e)] at hpM; cases hpM
      have hpV0 : H pV = none := by
        cases e : H pV with
        | none => rfl
        | some o => rw [s4 _ _ (s2 _ _ (s1 _ _ e))] at hpV; cases hpV
      generalize upd HM pV (.lst []) = H5 at s05 M0 ⊢
      walk_at "nx"
      refine ⟨_, rfl, a, xs, R, rfl, hR.same s05, hl, fun r hr => Nat.le_trans (h4 r hr) (by decide), fun H6 s6 => ?_⟩
      have hlg := lg_le4 h4
      walk_at "nx"
      refine ⟨fun m σ Hn => ∃ (ns : List (List Nat)) (kvs : List (Key × V)) (ms : List V) (v7 v8 v9 v10 v11 v12 : Option V), σ = [some (.str (S sg)), some (.ref a), some (.ref pD), some (.ref pN), some (.ref pM), some (.ref pV), some (.int (lg R : Nat)), v7, v8, v9, v10, v11, v12] ∧
        Same H Hn ∧ MInv Hn pD pN pM pV (R.map (·.1)) ns kvs ms ∧ NumV (R.map (·.1)) ns kvs ∧ 300 - ms.length ≤ m,
        ⟨300, [[]], _, [], _, _, _, _, _, _, rfl, s05.trans s6, M0.same s6, NumV.start _, by simp⟩, ?_⟩
      rintro m σ H7 ⟨ns, kvs, ms, v7, v8, v9, v10, v11, v12, rfl, s7, M, N, hm⟩
      have hns : ns.length ≤ 257 := by
        have := beg_len N.nod N.beg h4'
        rw [List.length_map] at this
        omega
      walk_at "rd"
      refine ⟨pV, ms, rfl, .inl (SqL.of M.v), _, rfl, pN, _, rfl, .inl (SqL.of M.n), _, _, rfl, rfl, ?_⟩
      rw [List.length_map]
      refine ⟨_, rfl, ?_⟩
      by_cases hc : ms.length < ns.length
      · rw [decide_eq_true (show ((ms.length : Nat) : Int) < (ns.length : Nat) by omega)]
        refine iteT ⟨_, fun _ _ h => h, ?_⟩
        walk_at "nx"
        intro pW hpW
        have hVW : pV ≠ pW := ne_of_none M.v hpW
        have hNW : pN ≠ pW := ne_of_none M.n hpW
        have hDW : pD ≠ pW := ne_of_none M.d hpW
        have hMW : pM ≠ pW := ne_of_none M.m hpW
        have s8 := same_new (o := .dK []) hpW
        have hpW0 : H pW = none := by
          cases e : H pW with
          | none => rfl
          | some o => rw [s7 _ _ e] at hpW; cases hpW
        have M8 := M.same s8
        have s78 := s7.trans s8
        have hW8 : (upd H7 pW (.dK [])) pW = some (.dK []) := upd_same
        generalize upd H7 pW (.dK []) = H8 at s78 M8 hW8 ⊢
        walk_at "rd"
        refine for_str (l := sg) (fun pre σ Hn => ∃ (ns : List (List Nat)) (kvs kw : List (Key × V)) (v8 v9 v10 v11 v12 : Option V), σ = [some (.str (S sg)), some (.ref a), some (.ref pD), some (.ref pN), some (.ref pM), some (.ref pV), some (.int (lg R : Nat)), some (.ref pW), v8, v9, v10, v11, v12] ∧
          Same H Hn ∧ MInv Hn pD pN pM pV (R.map (·.1)) ns kvs ms ∧ NumV (R.map (·.1)) ns kvs ∧ ms.length < ns.length ∧ Hn pW = some (.dK kw) ∧ kw.length ≤ pre.length)
          ⟨ns, kvs, [], _, _, _, _, _, rfl, s78, M8, N, hc, hW8, Nat.le_refl _⟩ ?_ ?_
        · rintro pre c post σ H9 e ⟨ns, kvs, kw, v8, v9, v10, v11, v12, rfl, s9, M, N, hc, hW, hkw⟩
          have hpl : pre.length + 1 ≤ sg.length := by
            have := congrArg List.length e
            simp at this
            omega
          have hns : ns.length ≤ 257 := by
            have := beg_len N.nod N.beg h4'
            rw [List.length_map] at this
            omega
          have hg : ns[ms.length]? = some ns[ms.length] := by simp [hc]
          generalize ns[ms.length] = nm at hg
          have hnm := (N.beg nm (List.mem_of_getElem? hg)).len h4'
          have hgv : (ns.map vS)[ms.length]? = some (vS nm) := by rw [List.getElem?_map, hg]; rfl
          walk_at "nx"
          refine ⟨_, rfl, _, rfl, pV, ms, rfl, .inl (SqL.of M.v), pN, _, _, vS nm, rfl, rfl, SqL.of M.n, atI_nat hgv, ?_⟩
          refine ⟨_, rfl, _, _, rfl, rfl, by rw [S_len, S_len]; exact Nat.le_trans (m := 5) (by simp; omega) (by decide), ?_⟩
          rw [S_cat]
          walk_at "nx"
          generalize hu : nm ++ [c] = tx
          have htl : tx.length ≤ 5 := by rw [← hu]; simp; omega
          refine if_KH (!((R.map (·.1)).any fun l => l.isSuffixOf tx)) (fun H' => Same H9 H') (fun Q' hQ => ?_) (fun hb H10 s10 => ?_) (fun hb H10 s10 => ?_)
          · walk_at "nx"
            refine ⟨_, rfl, pD, rfl, ⟨_, SqL.of M.d⟩, fun D hD => lc_lstF (K := K) (a := pD) (f := vS) (l := R.map (·.1)) (fun pre H3 => H3 D = some (.lst ((pre.map fun l => l.isSuffixOf tx).map V.bl)) ∧ Same H9 H3)
              ⟨upd_same, same_new hD⟩ (fun pre H3 ⟨_, s3⟩ => SqL.of (s3 _ _ M.d)) ?_ ?_⟩
            · rintro pre l post H3 e ⟨h3, s3⟩
              refine ⟨rfl, ty_T ?_⟩
              have hpl : pre.length ≤ 64 := by
                have := congrArg List.length e
                simp at this
                omega
              refine ⟨_, rfl, ⟨_, rfl⟩, _, rfl, _, _, rfl, rfl, ?_⟩
              rw [endswith_S]
              refine ⟨_, h3, by rw [List.length_map, List.length_map]; exact Nat.lt_of_le_of_lt (m := 64) hpl (by decide), ?_, same_mut s3 hD⟩
              rw [List.map_append, List.map_append]
              exact upd_same
            · rintro H3 ⟨h3, s3⟩
              refine ⟨D, _, rfl, SqL.of h3, _, rfl, ?_⟩
              refine q_of (hQ _ s3) ?_
              rw [List.any_map]
              rfl
          · walk_at "nx"
            have M10 := M.same s10
            refine ⟨_, rfl, _, rfl, _, rfl, pD, R.map (·.1), lg R, tx, rfl, M10.d, by simpa using hl, h4', hlg, by omega, fun u H11 hu11 s11 => ?_⟩
            have M11 := M10.same s11
            have s11' := s10.trans s11
            walk_at "nx"
            refine st_ifJ (fun σ Hn => ∃ (ns : List (List Nat)) (kvs : List (Key × V)) (v12 : Option V), σ = [some (.str (S sg)), some (.ref a), some (.ref pD), some (.ref pN), some (.ref pM), some (.ref pV), some (.int (lg R : Nat)), some (.ref pW), some (.str (S [c])), some (.str (S tx)), some (.str (S u)), v11, v12] ∧
              Same H Hn ∧ MInv Hn pD pN pM pV (R.map (·.1)) ns kvs ms ∧ NumV (R.map (·.1)) ns kvs ∧ ms.length < ns.length ∧ Hn pW = some (.dK kw) ∧ u ∈ ns) (fun N' hN' => ?_) ?_
            · walk_at "rd"
              refine ⟨pM, _, rfl, DGet.k (k := Sum.inr (S u)) M11.m, _, rfl, ?_⟩
              by_cases hun : u ∈ ns
              · obtain ⟨i9, hi9⟩ := N.val u hun
                rw [hi9]
                refine iteF ?_
                walk_at "nx"
                exact hN' _ _ ⟨ns, kvs, _, rfl, s9.trans s11', M11, N, hc, s11' _ _ hW, hun⟩
              · rw [N.new u hun]
                refine iteT ?_
                have hkz : kvs.length < sizeLine := Nat.lt_of_lt_of_le (m := 258) (by have := N.len; omega) (by decide)
                refine ⟨_, rfl, pN, _, rfl, .inl (SqL.of M11.n), _, rfl, _, rfl, pM, _, rfl, DPut.k (k := Sum.inr (S u)) M11.m hkz, ?_⟩
                have hMN : pM ≠ pN := ne_of M11.m M11.n (by intro z; cases z)
                have hMD : pM ≠ pD := ne_of M11.m M11.d (by intro z; cases z)
                have hMV : pM ≠ pV := ne_of M11.m M11.v (by intro z; cases z)
                walk_at "nx"
                have hn12 : ∀ o, (upd H11 pM o) pN = some (.lst (ns.map vS)) := fun o => by rw [upd_ne hMN.symm]; exact M11.n
                refine ⟨_, rfl, .inl ⟨rfl, _, SqL.of (hn12 _)⟩, _, rfl, pN, _, _, rfl, rfl, hn12 _, by rw [List.length_map]; exact Nat.lt_of_lt_of_le (m := 258) (by omega) (by decide), ?_⟩
                refine hN' _ _ ⟨ns ++ [u], _, _, rfl, same_mut (same_mut (s9.trans s11') hpM0) hpN0, ⟨?_, ?_, ?_, ?_⟩, N.more hu11 hun (((ns.map vS).length : Nat) : Int), by simp; omega, ?_, by simp⟩
                · rw [upd_ne hDN, upd_ne hMD.symm]; exact M11.d
                · rw [List.map_append]; exact upd_same
                · rw [upd_ne hMN]; exact upd_same
                · rw [upd_ne hNV.symm, upd_ne hMV.symm]; exact M11.v
                · rw [upd_ne hNW.symm, upd_ne hMW.symm]; exact s11' _ _ hW
            · rintro σ H12 ⟨ns, kvs, v12, rfl, s12, M, N, hc, hW, hun⟩
              walk_at "rd"
              obtain ⟨i9, hi9⟩ := N.val u hun
              refine ⟨pM, _, rfl, by rw [← hi9]; exact DGet.k (k := Sum.inr (S u)) M.m, _, rfl, _, rfl, pW, _, rfl, DPut.k (k := Sum.inr (S [c])) hW (Nat.lt_of_lt_of_le (m := 100) (by omega) (by decide)), ?_⟩
              refine ⟨ns, kvs, _, _, _, _, _, _, rfl, same_mut s12 hpW0, ⟨?_, ?_, ?_, ?_⟩, N, hc, upd_same, ?_⟩
              · rw [upd_ne hDW]; exact M.d
              · rw [upd_ne hNW]; exact M.n
              · rw [upd_ne hMW]; exact M.m
              · rw [upd_ne hVW]; exact M.v
              · have := putK_leS kw (Sum.inr (S [c])) (V.int i9)
                simp
                omega
          · walk_at "nx"
            exact ⟨ns, kvs, kw, _, _, _, _, _, rfl, s9.trans s10, M.same s10, N, hc, s10 _ _ hW, by simp; omega⟩
        · rintro σ H9 ⟨ns, kvs, kw, v8, v9, v10, v11, v12, rfl, s9, M, N, hc, hW, hkw⟩
          have hns : ns.length ≤ 257 := by
            have := beg_len N.nod N.beg h4'
            rw [List.length_map] at this
            omega
          walk_at "nx"
          refine ⟨_, rfl, .inl ⟨rfl, _, SqL.of M.v⟩, _, rfl, pV, ms, _, rfl, rfl, M.v, Nat.lt_of_lt_of_le (m := 257) (by omega) (by decide), ?_⟩
          refine ⟨m - 1, ?_, ns, kvs, ms ++ [.ref pW], _, _, _, _, _, _, rfl, same_mut s9 hpV0, ⟨?_, ?_, ?_, upd_same⟩, N, by simp; omega⟩
          · omega
          · rw [upd_ne hDV]; exact M.d
          · rw [upd_ne hNV]; exact M.n
          · rw [upd_ne (ne_of M.m M.v (by intro z; cases z))]; exact M.m
      · rw [decide_eq_false (show ¬ ((ms.length : Nat) : Int) < (ns.length : Nat) by omega)]
        refine iteF ?_
        walk_at "rd"
        exact kk pV H7 s7
end
end Sh
set_option Elab.async false
set_option linter.all false
set_option maxRecDepth 100000
set_option maxHeartbeats 4000000
namespace Sh
open PySem PySem.Spec PyProof.Rows L2
open SX (S S_inj S_len S_cat)
open Bk (Rule firstAt lg bestUp used left drain pushS Wf)
theorem hu65_of {k : Nat} {A : Around} (hr : Room k A) : A.units + 65 < cLine := by
  have := hr.un
  omega
/-- a rule as data -/
def rD (r : Rule) : PyData := .tuple [.str (S r.1), .str (S r.2)]
theorem rD_eqv (a b : Rule) : PyData.eqv (rD a) (rD b) = decide (a = b) := by
  show (S a.1 == S b.1 && (S a.2 == S b.2 && true)) = _
  rw [Bool.and_true, Bool.eq_iff_iff]
  simp only [Bool.and_eq_true, beq_iff_eq, decide_eq_true_eq]
  constructor
  · rintro ⟨h, k⟩
    exact Prod.ext (S_inj h) (S_inj k)
  · rintro rfl
    exact ⟨rfl, rfl⟩
def Chars (t : List Nat) : Prop := ∀ c ∈ t, c < 1114112
theorem strOk_S {t : List Nat} (h : Chars t) : PyData.strOk (S t) = true := by
  unfold PyData.strOk
  show (Array.all _ _) = true
  rw [← Array.all_toList, List.all_eq_true]
  intro c hc
  exact decide_eq_true (h c hc)
def RChars (R : List Rule) : Prop := ∀ r ∈ R, Chars r.1 ∧ Chars r.2
theorem shaped_rule {r : Rule} (h : Chars r.1 ∧ Chars r.2) : SeqAt.shaped (rD r) = true := by
  unfold SeqAt.shaped
  rw [Bool.and_eq_true]
  refine ⟨?_, decide_eq_true (show (1 : Nat) ≤ 64 by decide)⟩
  show (PyData.strOk (S r.1) && (PyData.strOk (S r.2) && true)) = true
  rw [strOk_S h.1, strOk_S h.2]; rfl
theorem lay_rules : ∀ {R : List Rule}, RChars R → PyData.canLayAll0 (R.map rD) = true ∧ PyData.depthAll (R.map rD) ≤ 1
  | [], _ => ⟨rfl, Nat.zero_le _⟩
  | r :: R, h => by
    obtain ⟨h1, h2⟩ := lay_rules (R := R) fun x m => h x (List.mem_cons_of_mem _ m)
    have h3 := h r List.mem_cons_self
    refine ⟨?_, ?_⟩
    · show ((PyData.strOk (S r.1) && (PyData.strOk (S r.2) && true)) && PyData.canLayAll0 (R.map rD)) = true
      rw [strOk_S h3.1, strOk_S h3.2, h1]; rfl
    · show max 1 (PyData.depthAll (R.map rD)) ≤ 1
      omega
theorem shaped_rules {R : List Rule} (h : RChars R) : SeqAt.shaped (.list (R.map rD)) = true := by
  obtain ⟨h1, h2⟩ := lay_rules h
  unfold SeqAt.shaped
  rw [Bool.and_eq_true]
  refine ⟨h1, decide_eq_true ?_⟩
  show PyData.depthAll (R.map rD) + 1 ≤ 64
  omega
theorem letters_lt : ∀ c ∈ letters, c < 1114112 := by decide +kernel
theorem signs_chars {sg : List Nat} (h : isSigns sg = true) : Chars sg := by
  intro c hc
  obtain ⟨i, hi, rfl⟩ := List.mem_iff_getElem.mp hc
  simp only [isSigns, Bool.and_eq_true, List.all_eq_true, List.mem_range] at h
  have := h.2 i hi
  simp only [okAt, Bool.and_eq_true, decide_eq_true_eq] at this
  have e : sg.getD i 0 = sg[i] := by
    rw [List.getD_eq_getElem?_getD, List.getElem?_eq_getElem hi]; rfl
  rw [e] at this
  exact letters_lt _ this.1
local macro_rules | `(tactic| walk_at "nx") => `(tactic| repeat (with_reducible first | refine Sh.gn_mk ?_ | refine Sh.nx_mk ?_ | refine Sh.st_nx ?_ | refine Sh.rt_mk ?_ | refine Sh.ct_mk ?_ | refine Sh.bk_mk ?_))
local macro_rules | `(tactic| walk_at "sq") => `(tactic| first | exact SqL.of upd_same | exact SqT.of upd_same | exact SqL.of (by assumption) | exact SqT.of (by assumption) | assumption | exact Or.inl (SqL.of (by assumption)) | exact Or.inr (SqT.of (by assumption)) | exact Or.inl (by assumption) | exact Or.inr (by assumption))
local macro_rules | `(tactic| walk_at "hp") => `(tactic| first | exact upd_same | assumption)
local macro_rules | `(tactic| walk_at "sz") => `(tactic| first | exact Nat.le_of_ble_eq_true rfl | omega)
local macro_rules | `(tactic| walk_at "sd") => `(tactic| first | omega | exact rfl | assumption | (show (0 : Int) < _; omega) | exact And.intro (by omega) (by omega) | exact Or.inl (And.intro (by omega) (by omega)) | exact Or.inr (And.intro (by omega) (by omega)) | omega | exact Sh.sz_S (by omega) | decide)
local macro_rules | `(tactic| walk_at "rd1") => `(tactic| first
  | (with_reducible first | refine Sh.gn_mk ?_ | refine Sh.nx_mk ?_ | refine Sh.st_nx ?_ | refine Sh.rt_mk ?_ | refine Sh.ct_mk ?_ | refine Sh.bk_mk ?_)
  | refine Exists.intro (α := V) _ (And.intro rfl ?_)
  | refine Exists.intro (α := Bool) _ (And.intro rfl ?_)
  | refine Exists.intro (α := Int) _ (And.intro rfl ?_)
  | refine Exists.intro (α := PySem.Str) _ (And.intro rfl ?_)
  | refine Exists.intro (α := Int) _ (Exists.intro (α := Int) _ (And.intro rfl (And.intro rfl ?_)))
  | refine Exists.intro (α := PySem.Str) _ (Exists.intro (α := PySem.Str) _ (And.intro rfl (And.intro rfl ?_)))
  | refine Exists.intro (α := Int) _ (Exists.intro (α := Int) _ (And.intro rfl ?_))
  | refine Or.inl (Exists.intro (α := Int) _ (And.intro rfl ?_))
  | refine Exists.intro _ (Exists.intro _ (Exists.intro _ (Exists.intro _ (And.intro rfl (And.intro rfl (And.intro (by walk_at "sq") (And.intro rfl ?_)))))))
  | refine Exists.intro _ (Exists.intro _ (Exists.intro _ (Exists.intro _ (And.intro rfl (And.intro rfl (And.intro (by walk_at "hp") (And.intro rfl ?_)))))))
  | refine And.intro (by walk_at "sd") ?_
  )
local macro_rules | `(tactic| walk_at "rd") => `(tactic| repeat walk_at "rd1")
local macro_rules | `(tactic| walk_at "lk") => `(tactic| first | exact rfl | (rw [lookup_putF, if_pos rfl]) | (rw [lookup_putF, if_neg (by decide +kernel)]; walk_at "lk"))

section
variable {P : Program} {w : World} {K : PySem.W.Frag} {mg : Str → Option Value} {base : Heap}
def RItem (K : PySem.W.Frag) (H : Hp) (v : V) (r : Rule) : Prop := ∃ q, v = .ref q ∧ SqT K H q (rTup r)
theorem RItem.same {H H' : Hp} {v : V} {r : Rule} (h : RItem K H v r) (k : Keep H H') : RItem K H' v r := let ⟨q, e, s⟩ := h; ⟨q, e, k.seq s⟩
theorem RItem.dp {H : Hp} {v : V} {r : Rule} (h : RItem K H v r) : Dp K H v (rD r) := by
  obtain ⟨q, rfl, s⟩ := h
  exact .tup s (.cons (.str _) (.cons (.str _) .nil))
theorem dpAll_rules {H : Hp} : ∀ {xs : List V} {R : List Rule}, Items (RItem K) H xs R → DpAll K H xs (R.map rD)
  | [], [], _ => .nil
  | [], _ :: _, h => by have := h.1; simp at this
  | _ :: _, [], h => by have := h.1; simp at this
  | x :: xs, r :: R, h => .cons (h.2 0 x r rfl rfl).dp (dpAll_rules (xs := xs) (R := R) ⟨by have := h.1; simpa using this, fun i x y h1 h2 => h.2 (i + 1) x y h1 h2⟩)
theorem RulesAt.items {H : Hp} {a : Addr} {xs : List V} {R : List Rule} (h : RulesAt K H a xs R) : Items (RItem K) H xs R := ⟨h.len, h.it⟩
theorem any_rules {R : List Rule} {r : Rule} : ((R.map rD).any fun z => PyData.eqv z (rD r)) = decide (r ∈ R) := by
  rw [List.any_map, Bool.eq_iff_iff]
  simp only [List.any_eq_true, Function.comp, rD_eqv, decide_eq_true_eq]
  constructor
  · rintro ⟨x, hx, rfl⟩; exact hx
  · intro h; exact ⟨r, h, rfl⟩
/-- the wall rules stand behind -/
def spIsRule (K : PySem.W.Frag) : Sp := fun vs H Q _ => ∃ (sg : List Nat) (q : Addr) (r : Rule), vs = [.str (S sg), .ref q] ∧ SqT K H q (rTup r) ∧ RuleOk sg 4 r ∧ Q (.bl true) H
theorem c_is_rule (T : Txt K mg) : Cal P w K mg base CX0 2 "is_rule" (spIsRule K) := by
  have c_is_listed := c_is_listed (P := P) (w := w) (base := base) T
  have c_is_text := c_is_text (P := P) (w := w) (base := base) T
  refine Cal.mk0 T.d_is_rule sc_is_rule (fun vs H Q E h => ?_) (fun f cdv A outer s H vs Q E hr h => ?_)
  · obtain ⟨sg, q, r, rfl, _⟩ := h
    rfl
  · obtain ⟨sg, q, r, rfl, hq, ⟨h1, h2, h3, h4, h5, h6⟩, k⟩ := h
    refine ⟨_, (pss_cons (ps_if (PW.pt (pw_or (pt_not (pt_truth (pe_c c_is_listed hr (by decide) rfl (pa_cons (pv 1) pa_nil)) (by intro _; rfl))) (pw_or1 (pt_cmpR op_ne (pe_callB call_len_seq (by rfl) T.b_len (by decide +kernel) (pa_cons (pv 1) pa_nil)) pe_int (nomark _)))))
    (pss_one (ps_ret pe_bl))
    pss_nil)
  (pss_cons (ps_if (PW.pt (pw_or (pt_not (pt_truth (pe_c c_is_text hr (by decide) rfl (pa_cons (pv 0) (pa_cons (pe_ix ix_tup (pv 1) pe_int (fun _ _ => rfl)) (pa_cons pe_int (pa_cons (pe_gK rfl T.g_LONGEST_LEFT) pa_nil))))) (by intro _; rfl))) (pw_or1 (pt_not (pt_truth (pe_c c_is_text hr (by decide) rfl (pa_cons (pv 0) (pa_cons (pe_ix ix_tup (pv 1) pe_int (fun _ _ => rfl)) (pa_cons pe_int (pa_cons pe_int pa_nil))))) (by intro _; rfl))))))
    (pss_one (ps_ret pe_bl))
    pss_nil)
  (pss_one (ps_ret (pe_cmpR op_lt (pe_callB call_len_str (by rfl) T.b_len (by decide +kernel) (pa_cons (pe_ix ix_tup (pv 1) pe_int (fun _ _ => rfl)) pa_nil)) (pe_callB call_len_str (by rfl) T.b_len (by decide +kernel) (pa_cons (pe_ix ix_tup (pv 1) pe_int (fun _ _ => rfl)) pa_nil)) (nomark _)))))), ?_⟩
    walk_at "rd"
    refine ⟨_, _, rfl, ty_tup hq, by decide, ?_⟩
    refine ⟨true, rfl, ?_⟩
    refine iteF ?_
    walk_at "rd"
    refine ⟨q, _, rfl, .inr hq, ?_⟩
    walk_at "rd"
    have e1 : isText sg r.1 1 4 = true := by
      have c2 : (1 : Int) ≤ (r.1.length : Int) := by omega
      have c3 : (r.1.length : Int) ≤ 4 := by omega
      simp only [isText, c2, c3, decide_true, Bool.true_and, List.all_eq_true]
      exact fun c h => decide_eq_true (h3 c h)
    have e2 : isText sg r.2 0 1 = true := by
      have c2 : (0 : Int) ≤ (r.2.length : Int) := by omega
      have c3 : (r.2.length : Int) ≤ 1 := by omega
      simp only [isText, c2, c3, decide_true, Bool.true_and, List.all_eq_true]
      exact fun c h => decide_eq_true (h4 c h)
    refine ⟨sg, r.1, 1, 4, rfl, by omega, ?_⟩
    rw [e1]
    refine ⟨true, rfl, ?_⟩
    refine iteF ?_
    walk_at "rd"
    refine ⟨sg, r.2, 0, 1, rfl, by omega, ?_⟩
    rw [e2]
    refine ⟨true, rfl, ?_⟩
    refine iteF ?_
    walk_at "rd"
    rw [S_len, S_len]
    show Q (.bl (decide ((r.2.length : Int) < (r.1.length : Int)))) H
    rw [decide_eq_true (by omega)]
    exact k
def BookOk (sg : List Nat) (R : List Rule) : Prop := isSigns sg = true ∧ R.length ≤ 64 ∧ (∀ r ∈ R, RuleOk sg 4 r) ∧ R.Nodup
theorem BookOk.chars {sg : List Nat} {R : List Rule} (h : BookOk sg R) : RChars R := fun r m =>
  ⟨fun c hc => signs_chars h.1 c ((h.2.2.1 r m).2.2.1 c hc), fun c hc => signs_chars h.1 c ((h.2.2.1 r m).2.2.2.1 c hc)⟩
theorem BookOk.wf {sg : List Nat} {R : List Rule} (h : BookOk sg R) : Wf R := fun r m => ⟨(h.2.2.1 r m).2.2.2.2.2, (h.2.2.1 r m).2.2.2.2.1⟩
def spChecked (K : PySem.W.Frag) : Sp := fun vs H Q _ => ∃ (sg : List Nat) (a : Addr) (xs : List V) (R : List Rule), vs = [.str (S sg), .ref a] ∧ RulesAt K H a xs R ∧ BookOk sg R ∧
  ∀ (p : Addr) (ys : List V) (H' : Hp), Same H H' → RulesAt K H' p ys R → Q (.ref p) H'
theorem c_checked_rules (T : Txt K mg) : Cal P w K mg base CX0 3 "checked_rules" (spChecked K) := by
  have c_is_listed := c_is_listed (P := P) (w := w) (base := base) T
  have c_is_rule := c_is_rule (P := P) (w := w) (base := base) T
  refine Cal.mk0 T.d_checked_rules sc_checked_rules (fun vs H Q E h => ?_) (fun f cdv A outer s H vs Q E hr h => ?_)
  · obtain ⟨sg, a, xs, R, rfl, _⟩ := h
    rfl
  · obtain ⟨sg, a, xs, R, rfl, hR, hB, kk⟩ := h
    have hu65 := hu65_of hr
    have hch := hB.chars
    have hlx := hR.len
    obtain ⟨hsg, hl, hok, hnd⟩ := hB
    refine ⟨_, (pss_cons (ps_if (PW.pt (pw_or (pt_not (pt_truth (pe_c c_is_listed hr (by decide) rfl (pa_cons (pv 1) pa_nil)) (by intro _; rfl))) (pw_or1 (pt_cmpR op_gt (pe_callB call_len_seq (by rfl) T.b_len (by decide +kernel) (pa_cons (pv 1) pa_nil)) (pe_gK rfl T.g_MOST_RULES) (nomark _)))))
    (pss_one ps_never)
    pss_nil)
  (pss_cons (ps_set (i := 2) sc_checked_rules.nd rfl (Or.inl rfl) (pe_lst pa_nil))
  (pss_cons (ps_for PassesOwn.never rfl (pi_range1 (by rfl) T.b_range (pa_cons (pe_callB call_len_seq (by rfl) T.b_len (by decide +kernel) (pa_cons (pv 1) pa_nil)) pa_nil)) (pg_name (i := 3) sc_checked_rules.nd rfl (Or.inl rfl))
    (pss_cons (ps_if (PW.pt (pw_or (pt_not (pt_truth (pe_c c_is_rule hr (by decide) rfl (pa_cons (pv 0) (pa_cons (pe_ix ix_tup (pv 1) (pv 3) (fun _ _ => rfl)) pa_nil))) (by intro _; rfl))) (pw_or1 (pt_cmpR (op_inD hu65) (pe_callTy call_tuple_of (by rfl) T.b_tuple (by decide +kernel) (pa_cons (pe_ix ix_tup (pv 1) (pv 3) (fun _ _ => rfl)) pa_nil)) (pv 2) (by rfl)))))
      (pss_one ps_never)
      pss_nil)
    (pss_one (ps_expr (pe_bm PySem.F.plainAttrs_list PySem.F.slot_list_append PySem.F.type_list_append mt_append (pv 2) (pa_cons (pe_callTy call_tuple_of (by rfl) T.b_tuple (by decide +kernel) (pa_cons (pe_ix ix_tup (pv 1) (pv 3) (fun _ _ => rfl)) pa_nil)) pa_nil))))))
  (pss_one (ps_ret (pe_callTy call_tuple_of (by rfl) T.b_tuple (by decide +kernel) (pa_cons (pv 2) pa_nil))))))), ?_⟩
    walk_at "rd"
    refine ⟨_, _, rfl, ty_tup hR.sq, by decide, ?_⟩
    walk_at "rd"
    refine ⟨a, _, rfl, .inr hR.sq, ?_⟩
    walk_at "rd"
    rw [show decide ((64 : Int) < (xs.length : Int)) = false from decide_eq_false (by omega)]
    refine iteF ?_
    walk_at "rd"
    intro p hp
    have s1 : Same H (upd H p (.lst [])) := same_new hp
    refine ⟨_, rfl, a, xs, rfl, .inr (hR.same s1).sq, ?_⟩
    walk_at "rd"
    refine for_range (lo := 0) (n := ((xs.length : Int)).toNat) (fun i σ H2 => ∃ (ys : List V) (v3 : Option V), σ = [some (.str (S sg)), some (.ref a), some (.ref p), v3] ∧ Same H H2 ∧ H2 p = some (.lst ys) ∧ Items (RItem K) H2 ys (R.take i))
      ⟨[], _, rfl, s1, upd_same, Items.nil⟩ ?_ ?_
    · rintro i σ H2 hi ⟨ys, v3, rfl, s2, hp2, it2⟩
      rw [Int.zero_add]
      have hi2 : i < R.length := by omega
      have hr2 : R[i]? = some R[i] := by simp [hi2]
      obtain ⟨q, hq, sq⟩ := (hR.same s2).get hr2
      have et : R.take (i + 1) = R.take i ++ [R[i]] := by rw [List.take_succ, hr2]; rfl
      have hni : R[i] ∉ R.take i := by
        intro hm
        obtain ⟨j, hj, e⟩ := List.mem_iff_getElem.mp hm
        have hj2 : j < i := by
          rw [List.length_take] at hj
          omega
        rw [List.getElem_take] at e
        exact absurd (List.getElem_inj hnd |>.mp e) (by omega)
      have hR2 := hR.same s2
      have hci := hch _ (List.getElem_mem hi2)
      have hct : RChars (R.take i) := fun r m => hch r (List.mem_of_mem_take m)
      walk_at "nx"
      refine st_ifK false (fun Q' hQ => ?_) (fun hb => by cases hb) (fun _ => ?_)
      · refine ⟨_, rfl, _, rfl, _, rfl, a, xs, _, .ref q, rfl, rfl, hR2.sq, atI_nat hq, sg, q, R[i], rfl, sq, hok _ (List.getElem_mem hi2), true, rfl, ?_⟩
        refine iteF ?_
        refine ⟨_, rfl, _, rfl, a, xs, _, .ref q, rfl, rfl, hR2.sq, atI_nat hq, q, _, rfl, .inr ⟨sq, _, rfl, rD R[i], (R.take i).map rD, RItem.dp ⟨q, rfl, sq⟩, .lst (SqL.of hp2) (dpAll_rules it2), shaped_rule hci, shaped_rules hct, _, rfl, ?_⟩⟩
        rw [any_rules, decide_eq_false hni]
        exact hQ
      · walk_at "nx"
        have hyl : ys.length < sizeLine := by
          have := it2.1
          rw [List.length_take] at this
          exact Nat.lt_of_le_of_lt (m := 64) (by omega) (by decide)
        refine ⟨_, rfl, .inl ⟨rfl, _, SqL.of hp2⟩, _, rfl, _, rfl, a, xs, _, .ref q, rfl, rfl, hR2.sq, atI_nat hq, q, _, rfl, .inr ⟨sq, p, _, _, rfl, rfl, hp2, hyl, ?_⟩⟩
        refine ⟨ys ++ [.ref q], _, rfl, same_mut s2 hp, upd_same, ?_⟩
        rw [et]
        have hk : Keep H2 (upd H2 p (.lst (ys ++ [.ref q]))) := Keep.butL but_upd hp2
        exact it2.snoc (fun x y r => r.same hk) ⟨q, rfl, hk.seq sq⟩
    · rintro σ H2 ⟨ys, v3, rfl, s2, hp2, it2⟩
      walk_at "rd"
      refine ⟨p, _, rfl, .inl ⟨SqL.of hp2, fun l hl => ?_⟩⟩
      rw [List.take_of_length_le (by omega)] at it2
      have s3 := s2.trans (same_new (o := .tup ys) hl)
      refine kk l ys _ s3 ⟨SqT.of upd_same, it2.1, fun i x r h1 h2 => ?_⟩
      exact (it2.2 i x r h1 h2).same (Keep.same (same_new hl))
end
end Sh
set_option Elab.async false
set_option linter.all false
set_option maxRecDepth 100000
set_option maxHeartbeats 4000000
namespace Sh
open PySem PySem.Spec PyProof.Rows L2
open SX (S S_inj S_len S_cat)
open Bk (Rule firstAt lg bestUp used left drain pushS Wf quarrel)
local macro_rules | `(tactic| walk_at "nx") => `(tactic| repeat (with_reducible first | refine Sh.gn_mk ?_ | refine Sh.nx_mk ?_ | refine Sh.st_nx ?_ | refine Sh.rt_mk ?_ | refine Sh.ct_mk ?_ | refine Sh.bk_mk ?_))
local macro_rules | `(tactic| walk_at "sq") => `(tactic| first | exact SqL.of upd_same | exact SqT.of upd_same | exact SqL.of (by assumption) | exact SqT.of (by assumption) | assumption | exact Or.inl (SqL.of (by assumption)) | exact Or.inr (SqT.of (by assumption)) | exact Or.inl (by assumption) | exact Or.inr (by assumption))
local macro_rules | `(tactic| walk_at "hp") => `(tactic| first | exact upd_same | assumption)
local macro_rules | `(tactic| walk_at "sz") => `(tactic| first | exact Nat.le_of_ble_eq_true rfl | omega)
local macro_rules | `(tactic| walk_at "sd") => `(tactic| first | omega | exact rfl | assumption | (show (0 : Int) < _; omega) | exact And.intro (by omega) (by omega) | exact Or.inl (And.intro (by omega) (by omega)) | exact Or.inr (And.intro (by omega) (by omega)) | omega | exact Sh.sz_S (by omega) | decide)
local macro_rules | `(tactic| walk_at "rd1") => `(tactic| first
  | (with_reducible first | refine Sh.gn_mk ?_ | refine Sh.nx_mk ?_ | refine Sh.st_nx ?_ | refine Sh.rt_mk ?_ | refine Sh.ct_mk ?_ | refine Sh.bk_mk ?_)
  | refine Exists.intro (α := V) _ (And.intro rfl ?_)
  | refine Exists.intro (α := Bool) _ (And.intro rfl ?_)
  | refine Exists.intro (α := Int) _ (And.intro rfl ?_)
  | refine Exists.intro (α := PySem.Str) _ (And.intro rfl ?_)
  | refine Exists.intro (α := Int) _ (Exists.intro (α := Int) _ (And.intro rfl (And.intro rfl ?_)))
  | refine Exists.intro (α := PySem.Str) _ (Exists.intro (α := PySem.Str) _ (And.intro rfl (And.intro rfl ?_)))
  | refine Exists.intro (α := Int) _ (Exists.intro (α := Int) _ (And.intro rfl ?_))
  | refine Or.inl (Exists.intro (α := Int) _ (And.intro rfl ?_))
  | refine Exists.intro _ (Exists.intro _ (Exists.intro _ (Exists.intro _ (And.intro rfl (And.intro rfl (And.intro (by walk_at "sq") (And.intro rfl ?_)))))))
  | refine Exists.intro _ (Exists.intro _ (Exists.intro _ (Exists.intro _ (And.intro rfl (And.intro rfl (And.intro (by walk_at "hp") (And.intro rfl ?_)))))))
  | refine And.intro (by walk_at "sd") ?_
  )
local macro_rules | `(tactic| walk_at "rd") => `(tactic| repeat walk_at "rd1")
local macro_rules | `(tactic| walk_at "lk") => `(tactic| first | exact rfl | (rw [lookup_putF, if_pos rfl]) | (rw [lookup_putF, if_neg (by decide +kernel)]; walk_at "lk"))

section
variable {P : Program} {w : World} {K : PySem.W.Frag} {mg : Str → Option Value} {base : Heap} {CB CE : Addr}
theorem LeftsAt.ins {H H' : Hp} {p a C dx : Addr} {fs : List (Str × V)} {R : List Rule} (h : LeftsAt H p R) (s : But a H H') (z : H a = some (.ins C dx fs)) : LeftsAt H' p R := by
  obtain ⟨kvs, e, k⟩ := h
  refine ⟨kvs, s _ _ (ne_of e z (by intro q; cases q)) e, fun l => ⟨(k l).1, fun j r e => ?_⟩⟩
  obtain ⟨q, e1, e2⟩ := (k l).2 j r e
  exact ⟨q, e1, s _ _ (ne_of e2 z (by intro q; cases q)) e2⟩
/-- a book of the rules R over the signs sg stands at p -/
def BookAt (K : PySem.W.Frag) (C : Addr) (H : Hp) (p : Addr) (sg : List Nat) (R : List Rule) : Prop :=
  ∃ (dx : Addr) (fs : List (Str × V)) (a : Addr) (xs : List V) (pl : Addr), H p = some (.ins C dx fs) ∧ fs.lookup ("signs" : Str) = some (.str (S sg)) ∧ fs.lookup ("rules" : Str) = some (.ref a) ∧ RulesAt K H a xs R ∧
    fs.lookup ("_lefts" : Str) = some (.ref pl) ∧ LeftsAt H pl R ∧ fs.lookup ("_longest" : Str) = some (.int (lg R : Nat)) ∧ fs.lookup ("_quarrel" : Str) = some (optS (quarrel R))
theorem BookAt.same {C : Addr} {H H' : Hp} {p : Addr} {sg : List Nat} {R : List Rule} (h : BookAt K C H p sg R) (s : Same H H') : BookAt K C H' p sg R :=
  let ⟨dx, fs, a, xs, pl, h1, h2, h3, h4, h5, h6, h7, h8⟩ := h
  ⟨dx, fs, a, xs, pl, s _ _ h1, h2, h3, h4.same s, h5, h6.same s, h7, h8⟩
def spBookInit (K : PySem.W.Frag) (C : Addr) : Sp := fun vs H Q _ => ∃ (p dx a : Addr) (sg : List Nat) (xs : List V) (R : List Rule), vs = [.ref p, .str (S sg), .ref a] ∧ H p = some (.ins C dx []) ∧ RulesAt K H a xs R ∧ BookOk sg R ∧
  ∀ H' : Hp, BookAt K C H' p sg R → But p H H' → Q .non H'
theorem c_Book___init__ (T : TxtC K mg CB CE) : MetC P w K mg base 4 CB "__init__" (spBookInit K CB) := by
  have c_check_signs := c_check_signs (P := P) (w := w) (base := base) T.toTxt
  have c_checked_rules := c_checked_rules (P := P) (w := w) (base := base) T.toTxt
  have c_first_rules := c_first_rules (P := P) (w := w) (base := base) T.toTxt
  have c_longest_left := c_longest_left (P := P) (w := w) (base := base) T.toTxt
  have c_quarrel_of := c_quarrel_of (P := P) (w := w) (base := base) T.toTxt
  have c_end_moves := c_end_moves (P := P) (w := w) (base := base) T.toTxt
  refine MetC.mk0 T.m_Book___init__ sc_Book___init__ (fun vs H Q E h => ?_) (fun f cdv A outer s H vs Q E hr h => ?_)
  · obtain ⟨p, dx, a, sg, xs, R, rfl, _⟩ := h
    rfl
  · obtain ⟨p, dx, a, sg, xs, R, rfl, hp, hR, hB, k⟩ := h
    have hw := hB.wf
    have hl := hB.2.1
    have hsg := (signs_len hB.1).2
    refine ⟨_, (pss_cons (ps_expr (pe_c c_check_signs hr (by decide) rfl (pa_cons (pv 1) pa_nil)))
  (pss_cons (ps_fld (pv 0) (pv 1) rfl)
  (pss_cons (ps_fld (pv 0) (pe_c c_checked_rules hr (by decide) rfl (pa_cons (pv 1) (pa_cons (pv 2) pa_nil))) rfl)
  (pss_cons (ps_fld (pv 0) (pe_c c_first_rules hr (by decide) rfl (pa_cons (pe_fld (pv 0) rfl) pa_nil)) rfl)
  (pss_cons (ps_fld (pv 0) (pe_c c_longest_left hr (by decide) rfl (pa_cons (pe_fld (pv 0) rfl) pa_nil)) rfl)
  (pss_cons (ps_fld (pv 0) (pe_c c_quarrel_of hr (by decide) rfl (pa_cons (pe_fld (pv 0) rfl) (pa_cons (pe_fld (pv 0) rfl) (pa_cons (pe_fld (pv 0) rfl) pa_nil)))) rfl)
  (pss_one (ps_fld (pv 0) (pe_c c_end_moves hr (by decide) rfl (pa_cons (pv 1) (pa_cons (pe_fld (pv 0) rfl) pa_nil))) rfl)))))))), ?_⟩
    refine ⟨_, rfl, sg, rfl, hB.1, ?_⟩
    have cl := T.k_Book.cl
    refine ⟨_, rfl, _, rfl, p, CB, dx, [], rfl, hp, cl, T.n_Book_signs, by show 0 < 1000; decide, ?_⟩
    -- rules
    have b1 : But p H (upd H p (.ins CB dx (putF "signs" (.str (S sg)) []))) := but_upd
    have hp1 : (upd H p (.ins CB dx (putF "signs" (.str (S sg)) []))) p = some (.ins CB dx (putF "signs" (.str (S sg)) [])) := upd_same
    have hR1 := hR.keep (Keep.butI b1 hp)
    generalize upd H p (.ins CB dx (putF "signs" (.str (S sg)) [])) = H1 at b1 hp1 hR1 ⊢
    walk_at "nx"
    refine ⟨_, rfl, _, rfl, sg, a, xs, R, rfl, hR1, hB, fun a2 ys H2 s2 hR2 => ?_⟩
    have hp2 := s2 _ _ hp1
    generalize hf1 : putF "signs" (V.str (S sg)) [] = f1 at hp2 hp1
    have l1 : f1.length ≤ 1 := by rw [← hf1]; exact putF_le _ _ []
    have g1 : f1.lookup ("signs" : Str) = some (.str (S sg)) := by rw [← hf1]; walk_at "lk"
    refine ⟨_, rfl, p, CB, dx, f1, rfl, hp2, cl, T.n_Book_rules, by omega, ?_⟩
    have b2 : But p H (upd H2 p (.ins CB dx (putF "rules" (.ref a2) f1))) := b1.trans ((But.same s2).trans but_upd)
    have hp3 : (upd H2 p (.ins CB dx (putF "rules" (.ref a2) f1))) p = some (.ins CB dx (putF "rules" (.ref a2) f1)) := upd_same
    have hR3 := hR2.keep (Keep.butI but_upd hp2 (H' := upd H2 p (.ins CB dx (putF "rules" (.ref a2) f1))))
    generalize upd H2 p (.ins CB dx (putF "rules" (.ref a2) f1)) = H3 at b2 hp3 hR3 ⊢
    have g2 : (putF "rules" (.ref a2) f1).lookup ("rules" : Str) = some (.ref a2) := by walk_at "lk"
    have g2s : (putF "rules" (.ref a2) f1).lookup ("signs" : Str) = some (.str (S sg)) := by rw [lookup_putF, if_neg (by decide +kernel)]; exact g1
    have l2 : (putF "rules" (V.ref a2) f1).length ≤ 2 := by have := putF_le "rules" (V.ref a2) f1; omega
    generalize putF "rules" (V.ref a2) f1 = f2 at hp3 g2 g2s l2
    walk_at "nx"
    -- _lefts
    refine ⟨_, rfl, p, CB, dx, f2, _, rfl, hp3, cl, T.n_Book_rules, g2, a2, ys, R, rfl, hR3, hl, fun pl H4 hpl s4 L4 => ?_⟩
    have hp4 := s4 _ _ hp3
    refine ⟨_, rfl, p, CB, dx, f2, rfl, hp4, cl, T.n_Book__lefts, by omega, ?_⟩
    have b3 : But p H (upd H4 p (.ins CB dx (putF "_lefts" (.ref pl) f2))) := b2.trans ((But.same s4).trans but_upd)
    have hp5 : (upd H4 p (.ins CB dx (putF "_lefts" (.ref pl) f2))) p = some (.ins CB dx (putF "_lefts" (.ref pl) f2)) := upd_same
    have hR5 := (hR3.same s4).keep (Keep.butI but_upd hp4 (H' := upd H4 p (.ins CB dx (putF "_lefts" (.ref pl) f2))))
    have L5 := L4.ins (but_upd (o := .ins CB dx (putF "_lefts" (.ref pl) f2))) hp4
    generalize upd H4 p (.ins CB dx (putF "_lefts" (.ref pl) f2)) = H5 at b3 hp5 hR5 L5 ⊢
    have g3 : (putF "_lefts" (.ref pl) f2).lookup ("rules" : Str) = some (.ref a2) := by rw [lookup_putF, if_neg (by decide +kernel)]; exact g2
    have g3s : (putF "_lefts" (.ref pl) f2).lookup ("signs" : Str) = some (.str (S sg)) := by rw [lookup_putF, if_neg (by decide +kernel)]; exact g2s
    have g3l : (putF "_lefts" (.ref pl) f2).lookup ("_lefts" : Str) = some (.ref pl) := by walk_at "lk"
    have l3 : (putF "_lefts" (V.ref pl) f2).length ≤ 3 := by have := putF_le "_lefts" (V.ref pl) f2; omega
    generalize putF "_lefts" (V.ref pl) f2 = f3 at hp5 g3 g3s g3l l3
    walk_at "nx"
    -- _longest
    refine ⟨_, rfl, p, CB, dx, f3, _, rfl, hp5, cl, T.n_Book_rules, g3, a2, ys, R, rfl, hR5, hl, fun r m => Nat.le_trans (hB.2.2.1 r m).2.1 (by decide), fun H6 s6 => ?_⟩
    have hp6 := s6 _ _ hp5
    refine ⟨_, rfl, p, CB, dx, f3, rfl, hp6, cl, T.n_Book__longest, by omega, ?_⟩
    have b4 : But p H (upd H6 p (.ins CB dx (putF "_longest" (.int (lg R : Nat)) f3))) := b3.trans ((But.same s6).trans but_upd)
    have hp7 : (upd H6 p (.ins CB dx (putF "_longest" (.int (lg R : Nat)) f3))) p = some (.ins CB dx (putF "_longest" (.int (lg R : Nat)) f3)) := upd_same
    have hR7 := (hR5.same s6).keep (Keep.butI but_upd hp6 (H' := upd H6 p (.ins CB dx (putF "_longest" (.int (lg R : Nat)) f3))))
    have L7 := (L5.same s6).ins (but_upd (o := .ins CB dx (putF "_longest" (.int (lg R : Nat)) f3))) hp6
    generalize upd H6 p (.ins CB dx (putF "_longest" (.int (lg R : Nat)) f3)) = H7 at b4 hp7 hR7 L7 ⊢
    have g4 : (putF "_longest" (.int (lg R : Nat)) f3).lookup ("rules" : Str) = some (.ref a2) := by rw [lookup_putF, if_neg (by decide +kernel)]; exact g3
    have g4s : (putF "_longest" (.int (lg R : Nat)) f3).lookup ("signs" : Str) = some (.str (S sg)) := by rw [lookup_putF, if_neg (by decide +kernel)]; exact g3s
    have g4l : (putF "_longest" (.int (lg R : Nat)) f3).lookup ("_lefts" : Str) = some (.ref pl) := by rw [lookup_putF, if_neg (by decide +kernel)]; exact g3l
    have g4g : (putF "_longest" (.int (lg R : Nat)) f3).lookup ("_longest" : Str) = some (.int (lg R : Nat)) := by walk_at "lk"
    have l4 : (putF "_longest" (V.int (lg R : Nat)) f3).length ≤ 4 := by have := putF_le "_longest" (V.int (lg R : Nat)) f3; omega
    generalize putF "_longest" (V.int (lg R : Nat)) f3 = f4 at hp7 g4 g4s g4l g4g l4
    walk_at "nx"
    -- _quarrel
    have h41 : ∀ r ∈ R, r.1.length ≤ 4 ∧ r.2.length ≤ 1 := fun r m => ⟨(hB.2.2.1 r m).2.1, (hw r m).2⟩
    refine ⟨_, rfl, p, CB, dx, f4, _, rfl, hp7, cl, T.n_Book_rules, g4, _, rfl, p, CB, dx, f4, _, rfl, hp7, cl, T.n_Book__lefts, g4l, _, rfl, p, CB, dx, f4, _, rfl, hp7, cl, T.n_Book__longest, g4g, a2, pl, ys, R, rfl, hR7, L7, hw, hl, h41, fun H8 s8 => ?_⟩
    have hp8 := s8 _ _ hp7
    refine ⟨_, rfl, p, CB, dx, f4, rfl, hp8, cl, T.n_Book__quarrel, by omega, ?_⟩
    have b5 : But p H (upd H8 p (.ins CB dx (putF "_quarrel" (optS (quarrel R)) f4))) := b4.trans ((But.same s8).trans but_upd)
    have hp9 : (upd H8 p (.ins CB dx (putF "_quarrel" (optS (quarrel R)) f4))) p = some (.ins CB dx (putF "_quarrel" (optS (quarrel R)) f4)) := upd_same
    have hR9 := (hR7.same s8).keep (Keep.butI but_upd hp8 (H' := upd H8 p (.ins CB dx (putF "_quarrel" (optS (quarrel R)) f4))))
    have L9 := (L7.same s8).ins (but_upd (o := .ins CB dx (putF "_quarrel" (optS (quarrel R)) f4))) hp8
    generalize upd H8 p (.ins CB dx (putF "_quarrel" (optS (quarrel R)) f4)) = H9 at b5 hp9 hR9 L9 ⊢
    have g5 : (putF "_quarrel" (optS (quarrel R)) f4).lookup ("rules" : Str) = some (.ref a2) := by rw [lookup_putF, if_neg (by decide +kernel)]; exact g4
    have g5s : (putF "_quarrel" (optS (quarrel R)) f4).lookup ("signs" : Str) = some (.str (S sg)) := by rw [lookup_putF, if_neg (by decide +kernel)]; exact g4s
    have g5l : (putF "_quarrel" (optS (quarrel R)) f4).lookup ("_lefts" : Str) = some (.ref pl) := by rw [lookup_putF, if_neg (by decide +kernel)]; exact g4l
    have g5g : (putF "_quarrel" (optS (quarrel R)) f4).lookup ("_longest" : Str) = some (.int (lg R : Nat)) := by rw [lookup_putF, if_neg (by decide +kernel)]; exact g4g
    have g5q : (putF "_quarrel" (optS (quarrel R)) f4).lookup ("_quarrel" : Str) = some (optS (quarrel R)) := by walk_at "lk"
    have l5 : (putF "_quarrel" (optS (quarrel R)) f4).length ≤ 5 := by have := putF_le "_quarrel" (optS (quarrel R)) f4; omega
    generalize putF "_quarrel" (optS (quarrel R)) f4 = f5 at hp9 g5 g5s g5l g5g g5q l5
    walk_at "nx"
    -- _moves
    refine ⟨_, rfl, _, rfl, p, CB, dx, f5, _, rfl, hp9, cl, T.n_Book_rules, g5, a2, ys, R, sg, rfl, hR9, hl, fun r m => (h41 r m).1, by omega, fun pm H10 s10 => ?_⟩
    have hp10 := s10 _ _ hp9
    refine ⟨_, rfl, p, CB, dx, f5, rfl, hp10, cl, T.n_Book__moves, by omega, ?_⟩
    refine k _ ⟨dx, putF "_moves" (.ref pm) f5, a2, ys, pl, upd_same, ?_, ?_, (hR9.same s10).keep (Keep.butI but_upd hp10), ?_, (L9.same s10).ins but_upd hp10, ?_, ?_⟩ (b5.trans ((But.same s10).trans but_upd))
    all_goals rw [lookup_putF, if_neg (by decide +kernel)]
    all_goals assumption
end
end Sh
set_option Elab.async false
set_option linter.all false
set_option maxRecDepth 100000
set_option maxHeartbeats 4000000
namespace Sh
open PySem PySem.Spec PyProof.Rows L2
open SX (S S_inj S_len S_cat)
open Bk (Rule firstAt lg bestUp used left drain pushS Wf quarrel)
local macro_rules | `(tactic| walk_at "nx") => `(tactic| repeat (with_reducible first | refine Sh.gn_mk ?_ | refine Sh.nx_mk ?_ | refine Sh.st_nx ?_ | refine Sh.rt_mk ?_ | refine Sh.ct_mk ?_ | refine Sh.bk_mk ?_))
local macro_rules | `(tactic| walk_at "sq") => `(tactic| first | exact SqL.of upd_same | exact SqT.of upd_same | exact SqL.of (by assumption) | exact SqT.of (by assumption) | assumption | exact Or.inl (SqL.of (by assumption)) | exact Or.inr (SqT.of (by assumption)) | exact Or.inl (by assumption) | exact Or.inr (by assumption))
local macro_rules | `(tactic| walk_at "hp") => `(tactic| first | exact upd_same | assumption)
local macro_rules | `(tactic| walk_at "sz") => `(tactic| first | exact Nat.le_of_ble_eq_true rfl | omega)
local macro_rules | `(tactic| walk_at "sd") => `(tactic| first | omega | exact rfl | assumption | (show (0 : Int) < _; omega) | exact And.intro (by omega) (by omega) | exact Or.inl (And.intro (by omega) (by omega)) | exact Or.inr (And.intro (by omega) (by omega)) | omega | exact Sh.sz_S (by omega) | decide)
local macro_rules | `(tactic| walk_at "rd1") => `(tactic| first
  | (with_reducible first | refine Sh.gn_mk ?_ | refine Sh.nx_mk ?_ | refine Sh.st_nx ?_ | refine Sh.rt_mk ?_ | refine Sh.ct_mk ?_ | refine Sh.bk_mk ?_)
  | refine Exists.intro (α := V) _ (And.intro rfl ?_)
  | refine Exists.intro (α := Bool) _ (And.intro rfl ?_)
  | refine Exists.intro (α := Int) _ (And.intro rfl ?_)
  | refine Exists.intro (α := PySem.Str) _ (And.intro rfl ?_)
  | refine Exists.intro (α := Int) _ (Exists.intro (α := Int) _ (And.intro rfl (And.intro rfl ?_)))
  | refine Exists.intro (α := PySem.Str) _ (Exists.intro (α := PySem.Str) _ (And.intro rfl (And.intro rfl ?_)))
  | refine Exists.intro (α := Int) _ (Exists.intro (α := Int) _ (And.intro rfl ?_))
  | refine Or.inl (Exists.intro (α := Int) _ (And.intro rfl ?_))
  | refine Exists.intro _ (Exists.intro _ (Exists.intro _ (Exists.intro _ (And.intro rfl (And.intro rfl (And.intro (by walk_at "sq") (And.intro rfl ?_)))))))
  | refine Exists.intro _ (Exists.intro _ (Exists.intro _ (Exists.intro _ (And.intro rfl (And.intro rfl (And.intro (by walk_at "hp") (And.intro rfl ?_)))))))
  | refine And.intro (by walk_at "sd") ?_
  )
local macro_rules | `(tactic| walk_at "rd") => `(tactic| repeat walk_at "rd1")
local macro_rules | `(tactic| walk_at "lk") => `(tactic| first | exact rfl | (rw [lookup_putF, if_pos rfl]) | (rw [lookup_putF, if_neg (by decide +kernel)]; walk_at "lk"))

section
variable {P : Program} {w : World} {K : PySem.W.Frag} {mg : Str → Option Value} {base : Heap} {CB CE : Addr}
def spBookCall (K : PySem.W.Frag) (C : Addr) : Sp := fun vs H Q _ => ∃ (p : Addr) (sg t : List Nat) (R : List Rule), vs = [.ref p, .str (S t)] ∧ BookAt K C H p sg R ∧ Wf R ∧ t.length ≤ 200 ∧ (∀ c ∈ t, c ∈ sg) ∧
  ∀ H' : Hp, Same H H' → Q (.str (S (left R t))) H'
theorem c_Book___call__ (T : TxtC K mg CB CE) : MetC P w K mg base 3 CB "__call__" (spBookCall K CB) := by
  have c_check_text := c_check_text (P := P) (w := w) (base := base) T.toTxt
  have c_left_over := c_left_over (P := P) (w := w) (base := base) T.toTxt
  refine MetC.mk0 T.m_Book___call__ sc_Book___call__ (fun vs H Q E h => ?_) (fun f cdv A outer s H vs Q E hr h => ?_)
  · obtain ⟨p, sg, t, R, rfl, _⟩ := h
    rfl
  · obtain ⟨p, sg, t, R, rfl, ⟨dx, fs, a, xs, pl, hp, g1, g2, hR, g3, L, g4, g5⟩, hw, ht, hc, k⟩ := h
    have cl := T.k_Book.cl
    refine ⟨_, (pss_cons (ps_expr (pe_c c_check_text hr (by decide) rfl (pa_cons (pe_fld (pv 0) rfl) (pa_cons (pv 1) pa_nil))))
  (pss_one (ps_ret (pe_c c_left_over hr (by decide) rfl (pa_cons (pe_fld (pv 0) rfl) (pa_cons (pe_fld (pv 0) rfl) (pa_cons (pv 1) pa_nil))))))), ?_⟩
    refine ⟨_, rfl, p, CB, dx, fs, _, rfl, hp, cl, T.n_Book_signs, g1, _, rfl, sg, t, rfl, ht, hc, ?_⟩
    walk_at "nx"
    refine ⟨_, rfl, p, CB, dx, fs, _, rfl, hp, cl, T.n_Book__lefts, g3, _, rfl, p, CB, dx, fs, _, rfl, hp, cl, T.n_Book__longest, g4, _, rfl, pl, R, t, rfl, L, hw, by omega, fun H' s' => ?_⟩
    exact k H' s'
def spRest (K : PySem.W.Frag) (C : Addr) : Sp := fun vs H Q _ => ∃ (p : Addr) (sg t : List Nat) (R : List Rule), vs = [.ref p, .str (S t)] ∧ BookAt K C H p sg R ∧ Wf R ∧ t.length ≤ 200 ∧
  ∀ H' : Hp, Same H H' → Q (.str (S (left R t))) H'
theorem c_rest_of (T : TxtC K mg CB CE) : Cal P w K mg base CX0 3 "rest_of" (spRest K CB) := by
  have c_left_over := c_left_over (P := P) (w := w) (base := base) T.toTxt
  refine Cal.mk0 T.d_rest_of sc_rest_of (fun vs H Q E h => ?_) (fun f cdv A outer s H vs Q E hr h => ?_)
  · obtain ⟨p, sg, t, R, rfl, _⟩ := h
    rfl
  · obtain ⟨p, sg, t, R, rfl, ⟨dx, fs, a, xs, pl, hp, g1, g2, hR, g3, L, g4, g5⟩, hw, ht, k⟩ := h
    have cl := T.k_Book.cl
    refine ⟨_, (pss_one (ps_ret (pe_c c_left_over hr (by decide) rfl (pa_cons (pe_fld (pv 0) rfl) (pa_cons (pe_fld (pv 0) rfl) (pa_cons (pv 1) pa_nil)))))), ?_⟩
    refine ⟨_, rfl, p, CB, dx, fs, _, rfl, hp, cl, T.n_Book__lefts, g3, _, rfl, p, CB, dx, fs, _, rfl, hp, cl, T.n_Book__longest, g4, _, rfl, pl, R, t, rfl, L, hw, by omega, fun H' s' => ?_⟩
    exact k H' s'
def spSettled (K : PySem.W.Frag) (C : Addr) : Sp := fun vs H Q _ => ∃ (p : Addr) (sg : List Nat) (R : List Rule), vs = [.ref p] ∧ BookAt K C H p sg R ∧ quarrel R = none ∧ Q .non H
theorem c_check_settled (T : TxtC K mg CB CE) : Cal P w K mg base CX0 1 "check_settled" (spSettled K CB) := by
  refine Cal.mk0 T.d_check_settled sc_check_settled (fun vs H Q E h => ?_) (fun f cdv A outer s H vs Q E hr h => ?_)
  · obtain ⟨p, sg, R, rfl, _⟩ := h
    rfl
  · obtain ⟨p, sg, R, rfl, ⟨dx, fs, a, xs, pl, hp, g1, g2, hR, g3, L, g4, g5⟩, hq, k⟩ := h
    have cl := T.k_Book.cl
    rw [hq] at g5
    refine ⟨_, (pss_one (ps_if (pt_cmpR op_notN (pe_fld (pv 0) rfl) pe_non (nomark _))
    (pss_one ps_never)
    pss_nil)), ?_⟩
    refine ⟨_, rfl, p, CB, dx, fs, _, rfl, hp, cl, T.n_Book__quarrel, g5, ?_⟩
    walk_at "rd"
    exact k
end
end Sh
/-! what one book says of the rules of another one; plain Lean -/
namespace Bk
def AllSay (R N : List Rule) : Prop := ∀ r ∈ N, left R r.1 = left R r.2
theorem say_step {R N : List Rule} (w : Wf R) (M : Meets R) (h : AllSay R N) {a b : T} (s : Step N a b) : left R a = left R b := by
  cases s with
  | mk x y r hr => exact left_congr w M (left_congr w M rfl (h r hr)) rfl
theorem say_reach {R N : List Rule} (w : Wf R) (M : Meets R) (h : AllSay R N) {a b : T} (s : Reach N a b) : left R a = left R b := by
  induction s with
  | refl => exact rfl
  | step x _ ih => exact (say_step w M h x).trans ih
theorem say_ends {R N : List Rule} (w : Wf R) (M : Meets R) (h : AllSay R N) {t u : T} (e : left N t = left N u) : left R t = left R u := by
  rw [say_reach w M h (left_reach (R := N) t), say_reach w M h (left_reach (R := N) u), e]
/-- the end in R of the first text with the end k in N -/
def fstE (R N : List Rule) (pre : List T) (k : T) : Option T := (pre.find? fun u => decide (left N u = k)).map (left R)
def brk (R N : List Rule) (pre : List T) : Bool := pre.any fun u => decide (¬ fstE R N pre (left N u) = some (left R u))
theorem fstE_snoc (R N : List Rule) (pre : List T) (t k : T) : fstE R N (pre ++ [t]) k = match fstE R N pre k with
    | some v => some v
    | none => if left N t = k then some (left R t) else none := by
  unfold fstE
  rw [List.find?_append]
  cases h : pre.find? fun u => decide (left N u = k) with
  | some v => rfl
  | none =>
    simp only [Option.none_or, Option.map_none, List.find?_cons, List.find?_nil]
    by_cases c : left N t = k
    · simp [c]
    · simp [c]
theorem fstE_mem {R N : List Rule} {pre : List T} {u : T} (h : u ∈ pre) : ∃ v, fstE R N pre (left N u) = some v := by
  unfold fstE
  cases e : pre.find? fun z => decide (left N z = left N u) with
  | some v => exact ⟨_, rfl⟩
  | none =>
    have := List.find?_eq_none.mp e u h
    simp at this
theorem brk_snoc (R N : List Rule) (pre : List T) (t : T) : brk R N (pre ++ [t]) = (brk R N pre || decide (¬ fstE R N (pre ++ [t]) (left N t) = some (left R t))) := by
  unfold brk
  rw [List.any_append]
  congr 1
  · have key : ∀ l : List T, (∀ u ∈ l, u ∈ pre) → (l.any fun u => decide (¬ fstE R N (pre ++ [t]) (left N u) = some (left R u))) = l.any fun u => decide (¬ fstE R N pre (left N u) = some (left R u)) := by
      intro l
      induction l with
      | nil => intro _; rfl
      | cons u l ih =>
        intro h
        obtain ⟨v, hv⟩ := fstE_mem (R := R) (N := N) (h u List.mem_cons_self)
        have e : fstE R N (pre ++ [t]) (left N u) = fstE R N pre (left N u) := by rw [fstE_snoc, hv]
        rw [List.any_cons, List.any_cons, e, ih fun z hz => h z (List.mem_cons_of_mem _ hz)]
    exact key pre fun _ h => h
  · simp
theorem brk_false {R N : List Rule} (w : Wf R) (M : Meets R) (h : AllSay R N) (l : List T) : brk R N l = false := by
  unfold brk
  rw [List.any_eq_false]
  intro u hu
  obtain ⟨v, hv⟩ := fstE_mem (R := R) (N := N) hu
  have hv' := hv
  unfold fstE at hv'
  rw [Option.map_eq_some_iff] at hv'
  obtain ⟨z, hz, rfl⟩ := hv'
  have := List.find?_some hz
  rw [hv, say_ends w M h (of_decide_eq_true this)]
  simp
theorem brk_true {R N : List Rule} (w : Wf N) (M : Meets N) {l : List T} {r : Rule} (hr : r ∈ N) (hne : ¬ left R r.1 = left R r.2) (h1 : r.1 ∈ l) (h2 : r.2 ∈ l) : brk R N l = true := by
  have e : left N r.1 = left N r.2 := left_eq w M (.step (by have := Step.mk (R := N) [] [] r hr; simpa using this) (.refl _))
  obtain ⟨v, hv⟩ := fstE_mem (R := R) (N := N) h1
  unfold brk
  rw [List.any_eq_true]
  by_cases c : v = left R r.1
  · refine ⟨r.2, h2, ?_⟩
    rw [← e, hv, c]
    exact decide_eq_true fun z => hne (Option.some.inj z)
  · refine ⟨r.1, h1, ?_⟩
    rw [hv]
    exact decide_eq_true fun z => c (Option.some.inj z)
/-- all texts of n signs, of up to n signs -/
def lvl (sg : List Nat) : Nat → List T
  | 0 => [[]]
  | k + 1 => (lvl sg k).flatMap fun t => sg.map fun c => t ++ [c]
def txts (sg : List Nat) (n : Nat) : List T := (List.range (n + 1)).flatMap (lvl sg)
theorem mem_lvl {sg : List Nat} : ∀ {n : Nat} {t : T}, t ∈ lvl sg n ↔ t.length = n ∧ ∀ c ∈ t, c ∈ sg
  | 0, t => by
    simp only [lvl, List.mem_singleton]
    constructor
    · rintro rfl; simp
    · rintro ⟨h, _⟩; exact List.eq_nil_of_length_eq_zero h
  | n + 1, t => by
    simp only [lvl, List.mem_flatMap, List.mem_map]
    constructor
    · rintro ⟨u, hu, c, hc, rfl⟩
      obtain ⟨h1, h2⟩ := mem_lvl.mp hu
      refine ⟨by simp [h1], fun d hd => ?_⟩
      rcases List.mem_append.mp hd with q | q
      · exact h2 d q
      · rw [List.mem_singleton] at q; rw [q]; exact hc
    · rintro ⟨h1, h2⟩
      have hne : t ≠ [] := by
        intro e; rw [e] at h1; simp at h1
      refine ⟨t.dropLast, mem_lvl.mpr ⟨by rw [List.length_dropLast, h1]; rfl, fun c hc => h2 c (List.dropLast_subset t hc)⟩, t.getLast hne, h2 _ (List.getLast_mem hne), List.dropLast_concat_getLast hne⟩
theorem mem_txts {sg : List Nat} {n : Nat} {t : T} : t ∈ txts sg n ↔ t.length ≤ n ∧ ∀ c ∈ t, c ∈ sg := by
  unfold txts
  simp only [List.mem_flatMap, List.mem_range, mem_lvl]
  constructor
  · rintro ⟨k, hk, h1, h2⟩
    exact ⟨by omega, h2⟩
  · rintro ⟨h1, h2⟩
    exact ⟨t.length, by omega, rfl, h2⟩
theorem txts_succ (sg : List Nat) (n : Nat) : txts sg (n + 1) = txts sg n ++ lvl sg (n + 1) := by
  unfold txts
  rw [List.range_succ, List.flatMap_append]
  simp
theorem lvl_len (sg : List Nat) : ∀ n, (lvl sg n).length = sg.length ^ n
  | 0 => by simp [lvl]
  | n + 1 => by
    have : ∀ l : List T, (l.flatMap fun t => sg.map fun c => t ++ [c]).length = l.length * sg.length := by
      intro l
      induction l with
      | nil => simp
      | cons x l ih => rw [List.flatMap_cons, List.length_append, ih, List.length_map, List.length_cons, Nat.succ_mul]; omega
    rw [lvl, this, lvl_len sg n, Nat.pow_succ]
end Bk
/-! steps by place, what a search over steps finds; plain Lean -/
namespace Bk
theorem step_place {R : List Rule} (w : Wf R) {t u : T} (h : Step R t u) : ∃ r ∈ R, ∃ k, k < t.length ∧ (t.drop k).take r.1.length = r.1 ∧ u = t.take k ++ r.2 ++ t.drop (k + r.1.length) := by
  cases h with
  | mk x y r hr =>
    have := (w r hr).1
    refine ⟨r, hr, x.length, by simp; omega, ?_, ?_⟩
    · rw [List.append_assoc, List.drop_left, List.take_left]
    · have e1 : (x ++ r.1 ++ y).take x.length = x := by rw [List.append_assoc, List.take_left]
      have e2 : (x ++ r.1 ++ y).drop (x.length + r.1.length) = y := by rw [← List.length_append, List.drop_left]
      rw [e1, e2]
theorem place_step {R : List Rule} {t : T} {r : Rule} (hr : r ∈ R) {k : Nat} (h : (t.drop k).take r.1.length = r.1) : Step R t (t.take k ++ r.2 ++ t.drop (k + r.1.length)) := by
  have e : t = t.take k ++ r.1 ++ t.drop (k + r.1.length) := by
    conv => lhs; rw [← List.take_append_drop k t, ← List.take_append_drop r.1.length (t.drop k), h, List.drop_drop]
    rw [List.append_assoc]
  have s := Step.mk (R := R) (t.take k) (t.drop (k + r.1.length)) r hr
  rw [← e] at s
  exact s
/-- a set that holds the successors of all it holds but of W's -/
def ClosedBut (R : List Rule) (F W : List T) : Prop := ∀ a ∈ F, a ∉ W → ∀ b, Step R a b → b ∈ F
theorem closed_reach {R : List Rule} {F : List T} (h : ClosedBut R F []) {a b : T} (s : Reach R a b) : a ∈ F → b ∈ F := by
  induction s with
  | refl => exact id
  | step x _ ih => exact fun m => ih (h _ m (by simp) _ x)
end Bk
/-! the least book: its left sides are the least texts that are no ends; plain Lean -/
namespace Bk
theorem over_place {a b t : T} {k : Nat} (hk : k < a.length) (h : over a b k = some t) : t.take a.length = a ∧ (t.drop k).take b.length = b := by
  unfold over at h
  split at h
  case isFalse => cases h
  case isTrue c =>
    cases h
    refine ⟨by simp, ?_⟩
    rcases Nat.le_total (a.length - k) b.length with q | q
    · rw [Nat.min_eq_left q] at c ⊢
      have e1 : (a.drop k).take (a.length - k) = a.drop k := List.take_of_length_le (by simp)
      rw [e1] at c
      rw [List.drop_append_of_le_length (by omega), c, List.take_append_drop, List.take_length]
    · rw [Nat.min_eq_right q] at c ⊢
      rw [List.take_length] at c
      rw [List.drop_length, List.append_nil]
      exact c
/-- a book whose rules the first one says, and which leaves only ends of it, has the same ends -/
theorem same_left {R L : List Rule} (w : Wf R) (M : Meets R) (wL : Wf L) (he : ∀ t, IsEnd L t → IsEnd R t) (hs : AllSay R L) : (∀ t, left L t = left R t) ∧ Meets L := by
  have main : ∀ t, left L t = left R t := by
    intro t
    rw [say_reach w M hs (left_reach (R := L) t), left_of_end (he _ (left_end wL t))]
  refine ⟨main, fun r hr q hq k hk t ho => ?_⟩
  rw [main, main]
  obtain ⟨h1, h2⟩ := over_place hk ho
  have s1 : Step L t (res1 r t) := by
    have := place_step (k := 0) (t := t) hr (by simpa using h1)
    simpa [res1] using this
  have s2 : Step L t (res2 q t k) := place_step hq h2
  rw [← say_step w M hs s1, ← say_step w M hs s2]
/-- a proper piece of l is a left side -/
def Ins (R : List Rule) (l : T) : Prop := ∃ x m y, l = x ++ m ++ y ∧ m ≠ l ∧ ∃ r ∈ R, r.1 = m
/-- no end, but all its proper pieces are -/
def MinRed (R : List Rule) (l : T) : Prop := ¬ IsEnd R l ∧ ∀ x m y, l = x ++ m ++ y → m ≠ l → IsEnd R m
theorem not_end_left {R : List Rule} {r : Rule} (h : r ∈ R) : ¬ IsEnd R r.1 := by
  intro e
  exact isEnd_iff.mp e r h [] [] (by simp)
theorem not_end {R : List Rule} {t : T} (h : ¬ IsEnd R t) : ∃ r ∈ R, ∃ x y, t = x ++ r.1 ++ y := by
  rw [isEnd_iff] at h
  simp only [Classical.not_forall] at h
  obtain ⟨r, hr, x, y, e⟩ := h
  exact ⟨r, hr, x, y, Classical.not_not.mp e⟩
theorem minRed_iff {R : List Rule} {l : T} : ((∃ r ∈ R, r.1 = l) ∧ ¬ Ins R l) ↔ MinRed R l := by
  constructor
  · rintro ⟨⟨r, hr, rfl⟩, hi⟩
    refine ⟨not_end_left hr, fun x m y e hm => ?_⟩
    refine Classical.byContradiction fun he => ?_
    obtain ⟨q, hq, a, b, rfl⟩ := not_end he
    refine hi ⟨x ++ a, q.1, b ++ y, by rw [e]; simp [List.append_assoc], fun z => hm ?_, q, hq, rfl⟩
    have l1 := congrArg List.length e
    have l2 := congrArg List.length z
    simp at l1
    have : a = [] ∧ b = [] ∧ x = [] ∧ y = [] := by
      refine ⟨?_, ?_, ?_, ?_⟩ <;> (apply List.eq_nil_of_length_eq_zero; omega)
    obtain ⟨rfl, rfl, rfl, rfl⟩ := this
    simpa using z
  · rintro ⟨h1, h2⟩
    obtain ⟨r, hr, x, y, e⟩ := not_end h1
    refine ⟨⟨r, hr, ?_⟩, ?_⟩
    · refine Classical.byContradiction fun hn => not_end_left hr (h2 x r.1 y e hn)
    · rintro ⟨a, m, b, e2, hm, q, hq, rfl⟩
      exact not_end_left hq (h2 a q.1 b e2 hm)
theorem minRed_congr {R L : List Rule} (h : ∀ t, IsEnd R t ↔ IsEnd L t) {l : T} : MinRed R l ↔ MinRed L l := by
  unfold MinRed
  rw [h]
  constructor
  · rintro ⟨a, b⟩; exact ⟨a, fun x m y e hm => (h m).mp (b x m y e hm)⟩
  · rintro ⟨a, b⟩; exact ⟨a, fun x m y e hm => (h m).mpr (b x m y e hm)⟩
/-- whatever is no end has a least piece that is none -/
theorem has_min {R : List Rule} : ∀ (n : Nat) (t : T), t.length ≤ n → ¬ IsEnd R t → ∃ x m y, t = x ++ m ++ y ∧ MinRed R m
  | 0, t, h, he => by
    have : t = [] := List.eq_nil_of_length_eq_zero (by omega)
    subst this
    refine ⟨[], [], [], rfl, he, fun x m y e hm => ?_⟩
    have := congrArg List.length e
    simp at this
    have : m = [] := List.eq_nil_of_length_eq_zero (by omega)
    exact absurd this hm
  | n + 1, t, h, he => by
    by_cases c : ∃ x m y, t = x ++ m ++ y ∧ m ≠ t ∧ ¬ IsEnd R m
    · obtain ⟨x, m, y, e, hm, hn⟩ := c
      have hl : m.length < t.length := by
        rcases Nat.lt_or_ge m.length t.length with q | q
        · exact q
        · exfalso
          have l1 := congrArg List.length e
          simp at l1
          have : x = [] ∧ y = [] := by
            refine ⟨?_, ?_⟩ <;> (apply List.eq_nil_of_length_eq_zero; omega)
          obtain ⟨rfl, rfl⟩ := this
          exact hm (by simpa using e.symm)
      obtain ⟨a, k, b, e2, hk⟩ := has_min n m (by omega) hn
      exact ⟨x ++ a, k, b ++ y, by rw [e, e2]; simp [List.append_assoc], hk⟩
    · refine ⟨[], t, [], by simp, he, fun x m y e hm => ?_⟩
      exact Classical.byContradiction fun z => c ⟨x, m, y, e, hm, z⟩
/-! ### ascending lists -/
theorem keyLt_irrefl (a : T) : keyLt a a = false := by
  unfold keyLt
  rw [if_pos rfl]
  exact decide_eq_false (List.lt_irrefl a)
theorem keyLt_asymm {a b : T} (h : keyLt a b = true) : keyLt b a = false := by
  unfold keyLt at *
  by_cases e : a.length = b.length
  · rw [if_pos e, decide_eq_true_eq] at h
    rw [if_pos e.symm]
    exact decide_eq_false (fun z => List.lt_irrefl a (List.lt_trans h z))
  · rw [if_neg e, decide_eq_true_eq] at h
    rw [if_neg (Ne.symm e)]
    exact decide_eq_false (by omega)
def Asc (l : List T) : Prop := l.Pairwise fun a b => keyLt a b = true
theorem asc_uniq : ∀ {l m : List T}, Asc l → Asc m → (∀ x, x ∈ l ↔ x ∈ m) → l = m
  | [], [], _, _, _ => rfl
  | [], y :: m, _, _, h => by have := (h y).mpr List.mem_cons_self; cases this
  | x :: l, [], _, _, h => by have := (h x).mp List.mem_cons_self; cases this
  | x :: l, y :: m, h1, h2, h => by
    obtain ⟨a1, a2⟩ := List.pairwise_cons.mp h1
    obtain ⟨b1, b2⟩ := List.pairwise_cons.mp h2
    have e : x = y := by
      rcases List.mem_cons.mp ((h x).mp List.mem_cons_self) with e | hx
      · exact e
      · rcases List.mem_cons.mp ((h y).mpr List.mem_cons_self) with e | hy
        · exact e.symm
        · have z1 := b1 x hx
          have z2 := a1 y hy
          rw [keyLt_asymm z1] at z2
          cases z2
    subst e
    have hx1 : x ∉ l := fun z => by have := a1 x z; rw [keyLt_irrefl] at this; cases this
    have hx2 : x ∉ m := fun z => by have := b1 x z; rw [keyLt_irrefl] at this; cases this
    rw [asc_uniq a2 b2 fun z => ?_]
    have hz := h z
    simp only [List.mem_cons] at hz
    constructor
    · intro k
      rcases hz.mp (.inr k) with e | q
      · rw [e] at k; exact absurd k hx1
      · exact q
    · intro k
      rcases hz.mpr (.inr k) with e | q
      · rw [e] at k; exact absurd k hx2
      · exact q
/-- the left sides of the least book -/
def IsDue (R : List Rule) (ds : List T) : Prop := Asc ds ∧ ∀ l, l ∈ ds ↔ MinRed R l
theorem due_uniq {R L : List Rule} (h : ∀ t, IsEnd R t ↔ IsEnd L t) {ds es : List T} (a : IsDue R ds) (b : IsDue L es) : ds = es :=
  asc_uniq a.1 b.1 fun x => by rw [a.2, b.2, minRed_congr h]
def lrules (R : List Rule) (ds : List T) : List Rule := ds.map fun l => (l, left R l)
section
variable {R : List Rule} {ds : List T}
theorem due_left (d : IsDue R ds) {l : T} (h : l ∈ ds) : ∃ r ∈ R, r.1 = l := (minRed_iff.mpr ((d.2 l).mp h)).1
theorem due_shrink (w : Wf R) (M : Meets R) {r : Rule} (h : r ∈ R) : (left R r.1).length ≤ r.2.length := by
  have : left R r.1 = left R r.2 := left_eq w M (by
    have := Step.mk (R := R) [] [] r h
    simp at this
    exact .step this (.refl _))
  rw [this]
  exact (left_reach (R := R) r.2).len w
theorem due_wf (w : Wf R) (M : Meets R) (d : IsDue R ds) : Wf (lrules R ds) := by
  intro r hr
  obtain ⟨l, hl, rfl⟩ := List.mem_map.mp hr
  obtain ⟨q, hq, rfl⟩ := due_left d hl
  have h1 := due_shrink w M hq
  have h2 := w q hq
  exact ⟨by show (left R q.1).length < q.1.length; omega, by show (left R q.1).length ≤ 1; omega⟩
theorem due_end (w : Wf R) (d : IsDue R ds) (t : T) : IsEnd R t ↔ IsEnd (lrules R ds) t := by
  constructor
  · intro h
    rw [isEnd_iff]
    intro r hr x y e
    obtain ⟨l, hl, rfl⟩ := List.mem_map.mp hr
    obtain ⟨q, hq, rfl⟩ := due_left d hl
    exact isEnd_iff.mp h q hq x y e
  · intro h
    refine Classical.byContradiction fun hn => ?_
    obtain ⟨x, m, y, e, hm⟩ := has_min t.length t (Nat.le_refl _) hn
    exact isEnd_iff.mp h (m, left R m) (List.mem_map.mpr ⟨m, (d.2 m).mpr hm, rfl⟩) x y e
theorem due_same (w : Wf R) (M : Meets R) (d : IsDue R ds) : (∀ t, left (lrules R ds) t = left R t) ∧ Meets (lrules R ds) := by
  refine same_left w M (due_wf w M d) (fun t h => (due_end w d t).mpr h) fun r hr => ?_
  obtain ⟨l, hl, rfl⟩ := List.mem_map.mp hr
  exact (left_of_end (left_end w l)).symm
theorem lrules_nodup (h : Asc ds) : (lrules R ds).Nodup := by
  unfold lrules
  rw [List.Nodup, List.pairwise_map]
  refine h.imp fun {a b} z e => ?_
  have : a = b := congrArg Prod.fst e
  subst this
  rw [keyLt_irrefl] at z
  cases z
/-- without its rule the left side is an end -/
theorem due_needed (d : IsDue R ds) {k : Nat} {l : T} (h : ds[k]? = some l) {N : List Rule} (hN : ∀ r ∈ N, ∃ j, j ≠ k ∧ ds[j]? = some r.1) : left N l = l := by
  refine left_of_end (isEnd_iff.mpr fun r hr x y e => ?_)
  obtain ⟨j, hj, hr1⟩ := hN r hr
  have hne : r.1 ≠ l := by
    intro z
    rw [z] at hr1
    have nd : ds.Nodup := d.1.imp fun {a b} q e => by rw [e, keyLt_irrefl] at q; cases q
    obtain ⟨h1, h2⟩ := List.getElem?_eq_some_iff.mp h
    obtain ⟨h3, h4⟩ := List.getElem?_eq_some_iff.mp hr1
    exact hj ((List.getElem_inj nd).mp (h4.trans h2.symm))
  have hm := (d.2 l).mp (List.mem_of_getElem? h)
  exact ((d.2 r.1).mp (List.mem_of_getElem? hr1)).1 (hm.2 x r.1 y e hne)
end
/-- rules more that change no end -/
theorem more_same {R N : List Rule} (w : Wf R) (M : Meets R) (h1 : ∀ r ∈ R, r ∈ N) (h2 : ∀ r ∈ N, r ∈ R ∨ (left R r.1 = r.2 ∧ r.2.length < r.1.length ∧ r.2.length ≤ 1)) :
    Wf N ∧ (∀ t, IsEnd R t ↔ IsEnd N t) ∧ (∀ t, left N t = left R t) ∧ Meets N := by
  have wN : Wf N := fun r hr => by
    rcases h2 r hr with q | ⟨_, q⟩
    · exact w r q
    · exact q
  have say : AllSay R N := fun r hr => by
    rcases h2 r hr with q | ⟨q, _⟩
    · refine left_eq w M ?_
      have := Step.mk (R := R) [] [] r q
      simp at this
      exact .step this (.refl _)
    · rw [← q, left_of_end (left_end w r.1)]
  have e1 : ∀ t, IsEnd N t → IsEnd R t := fun t h => isEnd_iff.mpr fun r hr x y e => isEnd_iff.mp h r (h1 r hr) x y e
  obtain ⟨s1, s2⟩ := same_left w M wN e1 say
  refine ⟨wN, fun t => ⟨fun h => ?_, e1 t⟩, s1, s2⟩
  refine isEnd_iff.mpr fun r hr x y e => ?_
  rcases h2 r hr with q | ⟨q, ql, _⟩
  · exact isEnd_iff.mp h r q x y e
  · have hp : IsEnd R r.1 := by
      rw [e] at h
      exact h.infix
    rw [left_of_end hp] at q
    rw [q] at ql
    omega
end Bk
/-! two books' ends compared; plain Lean -/
namespace Bk
def Over (sg : List Nat) (t : T) : Prop := ∀ c ∈ t, c ∈ sg
def OverR (sg : List Nat) (R : List Rule) : Prop := ∀ r ∈ R, Over sg r.1 ∧ Over sg r.2
theorem Over.app {sg : List Nat} {x y : T} (h : Over sg x) (k : Over sg y) : Over sg (x ++ y) := fun c hc => (List.mem_append.mp hc).elim (h c) (k c)
theorem half_same {R N : List Rule} {sg : List Nat} (wR : Wf R) (MR : Meets R) (wN : Wf N) (MN : Meets N) (cR : OverR sg R) {t : T} (ct : Over sg t) (hs : ∀ u, u.length < t.length → Over sg u → left R u = left N u) (hn : ∀ r ∈ R, r.1 ≠ t) (he : ¬ IsEnd R t) : left R t = left N t := by
  obtain ⟨r, hr, x, y, rfl⟩ := not_end he
  have hw := wR r hr
  have hxy : 0 < x.length + y.length := by
    rcases Nat.eq_zero_or_pos (x.length + y.length) with z | z
    · have hx : x = [] := List.eq_nil_of_length_eq_zero (by omega)
      have hy : y = [] := List.eq_nil_of_length_eq_zero (by omega)
      exact absurd (by simp [hx, hy]) (hn r hr)
    · exact z
  have cx : Over sg x := fun c hc => ct c (by simp [hc])
  have cy : Over sg y := fun c hc => ct c (by simp [hc])
  have h1 : left R r.1 = left N r.1 := hs _ (by simp; omega) (cR r hr).1
  have h2 : left R r.2 = left N r.2 := hs _ (by simp; omega) (cR r hr).2
  have s1 : Step R r.1 r.2 := by
    have := Step.mk (R := R) [] [] r hr
    simpa using this
  have e1 : left R r.1 = left R r.2 := left_eq wR MR (.step s1 (.refl _))
  have s2 : Step R (x ++ r.1 ++ y) (x ++ r.2 ++ y) := Step.ctx x y s1
  have e2 : left R (x ++ r.1 ++ y) = left R (x ++ r.2 ++ y) := left_eq wR MR (.step s2 (.refl _))
  have e3 : left N (x ++ r.1 ++ y) = left N (x ++ r.2 ++ y) := left_congr wN MN (left_congr wN MN rfl (by rw [← h1, e1, h2])) rfl
  rw [e2, e3]
  exact hs _ (by simp; omega) ((cx.app (cR r hr).2).app cy)
theorem diff_left {R N : List Rule} {sg : List Nat} (wR : Wf R) (MR : Meets R) (wN : Wf N) (MN : Meets N) (cR : OverR sg R) (cN : OverR sg N) {t : T} (ct : Over sg t) (hs : ∀ u, u.length < t.length → Over sg u → left R u = left N u) (hd : left R t ≠ left N t) : (∃ r ∈ R, r.1 = t) ∨ ∃ r ∈ N, r.1 = t := by
  rcases Classical.em (∃ r ∈ R, r.1 = t) with h | h
  · exact .inl h
  rcases Classical.em (∃ r ∈ N, r.1 = t) with k | k
  · exact .inr k
  exfalso
  apply hd
  rcases Classical.em (IsEnd R t) with e | e
  · rcases Classical.em (IsEnd N t) with e2 | e2
    · rw [left_of_end e, left_of_end e2]
    · exact (half_same wN MN wR MR cN ct (fun u a b => (hs u a b).symm) (fun r hr q => k ⟨r, hr, q⟩) e2).symm
  · exact half_same wR MR wN MN cR ct hs (fun r hr q => h ⟨r, hr, q⟩) e
/-- the left sides whose ends differ -/
def lefts2 (R N : List Rule) : List T := R.map (·.1) ++ N.map (·.1)
def parting (R N : List Rule) : List T := (lefts2 R N).filter fun l => decide (left R l ≠ left N l)
theorem mem_parting {R N : List Rule} {l : T} : l ∈ parting R N ↔ ((∃ r ∈ R, r.1 = l) ∨ ∃ r ∈ N, r.1 = l) ∧ left R l ≠ left N l := by
  unfold parting lefts2
  rw [List.mem_filter, List.mem_append, List.mem_map, List.mem_map, decide_eq_true_eq]
theorem same_all {R N : List Rule} {sg : List Nat} (wR : Wf R) (MR : Meets R) (wN : Wf N) (MN : Meets N) (cR : OverR sg R) (cN : OverR sg N) (h : parting R N = []) : ∀ (n : Nat) (t : T), t.length ≤ n → Over sg t → left R t = left N t := by
  intro n
  induction n with
  | zero =>
    intro t ht ct
    rcases Classical.em (left R t = left N t) with e | e
    · exact e
    · have := mem_parting.mpr ⟨diff_left wR MR wN MN cR cN ct (fun u a _ => by omega) e, e⟩
      rw [h] at this; cases this
  | succ n ih =>
    intro t ht ct
    rcases Classical.em (left R t = left N t) with e | e
    · exact e
    · have := mem_parting.mpr ⟨diff_left wR MR wN MN cR cN ct (fun u a b => ih u (by omega) b) e, e⟩
      rw [h] at this; cases this
/-! ### the least one -/
def leastOf : T → List T → T
  | b, [] => b
  | b, t :: l => leastOf (if keyLt t b = true then t else b) l
theorem leastOf_snoc : ∀ (l : List T) (b t : T), leastOf b (l ++ [t]) = if keyLt t (leastOf b l) = true then t else leastOf b l
  | [], b, t => rfl
  | x :: l, b, t => leastOf_snoc l (if keyLt x b = true then x else b) t
theorem leastOf_mem : ∀ (l : List T) (b : T), leastOf b l ∈ b :: l
  | [], b => List.mem_cons_self
  | t :: l, b => by
    have := leastOf_mem l (if keyLt t b = true then t else b)
    show leastOf (if keyLt t b = true then t else b) l ∈ b :: t :: l
    rcases List.mem_cons.mp this with e | e
    · rw [e]
      split
      · simp
      · simp
    · simp [e]
theorem key_lt_trans {a b c : T} (h : keyLt a b = true) (k : keyLt b c = true) : keyLt a c = true := by
  unfold keyLt at *
  split at h <;> split at k <;> split <;> simp only [decide_eq_true_eq] at * <;> first | omega | exact List.lt_trans h k
theorem key_total {a b : T} (h : keyLt a b = false) (k : keyLt b a = false) : a = b := by
  unfold keyLt at *
  split at h
  · rename_i e
    rw [if_pos e.symm] at k
    exact List.le_antisymm (List.not_lt.mp (of_decide_eq_false k)) (List.not_lt.mp (of_decide_eq_false h))
  · rename_i e
    rw [if_neg (fun z => e z.symm)] at k
    have h1 := of_decide_eq_false h
    have h2 := of_decide_eq_false k
    omega
theorem leastOf_le : ∀ (l : List T) (b : T), ∀ u ∈ b :: l, keyLt u (leastOf b l) = false := by
  intro l
  induction l with
  | nil =>
    intro b u hu
    rw [List.mem_singleton.mp hu]
    exact keyLt_irrefl b
  | cons t l ih =>
    intro b u hu
    show keyLt u (leastOf (if keyLt t b = true then t else b) l) = false
    have hm := ih (if keyLt t b = true then t else b) _ List.mem_cons_self
    have step : ∀ v, (v = b ∨ v = t) → keyLt v (leastOf (if keyLt t b = true then t else b) l) = false := by
      intro v hv
      cases hk : keyLt v (leastOf (if keyLt t b = true then t else b) l) with
      | false => rfl
      | true =>
        exfalso
        -- v < m, and the better of b, t is not less than m; so v is less than the better one
        have hbt : keyLt (if keyLt t b = true then t else b) v = true ∨ (if keyLt t b = true then t else b) = v := by
          by_cases c : keyLt t b = true
          · rw [if_pos c]
            rcases hv with rfl | rfl
            · exact .inl c
            · exact .inr rfl
          · rw [if_neg c]
            rcases hv with rfl | rfl
            · exact .inr rfl
            · cases k2 : keyLt b v with
              | true => exact .inl rfl
              | false => exact .inr (key_total k2 (by simpa using c))
        rcases hbt with q | q
        · rw [key_lt_trans q hk] at hm; cases hm
        · rw [q] at hm hk; rw [hk] at hm; cases hm
    rcases List.mem_cons.mp hu with e | e
    · exact step u (.inl e)
    · rcases List.mem_cons.mp e with e | e
      · exact step u (.inr e)
      · exact ih _ u (List.mem_cons_of_mem _ e)
/-! ### texts in their order -/
theorem app_lt {x y : T} : ∀ {a b : T}, a.length = b.length → a < b → a ++ x < b ++ y
  | [], [], _, h => absurd h (List.lt_irrefl _)
  | [], _ :: _, h, _ => by simp at h
  | _ :: _, [], h, _ => by simp at h
  | a :: l, b :: m, hl, h => by
    rw [List.cons_lt_cons_iff] at h
    show a :: (l ++ x) < b :: (m ++ y)
    rw [List.cons_lt_cons_iff]
    rcases h with h | ⟨e, h⟩
    · exact .inl h
    · exact .inr ⟨e, app_lt (by simpa using hl) h⟩
theorem app_lt1 {c d : Nat} : ∀ {a : T}, c < d → a ++ [c] < a ++ [d]
  | [], h => by
    show [c] < [d]
    rw [List.cons_lt_cons_iff]; exact .inl h
  | a :: l, h => by
    show a :: (l ++ [c]) < a :: (l ++ [d])
    rw [List.cons_lt_cons_iff]; exact .inr ⟨rfl, app_lt1 h⟩
theorem lvl_asc {sg : List Nat} (hs : sg.Pairwise (· < ·)) : ∀ n, (lvl sg n).Pairwise (fun a b => a < b)
  | 0 => List.pairwise_singleton _ _
  | n + 1 => by
    show ((lvl sg n).flatMap fun t => sg.map fun c => t ++ [c]).Pairwise _
    rw [List.pairwise_flatMap]
    refine ⟨fun t _ => ?_, ?_⟩
    · rw [List.pairwise_map]
      exact hs.imp fun h => app_lt1 h
    · refine (lvl_asc hs n).imp_of_mem fun {a b} ha hb h x hx y hy => ?_
      obtain ⟨c, _, rfl⟩ := List.mem_map.mp hx
      obtain ⟨d, _, rfl⟩ := List.mem_map.mp hy
      exact app_lt (((mem_lvl.mp ha).1).trans (mem_lvl.mp hb).1.symm) h
theorem txts_asc {sg : List Nat} (hs : sg.Pairwise (· < ·)) (n : Nat) : Asc (txts sg n) := by
  unfold Asc txts
  rw [List.pairwise_flatMap]
  refine ⟨fun k _ => (lvl_asc hs k).imp_of_mem fun {a b} ha hb h => ?_, ?_⟩
  · unfold keyLt
    rw [if_pos ((mem_lvl.mp ha).1.trans (mem_lvl.mp hb).1.symm)]
    exact decide_eq_true h
  · refine (List.pairwise_lt_range).imp fun {i j} h x hx y hy => ?_
    have h1 := (mem_lvl.mp hx).1
    have h2 := (mem_lvl.mp hy).1
    unfold keyLt
    rw [if_neg (by omega)]
    exact decide_eq_true (by omega)
/-- the first text of all whose ends differ is the least left side whose ends differ -/
theorem first_diff {R N : List Rule} {sg : List Nat} {n : Nat} (wR : Wf R) (MR : Meets R) (wN : Wf N) (MN : Meets N) (cR : OverR sg R) (cN : OverR sg N) (lR : ∀ r ∈ R, r.1.length ≤ n) (lN : ∀ r ∈ N, r.1.length ≤ n) (hs : sg.Pairwise (· < ·)) {b : T} {l : List T} (hp : parting R N = b :: l) :
    (txts sg n).find? (fun t => decide (left R t ≠ left N t)) = some (leastOf b l) := by
  have hm : leastOf b l ∈ parting R N := by rw [hp]; exact leastOf_mem l b
  obtain ⟨hl, hd⟩ := mem_parting.mp hm
  have hbt : leastOf b l ∈ txts sg n := by
    rw [mem_txts]
    rcases hl with ⟨r, hr, e⟩ | ⟨r, hr, e⟩
    · rw [← e]; exact ⟨lR r hr, (cR r hr).1⟩
    · rw [← e]; exact ⟨lN r hr, (cN r hr).1⟩
  cases hf : (txts sg n).find? (fun t => decide (left R t ≠ left N t)) with
  | none =>
    have := List.find?_eq_none.mp hf _ hbt
    exact absurd (decide_eq_true hd) this
  | some u =>
    obtain ⟨hu, as, bs, e, hn⟩ := List.find?_eq_some_iff_append.mp hf
    have hud := of_decide_eq_true hu
    have hum : u ∈ txts sg n := by rw [e]; simp
    obtain ⟨hul, huc⟩ := mem_txts.mp hum
    have asc := txts_asc hs n
    unfold Asc at asc
    rw [e, List.pairwise_append] at asc
    have ul : (∃ r ∈ R, r.1 = u) ∨ ∃ r ∈ N, r.1 = u := by
      refine diff_left wR MR wN MN cR cN huc (fun v hv cv => ?_) hud
      have hvm : v ∈ txts sg n := mem_txts.mpr ⟨by omega, cv⟩
      rw [e] at hvm
      rcases List.mem_append.mp hvm with z | z
      · have := hn v z
        simpa using this
      · exfalso
        rcases List.mem_cons.mp z with z | z
        · rw [z] at hv; exact Nat.lt_irrefl _ hv
        · have h3 := (List.pairwise_cons.mp asc.2.1).1 v z
          unfold keyLt at h3
          rw [if_neg (by omega)] at h3
          have := of_decide_eq_true h3
          omega
    have hup : u ∈ b :: l := by rw [← hp]; exact mem_parting.mpr ⟨ul, hud⟩
    have h1 := leastOf_le l b u hup
    have h2 : keyLt (leastOf b l) u = false := by
      rw [e] at hbt
      rcases List.mem_append.mp hbt with z | z
      · have := hn _ z
        simp only [ne_eq, decide_not, Bool.not_not, decide_eq_true_eq] at this
        exact absurd this hd
      · rcases List.mem_cons.mp z with z | z
        · rw [z]; exact keyLt_irrefl u
        · exact keyLt_asymm ((List.pairwise_cons.mp asc.2.1).1 _ z)
    rw [key_total h1 h2]
/-- least books tell it, too -/
theorem due_parting {R N : List Rule} {sg : List Nat} (wR : Wf R) (MR : Meets R) (wN : Wf N) (MN : Meets N) (cR : OverR sg R) (cN : OverR sg N) {ds es : List T} (hd : IsDue R ds) (he : IsDue N es) : lrules R ds = lrules N es ↔ parting R N = [] := by
  constructor
  · intro h
    have s1 := (due_same wR MR hd).1
    have s2 := (due_same wN MN he).1
    cases hp : parting R N with
    | nil => rfl
    | cons b l =>
      have hm : b ∈ parting R N := by rw [hp]; simp
      have := (mem_parting.mp hm).2
      exact absurd (by rw [← s1, ← s2, h]) this
  · intro h
    have sm := same_all wR MR wN MN cR cN h
    have hlR : ∀ l, MinRed R l → Over sg l := fun l hl => by
      obtain ⟨r, hr, e⟩ := (minRed_iff.mpr hl).1
      rw [← e]; exact (cR r hr).1
    have hlN : ∀ l, MinRed N l → Over sg l := fun l hl => by
      obtain ⟨r, hr, e⟩ := (minRed_iff.mpr hl).1
      rw [← e]; exact (cN r hr).1
    have ends : ∀ t, Over sg t → (IsEnd R t ↔ IsEnd N t) := fun t ct => by
      have e := sm t.length t (Nat.le_refl _) ct
      constructor
      · intro z
        rw [left_of_end z] at e
        have := left_end wN t
        rw [← e] at this
        exact this
      · intro z
        rw [left_of_end z] at e
        have := left_end wR t
        rw [e] at this
        exact this
    have go : ∀ {A B : List Rule}, (∀ t, Over sg t → (IsEnd A t ↔ IsEnd B t)) → ∀ l, Over sg l → MinRed A l → MinRed B l := fun {A B} h l cl ⟨m1, m2⟩ => by
      refine ⟨fun z => m1 ((h l cl).mpr z), fun x m y e hne => ?_⟩
      exact (h m (fun c hc => cl c (by rw [e]; simp [hc]))).mp (m2 x m y e hne)
    have eds : ds = es := asc_uniq hd.1 he.1 fun l => by
      rw [hd.2, he.2]
      exact ⟨fun z => go ends l (hlR l z) z, fun z => go (fun t ct => (ends t ct).symm) l (hlN l z) z⟩
    subst eds
    unfold lrules
    exact List.map_congr_left fun l hl => by rw [sm l.length l (Nat.le_refl _) (hlR l ((hd.2 l).mp hl))]
end Bk
set_option Elab.async false
set_option linter.all false
set_option maxRecDepth 100000
set_option maxHeartbeats 4000000
namespace Sh
open PySem PySem.Spec PyProof.Rows L2
open SX (S S_inj S_len S_cat)
open Bk (Rule firstAt lg bestUp used left drain pushS Wf quarrel Meets)
local macro_rules | `(tactic| walk_at "nx") => `(tactic| repeat (with_reducible first | refine Sh.gn_mk ?_ | refine Sh.nx_mk ?_ | refine Sh.st_nx ?_ | refine Sh.rt_mk ?_ | refine Sh.ct_mk ?_ | refine Sh.bk_mk ?_))
local macro_rules | `(tactic| walk_at "sq") => `(tactic| first | exact SqL.of upd_same | exact SqT.of upd_same | exact SqL.of (by assumption) | exact SqT.of (by assumption) | assumption | exact Or.inl (SqL.of (by assumption)) | exact Or.inr (SqT.of (by assumption)) | exact Or.inl (by assumption) | exact Or.inr (by assumption))
local macro_rules | `(tactic| walk_at "hp") => `(tactic| first | exact upd_same | assumption)
local macro_rules | `(tactic| walk_at "sz") => `(tactic| first | exact Nat.le_of_ble_eq_true rfl | omega)
local macro_rules | `(tactic| walk_at "sd") => `(tactic| first | omega | exact rfl | assumption | (show (0 : Int) < _; omega) | exact And.intro (by omega) (by omega) | exact Or.inl (And.intro (by omega) (by omega)) | exact Or.inr (And.intro (by omega) (by omega)) | omega | exact Sh.sz_S (by omega) | decide)
local macro_rules | `(tactic| walk_at "rd1") => `(tactic| first
  | (with_reducible first | refine Sh.gn_mk ?_ | refine Sh.nx_mk ?_ | refine Sh.st_nx ?_ | refine Sh.rt_mk ?_ | refine Sh.ct_mk ?_ | refine Sh.bk_mk ?_)
  | refine Exists.intro (α := V) _ (And.intro rfl ?_)
  | refine Exists.intro (α := Bool) _ (And.intro rfl ?_)
  | refine Exists.intro (α := Int) _ (And.intro rfl ?_)
  | refine Exists.intro (α := PySem.Str) _ (And.intro rfl ?_)
  | refine Exists.intro (α := Int) _ (Exists.intro (α := Int) _ (And.intro rfl (And.intro rfl ?_)))
  | refine Exists.intro (α := PySem.Str) _ (Exists.intro (α := PySem.Str) _ (And.intro rfl (And.intro rfl ?_)))
  | refine Exists.intro (α := Int) _ (Exists.intro (α := Int) _ (And.intro rfl ?_))
  | refine Or.inl (Exists.intro (α := Int) _ (And.intro rfl ?_))
  | refine Exists.intro _ (Exists.intro _ (Exists.intro _ (Exists.intro _ (And.intro rfl (And.intro rfl (And.intro (by walk_at "sq") (And.intro rfl ?_)))))))
  | refine Exists.intro _ (Exists.intro _ (Exists.intro _ (Exists.intro _ (And.intro rfl (And.intro rfl (And.intro (by walk_at "hp") (And.intro rfl ?_)))))))
  | refine And.intro (by walk_at "sd") ?_
  )
local macro_rules | `(tactic| walk_at "rd") => `(tactic| repeat walk_at "rd1")
local macro_rules | `(tactic| walk_at "lk") => `(tactic| first | exact rfl | (rw [lookup_putF, if_pos rfl]) | (rw [lookup_putF, if_neg (by decide +kernel)]; walk_at "lk"))

def okTxt : V → Prop := fun v => ∃ z, v = .str z ∧ (reprText z).length ≤ 1000
def okWord : V → Prop := fun v => ∃ z, v = .str z ∧ z.length ≤ 1000
section
variable {P : Program} {w : World} {K : PySem.W.Frag} {mg : Str → Option Value} {base : Heap} {CB CE XN FN XU FU : Addr}
theorem x_NotSettled (T : TxtX P K mg CB CE XN FN XU FU) : XiOk P w K mg base 1 FN (spX1 K XN "text" okTxt) := by
  obtain ⟨fd, SF, b⟩ := T.q_NotSettled.ex
  refine ⟨fd, _, fn_sup SF nsc_NotSettled rfl rfl (fun vs H Q E h => ?_) (fun cc cda A outer s H vs Q E hr h => ?_), b⟩
  · obtain ⟨a, C, v, rfl, _⟩ := h
    rfl
  · obtain ⟨a, C, v, rfl, o, sc, hno, ea, ⟨z, rfl, hz⟩, k⟩ := h
    refine ⟨_, _, _, (pa_cons (pe_op op_add_str (pe_op op_add_str pe_str (pe_callB call_repr_str (by rfl) T.b_repr (by decide +kernel) (pa_cons (pv 1) pa_nil))) pe_str) pa_nil), (pss_cons (ps_ost (pv 0) (pv 1)) pss_nil), rfl, fun _ => rfl, rfl, ?_⟩
    refine ⟨a, C, _, rfl, o, sc, ea, ?_⟩
    have hsl : (1100 : Nat) ≤ sizeLine := by decide
    have h1 : (Str.ofString "the text ").length = 9 := by decide
    have h2 : (Str.ofString " has two ends").length = 13 := by decide
    refine ⟨_, rfl, _, rfl, by omega, _, _, rfl, rfl, by omega, _, _, rfl, rfl, ?_, ?_⟩
    · rw [PySem.Str.length_append, h1, h2]; omega
    refine ⟨by simp, ea, _, rfl, _, rfl, a, C, rfl, o, hno, .inl ⟨ea, fun dx n1 n2 => ?_⟩⟩
    exact k dx n1 n2
theorem x_Unlike (T : TxtX P K mg CB CE XN FN XU FU) : XiOk P w K mg base 1 FU (spX1 K XU "word" okWord) := by
  obtain ⟨fd, SF, b⟩ := T.q_Unlike.ex
  refine ⟨fd, _, fn_sup SF nsc_Unlike rfl rfl (fun vs H Q E h => ?_) (fun cc cda A outer s H vs Q E hr h => ?_), b⟩
  · obtain ⟨a, C, v, rfl, _⟩ := h
    rfl
  · obtain ⟨a, C, v, rfl, o, sc, hno, ea, ⟨z, rfl, hz⟩, k⟩ := h
    refine ⟨_, _, _, (pa_cons (pe_op op_add_str pe_str (pv 1)) pa_nil), (pss_cons (ps_ost (pv 0) (pv 1)) pss_nil), rfl, fun _ => rfl, rfl, ?_⟩
    refine ⟨a, C, _, rfl, o, sc, ea, ?_⟩
    have hsl : (1100 : Nat) ≤ sizeLine := by decide
    have h1 : (Str.ofString "both must have the same ").length = 24 := by decide
    refine ⟨_, rfl, _, _, rfl, rfl, by omega, ?_⟩
    refine ⟨by simp, ea, _, rfl, _, rfl, a, C, rfl, o, hno, .inl ⟨ea, fun dx n1 n2 => ?_⟩⟩
    exact k dx n1 n2
end
end Sh
set_option Elab.async false
set_option linter.all false
set_option maxRecDepth 100000
set_option maxHeartbeats 4000000
namespace Sh
open PySem PySem.Spec PyProof.Rows L2
open SX (S S_inj S_len S_cat)
open Bk (Rule firstAt lg bestUp used left drain pushS Wf quarrel fits useR over res1 res2 Meets)
/-- a comprehension over a list whose items are told by l -/
theorem lc_lstR {α : Type} {Rel : Hp → V → α → Prop} {l : List α} {xs : List V} {K : PySem.W.Frag} {a : Addr} {g : TG} {tt : TT} {te : TE} {vs : List Nat} {σ : L2.St} {H1 : Hp} {D : Addr} {Qd : Hp → Prop} (hlen : xs.length = l.length)
    (Pv : List α → Hp → Prop) (h0 : Pv [] (upd H1 D (.lst []))) (hG : ∀ pre H, Pv pre H → SqL K H a xs ∧ ∀ (i : Nat) x y, xs[i]? = some x → l[i]? = some y → Rel H x y)
    (hs : ∀ pre y post x H, l = pre ++ y :: post → xs[pre.length]? = some x → Rel H x y → Pv pre H → g x (wipe σ vs) H fun σ2 H2 => wipe σ2 vs = wipe σ vs ∧ tt σ2 H2 fun b H3 =>
      if b = true then te σ2 H3 fun y' H4 => ∃ acc, H4 D = some (.lst acc) ∧ acc.length < sizeLine ∧ Pv (pre ++ [y]) (upd H4 D (.lst (acc ++ [y']))) else Pv (pre ++ [y]) H3) (hd : ∀ H, Pv l H → Qd H) :
    ∃ W : Nat → Nat → Hp → Prop, (∃ m, W 0 m (upd H1 D (.lst []))) ∧ ∀ i m H, W i m H →
      ((Itl K a).stop i H ∧ Qd H) ∨ ((Itl K a).go i H ∧ ∃ Nx : Hp → Prop, (∀ H', Nx H' → ∃ m', m' < m ∧ W (i + 1) m' H') ∧ ∀ x H', (Itl K a).yld i H x H' → g x (wipe σ vs) H' fun σ2 H2 => wipe σ2 vs = wipe σ vs ∧ tt σ2 H2 fun b H3 =>
        if b = true then te σ2 H3 fun y H4 => ∃ acc, H4 D = some (.lst acc) ∧ acc.length < sizeLine ∧ Nx (upd H4 D (.lst (acc ++ [y]))) else Nx H3) := by
  have w := walk_list (K := K) (a := a) (xs := xs)
  refine lc_it w (fun i H => Pv (l.take i) H) (by simpa using h0) (fun i H _ p => (hG _ H p).1) (fun i x H H' hi p y => ?_) (fun H p => hd H (by simpa [hlen] using p))
  obtain ⟨rfl, hx⟩ := y
  have hi' : i < l.length := hlen ▸ hi
  have hl : l[i]? = some l[i] := by simp [hi']
  obtain ⟨e1, e2⟩ := take_succ_of hl
  have q := hs _ l[i] _ x H' e2 (by rw [List.length_take, Nat.min_eq_left (Nat.le_of_lt hi')]; exact hx) ((hG _ H' p).2 i x l[i] hx hl) p
  rw [← e1] at q
  exact q
theorem asg_J {te : TE} {g : TG} {D : Ends} {σ : L2.St} {H : Hp} (P : V → Hp → Prop) (h : ∀ Q : VK, (∀ v H', P v H' → Q v H') → te σ H Q) (k : ∀ v H', P v H' → g v σ H' D.nx) : tAsg te g D σ H := h _ k
local macro_rules | `(tactic| walk_at "nx") => `(tactic| repeat (with_reducible first | refine Sh.gn_mk ?_ | refine Sh.nx_mk ?_ | refine Sh.st_nx ?_ | refine Sh.rt_mk ?_ | refine Sh.ct_mk ?_ | refine Sh.bk_mk ?_))
local macro_rules | `(tactic| walk_at "sq") => `(tactic| first | exact SqL.of upd_same | exact SqT.of upd_same | exact SqL.of (by assumption) | exact SqT.of (by assumption) | assumption | exact Or.inl (SqL.of (by assumption)) | exact Or.inr (SqT.of (by assumption)) | exact Or.inl (by assumption) | exact Or.inr (by assumption))
local macro_rules | `(tactic| walk_at "hp") => `(tactic| first | exact upd_same | assumption)
local macro_rules | `(tactic| walk_at "sz") => `(tactic| first | exact Nat.le_of_ble_eq_true rfl | omega)
local macro_rules | `(tactic| walk_at "sd") => `(tactic| first | omega | exact rfl | assumption | (show (0 : Int) < _; omega) | exact And.intro (by omega) (by omega) | exact Or.inl (And.intro (by omega) (by omega)) | exact Or.inr (And.intro (by omega) (by omega)) | omega | exact Sh.sz_S (by omega) | decide)
local macro_rules | `(tactic| walk_at "rd1") => `(tactic| first
  | (with_reducible first | refine Sh.gn_mk ?_ | refine Sh.nx_mk ?_ | refine Sh.st_nx ?_ | refine Sh.rt_mk ?_ | refine Sh.ct_mk ?_ | refine Sh.bk_mk ?_)
  | refine Exists.intro (α := V) _ (And.intro rfl ?_)
  | refine Exists.intro (α := Bool) _ (And.intro rfl ?_)
  | refine Exists.intro (α := Int) _ (And.intro rfl ?_)
  | refine Exists.intro (α := PySem.Str) _ (And.intro rfl ?_)
  | refine Exists.intro (α := Int) _ (Exists.intro (α := Int) _ (And.intro rfl (And.intro rfl ?_)))
  | refine Exists.intro (α := PySem.Str) _ (Exists.intro (α := PySem.Str) _ (And.intro rfl (And.intro rfl ?_)))
  | refine Exists.intro (α := Int) _ (Exists.intro (α := Int) _ (And.intro rfl ?_))
  | refine Or.inl (Exists.intro (α := Int) _ (And.intro rfl ?_))
  | refine Exists.intro _ (Exists.intro _ (Exists.intro _ (Exists.intro _ (And.intro rfl (And.intro rfl (And.intro (by walk_at "sq") (And.intro rfl ?_)))))))
  | refine Exists.intro _ (Exists.intro _ (Exists.intro _ (Exists.intro _ (And.intro rfl (And.intro rfl (And.intro (by walk_at "hp") (And.intro rfl ?_)))))))
  | refine And.intro (by walk_at "sd") ?_
  )
local macro_rules | `(tactic| walk_at "rd") => `(tactic| repeat walk_at "rd1")
local macro_rules | `(tactic| walk_at "lk") => `(tactic| first | exact rfl | (rw [lookup_putF, if_pos rfl]) | (rw [lookup_putF, if_neg (by decide +kernel)]; walk_at "lk"))

section
variable {P : Program} {w : World} {K : PySem.W.Frag} {mg : Str → Option Value} {base : Heap} {CB CE : Addr}
theorem used_filter (R : List Rule) (q : List Nat) : used R q = ((R.filter (fits q)).head?).map (useR q) := by
  unfold used
  rw [List.head?_filter]
theorem RItem.sm {H H' : Hp} {v : V} {r : Rule} (h : RItem K H v r) (s : Same H H') : RItem K H' v r := h.same (Keep.same s)
def spLawLeft (K : PySem.W.Frag) : Sp := fun vs H Q _ => ∃ (a : Addr) (xs : List V) (R : List Rule) (t : List Nat), vs = [.ref a, .str (S t)] ∧ (SqL K H a xs ∨ SqT K H a xs) ∧ Items (RItem K) H xs R ∧ R.length ≤ 64 ∧ Wf R ∧ (∀ r ∈ R, r.1.length ≤ 4) ∧ t.length ≤ 1000 ∧
  ∀ H' : Hp, Same H H' → Q (.str (S (left R t))) H'
theorem c__law_left (T : Txt K mg) : Cal P w K mg base CX0 1 "_law_left" (spLawLeft K) := by
  refine Cal.mk0 T.d__law_left sc__law_left (fun vs H Q E h => ?_) (fun f cdv A outer s H vs Q E hr h => ?_)
  · obtain ⟨a, xs, R, t, rfl, _⟩ := h
    rfl
  · obtain ⟨a, xs, R, t, rfl, hS, hR, hl, hw, h4, ht, k⟩ := h
    have hSl := S_len t
    rcases hS with hS | hS
    · refine ⟨_, (pss_cons (ps_set (i := 2) sc__law_left.nd rfl (Or.inr rfl) pe_str)
  (pss_cons (ps_for PassesOwn.never rfl (pi_str (pv 1)) (pg_name (i := 3) sc__law_left.nd rfl (Or.inl rfl))
    (pss_cons (ps_set (i := 2) sc__law_left.nd rfl (Or.inr rfl) (pe_op op_add_str (pv 2) (pv 3)))
    (pss_cons (ps_setLc (i := 4) (own := [("_law_rule_here", 5)]) (g := gName 5) (by rfl) sc__law_left.nd rfl rfl (sw_true rfl rfl rfl (by decide +kernel)) (pi_list (pv 0)) (blkOk_by (N := ["_law_rules", "_law_text_here", "_law_pile", "_law_sign", "_law_fitting", "_law_rule_here"]) (sc := defScope s__law_left) (by decide +kernel)) (fun _ _ _ _ _ => (pg_name (i := 5) sc__law_left.nd rfl (Or.inl rfl))) (fun _ _ _ _ _ => (pts_one (pt_val (pe_m1 PySem.F.slot_str_endswith PySem.F.type_str_endswith mt_endswith (pv 2) (pe_ix ix_tupB (pv 5) pe_int (fun _ _ => rfl)))))) (fun _ _ _ _ _ => (pv 5)))
    (pss_one (ps_while PassesOwn.never (pt_truth (pv 4) (by intro _; rfl))
      (pss_cons (ps_set (i := 2) sc__law_left.nd rfl (Or.inr rfl) (pe_op op_add_str (pe_slice sl_str (pv 2) po_none (po_some (pe_op op_sub (pe_callB call_len_str (by rfl) T.b_len (by decide +kernel) (pa_cons (pv 2) pa_nil)) (pe_callB call_len_str (by rfl) T.b_len (by decide +kernel) (pa_cons (pe_ix ix_tup (pe_ix ix_list (pv 4) pe_int (fun _ _ => rfl)) pe_int (fun _ _ => rfl)) pa_nil))))) (pe_ix ix_tup (pe_ix ix_list (pv 4) pe_int (fun _ _ => rfl)) pe_int (fun _ _ => rfl))))
      (pss_one (ps_setLc (i := 4) (own := [("_law_rule_here", 5)]) (g := gName 5) (by rfl) sc__law_left.nd rfl rfl (sw_true rfl rfl rfl (by decide +kernel)) (pi_list (pv 0)) (blkOk_by (N := ["_law_rules", "_law_text_here", "_law_pile", "_law_sign", "_law_fitting", "_law_rule_here"]) (sc := defScope s__law_left) (by decide +kernel)) (fun _ _ _ _ _ => (pg_name (i := 5) sc__law_left.nd rfl (Or.inl rfl))) (fun _ _ _ _ _ => (pts_one (pt_val (pe_m1 PySem.F.slot_str_endswith PySem.F.type_str_endswith mt_endswith (pv 2) (pe_ix ix_tupB (pv 5) pe_int (fun _ _ => rfl)))))) (fun _ _ _ _ _ => (pv 5))))))))))
  (pss_one (ps_ret (pv 2))))), ?_⟩
      walk_at "rd"
      refine for_str (l := t) (fun pre σ H2 => ∃ (v3 v4 v5 : Option V), σ = [some (.ref a), some (.str (S t)), some (.str (S (left R pre))), v3, v4, v5] ∧ Same H H2)
        ⟨_, _, _, rfl, Same.refl H⟩ ?_ ?_
      · rintro pre c post σ H2 e ⟨v3, v4, v5, rfl, s2⟩
        have hpl : pre.length + 1 ≤ t.length := by
          have := congrArg List.length e
          simp at this
          omega
        have hlp := left_len hw pre
        walk_at "nx"
        refine ⟨_, rfl, _, rfl, _, _, rfl, rfl, by rw [S_len, S_len]; exact Nat.le_trans (m := 1001) (by simp; omega) (by decide), ?_⟩
        rw [S_cat]
        walk_at "nx"
        refine st_asgJ (fun v H3 => ∃ (pf : Addr) (ys : List V), v = .ref pf ∧ Same H2 H3 ∧ H3 pf = some (.lst ys) ∧ Items (RItem K) H3 ys (R.filter (fits (left R pre ++ [c])))) (fun Q' hQ => ?_) ?_
        · refine ⟨_, rfl, a, rfl, ⟨_, (fun {H1 H2 : Hp} (s : Same H1 H2) (h : SqL K H1 a xs) => s.seq h) (s2) hS⟩, fun D hD => lc_lstR (K := K) (a := a) (xs := xs) (l := R) (Rel := RItem K) hR.1
            (fun pre3 H3 => ∃ acc, H3 D = some (.lst acc) ∧ Items (RItem K) H3 acc (pre3.filter (fits (left R pre ++ [c]))) ∧ Same H2 H3) ⟨[], upd_same, Items.nil, same_new hD⟩
            (fun pre3 H3 ⟨_, _, _, s3⟩ => ⟨(fun {H1 H2 : Hp} (s : Same H1 H2) (h : SqL K H1 a xs) => s.seq h) (s2.trans s3) hS, fun i x y h1 h2 => (hR.2 i x y h1 h2).sm (s2.trans s3)⟩) ?_ ?_⟩
          · rintro pre3 r post3 x H3 e3 hx ⟨qr, rfl, sq⟩ ⟨acc, h3, ita, s3⟩
            have hpl3 : pre3.length + 1 ≤ R.length := by
              have := congrArg List.length e3
              simp at this
              omega
            have hal : acc.length < sizeLine := by
              have h1 := ita.1
              have h2 := List.length_filter_le (fits (left R pre ++ [c])) pre3
              exact Nat.lt_of_le_of_lt (m := 64) (by omega) (by decide)
            refine ⟨rfl, ?_⟩
            refine ⟨_, rfl, ⟨_, rfl⟩, _, rfl, qr, _, 0, .str (S r.1), rfl, rfl, sq, rfl, _, _, rfl, rfl, _, rfl, ?_⟩
            rw [endswith_S]
            cases hc : fits (left R pre ++ [c]) r with
            | true =>
              have hc' : r.1.isSuffixOf ((left R pre ++ [c])) = true := hc
              rw [hc']
              refine iteT ?_
              have hk : Keep H3 (upd H3 D (.lst (acc ++ [.ref qr]))) := Keep.butL but_upd h3
              refine ⟨_, rfl, acc, h3, hal, acc ++ [.ref qr], upd_same, ?_, same_mut s3 hD⟩
              rw [List.filter_append, show [r].filter (fits (left R pre ++ [c])) = [r] by simp [hc]]
              exact ita.snoc (fun x y h => h.same hk) ⟨qr, rfl, hk.seq sq⟩
            | false =>
              have hc' : r.1.isSuffixOf ((left R pre ++ [c])) = false := hc
              rw [hc']
              refine iteF ?_
              refine ⟨acc, h3, ?_, s3⟩
              rw [List.filter_append, show [r].filter (fits (left R pre ++ [c])) = [] by simp [hc], List.append_nil]
              exact ita
          · rintro H3 ⟨acc, h3, ita, s3⟩
            exact hQ _ _ ⟨D, acc, rfl, s3, h3, ita⟩
        · rintro v H3 ⟨pf, ys, rfl, s3, hf, itf⟩
          walk_at "nx"
          refine ⟨fun m σ H4 => ∃ (q : List Nat) (pf : Addr) (ys : List V) (v5 : Option V), σ = [some (.ref a), some (.str (S t)), some (.str (S q)), some (.str (S [c])), some (.ref pf), v5] ∧ Same H H4 ∧ H4 pf = some (.lst ys) ∧ Items (RItem K) H4 ys (R.filter (fits q)) ∧
            q.length ≤ m ∧ q.length ≤ 2000 ∧ drain R m q = left R (pre ++ [c]),
            ⟨(left R pre).length + 1, left R pre ++ [c], pf, ys, _, rfl, s2.trans s3, hf, itf, by simp, by simp; omega, (left_snoc R pre c).symm⟩, ?_⟩
          clear itf hf s3
          clear s2
          clear H3 ys pf v4 v5 v3
          clear hlp hpl
          rintro m σ H2 ⟨q, pf, ys, v5, rfl, s2, hf, itf, hm, hq, hd⟩
          have hsq := S_len q
          cases hfl : R.filter (fits q) with
          | nil =>
            have hu1 : used R q = none := by rw [used_filter, hfl]; rfl
            have e1 : drain R m q = q := by
              cases m with
              | zero => rfl
              | succ m => simp only [drain, hu1]
            rw [e1] at hd
            have hy : ys = [] := by
              have := itf.1
              rw [hfl] at this
              exact List.eq_nil_of_length_eq_zero this
            subst hy
            refine ⟨_, rfl, false, .inl ⟨[], SqL.of hf, rfl⟩, ?_⟩
            refine iteF ?_
            walk_at "nx"
            exact ⟨_, _, _, by rw [hd], s2⟩
          | cons r rs =>
            have hu1 : used R q = some (useR q r) := by rw [used_filter, hfl]; rfl
            have hlt := (Bk.used_step hu1).len hw
            have hrm : r ∈ R := (List.mem_filter.mp (show r ∈ R.filter (fits q) by rw [hfl]; exact List.mem_cons_self)).1
            have hfr : fits q r = true := (List.mem_filter.mp (show r ∈ R.filter (fits q) by rw [hfl]; exact List.mem_cons_self)).2
            have h4r := h4 r hrm
            have hwr := (hw r hrm)
            obtain ⟨x0, hx0, qr, rfl, sq⟩ := itf.get (i := 0) (y := r) (by rw [hfl]; rfl)
            obtain ⟨ys', rfl⟩ : ∃ ys', ys = .ref qr :: ys' := by
              cases ys with
              | nil => simp at hx0
              | cons y ys' => simp at hx0; exact ⟨ys', by rw [hx0]⟩
            cases m with
            | zero => omega
            | succ m =>
              have hd2 : drain R m (useR q r) = left R (pre ++ [c]) := by
                rw [← hd]; simp only [drain, hu1]
              refine ⟨_, rfl, true, .inl ⟨_, SqL.of hf, rfl⟩, ?_⟩
              refine iteT ⟨_, fun _ _ h => h, ?_⟩
              have hrl : r.1.length ≤ q.length := by
                obtain ⟨x, hx⟩ := Bk.fits_iff.mp hfr
                rw [hx, List.length_append]; omega
              have hsr := S_len r.1
              refine ⟨_, rfl, _, rfl, _, rfl, sz_S (t := q) (by omega), ?_⟩
              refine ⟨_, rfl, pf, _, 0, .ref qr, rfl, rfl, SqL.of hf, atI_at (Int.le_refl 0) rfl, ?_⟩
              refine ⟨qr, _, 0, .str (S r.1), rfl, rfl, sq, rfl, ?_⟩
              refine ⟨_, rfl, sz_S (t := r.1) (by omega), _, _, rfl, rfl, _, rfl, _, rfl, sz_S (t := q) (by omega), ?_⟩
              rw [cut_to (by omega), hsq, hsr, show ((q.length : Int) - (r.1.length : Int)).toNat = q.length - r.1.length by omega]
              refine ⟨_, rfl, pf, _, 0, .ref qr, rfl, rfl, SqL.of hf, atI_at (Int.le_refl 0) rfl, ?_⟩
              refine ⟨qr, _, 1, .str (S r.2), rfl, rfl, sq, rfl, ?_⟩
              refine ⟨_, _, rfl, rfl, by rw [S_len, S_len]; exact Nat.le_trans (m := 3000) (by simp; omega) (by decide), ?_⟩
              rw [S_cat]
              walk_at "nx"
              have hue : q.take (q.length - r.1.length) ++ r.2 = useR q r := rfl
              rw [hue]
              generalize useR q r = u at hd2 hlt
              refine asg_J (fun v H3 => ∃ (pf : Addr) (ys : List V), v = .ref pf ∧ Same H2 H3 ∧ H3 pf = some (.lst ys) ∧ Items (RItem K) H3 ys (R.filter (fits (u)))) (fun Q' hQ => ?_) ?_
              · refine ⟨_, rfl, a, rfl, ⟨_, (fun {H1 H2 : Hp} (s : Same H1 H2) (h : SqL K H1 a xs) => s.seq h) (s2) hS⟩, fun D hD => lc_lstR (K := K) (a := a) (xs := xs) (l := R) (Rel := RItem K) hR.1
                  (fun pre3 H3 => ∃ acc, H3 D = some (.lst acc) ∧ Items (RItem K) H3 acc (pre3.filter (fits (u))) ∧ Same H2 H3) ⟨[], upd_same, Items.nil, same_new hD⟩
                  (fun pre3 H3 ⟨_, _, _, s3⟩ => ⟨(fun {H1 H2 : Hp} (s : Same H1 H2) (h : SqL K H1 a xs) => s.seq h) (s2.trans s3) hS, fun i x y h1 h2 => (hR.2 i x y h1 h2).sm (s2.trans s3)⟩) ?_ ?_⟩
                · rintro pre3 r post3 x H3 e3 hx ⟨qr, rfl, sq⟩ ⟨acc, h3, ita, s3⟩
                  have hpl3 : pre3.length + 1 ≤ R.length := by
                    have := congrArg List.length e3
                    simp at this
                    omega
                  have hal : acc.length < sizeLine := by
                    have h1 := ita.1
                    have h2 := List.length_filter_le (fits (u)) pre3
                    exact Nat.lt_of_le_of_lt (m := 64) (by omega) (by decide)
                  refine ⟨rfl, ?_⟩
                  refine ⟨_, rfl, ⟨_, rfl⟩, _, rfl, qr, _, 0, .str (S r.1), rfl, rfl, sq, rfl, _, _, rfl, rfl, _, rfl, ?_⟩
                  rw [endswith_S]
                  cases hc : fits (u) r with
                  | true =>
                    have hc' : r.1.isSuffixOf ((u)) = true := hc
                    rw [hc']
                    refine iteT ?_
                    have hk : Keep H3 (upd H3 D (.lst (acc ++ [.ref qr]))) := Keep.butL but_upd h3
                    refine ⟨_, rfl, acc, h3, hal, acc ++ [.ref qr], upd_same, ?_, same_mut s3 hD⟩
                    rw [List.filter_append, show [r].filter (fits (u)) = [r] by simp [hc]]
                    exact ita.snoc (fun x y h => h.same hk) ⟨qr, rfl, hk.seq sq⟩
                  | false =>
                    have hc' : r.1.isSuffixOf ((u)) = false := hc
                    rw [hc']
                    refine iteF ?_
                    refine ⟨acc, h3, ?_, s3⟩
                    rw [List.filter_append, show [r].filter (fits (u)) = [] by simp [hc], List.append_nil]
                    exact ita
                · rintro H3 ⟨acc, h3, ita, s3⟩
                  exact hQ _ _ ⟨D, acc, rfl, s3, h3, ita⟩
              · rintro v H3 ⟨pf, ys, rfl, s3, hf, itf⟩
                walk_at "nx"
                exact ⟨m, Nat.lt_succ_self m, u, pf, ys, _, rfl, s2.trans s3, hf, itf, by omega, by omega, hd2⟩
      · rintro σ H2 ⟨v3, v4, v5, rfl, s2⟩
        walk_at "rd"
        exact k H2 s2
    · refine ⟨_, (pss_cons (ps_set (i := 2) sc__law_left.nd rfl (Or.inr rfl) pe_str)
  (pss_cons (ps_for PassesOwn.never rfl (pi_str (pv 1)) (pg_name (i := 3) sc__law_left.nd rfl (Or.inl rfl))
    (pss_cons (ps_set (i := 2) sc__law_left.nd rfl (Or.inr rfl) (pe_op op_add_str (pv 2) (pv 3)))
    (pss_cons (ps_setLc (i := 4) (own := [("_law_rule_here", 5)]) (g := gName 5) (by rfl) sc__law_left.nd rfl rfl (sw_true rfl rfl rfl (by decide +kernel)) (pi_tup (pv 0)) (blkOk_by (N := ["_law_rules", "_law_text_here", "_law_pile", "_law_sign", "_law_fitting", "_law_rule_here"]) (sc := defScope s__law_left) (by decide +kernel)) (fun _ _ _ _ _ => (pg_name (i := 5) sc__law_left.nd rfl (Or.inl rfl))) (fun _ _ _ _ _ => (pts_one (pt_val (pe_m1 PySem.F.slot_str_endswith PySem.F.type_str_endswith mt_endswith (pv 2) (pe_ix ix_tupB (pv 5) pe_int (fun _ _ => rfl)))))) (fun _ _ _ _ _ => (pv 5)))
    (pss_one (ps_while PassesOwn.never (pt_truth (pv 4) (by intro _; rfl))
      (pss_cons (ps_set (i := 2) sc__law_left.nd rfl (Or.inr rfl) (pe_op op_add_str (pe_slice sl_str (pv 2) po_none (po_some (pe_op op_sub (pe_callB call_len_str (by rfl) T.b_len (by decide +kernel) (pa_cons (pv 2) pa_nil)) (pe_callB call_len_str (by rfl) T.b_len (by decide +kernel) (pa_cons (pe_ix ix_tup (pe_ix ix_list (pv 4) pe_int (fun _ _ => rfl)) pe_int (fun _ _ => rfl)) pa_nil))))) (pe_ix ix_tup (pe_ix ix_list (pv 4) pe_int (fun _ _ => rfl)) pe_int (fun _ _ => rfl))))
      (pss_one (ps_setLc (i := 4) (own := [("_law_rule_here", 5)]) (g := gName 5) (by rfl) sc__law_left.nd rfl rfl (sw_true rfl rfl rfl (by decide +kernel)) (pi_tup (pv 0)) (blkOk_by (N := ["_law_rules", "_law_text_here", "_law_pile", "_law_sign", "_law_fitting", "_law_rule_here"]) (sc := defScope s__law_left) (by decide +kernel)) (fun _ _ _ _ _ => (pg_name (i := 5) sc__law_left.nd rfl (Or.inl rfl))) (fun _ _ _ _ _ => (pts_one (pt_val (pe_m1 PySem.F.slot_str_endswith PySem.F.type_str_endswith mt_endswith (pv 2) (pe_ix ix_tupB (pv 5) pe_int (fun _ _ => rfl)))))) (fun _ _ _ _ _ => (pv 5))))))))))
  (pss_one (ps_ret (pv 2))))), ?_⟩
      walk_at "rd"
      refine for_str (l := t) (fun pre σ H2 => ∃ (v3 v4 v5 : Option V), σ = [some (.ref a), some (.str (S t)), some (.str (S (left R pre))), v3, v4, v5] ∧ Same H H2)
        ⟨_, _, _, rfl, Same.refl H⟩ ?_ ?_
      · rintro pre c post σ H2 e ⟨v3, v4, v5, rfl, s2⟩
        have hpl : pre.length + 1 ≤ t.length := by
          have := congrArg List.length e
          simp at this
          omega
        have hlp := left_len hw pre
        walk_at "nx"
        refine ⟨_, rfl, _, rfl, _, _, rfl, rfl, by rw [S_len, S_len]; exact Nat.le_trans (m := 1001) (by simp; omega) (by decide), ?_⟩
        rw [S_cat]
        walk_at "nx"
        refine st_asgJ (fun v H3 => ∃ (pf : Addr) (ys : List V), v = .ref pf ∧ Same H2 H3 ∧ H3 pf = some (.lst ys) ∧ Items (RItem K) H3 ys (R.filter (fits (left R pre ++ [c])))) (fun Q' hQ => ?_) ?_
        · refine ⟨_, rfl, a, rfl, ⟨_, (fun {H1 H2 : Hp} (s : Same H1 H2) (h : SqT K H1 a xs) => (Keep.same s).seq h) (s2) hS⟩, fun D hD => lc_tupR (K := K) (a := a) (xs := xs) (l := R) (Rel := RItem K) hR.1
            (fun pre3 H3 => ∃ acc, H3 D = some (.lst acc) ∧ Items (RItem K) H3 acc (pre3.filter (fits (left R pre ++ [c]))) ∧ Same H2 H3) ⟨[], upd_same, Items.nil, same_new hD⟩
            (fun pre3 H3 ⟨_, _, _, s3⟩ => ⟨(fun {H1 H2 : Hp} (s : Same H1 H2) (h : SqT K H1 a xs) => (Keep.same s).seq h) (s2.trans s3) hS, fun i x y h1 h2 => (hR.2 i x y h1 h2).sm (s2.trans s3)⟩) ?_ ?_⟩
          · rintro pre3 r post3 x H3 e3 hx ⟨qr, rfl, sq⟩ ⟨acc, h3, ita, s3⟩
            have hpl3 : pre3.length + 1 ≤ R.length := by
              have := congrArg List.length e3
              simp at this
              omega
            have hal : acc.length < sizeLine := by
              have h1 := ita.1
              have h2 := List.length_filter_le (fits (left R pre ++ [c])) pre3
              exact Nat.lt_of_le_of_lt (m := 64) (by omega) (by decide)
            refine ⟨rfl, ?_⟩
            refine ⟨_, rfl, ⟨_, rfl⟩, _, rfl, qr, _, 0, .str (S r.1), rfl, rfl, sq, rfl, _, _, rfl, rfl, _, rfl, ?_⟩
            rw [endswith_S]
            cases hc : fits (left R pre ++ [c]) r with
            | true =>
              have hc' : r.1.isSuffixOf ((left R pre ++ [c])) = true := hc
              rw [hc']
              refine iteT ?_
              have hk : Keep H3 (upd H3 D (.lst (acc ++ [.ref qr]))) := Keep.butL but_upd h3
              refine ⟨_, rfl, acc, h3, hal, acc ++ [.ref qr], upd_same, ?_, same_mut s3 hD⟩
              rw [List.filter_append, show [r].filter (fits (left R pre ++ [c])) = [r] by simp [hc]]
              exact ita.snoc (fun x y h => h.same hk) ⟨qr, rfl, hk.seq sq⟩
            | false =>
              have hc' : r.1.isSuffixOf ((left R pre ++ [c])) = false := hc
              rw [hc']
              refine iteF ?_
              refine ⟨acc, h3, ?_, s3⟩
              rw [List.filter_append, show [r].filter (fits (left R pre ++ [c])) = [] by simp [hc], List.append_nil]
              exact ita
          · rintro H3 ⟨acc, h3, ita, s3⟩
            exact hQ _ _ ⟨D, acc, rfl, s3, h3, ita⟩
        · rintro v H3 ⟨pf, ys, rfl, s3, hf, itf⟩
          walk_at "nx"
          refine ⟨fun m σ H4 => ∃ (q : List Nat) (pf : Addr) (ys : List V) (v5 : Option V), σ = [some (.ref a), some (.str (S t)), some (.str (S q)), some (.str (S [c])), some (.ref pf), v5] ∧ Same H H4 ∧ H4 pf = some (.lst ys) ∧ Items (RItem K) H4 ys (R.filter (fits q)) ∧
            q.length ≤ m ∧ q.length ≤ 2000 ∧ drain R m q = left R (pre ++ [c]),
            ⟨(left R pre).length + 1, left R pre ++ [c], pf, ys, _, rfl, s2.trans s3, hf, itf, by simp, by simp; omega, (left_snoc R pre c).symm⟩, ?_⟩
          clear itf hf s3
          clear s2
          clear H3 ys pf v4 v5 v3
          clear hlp hpl
          rintro m σ H2 ⟨q, pf, ys, v5, rfl, s2, hf, itf, hm, hq, hd⟩
          have hsq := S_len q
          cases hfl : R.filter (fits q) with
          | nil =>
            have hu1 : used R q = none := by rw [used_filter, hfl]; rfl
            have e1 : drain R m q = q := by
              cases m with
              | zero => rfl
              | succ m => simp only [drain, hu1]
            rw [e1] at hd
            have hy : ys = [] := by
              have := itf.1
              rw [hfl] at this
              exact List.eq_nil_of_length_eq_zero this
            subst hy
            refine ⟨_, rfl, false, .inl ⟨[], SqL.of hf, rfl⟩, ?_⟩
            refine iteF ?_
            walk_at "nx"
            exact ⟨_, _, _, by rw [hd], s2⟩
          | cons r rs =>
            have hu1 : used R q = some (useR q r) := by rw [used_filter, hfl]; rfl
            have hlt := (Bk.used_step hu1).len hw
            have hrm : r ∈ R := (List.mem_filter.mp (show r ∈ R.filter (fits q) by rw [hfl]; exact List.mem_cons_self)).1
            have hfr : fits q r = true := (List.mem_filter.mp (show r ∈ R.filter (fits q) by rw [hfl]; exact List.mem_cons_self)).2
            have h4r := h4 r hrm
            have hwr := (hw r hrm)
            obtain ⟨x0, hx0, qr, rfl, sq⟩ := itf.get (i := 0) (y := r) (by rw [hfl]; rfl)
            obtain ⟨ys', rfl⟩ : ∃ ys', ys = .ref qr :: ys' := by
              cases ys with
              | nil => simp at hx0
              | cons y ys' => simp at hx0; exact ⟨ys', by rw [hx0]⟩
            cases m with
            | zero => omega
            | succ m =>
              have hd2 : drain R m (useR q r) = left R (pre ++ [c]) := by
                rw [← hd]; simp only [drain, hu1]
              refine ⟨_, rfl, true, .inl ⟨_, SqL.of hf, rfl⟩, ?_⟩
              refine iteT ⟨_, fun _ _ h => h, ?_⟩
              have hrl : r.1.length ≤ q.length := by
                obtain ⟨x, hx⟩ := Bk.fits_iff.mp hfr
                rw [hx, List.length_append]; omega
              have hsr := S_len r.1
              refine ⟨_, rfl, _, rfl, _, rfl, sz_S (t := q) (by omega), ?_⟩
              refine ⟨_, rfl, pf, _, 0, .ref qr, rfl, rfl, SqL.of hf, atI_at (Int.le_refl 0) rfl, ?_⟩
              refine ⟨qr, _, 0, .str (S r.1), rfl, rfl, sq, rfl, ?_⟩
              refine ⟨_, rfl, sz_S (t := r.1) (by omega), _, _, rfl, rfl, _, rfl, _, rfl, sz_S (t := q) (by omega), ?_⟩
              rw [cut_to (by omega), hsq, hsr, show ((q.length : Int) - (r.1.length : Int)).toNat = q.length - r.1.length by omega]
              refine ⟨_, rfl, pf, _, 0, .ref qr, rfl, rfl, SqL.of hf, atI_at (Int.le_refl 0) rfl, ?_⟩
              refine ⟨qr, _, 1, .str (S r.2), rfl, rfl, sq, rfl, ?_⟩
              refine ⟨_, _, rfl, rfl, by rw [S_len, S_len]; exact Nat.le_trans (m := 3000) (by simp; omega) (by decide), ?_⟩
              rw [S_cat]
              walk_at "nx"
              have hue : q.take (q.length - r.1.length) ++ r.2 = useR q r := rfl
              rw [hue]
              generalize useR q r = u at hd2 hlt
              refine asg_J (fun v H3 => ∃ (pf : Addr) (ys : List V), v = .ref pf ∧ Same H2 H3 ∧ H3 pf = some (.lst ys) ∧ Items (RItem K) H3 ys (R.filter (fits (u)))) (fun Q' hQ => ?_) ?_
              · refine ⟨_, rfl, a, rfl, ⟨_, (fun {H1 H2 : Hp} (s : Same H1 H2) (h : SqT K H1 a xs) => (Keep.same s).seq h) (s2) hS⟩, fun D hD => lc_tupR (K := K) (a := a) (xs := xs) (l := R) (Rel := RItem K) hR.1
                  (fun pre3 H3 => ∃ acc, H3 D = some (.lst acc) ∧ Items (RItem K) H3 acc (pre3.filter (fits (u))) ∧ Same H2 H3) ⟨[], upd_same, Items.nil, same_new hD⟩
                  (fun pre3 H3 ⟨_, _, _, s3⟩ => ⟨(fun {H1 H2 : Hp} (s : Same H1 H2) (h : SqT K H1 a xs) => (Keep.same s).seq h) (s2.trans s3) hS, fun i x y h1 h2 => (hR.2 i x y h1 h2).sm (s2.trans s3)⟩) ?_ ?_⟩
                · rintro pre3 r post3 x H3 e3 hx ⟨qr, rfl, sq⟩ ⟨acc, h3, ita, s3⟩
                  have hpl3 : pre3.length + 1 ≤ R.length := by
                    have := congrArg List.length e3
                    simp at this
                    omega
                  have hal : acc.length < sizeLine := by
                    have h1 := ita.1
                    have h2 := List.length_filter_le (fits (u)) pre3
                    exact Nat.lt_of_le_of_lt (m := 64) (by omega) (by decide)
                  refine ⟨rfl, ?_⟩
                  refine ⟨_, rfl, ⟨_, rfl⟩, _, rfl, qr, _, 0, .str (S r.1), rfl, rfl, sq, rfl, _, _, rfl, rfl, _, rfl, ?_⟩
                  rw [endswith_S]
                  cases hc : fits (u) r with
                  | true =>
                    have hc' : r.1.isSuffixOf ((u)) = true := hc
                    rw [hc']
                    refine iteT ?_
                    have hk : Keep H3 (upd H3 D (.lst (acc ++ [.ref qr]))) := Keep.butL but_upd h3
                    refine ⟨_, rfl, acc, h3, hal, acc ++ [.ref qr], upd_same, ?_, same_mut s3 hD⟩
                    rw [List.filter_append, show [r].filter (fits (u)) = [r] by simp [hc]]
                    exact ita.snoc (fun x y h => h.same hk) ⟨qr, rfl, hk.seq sq⟩
                  | false =>
                    have hc' : r.1.isSuffixOf ((u)) = false := hc
                    rw [hc']
                    refine iteF ?_
                    refine ⟨acc, h3, ?_, s3⟩
                    rw [List.filter_append, show [r].filter (fits (u)) = [] by simp [hc], List.append_nil]
                    exact ita
                · rintro H3 ⟨acc, h3, ita, s3⟩
                  exact hQ _ _ ⟨D, acc, rfl, s3, h3, ita⟩
              · rintro v H3 ⟨pf, ys, rfl, s3, hf, itf⟩
                walk_at "nx"
                exact ⟨m, Nat.lt_succ_self m, u, pf, ys, _, rfl, s2.trans s3, hf, itf, by omega, by omega, hd2⟩
      · rintro σ H2 ⟨v3, v4, v5, rfl, s2⟩
        walk_at "rd"
        exact k H2 s2
end
end Sh
set_option Elab.async false
set_option linter.all false
set_option maxRecDepth 100000
set_option maxHeartbeats 4000000
namespace Sh
open PySem PySem.Spec PyProof.Rows L2
open SX (S S_inj S_len S_cat)
open Bk (Rule firstAt lg bestUp used left drain pushS Wf quarrel fits useR over res1 res2 Meets keyLt)
local macro_rules | `(tactic| walk_at "nx") => `(tactic| repeat (with_reducible first | refine Sh.gn_mk ?_ | refine Sh.nx_mk ?_ | refine Sh.st_nx ?_ | refine Sh.rt_mk ?_ | refine Sh.ct_mk ?_ | refine Sh.bk_mk ?_))
local macro_rules | `(tactic| walk_at "sq") => `(tactic| first | exact SqL.of upd_same | exact SqT.of upd_same | exact SqL.of (by assumption) | exact SqT.of (by assumption) | assumption | exact Or.inl (SqL.of (by assumption)) | exact Or.inr (SqT.of (by assumption)) | exact Or.inl (by assumption) | exact Or.inr (by assumption))
local macro_rules | `(tactic| walk_at "hp") => `(tactic| first | exact upd_same | assumption)
local macro_rules | `(tactic| walk_at "sz") => `(tactic| first | exact Nat.le_of_ble_eq_true rfl | omega)
local macro_rules | `(tactic| walk_at "sd") => `(tactic| first | omega | exact rfl | assumption | (show (0 : Int) < _; omega) | exact And.intro (by omega) (by omega) | exact Or.inl (And.intro (by omega) (by omega)) | exact Or.inr (And.intro (by omega) (by omega)) | omega | exact Sh.sz_S (by omega) | decide)
local macro_rules | `(tactic| walk_at "rd1") => `(tactic| first
  | (with_reducible first | refine Sh.gn_mk ?_ | refine Sh.nx_mk ?_ | refine Sh.st_nx ?_ | refine Sh.rt_mk ?_ | refine Sh.ct_mk ?_ | refine Sh.bk_mk ?_)
  | refine Exists.intro (α := V) _ (And.intro rfl ?_)
  | refine Exists.intro (α := Bool) _ (And.intro rfl ?_)
  | refine Exists.intro (α := Int) _ (And.intro rfl ?_)
  | refine Exists.intro (α := PySem.Str) _ (And.intro rfl ?_)
  | refine Exists.intro (α := Int) _ (Exists.intro (α := Int) _ (And.intro rfl (And.intro rfl ?_)))
  | refine Exists.intro (α := PySem.Str) _ (Exists.intro (α := PySem.Str) _ (And.intro rfl (And.intro rfl ?_)))
  | refine Exists.intro (α := Int) _ (Exists.intro (α := Int) _ (And.intro rfl ?_))
  | refine Or.inl (Exists.intro (α := Int) _ (And.intro rfl ?_))
  | refine Exists.intro _ (Exists.intro _ (Exists.intro _ (Exists.intro _ (And.intro rfl (And.intro rfl (And.intro (by walk_at "sq") (And.intro rfl ?_)))))))
  | refine Exists.intro _ (Exists.intro _ (Exists.intro _ (Exists.intro _ (And.intro rfl (And.intro rfl (And.intro (by walk_at "hp") (And.intro rfl ?_)))))))
  | refine And.intro (by walk_at "sd") ?_
  )
local macro_rules | `(tactic| walk_at "rd") => `(tactic| repeat walk_at "rd1")
local macro_rules | `(tactic| walk_at "lk") => `(tactic| first | exact rfl | (rw [lookup_putF, if_pos rfl]) | (rw [lookup_putF, if_neg (by decide +kernel)]; walk_at "lk"))

section
variable {P : Program} {w : World} {K : PySem.W.Frag} {mg : Str → Option Value} {base : Heap} {CB CE : Addr}
/-- the two rules' results at the place k have one end -/
def okAtQ (R : List Rule) (r q : Rule) (k : Nat) : Prop := ∀ t, over r.1 q.1 k = some t → left R (res1 r t) = left R (res2 q t k)
def spLawQ (K : PySem.W.Frag) : Sp := fun vs H Q _ => ∃ (a : Addr) (xs : List V) (R : List Rule), vs = [.ref a] ∧ (SqL K H a xs ∨ SqT K H a xs) ∧ Items (RItem K) H xs R ∧ R.length ≤ 64 ∧ Wf R ∧ (∀ r ∈ R, r.1.length ≤ 4) ∧
  ∀ (u : Option (List Nat)) (H' : Hp), (u = none → Meets R) → Same H H' → Q (optS u) H'
theorem c__law_quarrel (T : Txt K mg) : Cal P w K mg base CX0 2 "_law_quarrel" (spLawQ K) := by
  have c__law_left := c__law_left (P := P) (w := w) (base := base) T
  have c__law_key := c__law_key (P := P) (w := w) (base := base) T
  refine Cal.mk0 T.d__law_quarrel sc__law_quarrel (fun vs H Q E h => ?_) (fun f cdv A outer s H vs Q E hr h => ?_)
  · obtain ⟨a, xs, R, rfl, _⟩ := h
    rfl
  · obtain ⟨a, xs, R, rfl, hS, hR, hl, hw, h4, kk⟩ := h
    rcases hS with hS | hS
    · refine ⟨_, (pss_cons (ps_set (i := 1) sc__law_quarrel.nd rfl (Or.inl rfl) pe_non)
  (pss_cons (ps_for PassesOwn.never rfl (pi_list (pv 0)) (pg_tup (by rfl) (pgs_cons (pg_name (i := 2) sc__law_quarrel.nd rfl (Or.inl rfl)) (pgs_cons (pg_name (i := 3) sc__law_quarrel.nd rfl (Or.inl rfl)) pgs_nil)))
    (pss_one (ps_for PassesOwn.never rfl (pi_list (pv 0)) (pg_tup (by rfl) (pgs_cons (pg_name (i := 4) sc__law_quarrel.nd rfl (Or.inl rfl)) (pgs_cons (pg_name (i := 5) sc__law_quarrel.nd rfl (Or.inl rfl)) pgs_nil)))
      (pss_one (ps_for PassesOwn.never rfl (pi_range1 (by rfl) T.b_range (pa_cons (pe_callB call_len_str (by rfl) T.b_len (by decide +kernel) (pa_cons (pv 2) pa_nil)) pa_nil)) (pg_name (i := 6) sc__law_quarrel.nd rfl (Or.inl rfl))
        (pss_cons (ps_set (i := 7) sc__law_quarrel.nd rfl (Or.inl rfl) (pe_callB (call_min2 rfl) (by rfl) T.b_min (by decide +kernel) (pa_cons (pe_op op_sub (pe_callB call_len_str (by rfl) T.b_len (by decide +kernel) (pa_cons (pv 2) pa_nil)) (pv 6)) (pa_cons (pe_callB call_len_str (by rfl) T.b_len (by decide +kernel) (pa_cons (pv 4) pa_nil)) pa_nil))))
        (pss_cons (ps_set (i := 8) sc__law_quarrel.nd rfl (Or.inl rfl) (pe_op op_add_str (pv 2) (pe_slice sl_str (pv 4) (po_some (pv 7)) po_none)))
        (pss_one (ps_if (PW.pt (pw_and (pt_cmpR op_eq (pe_slice sl_str (pv 2) (po_some (pv 6)) (po_some (pe_op op_add (pv 6) (pv 7)))) (pe_slice sl_str (pv 4) po_none (po_some (pv 7))) (nomark _)) (pw_and1 (PW.pt (pw_or (pt_cmpR op_isN (pv 1) pe_non (nomark _)) (pw_or1 (pt_cmpR (op_ltTM hr.units) (pe_c c__law_key hr (by decide) rfl (pa_cons (pv 8) pa_nil)) (pe_c c__law_key hr (by decide) rfl (pa_cons (pv 1) pa_nil)) (nomark _))))))))
          (pss_cons (ps_set (i := 9) sc__law_quarrel.nd rfl (Or.inl rfl) (pe_op op_add_str (pe_op op_add_str (pe_slice sl_str (pv 8) po_none (po_some (pv 6))) (pv 5)) (pe_slice sl_str (pv 8) (po_some (pe_op op_add (pv 6) (pe_callB call_len_str (by rfl) T.b_len (by decide +kernel) (pa_cons (pv 4) pa_nil)))) po_none)))
          (pss_one (ps_if (pt_cmpR op_ne (pe_c c__law_left hr (by decide) rfl (pa_cons (pv 0) (pa_cons (pe_op op_add_str (pv 3) (pe_slice sl_str (pv 8) (po_some (pe_callB call_len_str (by rfl) T.b_len (by decide +kernel) (pa_cons (pv 2) pa_nil))) po_none)) pa_nil))) (pe_c c__law_left hr (by decide) rfl (pa_cons (pv 0) (pa_cons (pv 9) pa_nil))) (nomark _))
            (pss_one (ps_set (i := 1) sc__law_quarrel.nd rfl (Or.inl rfl) (pv 8)))
            pss_nil)))
          pss_nil)))))))))
  (pss_one (ps_ret (pv 1))))), ?_⟩
      walk_at "rd"
      refine ⟨a, rfl, ⟨_, hS⟩, ?_⟩
      refine for_lstR (K := K) (a := a) (xs := xs) (l := R) (Rel := RItem K) hR.1 (fun pre σ H2 => ∃ (u : Option (List Nat)) (v2 v3 v4 v5 v6 v7 v8 v9 : Option V), σ = [some (.ref a), some (optS u), v2, v3, v4, v5, v6, v7, v8, v9] ∧ Same H H2 ∧ (∀ z, u = some z → z.length ≤ 8) ∧
          (u = none → ∀ r ∈ pre, ∀ q ∈ R, ∀ k, k < r.1.length → okAtQ R r q k))
        ⟨none, _, _, _, _, _, _, _, _, rfl, Same.refl H, fun z e => (by cases e), fun _ r hr => (by cases hr)⟩ (fun pre σ H2 ⟨_, _, _, _, _, _, _, _, _, _, s2, _⟩ => ⟨(fun {H1 H2 : Hp} (s : Same H1 H2) (h : SqL K H1 a xs) => s.seq h) (s2) hS, fun i x y h1 h2 => (hR.2 i x y h1 h2).sm s2⟩) ?_ ?_
      · rintro pre r post x σ H2 e hx ⟨q1, rfl, sq1⟩ ⟨u, v2, v3, v4, v5, v6, v7, v8, v9, rfl, s2, hu8, hun⟩
        have hrm : r ∈ R := by rw [e]; simp
        have hr4 := h4 r hrm
        have hrw := hw r hrm
        have hSr := S_len r.1
        refine ⟨q1, _, rfl, sq1, rfl, _, _, rfl, _, _, rfl, rfl, ?_⟩
        walk_at "nx"
        refine ⟨_, rfl, a, rfl, ⟨_, (fun {H1 H2 : Hp} (s : Same H1 H2) (h : SqL K H1 a xs) => s.seq h) (s2) hS⟩, ?_⟩
        refine for_lstR (K := K) (a := a) (xs := xs) (l := R) (Rel := RItem K) hR.1 (fun pre2 σ H2 => ∃ (u : Option (List Nat)) (v4 v5 v6 v7 v8 v9 : Option V), σ = [some (.ref a), some (optS u), some (.str (S r.1)), some (.str (S r.2)), v4, v5, v6, v7, v8, v9] ∧ Same H H2 ∧ (∀ z, u = some z → z.length ≤ 8) ∧
            (u = none → ∀ r ∈ pre, ∀ q ∈ R, ∀ k, k < r.1.length → okAtQ R r q k) ∧ (u = none → ∀ q ∈ pre2, ∀ k, k < r.1.length → okAtQ R r q k))
          ⟨u, _, _, _, _, _, _, rfl, s2, hu8, hun, fun _ r hr => (by cases hr)⟩ (fun pre σ H2 ⟨_, _, _, _, _, _, _, _, s2, _⟩ => ⟨(fun {H1 H2 : Hp} (s : Same H1 H2) (h : SqL K H1 a xs) => s.seq h) (s2) hS, fun i x y h1 h2 => (hR.2 i x y h1 h2).sm s2⟩) ?_ ?_
        · clear hun hu8 s2 sq1 v9 v8 v7 v6 v5 v4 v3 v2 u
          rintro pre2 q post2 x2 σ H2 e2 hx2 ⟨q2, rfl, sq2⟩ ⟨u, v4, v5, v6, v7, v8, v9, rfl, s2, hu8, hun, huq⟩
          have hqm : q ∈ R := by rw [e2]; simp
          have hq4 := h4 q hqm
          have hqw := hw q hqm
          have hSq := S_len q.1
          refine ⟨q2, _, rfl, sq2, rfl, _, _, rfl, _, _, rfl, rfl, ?_⟩
          walk_at "rd"
          refine for_range (lo := 0) (n := (((S r.1).length : Int)).toNat) (fun k σ H2 => ∃ (u : Option (List Nat)) (v6 v7 v8 v9 : Option V), σ = [some (.ref a), some (optS u), some (.str (S r.1)), some (.str (S r.2)), some (.str (S q.1)), some (.str (S q.2)), v6, v7, v8, v9] ∧ Same H H2 ∧ (∀ z, u = some z → z.length ≤ 8) ∧
              (u = none → ∀ r ∈ pre, ∀ q ∈ R, ∀ k, k < r.1.length → okAtQ R r q k) ∧ (u = none → ∀ q ∈ pre2, ∀ k, k < r.1.length → okAtQ R r q k) ∧ (u = none → ∀ k', k' < k → okAtQ R r q k'))
            ⟨u, _, _, _, _, rfl, s2, hu8, hun, huq, fun _ k h => (by omega)⟩ ?_ ?_
          · clear hun huq hu8 s2 sq2 v9 v8 v7 v6 v5 v4 u
            rintro k σ H2 hk ⟨u, v6, v7, v8, v9, rfl, s2, hu8, hun, huq, huk⟩
            rw [Int.zero_add]
            have hk2 : k < r.1.length := by omega
            walk_at "nx"
            have hmin : (if ((S q.1).length : Int) < (S r.1).length - (k : Int) then ((S q.1).length : Int) else (S r.1).length - (k : Int)) = ((min (r.1.length - k) q.1.length : Nat) : Int) := by
              split <;> omega
            refine ⟨_, rfl, _, rfl, by walk_at "sd", _, rfl, _, _, rfl, rfl, _, rfl, _, rfl, by walk_at "sd", _, _, rfl, ?_⟩
            rw [hmin]
            generalize hm : min (r.1.length - k) q.1.length = m
            walk_at "nx"
            refine ⟨_, rfl, _, rfl, _, rfl, _, rfl, _, rfl, sz_S (t := q.1) (by omega), ?_⟩
            rw [cut_from (by omega), show ((m : Nat) : Int).toNat = m by omega]
            refine ⟨_, _, rfl, rfl, by rw [S_len, S_len]; exact Nat.le_trans (m := 8) (by simp; omega) (by decide), ?_⟩
            rw [S_cat]
            walk_at "nx"
            have hov : over r.1 q.1 k = if (r.1.drop k).take m = q.1.take m then some (r.1 ++ q.1.drop m) else none := by
              unfold over
              rw [hm]
            generalize htx : r.1 ++ q.1.drop m = tx at hov
            have htl : tx.length ≤ 8 := by rw [← htx]; simp; omega
            have hml : m ≤ 4 := by omega
            refine if_KH (decide ((r.1.drop k).take m = q.1.take m) && qlt u tx) (fun H' => Same H2 H') (fun Q' hQ => ?_) (fun hb H3 s3 => ?_) (fun hb H3 s3 => ?_)
            · walk_at "rd"
              rw [cut_mid (by omega) (by omega), cut_to (by omega)]
              rw [show ((k : Nat) : Int).toNat = k by omega, show (((k : Nat) : Int) + (m : Nat)).toNat - k = m by omega, show ((m : Nat) : Int).toNat = m by omega]
              by_cases hc : (r.1.drop k).take m = q.1.take m
              · rw [show decide (V.str (S ((r.1.drop k).take m)) = V.str (S (q.1.take m))) = true from decide_eq_true (by rw [hc])]
                rw [decide_eq_true hc, Bool.true_and] at hQ
                refine iteT ?_
                cases u with
                | none =>
                  walk_at "rd"
                  exact hQ _ (Same.refl _)
                | some u =>
                  have hul := hu8 u rfl
                  walk_at "rd"
                  refine ⟨tx, rfl, by omega, fun p3 hp3 => ?_⟩
                  have s3 : Same H2 (upd H2 p3 (.tup [.int (tx.length : Nat), .str (S tx)])) := same_new hp3
                  walk_at "rd"
                  refine ⟨u, rfl, by omega, fun p4 hp4 => ?_⟩
                  have s4 := s3.trans (same_new (o := .tup [.int (u.length : Nat), .str (S u)]) hp4)
                  refine ⟨p3, p4, _, _, rfl, rfl, SqT.of (same_new hp4 _ _ upd_same), SqT.of upd_same, rfl, _, rfl, ?_⟩
                  exact q_of (hQ _ s4) (key_lt tx u)
              · rw [show decide (V.str (S ((r.1.drop k).take m)) = V.str (S (q.1.take m))) = false from decide_eq_false (fun e => hc (S_inj (V.str.inj e)))]
                rw [decide_eq_false hc, Bool.false_and] at hQ
                refine iteF ?_
                exact hQ _ (Same.refl _)
            · rw [Bool.and_eq_true, decide_eq_true_eq] at hb
              rw [if_pos hb.1] at hov
              walk_at "nx"
              have hStx := S_len tx
              refine ⟨_, rfl, _, rfl, _, rfl, _, rfl, sz_S (t := tx) (by omega), _, rfl, _, _, rfl, rfl, ?_, ?_⟩
              · rw [cut_to (by omega), S_len, S_len]
                exact Nat.le_trans (m := 100) (by simp; omega) (by decide)
              rw [cut_to (by omega), S_cat]
              refine ⟨_, rfl, _, rfl, _, rfl, _, rfl, sz_S (t := q.1) (by omega), _, _, rfl, rfl, _, rfl, _, rfl, sz_S (t := tx) (by omega), _, _, rfl, rfl, ?_, ?_⟩
              · rw [cut_from (by omega), S_len, S_len]
                exact Nat.le_trans (m := 100) (by simp; omega) (by decide)
              rw [cut_from (by omega), S_cat, hSq, show ((k : Nat) : Int).toNat = k by omega, show (((k : Nat) : Int) + (q.1.length : Nat)).toNat = k + q.1.length by omega]
              rw [show tx.take k ++ q.2 ++ tx.drop (k + q.1.length) = res2 q tx k from rfl]
              walk_at "nx"
              refine if_KH (!decide (left R (res1 r tx) = left R (res2 q tx k))) (fun H' => Same H3 H') (fun Q' hQ => ?_) (fun hb2 H5 s5 => ?_) (fun hb2 H5 s5 => ?_)
              · refine ⟨_, rfl, _, rfl, _, rfl, _, rfl, _, rfl, sz_S (t := r.1) (by omega), _, rfl, _, rfl, sz_S (t := tx) (by omega), _, _, rfl, rfl, ?_, ?_⟩
                · rw [cut_from (by omega), S_len, S_len]
                  exact Nat.le_trans (m := 100) (by simp; omega) (by decide)
                rw [cut_from (by omega), S_cat, hSr, show ((r.1.length : Nat) : Int).toNat = r.1.length by omega]
                rw [show r.2 ++ tx.drop r.1.length = res1 r tx from rfl]
                have s03 := s2.trans s3
                refine ⟨a, xs, R, res1 r tx, rfl, .inl ((fun {H1 H2 : Hp} (s : Same H1 H2) (h : SqL K H1 a xs) => s.seq h) (s03) hS), hR.mono fun x y h => h.sm s03, hl, hw, h4, by unfold res1; simp; omega, fun H6 s6 => ?_⟩
                refine ⟨_, rfl, _, rfl, a, xs, R, res2 q tx k, rfl, .inl ((fun {H1 H2 : Hp} (s : Same H1 H2) (h : SqL K H1 a xs) => s.seq h) (s03.trans s6) hS), hR.mono fun x y h => h.sm (s03.trans s6), hl, hw, h4, by unfold res2; simp; omega, fun H7 s7 => ?_⟩
                refine ⟨rfl, _, rfl, q_of (hQ _ (s6.trans s7)) ?_⟩
                by_cases ee : left R (res1 r tx) = left R (res2 q tx k)
                · rw [decide_eq_true ee, decide_eq_true (by rw [ee])]
                · rw [decide_eq_false ee, decide_eq_false (fun z => ee (S_inj (V.str.inj z)))]
              · walk_at "rd"
                refine ⟨some tx, _, _, _, _, rfl, (s2.trans s3).trans s5, fun z e => (by cases e; exact htl), fun e => (by cases e), fun e => (by cases e), fun e => (by cases e)⟩
              · have heq : left R (res1 r tx) = left R (res2 q tx k) := by simpa using hb2
                walk_at "nx"
                refine ⟨u, _, _, _, _, rfl, (s2.trans s3).trans s5, hu8, hun, huq, fun e0 k' hk' => ?_⟩
                by_cases ek : k' = k
                · subst ek
                  intro t ht
                  rw [hov] at ht
                  cases ht
                  exact heq
                · exact huk e0 k' (by omega)
            · walk_at "nx"
              refine ⟨u, _, _, _, _, rfl, s2.trans s3, hu8, hun, huq, fun e0 k' hk' => ?_⟩
              by_cases ek : k' = k
              · subst ek
                have hne : ¬ (r.1.drop k').take m = q.1.take m := by
                  intro z
                  rw [decide_eq_true z, e0] at hb
                  cases hb
                rw [if_neg hne] at hov
                intro t ht
                rw [hov] at ht
                cases ht
              · exact huk e0 k' (by omega)
          · rintro σ H3 ⟨u, v6, v7, v8, v9, rfl, s3, hu8, hun, huq, huk⟩
            walk_at "nx"
            refine ⟨u, _, _, _, _, _, _, rfl, s3, hu8, hun, fun e q' hq' => ?_⟩
            rcases List.mem_append.mp hq' with z | z
            · exact huq e q' z
            · have : q' = q := by simpa using z
              subst this
              intro k hk
              exact huk e k (by omega)
        · rintro σ H3 ⟨u, v4, v5, v6, v7, v8, v9, rfl, s3, hu8, hun, huq⟩
          walk_at "nx"
          refine ⟨u, _, _, _, _, _, _, _, _, rfl, s3, hu8, fun e0 r' hr' => ?_⟩
          rcases List.mem_append.mp hr' with z | z
          · exact hun e0 r' z
          · have : r' = r := by simpa using z
            subst this
            exact fun q hq k hk => huq e0 q hq k hk
      · rintro σ H2 ⟨u, v2, v3, v4, v5, v6, v7, v8, v9, rfl, s2, hu8, hun⟩
        walk_at "rd"
        exact kk u H2 (fun e r hr q hq k hk => hun e r hr q hq k hk) s2
    · refine ⟨_, (pss_cons (ps_set (i := 1) sc__law_quarrel.nd rfl (Or.inl rfl) pe_non)
  (pss_cons (ps_for PassesOwn.never rfl (pi_tup (pv 0)) (pg_tup (by rfl) (pgs_cons (pg_name (i := 2) sc__law_quarrel.nd rfl (Or.inl rfl)) (pgs_cons (pg_name (i := 3) sc__law_quarrel.nd rfl (Or.inl rfl)) pgs_nil)))
    (pss_one (ps_for PassesOwn.never rfl (pi_tup (pv 0)) (pg_tup (by rfl) (pgs_cons (pg_name (i := 4) sc__law_quarrel.nd rfl (Or.inl rfl)) (pgs_cons (pg_name (i := 5) sc__law_quarrel.nd rfl (Or.inl rfl)) pgs_nil)))
      (pss_one (ps_for PassesOwn.never rfl (pi_range1 (by rfl) T.b_range (pa_cons (pe_callB call_len_str (by rfl) T.b_len (by decide +kernel) (pa_cons (pv 2) pa_nil)) pa_nil)) (pg_name (i := 6) sc__law_quarrel.nd rfl (Or.inl rfl))
        (pss_cons (ps_set (i := 7) sc__law_quarrel.nd rfl (Or.inl rfl) (pe_callB (call_min2 rfl) (by rfl) T.b_min (by decide +kernel) (pa_cons (pe_op op_sub (pe_callB call_len_str (by rfl) T.b_len (by decide +kernel) (pa_cons (pv 2) pa_nil)) (pv 6)) (pa_cons (pe_callB call_len_str (by rfl) T.b_len (by decide +kernel) (pa_cons (pv 4) pa_nil)) pa_nil))))
        (pss_cons (ps_set (i := 8) sc__law_quarrel.nd rfl (Or.inl rfl) (pe_op op_add_str (pv 2) (pe_slice sl_str (pv 4) (po_some (pv 7)) po_none)))
        (pss_one (ps_if (PW.pt (pw_and (pt_cmpR op_eq (pe_slice sl_str (pv 2) (po_some (pv 6)) (po_some (pe_op op_add (pv 6) (pv 7)))) (pe_slice sl_str (pv 4) po_none (po_some (pv 7))) (nomark _)) (pw_and1 (PW.pt (pw_or (pt_cmpR op_isN (pv 1) pe_non (nomark _)) (pw_or1 (pt_cmpR (op_ltTM hr.units) (pe_c c__law_key hr (by decide) rfl (pa_cons (pv 8) pa_nil)) (pe_c c__law_key hr (by decide) rfl (pa_cons (pv 1) pa_nil)) (nomark _))))))))
          (pss_cons (ps_set (i := 9) sc__law_quarrel.nd rfl (Or.inl rfl) (pe_op op_add_str (pe_op op_add_str (pe_slice sl_str (pv 8) po_none (po_some (pv 6))) (pv 5)) (pe_slice sl_str (pv 8) (po_some (pe_op op_add (pv 6) (pe_callB call_len_str (by rfl) T.b_len (by decide +kernel) (pa_cons (pv 4) pa_nil)))) po_none)))
          (pss_one (ps_if (pt_cmpR op_ne (pe_c c__law_left hr (by decide) rfl (pa_cons (pv 0) (pa_cons (pe_op op_add_str (pv 3) (pe_slice sl_str (pv 8) (po_some (pe_callB call_len_str (by rfl) T.b_len (by decide +kernel) (pa_cons (pv 2) pa_nil))) po_none)) pa_nil))) (pe_c c__law_left hr (by decide) rfl (pa_cons (pv 0) (pa_cons (pv 9) pa_nil))) (nomark _))
            (pss_one (ps_set (i := 1) sc__law_quarrel.nd rfl (Or.inl rfl) (pv 8)))
            pss_nil)))
          pss_nil)))))))))
  (pss_one (ps_ret (pv 1))))), ?_⟩
      walk_at "rd"
      refine ⟨a, rfl, ⟨_, hS⟩, ?_⟩
      refine for_tupR (K := K) (a := a) (xs := xs) (l := R) (Rel := RItem K) hR.1 (fun pre σ H2 => ∃ (u : Option (List Nat)) (v2 v3 v4 v5 v6 v7 v8 v9 : Option V), σ = [some (.ref a), some (optS u), v2, v3, v4, v5, v6, v7, v8, v9] ∧ Same H H2 ∧ (∀ z, u = some z → z.length ≤ 8) ∧
          (u = none → ∀ r ∈ pre, ∀ q ∈ R, ∀ k, k < r.1.length → okAtQ R r q k))
        ⟨none, _, _, _, _, _, _, _, _, rfl, Same.refl H, fun z e => (by cases e), fun _ r hr => (by cases hr)⟩ (fun pre σ H2 ⟨_, _, _, _, _, _, _, _, _, _, s2, _⟩ => ⟨(fun {H1 H2 : Hp} (s : Same H1 H2) (h : SqT K H1 a xs) => (Keep.same s).seq h) (s2) hS, fun i x y h1 h2 => (hR.2 i x y h1 h2).sm s2⟩) ?_ ?_
      · rintro pre r post x σ H2 e hx ⟨q1, rfl, sq1⟩ ⟨u, v2, v3, v4, v5, v6, v7, v8, v9, rfl, s2, hu8, hun⟩
        have hrm : r ∈ R := by rw [e]; simp
        have hr4 := h4 r hrm
        have hrw := hw r hrm
        have hSr := S_len r.1
        refine ⟨q1, _, rfl, sq1, rfl, _, _, rfl, _, _, rfl, rfl, ?_⟩
        walk_at "nx"
        refine ⟨_, rfl, a, rfl, ⟨_, (fun {H1 H2 : Hp} (s : Same H1 H2) (h : SqT K H1 a xs) => (Keep.same s).seq h) (s2) hS⟩, ?_⟩
        refine for_tupR (K := K) (a := a) (xs := xs) (l := R) (Rel := RItem K) hR.1 (fun pre2 σ H2 => ∃ (u : Option (List Nat)) (v4 v5 v6 v7 v8 v9 : Option V), σ = [some (.ref a), some (optS u), some (.str (S r.1)), some (.str (S r.2)), v4, v5, v6, v7, v8, v9] ∧ Same H H2 ∧ (∀ z, u = some z → z.length ≤ 8) ∧
            (u = none → ∀ r ∈ pre, ∀ q ∈ R, ∀ k, k < r.1.length → okAtQ R r q k) ∧ (u = none → ∀ q ∈ pre2, ∀ k, k < r.1.length → okAtQ R r q k))
          ⟨u, _, _, _, _, _, _, rfl, s2, hu8, hun, fun _ r hr => (by cases hr)⟩ (fun pre σ H2 ⟨_, _, _, _, _, _, _, _, s2, _⟩ => ⟨(fun {H1 H2 : Hp} (s : Same H1 H2) (h : SqT K H1 a xs) => (Keep.same s).seq h) (s2) hS, fun i x y h1 h2 => (hR.2 i x y h1 h2).sm s2⟩) ?_ ?_
        · clear hun hu8 s2 sq1 v9 v8 v7 v6 v5 v4 v3 v2 u
          rintro pre2 q post2 x2 σ H2 e2 hx2 ⟨q2, rfl, sq2⟩ ⟨u, v4, v5, v6, v7, v8, v9, rfl, s2, hu8, hun, huq⟩
          have hqm : q ∈ R := by rw [e2]; simp
          have hq4 := h4 q hqm
          have hqw := hw q hqm
          have hSq := S_len q.1
          refine ⟨q2, _, rfl, sq2, rfl, _, _, rfl, _, _, rfl, rfl, ?_⟩
          walk_at "rd"
          refine for_range (lo := 0) (n := (((S r.1).length : Int)).toNat) (fun k σ H2 => ∃ (u : Option (List Nat)) (v6 v7 v8 v9 : Option V), σ = [some (.ref a), some (optS u), some (.str (S r.1)), some (.str (S r.2)), some (.str (S q.1)), some (.str (S q.2)), v6, v7, v8, v9] ∧ Same H H2 ∧ (∀ z, u = some z → z.length ≤ 8) ∧
              (u = none → ∀ r ∈ pre, ∀ q ∈ R, ∀ k, k < r.1.length → okAtQ R r q k) ∧ (u = none → ∀ q ∈ pre2, ∀ k, k < r.1.length → okAtQ R r q k) ∧ (u = none → ∀ k', k' < k → okAtQ R r q k'))
            ⟨u, _, _, _, _, rfl, s2, hu8, hun, huq, fun _ k h => (by omega)⟩ ?_ ?_
          · clear hun huq hu8 s2 sq2 v9 v8 v7 v6 v5 v4 u
            rintro k σ H2 hk ⟨u, v6, v7, v8, v9, rfl, s2, hu8, hun, huq, huk⟩
            rw [Int.zero_add]
            have hk2 : k < r.1.length := by omega
            walk_at "nx"
            have hmin : (if ((S q.1).length : Int) < (S r.1).length - (k : Int) then ((S q.1).length : Int) else (S r.1).length - (k : Int)) = ((min (r.1.length - k) q.1.length : Nat) : Int) := by
              split <;> omega
            refine ⟨_, rfl, _, rfl, by walk_at "sd", _, rfl, _, _, rfl, rfl, _, rfl, _, rfl, by walk_at "sd", _, _, rfl, ?_⟩
            rw [hmin]
            generalize hm : min (r.1.length - k) q.1.length = m
            walk_at "nx"
            refine ⟨_, rfl, _, rfl, _, rfl, _, rfl, _, rfl, sz_S (t := q.1) (by omega), ?_⟩
            rw [cut_from (by omega), show ((m : Nat) : Int).toNat = m by omega]
            refine ⟨_, _, rfl, rfl, by rw [S_len, S_len]; exact Nat.le_trans (m := 8) (by simp; omega) (by decide), ?_⟩
            rw [S_cat]
            walk_at "nx"
            have hov : over r.1 q.1 k = if (r.1.drop k).take m = q.1.take m then some (r.1 ++ q.1.drop m) else none := by
              unfold over
              rw [hm]
            generalize htx : r.1 ++ q.1.drop m = tx at hov
            have htl : tx.length ≤ 8 := by rw [← htx]; simp; omega
            have hml : m ≤ 4 := by omega
            refine if_KH (decide ((r.1.drop k).take m = q.1.take m) && qlt u tx) (fun H' => Same H2 H') (fun Q' hQ => ?_) (fun hb H3 s3 => ?_) (fun hb H3 s3 => ?_)
            · walk_at "rd"
              rw [cut_mid (by omega) (by omega), cut_to (by omega)]
              rw [show ((k : Nat) : Int).toNat = k by omega, show (((k : Nat) : Int) + (m : Nat)).toNat - k = m by omega, show ((m : Nat) : Int).toNat = m by omega]
              by_cases hc : (r.1.drop k).take m = q.1.take m
              · rw [show decide (V.str (S ((r.1.drop k).take m)) = V.str (S (q.1.take m))) = true from decide_eq_true (by rw [hc])]
                rw [decide_eq_true hc, Bool.true_and] at hQ
                refine iteT ?_
                cases u with
                | none =>
                  walk_at "rd"
                  exact hQ _ (Same.refl _)
                | some u =>
                  have hul := hu8 u rfl
                  walk_at "rd"
                  refine ⟨tx, rfl, by omega, fun p3 hp3 => ?_⟩
                  have s3 : Same H2 (upd H2 p3 (.tup [.int (tx.length : Nat), .str (S tx)])) := same_new hp3
                  walk_at "rd"
                  refine ⟨u, rfl, by omega, fun p4 hp4 => ?_⟩
                  have s4 := s3.trans (same_new (o := .tup [.int (u.length : Nat), .str (S u)]) hp4)
                  refine ⟨p3, p4, _, _, rfl, rfl, SqT.of (same_new hp4 _ _ upd_same), SqT.of upd_same, rfl, _, rfl, ?_⟩
                  exact q_of (hQ _ s4) (key_lt tx u)
              · rw [show decide (V.str (S ((r.1.drop k).take m)) = V.str (S (q.1.take m))) = false from decide_eq_false (fun e => hc (S_inj (V.str.inj e)))]
                rw [decide_eq_false hc, Bool.false_and] at hQ
                refine iteF ?_
                exact hQ _ (Same.refl _)
            · rw [Bool.and_eq_true, decide_eq_true_eq] at hb
              rw [if_pos hb.1] at hov
              walk_at "nx"
              have hStx := S_len tx
              refine ⟨_, rfl, _, rfl, _, rfl, _, rfl, sz_S (t := tx) (by omega), _, rfl, _, _, rfl, rfl, ?_, ?_⟩
              · rw [cut_to (by omega), S_len, S_len]
                exact Nat.le_trans (m := 100) (by simp; omega) (by decide)
              rw [cut_to (by omega), S_cat]
              refine ⟨_, rfl, _, rfl, _, rfl, _, rfl, sz_S (t := q.1) (by omega), _, _, rfl, rfl, _, rfl, _, rfl, sz_S (t := tx) (by omega), _, _, rfl, rfl, ?_, ?_⟩
              · rw [cut_from (by omega), S_len, S_len]
                exact Nat.le_trans (m := 100) (by simp; omega) (by decide)
              rw [cut_from (by omega), S_cat, hSq, show ((k : Nat) : Int).toNat = k by omega, show (((k : Nat) : Int) + (q.1.length : Nat)).toNat = k + q.1.length by omega]
              rw [show tx.take k ++ q.2 ++ tx.drop (k + q.1.length) = res2 q tx k from rfl]
              walk_at "nx"
              refine if_KH (!decide (left R (res1 r tx) = left R (res2 q tx k))) (fun H' => Same H3 H') (fun Q' hQ => ?_) (fun hb2 H5 s5 => ?_) (fun hb2 H5 s5 => ?_)
              · refine ⟨_, rfl, _, rfl, _, rfl, _, rfl, _, rfl, sz_S (t := r.1) (by omega), _, rfl, _, rfl, sz_S (t := tx) (by omega), _, _, rfl, rfl, ?_, ?_⟩
                · rw [cut_from (by omega), S_len, S_len]
                  exact Nat.le_trans (m := 100) (by simp; omega) (by decide)
                rw [cut_from (by omega), S_cat, hSr, show ((r.1.length : Nat) : Int).toNat = r.1.length by omega]
                rw [show r.2 ++ tx.drop r.1.length = res1 r tx from rfl]
                have s03 := s2.trans s3
                refine ⟨a, xs, R, res1 r tx, rfl, .inr ((fun {H1 H2 : Hp} (s : Same H1 H2) (h : SqT K H1 a xs) => (Keep.same s).seq h) (s03) hS), hR.mono fun x y h => h.sm s03, hl, hw, h4, by unfold res1; simp; omega, fun H6 s6 => ?_⟩
                refine ⟨_, rfl, _, rfl, a, xs, R, res2 q tx k, rfl, .inr ((fun {H1 H2 : Hp} (s : Same H1 H2) (h : SqT K H1 a xs) => (Keep.same s).seq h) (s03.trans s6) hS), hR.mono fun x y h => h.sm (s03.trans s6), hl, hw, h4, by unfold res2; simp; omega, fun H7 s7 => ?_⟩
                refine ⟨rfl, _, rfl, q_of (hQ _ (s6.trans s7)) ?_⟩
                by_cases ee : left R (res1 r tx) = left R (res2 q tx k)
                · rw [decide_eq_true ee, decide_eq_true (by rw [ee])]
                · rw [decide_eq_false ee, decide_eq_false (fun z => ee (S_inj (V.str.inj z)))]
              · walk_at "rd"
                refine ⟨some tx, _, _, _, _, rfl, (s2.trans s3).trans s5, fun z e => (by cases e; exact htl), fun e => (by cases e), fun e => (by cases e), fun e => (by cases e)⟩
              · have heq : left R (res1 r tx) = left R (res2 q tx k) := by simpa using hb2
                walk_at "nx"
                refine ⟨u, _, _, _, _, rfl, (s2.trans s3).trans s5, hu8, hun, huq, fun e0 k' hk' => ?_⟩
                by_cases ek : k' = k
                · subst ek
                  intro t ht
                  rw [hov] at ht
                  cases ht
                  exact heq
                · exact huk e0 k' (by omega)
            · walk_at "nx"
              refine ⟨u, _, _, _, _, rfl, s2.trans s3, hu8, hun, huq, fun e0 k' hk' => ?_⟩
              by_cases ek : k' = k
              · subst ek
                have hne : ¬ (r.1.drop k').take m = q.1.take m := by
                  intro z
                  rw [decide_eq_true z, e0] at hb
                  cases hb
                rw [if_neg hne] at hov
                intro t ht
                rw [hov] at ht
                cases ht
              · exact huk e0 k' (by omega)
          · rintro σ H3 ⟨u, v6, v7, v8, v9, rfl, s3, hu8, hun, huq, huk⟩
            walk_at "nx"
            refine ⟨u, _, _, _, _, _, _, rfl, s3, hu8, hun, fun e q' hq' => ?_⟩
            rcases List.mem_append.mp hq' with z | z
            · exact huq e q' z
            · have : q' = q := by simpa using z
              subst this
              intro k hk
              exact huk e k (by omega)
        · rintro σ H3 ⟨u, v4, v5, v6, v7, v8, v9, rfl, s3, hu8, hun, huq⟩
          walk_at "nx"
          refine ⟨u, _, _, _, _, _, _, _, _, rfl, s3, hu8, fun e0 r' hr' => ?_⟩
          rcases List.mem_append.mp hr' with z | z
          · exact hun e0 r' z
          · have : r' = r := by simpa using z
            subst this
            exact fun q hq k hk => huq e0 q hq k hk
      · rintro σ H2 ⟨u, v2, v3, v4, v5, v6, v7, v8, v9, rfl, s2, hu8, hun⟩
        walk_at "rd"
        exact kk u H2 (fun e r hr q hq k hk => hun e r hr q hq k hk) s2
end
end Sh
set_option Elab.async false
set_option linter.all false
set_option maxRecDepth 100000
set_option maxHeartbeats 4000000
namespace Sh
open PySem PySem.Spec PyProof.Rows L2
open SX (S S_inj S_len S_cat)
open Bk (Rule firstAt lg bestUp used left drain pushS Wf quarrel fits useR over res1 res2 Meets keyLt ovs okOv)
instance (sg : List Nat) (m : Nat) (r : List Nat × List Nat) : Decidable (RuleOk sg m r) := by unfold RuleOk; infer_instance
instance (sg : List Nat) (R : List Rule) : Decidable (BookOk sg R) := by unfold BookOk; infer_instance
/-- a book as the law draws it -/
def Good (sg : List Nat) (R : List Rule) : Prop := BookOk sg R ∧ quarrel R = none ∧ R.length ≤ 60
instance (sg : List Nat) (R : List Rule) : Decidable (Good sg R) := by unfold Good; infer_instance
theorem quarrel_of_meets {R : List Rule} (h : Meets R) : quarrel R = none := by
  rw [Bk.quarrel_none]
  intro o ho
  obtain ⟨i, r, j, q, k, t, hr, hq, hk, c, hov, rfl⟩ := Bk.mem_ovs.mp ho
  unfold okOv
  simp only [hr, hq, decide_eq_true_eq]
  exact h r (List.mem_of_getElem? hr) q (List.mem_of_getElem? hq) k hk t hov
/-! ### the tables -/
def tblAt (kd n i j : Nat) : Int := ([(i : Int), (j : Int), if (j : Int) > i then (j : Int) else i, 0, if (j : Int) < i then (j : Int) else i, (n : Int) - 1, ((i : Int) + j + 2) % ((n : Int) + 1) - 1, ((i : Int) + j + 2) % ((n : Int) + 1) - 1] : List Int).getD kd 0
def tblRow (kd : Nat) (sg : List Nat) (i j : Nat) : Rule := ([sg.getD i 0, sg.getD j 0], if tblAt kd sg.length i j < 0 then [] else [sg.getD (tblAt kd sg.length i j).toNat 0])
def tblJ (kd : Nat) (sg : List Nat) (i m : Nat) : List Rule := (List.range m).map (tblRow kd sg i)
def tblI (kd : Nat) (sg : List Nat) (m : Nat) : List Rule := (List.range m).flatMap fun i => tblJ kd sg i sg.length
def tbl (kd : Nat) (sg : List Nat) : List Rule := tblI kd sg sg.length
theorem tbl_good : ∀ sg ∈ sgMenu, ∀ kd ∈ List.range 8, Good sg (tbl kd sg) := by decide +kernel
theorem tbl_at : ∀ sg ∈ sgMenu, ∀ kd ∈ List.range 8, ∀ i ∈ List.range sg.length, ∀ j ∈ List.range sg.length, tblAt kd sg.length i j < sg.length := by decide +kernel
/-! ### the pair of inverses, the known ones -/
def pairB (sg : List Nat) : List Rule := [([sg.getD 0 0, sg.getD 1 0], []), ([sg.getD 1 0, sg.getD 0 0], [])]
theorem pair_good : ∀ sg ∈ sgMenu, 1 < sg.length → ∀ n ∈ [1, 2], Good sg ((pairB sg).take n) := by decide +kernel
def known (a b : Nat) : List (List Rule) := [[([a, a, a], [a])], [([a, a], [])], [([a, a, a], [])], [([a, a], [a])], [([a, b, a], [a])], [([b, a], [a])], [([a, b], [a]), ([b, b], [b])], [([a, b, b], [a])], [([a, b], []), ([b, a], []), ([a, a], [b]), ([b, b], [a])],
  [([a, b], [a]), ([a, a], [a])], [([a, b, a, b], [])], [([a, b], [b]), ([a, a], [a])]]
theorem known_first : ∀ sg ∈ sgMenu, ∀ R ∈ (known (sg.getD 0 0) (sg.getD (sg.length - 1) 0)).take 4, Good sg R := by decide +kernel
theorem known_ok : ∀ sg ∈ sgMenu, ¬ sg.getD 0 0 = sg.getD (sg.length - 1) 0 → ∀ R ∈ known (sg.getD 0 0) (sg.getD (sg.length - 1) 0), BookOk sg R := by decide +kernel
theorem known_wf : ∀ sg ∈ sgMenu, ∀ R ∈ known (sg.getD 0 0) (sg.getD (sg.length - 1) 0), R.length ≤ 60 ∧ (∀ r ∈ R, r.2.length < r.1.length ∧ r.2.length ≤ 1) ∧ ∀ r ∈ R, r.1.length ≤ 4 := by decide +kernel
end Sh
set_option Elab.async false
set_option linter.all false
set_option maxRecDepth 100000
set_option maxHeartbeats 4000000
namespace Sh
open PySem PySem.Spec PyProof.Rows L2
open SX (S S_inj S_len S_cat)
open Bk (Rule firstAt lg bestUp used left drain pushS Wf quarrel Meets)
local macro_rules | `(tactic| walk_at "nx") => `(tactic| repeat (with_reducible first | refine Sh.gn_mk ?_ | refine Sh.nx_mk ?_ | refine Sh.st_nx ?_ | refine Sh.rt_mk ?_ | refine Sh.ct_mk ?_ | refine Sh.bk_mk ?_))
local macro_rules | `(tactic| walk_at "sq") => `(tactic| first | exact SqL.of upd_same | exact SqT.of upd_same | exact SqL.of (by assumption) | exact SqT.of (by assumption) | assumption | exact Or.inl (SqL.of (by assumption)) | exact Or.inr (SqT.of (by assumption)) | exact Or.inl (by assumption) | exact Or.inr (by assumption))
local macro_rules | `(tactic| walk_at "hp") => `(tactic| first | exact upd_same | assumption)
local macro_rules | `(tactic| walk_at "sz") => `(tactic| first | exact Nat.le_of_ble_eq_true rfl | omega)
local macro_rules | `(tactic| walk_at "sd") => `(tactic| first | omega | exact rfl | assumption | (show (0 : Int) < _; omega) | exact And.intro (by omega) (by omega) | exact Or.inl (And.intro (by omega) (by omega)) | exact Or.inr (And.intro (by omega) (by omega)) | omega | exact Sh.sz_S (by omega) | decide)
local macro_rules | `(tactic| walk_at "rd1") => `(tactic| first
  | (with_reducible first | refine Sh.gn_mk ?_ | refine Sh.nx_mk ?_ | refine Sh.st_nx ?_ | refine Sh.rt_mk ?_ | refine Sh.ct_mk ?_ | refine Sh.bk_mk ?_)
  | refine Exists.intro (α := V) _ (And.intro rfl ?_)
  | refine Exists.intro (α := Bool) _ (And.intro rfl ?_)
  | refine Exists.intro (α := Int) _ (And.intro rfl ?_)
  | refine Exists.intro (α := PySem.Str) _ (And.intro rfl ?_)
  | refine Exists.intro (α := Int) _ (Exists.intro (α := Int) _ (And.intro rfl (And.intro rfl ?_)))
  | refine Exists.intro (α := PySem.Str) _ (Exists.intro (α := PySem.Str) _ (And.intro rfl (And.intro rfl ?_)))
  | refine Exists.intro (α := Int) _ (Exists.intro (α := Int) _ (And.intro rfl ?_))
  | refine Or.inl (Exists.intro (α := Int) _ (And.intro rfl ?_))
  | refine Exists.intro _ (Exists.intro _ (Exists.intro _ (Exists.intro _ (And.intro rfl (And.intro rfl (And.intro (by walk_at "sq") (And.intro rfl ?_)))))))
  | refine Exists.intro _ (Exists.intro _ (Exists.intro _ (Exists.intro _ (And.intro rfl (And.intro rfl (And.intro (by walk_at "hp") (And.intro rfl ?_)))))))
  | refine And.intro (by walk_at "sd") ?_
  )
local macro_rules | `(tactic| walk_at "rd") => `(tactic| repeat walk_at "rd1")
local macro_rules | `(tactic| walk_at "lk") => `(tactic| first | exact rfl | (rw [lookup_putF, if_pos rfl]) | (rw [lookup_putF, if_neg (by decide +kernel)]; walk_at "lk"))

section
variable {P : Program} {w : World} {K : PySem.W.Frag} {mg : Str → Option Value} {base : Heap} {CB CE : Addr}
theorem RuleOk.le {sg : List Nat} {m n : Nat} {r : List Nat × List Nat} (h : RuleOk sg m r) (l : m ≤ n) : RuleOk sg n r := ⟨h.1, Nat.le_trans h.2.1 l, h.2.2⟩
def spGood (K : PySem.W.Frag) (a : Addr) (sg : List Nat) (H : Hp) (Q : VK) : Prop := ∀ (p : Addr) (xs : List V) (R : List Rule) (H' : Hp), RulesAt K H' p xs R → Good sg R → Src H' a → But a H H' → Q (.ref p) H'
structure GInv (K : PySem.W.Frag) (sg : List Nat) (a : Addr) (H : Hp) (pr : Addr) (ys : List V) (R : List Rule) (i : Nat) : Prop where
  lst : H pr = some (.lst ys)
  na : pr ≠ a
  it : Items (RItem K) H ys R
  len : R.length ≤ i
  ok : ∀ r ∈ R, RuleOk sg 4 r
  nd : R.Nodup
  meets : Meets R
theorem if_JB {c : TT} {t u : TS} {D : Ends} {σ : L2.St} {H : Hp} (P : Bool → Hp → Prop) (h : ∀ Q : Bool → Hp → Prop, (∀ b H', P b H' → Q b H') → c σ H Q) (k1 : ∀ H', P true H' → t D σ H') (k2 : ∀ H', P false H' → u D σ H') : tIfS c t u D σ H := by
  refine h _ fun b H' p => ?_
  cases b with
  | true => exact iteT (k1 H' p)
  | false => exact iteF (k2 H' p)
def spGrown (K : PySem.W.Frag) : Sp := fun vs H Q _ => ∃ (a : Addr) (sg : List Nat) (most lng : Int), vs = [.ref a, .str (S sg), .int most, .int lng] ∧ Src H a ∧ isSigns sg = true ∧ 0 ≤ most ∧ most ≤ 60 ∧ 1 ≤ lng ∧ lng ≤ 4 ∧ spGood K a sg H Q
theorem c__law_grown (T : Txt K mg) : Cal P w K mg base CX0 3 "_law_grown" (spGrown K) := by
  have c__law_pick := c__law_pick (P := P) (w := w) (base := base) T
  have c__law_rule := c__law_rule (P := P) (w := w) (base := base) T
  have c__law_quarrel := c__law_quarrel (P := P) (w := w) (base := base) T
  refine Cal.mk0 T.d__law_grown sc__law_grown (fun vs H Q E h => ?_) (fun f cdv A outer s H vs Q E hr h => ?_)
  · obtain ⟨a, sg, most, lng, rfl, _⟩ := h
    rfl
  · obtain ⟨a, sg, most, lng, rfl, hS, hsg, hm0, hm1, hl0, hl1, k⟩ := h
    have hu65 := hu65_of hr
    have hsl := signs_len hsg
    refine ⟨_, (pss_cons (ps_set (i := 4) sc__law_grown.nd rfl (Or.inl rfl) (pe_lst pa_nil))
  (pss_cons (ps_for PassesOwn.never rfl (pi_range1 (by rfl) T.b_range (pa_cons (pe_c c__law_pick hr (by decide) rfl (pa_cons (pv 0) (pa_cons (pe_op op_add (pv 2) pe_int) pa_nil))) pa_nil)) (pg_name (i := 5) sc__law_grown.nd rfl (Or.inl rfl))
    (pss_one (ps_for PassesOwn.never rfl (pi_range1 (by rfl) T.b_range (pa_cons pe_int pa_nil)) (pg_name (i := 6) sc__law_grown.nd rfl (Or.inl rfl))
      (pss_cons (ps_set (i := 7) sc__law_grown.nd rfl (Or.inl rfl) (pe_c c__law_rule hr (by decide) rfl (pa_cons (pv 0) (pa_cons (pv 1) (pa_cons (pv 3) pa_nil)))))
      (pss_one (ps_if (PW.pt (pw_and (pt_cmpR (op_notInD hu65) (pv 7) (pv 4) (by rfl)) (pw_and1 (pt_cmpR op_isN (pe_c c__law_quarrel hr (by decide) rfl (pa_cons (pe_op op_cat (pv 4) (pe_lst (pa_cons (pv 7) pa_nil))) pa_nil)) pe_non (nomark _)))))
        (pss_cons (ps_set (i := 4) sc__law_grown.nd rfl (Or.inl rfl) (pe_op op_cat (pv 4) (pe_lst (pa_cons (pv 7) pa_nil))))
        (pss_one ps_break))
        pss_nil))))))
  (pss_one (ps_ret (pe_callTy call_tuple_of (by rfl) T.b_tuple (by decide +kernel) (pa_cons (pv 4) pa_nil)))))), ?_⟩
    walk_at "rd"
    intro p0 hp0
    have b0 : But a H (upd H p0 (.lst [])) := But.same (same_new hp0)
    have hna : p0 ≠ a := by
      obtain ⟨d, e, c, z⟩ := hS
      exact (ne_of_none z hp0).symm
    have hS0 : Src (upd H p0 (.lst [])) a := by
      obtain ⟨d, e, c, z⟩ := hS
      exact ⟨d, e, c, by rw [upd_ne hna.symm]; exact z⟩
    walk_at "rd"
    refine ⟨a, _, rfl, hS0, by omega, by omega, fun n H1 hn0 hn1 hS1 b1 => ?_⟩
    walk_at "rd"
    have hp1 : H1 p0 = some (.lst []) := b1 _ _ hna upd_same
    have cap : ∀ r : Rule, RuleOk sg 4 r → Chars r.1 ∧ Chars r.2 := fun r h => ⟨fun c hc => signs_chars hsg c (h.2.2.1 c hc), fun c hc => signs_chars hsg c (h.2.2.2.1 c hc)⟩
    refine for_range (lo := 0) (n := n.toNat) (fun i σ H2 => ∃ (pr : Addr) (ys : List V) (R : List Rule) (v5 v6 v7 : Option V), σ = [some (.ref a), some (.str (S sg)), some (.int most), some (.int lng), some (.ref pr), v5, v6, v7] ∧ Src H2 a ∧ But a H H2 ∧ GInv K sg a H2 pr ys R i)
      ⟨p0, [], [], _, _, _, rfl, hS1, b0.trans b1, ⟨hp1, hna, Items.nil, Nat.le_refl _, fun r h => (by cases h), List.nodup_nil, fun r h => (by cases h)⟩⟩ ?_ ?_
    · rintro i σ H2 hi ⟨pr, ys, R, v5, v6, v7, rfl, hS2, b2, G⟩
      rw [Int.zero_add]
      walk_at "rd"
      refine for_range (lo := 0) (n := _) (fun j σ H2 => ∃ (pr : Addr) (ys : List V) (R : List Rule) (v6 v7 : Option V), σ = [some (.ref a), some (.str (S sg)), some (.int most), some (.int lng), some (.ref pr), some (.int (i : Nat)), v6, v7] ∧ Src H2 a ∧ But a H H2 ∧ GInv K sg a H2 pr ys R i)
        ⟨pr, ys, R, _, _, rfl, hS2, b2, G⟩ ?_ ?_
      · clear G b2 hS2 v5 v6 v7 R ys pr
        rintro j σ H2 hj ⟨pr, ys, R, v6, v7, rfl, hS2, b2, G⟩
        walk_at "rd"
        refine ⟨a, sg, lng, rfl, hS2, by omega, by omega, by omega, by omega, fun r q H3 hrk hS3 b3 hq2 hq3 => ?_⟩
        have hr4 : RuleOk sg 4 r := hrk.le (by omega)
        have k3 := Keep.but b3 hS2
        have hb3 := b2.trans b3
        have hpr3 := b3 _ _ G.na G.lst
        have it3 := G.it.mono fun x y h => h.same k3
        have hci := cap r hr4
        have hct : RChars R := fun x m => cap x (G.ok x m)
        have hRl : R.length ≤ 60 := by have := G.len; omega
        have hyl : ys.length ≤ 60 := by have := it3.1; omega
        have iq : RItem K H3 (.ref q) r := ⟨q, rfl, SqT.of hq3⟩
        walk_at "nx"
        refine if_JB (fun b H' => Same H3 H' ∧ (b = true → r ∉ R ∧ Meets (R ++ [r]))) (fun Q' hQ => ?_) (fun H4 ⟨s4, hb4⟩ => ?_) (fun H4 ⟨s4, hb4⟩ => ?_)
        · refine ⟨_, rfl, _, rfl, rD r, R.map rD, RItem.dp iq, .lst (SqL.of hpr3) (dpAll_rules it3), shaped_rule hci, shaped_rules hct, _, rfl, ?_⟩
          rw [any_rules]
          by_cases hin : r ∈ R
          · rw [decide_eq_true hin]
            refine iteF ?_
            exact hQ _ _ ⟨Same.refl _, fun e => (by cases e)⟩
          · rw [decide_eq_false hin]
            refine iteT ?_
            walk_at "rd"
            refine ⟨by walk_at "sz", fun pb hpb => ?_⟩
            have s4 := same_new (o := .lst [.ref q]) hpb
            refine ⟨pr, pb, ys, [.ref q], rfl, rfl, s4 _ _ hpr3, upd_same, Nat.le_trans (m := 61) (by simp; omega) (by decide), fun pc hpc => ?_⟩
            have s5 := s4.trans (same_new (o := .lst (ys ++ [.ref q])) hpc)
            have it5 := it3.snoc (H' := upd (upd H3 pb (.lst [.ref q])) pc (.lst (ys ++ [.ref q]))) (fun x y h => h.sm s5) (iq.sm s5)
            have okR : ∀ x ∈ R ++ [r], RuleOk sg 4 x := by
              intro x hx
              rcases List.mem_append.mp hx with z | z
              · exact G.ok x z
              · have : x = r := by simpa using z
                exact this ▸ hr4
            refine ⟨pc, ys ++ [.ref q], R ++ [r], rfl, .inl (SqL.of upd_same), it5, by simp; omega, fun x hx => ⟨(okR x hx).2.2.2.2.2, (okR x hx).2.2.2.2.1⟩, fun x hx => (okR x hx).2.1, fun u H6 hu6 s6 => ?_⟩
            cases u with
            | none =>
              walk_at "rd"
              exact hQ _ _ ⟨s5.trans s6, fun _ => ⟨hin, hu6 rfl⟩⟩
            | some u =>
              walk_at "rd"
              exact hQ _ _ ⟨s5.trans s6, fun e => (by cases e)⟩
        · obtain ⟨hin, hM⟩ := hb4 rfl
          walk_at "rd"
          refine ⟨by walk_at "sz", fun pb hpb => ?_⟩
          have s5 := s4.trans (same_new (o := .lst [.ref q]) hpb)
          refine ⟨pr, pb, ys, [.ref q], rfl, rfl, s5 _ _ hpr3, upd_same, Nat.le_trans (m := 61) (by simp; omega) (by decide), fun pc hpc => ?_⟩
          have s6 := s5.trans (same_new (o := .lst (ys ++ [.ref q])) hpc)
          have it6 := it3.snoc (H' := upd (upd H4 pb (.lst [.ref q])) pc (.lst (ys ++ [.ref q]))) (fun x y h => h.sm s6) (iq.sm s6)
          obtain ⟨d9, e9, c9, z9⟩ := hS3
          have hca : pc ≠ a := (ne_of_none (s5 _ _ z9) hpc).symm
          walk_at "nx"
          refine ⟨pc, ys ++ [.ref q], R ++ [r], _, _, _, rfl, ⟨d9, e9, c9, s6 _ _ z9⟩, hb3.trans (But.same s6), ⟨upd_same, hca, it6, by have := G.len; simp; omega, ?_, ?_, hM⟩⟩
          · intro x hx
            rcases List.mem_append.mp hx with z | z
            · exact G.ok x z
            · have : x = r := by simpa using z
              exact this ▸ hr4
          · rw [List.nodup_append]
            refine ⟨G.nd, by simp, fun x hx y hy => ?_⟩
            have : y = r := by simpa using hy
            subst this
            intro e
            exact hin (e ▸ hx)
        · walk_at "nx"
          obtain ⟨d9, e9, c9, z9⟩ := hS3
          exact ⟨pr, ys, R, _, _, rfl, ⟨d9, e9, c9, s4 _ _ z9⟩, hb3.trans (But.same s4), ⟨s4 _ _ hpr3, G.na, it3.mono fun x y h => h.sm s4, G.len, G.ok, G.nd, G.meets⟩⟩
      · rintro σ H3 ⟨pr, ys, R, v6, v7, rfl, hS3, b3, G⟩
        walk_at "nx"
        exact ⟨pr, ys, R, _, _, _, rfl, hS3, b3, ⟨G.lst, G.na, G.it, Nat.le_succ_of_le G.len, G.ok, G.nd, G.meets⟩⟩
    · rintro σ H2 ⟨pr, ys, R, v5, v6, v7, rfl, hS2, b2, G⟩
      walk_at "rd"
      refine ⟨pr, _, rfl, .inl ⟨SqL.of G.lst, fun l hl => ?_⟩⟩
      have s3 := same_new (o := .tup ys) hl
      obtain ⟨d9, e9, c9, z9⟩ := hS2
      refine k l ys R _ ⟨SqT.of upd_same, G.it.1, fun i x r h1 h2 => (G.it.2 i x r h1 h2).sm s3⟩ ⟨⟨hsg, by have := G.len; omega, G.ok, G.nd⟩, quarrel_of_meets G.meets, by have := G.len; omega⟩ ⟨d9, e9, c9, s3 _ _ z9⟩ (b2.trans (But.same s3))
end
end Sh
set_option Elab.async false
set_option linter.all false
set_option maxRecDepth 100000
set_option maxHeartbeats 4000000
namespace Sh
open PySem PySem.Spec PyProof.Rows L2
open SX (S S_inj S_len S_cat)
open Bk (Rule firstAt lg bestUp used left drain pushS Wf quarrel Meets)
local macro_rules | `(tactic| walk_at "nx") => `(tactic| repeat (with_reducible first | refine Sh.gn_mk ?_ | refine Sh.nx_mk ?_ | refine Sh.st_nx ?_ | refine Sh.rt_mk ?_ | refine Sh.ct_mk ?_ | refine Sh.bk_mk ?_))
local macro_rules | `(tactic| walk_at "sq") => `(tactic| first | exact SqL.of upd_same | exact SqT.of upd_same | exact SqL.of (by assumption) | exact SqT.of (by assumption) | assumption | exact Or.inl (SqL.of (by assumption)) | exact Or.inr (SqT.of (by assumption)) | exact Or.inl (by assumption) | exact Or.inr (by assumption))
local macro_rules | `(tactic| walk_at "hp") => `(tactic| first | exact upd_same | assumption)
local macro_rules | `(tactic| walk_at "sz") => `(tactic| first | exact Nat.le_of_ble_eq_true rfl | omega)
local macro_rules | `(tactic| walk_at "sd") => `(tactic| first | omega | exact rfl | assumption | (show (0 : Int) < _; omega) | exact And.intro (by omega) (by omega) | exact Or.inl (And.intro (by omega) (by omega)) | exact Or.inr (And.intro (by omega) (by omega)) | omega | exact Sh.sz_S (by omega) | decide)
local macro_rules | `(tactic| walk_at "rd1") => `(tactic| first
  | (with_reducible first | refine Sh.gn_mk ?_ | refine Sh.nx_mk ?_ | refine Sh.st_nx ?_ | refine Sh.rt_mk ?_ | refine Sh.ct_mk ?_ | refine Sh.bk_mk ?_)
  | refine Exists.intro (α := V) _ (And.intro rfl ?_)
  | refine Exists.intro (α := Bool) _ (And.intro rfl ?_)
  | refine Exists.intro (α := Int) _ (And.intro rfl ?_)
  | refine Exists.intro (α := PySem.Str) _ (And.intro rfl ?_)
  | refine Exists.intro (α := Int) _ (Exists.intro (α := Int) _ (And.intro rfl (And.intro rfl ?_)))
  | refine Exists.intro (α := PySem.Str) _ (Exists.intro (α := PySem.Str) _ (And.intro rfl (And.intro rfl ?_)))
  | refine Exists.intro (α := Int) _ (Exists.intro (α := Int) _ (And.intro rfl ?_))
  | refine Or.inl (Exists.intro (α := Int) _ (And.intro rfl ?_))
  | refine Exists.intro _ (Exists.intro _ (Exists.intro _ (Exists.intro _ (And.intro rfl (And.intro rfl (And.intro (by walk_at "sq") (And.intro rfl ?_)))))))
  | refine Exists.intro _ (Exists.intro _ (Exists.intro _ (Exists.intro _ (And.intro rfl (And.intro rfl (And.intro (by walk_at "hp") (And.intro rfl ?_)))))))
  | refine And.intro (by walk_at "sd") ?_
  )
local macro_rules | `(tactic| walk_at "rd") => `(tactic| repeat walk_at "rd1")
local macro_rules | `(tactic| walk_at "lk") => `(tactic| first | exact rfl | (rw [lookup_putF, if_pos rfl]) | (rw [lookup_putF, if_neg (by decide +kernel)]; walk_at "lk"))

section
variable {P : Program} {w : World} {K : PySem.W.Frag} {mg : Str → Option Value} {base : Heap} {CB CE : Addr}
theorem tblJ_succ (kd : Nat) (sg : List Nat) (i m : Nat) : tblJ kd sg i (m + 1) = tblJ kd sg i m ++ [tblRow kd sg i m] := by
  unfold tblJ
  rw [List.range_succ, List.map_append]; rfl
theorem tblI_succ (kd : Nat) (sg : List Nat) (m : Nat) : tblI kd sg (m + 1) = tblI kd sg m ++ tblJ kd sg m sg.length := by
  unfold tblI
  rw [List.range_succ, List.flatMap_append]
  simp
theorem Src.sm {H H' : Hp} {a : Addr} (h : Src H a) (s : Same H H') : Src H' a := let ⟨d, e, c, z⟩ := h; ⟨d, e, c, s _ _ z⟩
theorem Src.ne {H : Hp} {a p : Addr} (h : Src H a) (n : H p = none) : p ≠ a := let ⟨_, _, _, z⟩ := h; (ne_of_none z n).symm
theorem tblJ_len (kd : Nat) (sg : List Nat) (i m : Nat) : (tblJ kd sg i m).length = m := by unfold tblJ; simp
theorem tblI_len (kd : Nat) (sg : List Nat) (m : Nat) : (tblI kd sg m).length = m * sg.length := by
  induction m with
  | zero => simp [tblI]
  | succ m ih => rw [tblI_succ, List.length_append, ih, tblJ_len, Nat.succ_mul]
def spTable (K : PySem.W.Frag) : Sp := fun vs H Q _ => ∃ (a : Addr) (sg : List Nat), vs = [.ref a, .str (S sg)] ∧ Src H a ∧ sg ∈ sgMenu ∧ spGood K a sg H Q
theorem c__law_table_rules (T : Txt K mg) : Cal P w K mg base CX0 2 "_law_table_rules" (spTable K) := by
  have c__law_pick := c__law_pick (P := P) (w := w) (base := base) T
  refine Cal.mk0 T.d__law_table_rules sc__law_table_rules (fun vs H Q E h => ?_) (fun f cdv A outer s H vs Q E hr h => ?_)
  · obtain ⟨a, sg, rfl, _⟩ := h
    rfl
  · obtain ⟨a, sg, rfl, hS, hsg, k⟩ := h
    have hsl := menu_len sg hsg
    have hSl := S_len sg
    refine ⟨_, (pss_cons (ps_set (i := 2) sc__law_table_rules.nd rfl (Or.inl rfl) (pe_c c__law_pick hr (by decide) rfl (pa_cons (pv 0) (pa_cons pe_int pa_nil))))
  (pss_cons (ps_set (i := 3) sc__law_table_rules.nd rfl (Or.inl rfl) (pe_callB call_len_str (by rfl) T.b_len (by decide +kernel) (pa_cons (pv 1) pa_nil)))
  (pss_cons (ps_set (i := 4) sc__law_table_rules.nd rfl (Or.inl rfl) (pe_lst pa_nil))
  (pss_cons (ps_for PassesOwn.never rfl (pi_range1 (by rfl) T.b_range (pa_cons (pv 3) pa_nil)) (pg_name (i := 5) sc__law_table_rules.nd rfl (Or.inl rfl))
    (pss_one (ps_for PassesOwn.never rfl (pi_range1 (by rfl) T.b_range (pa_cons (pv 3) pa_nil)) (pg_name (i := 6) sc__law_table_rules.nd rfl (Or.inl rfl))
      (pss_cons (ps_set (i := 7) sc__law_table_rules.nd rfl (Or.inl rfl) (pe_op op_sub (pe_op op_mod (pe_callTy call_int1 (by rfl) T.b_int (by decide +kernel) (pa_cons (pe_op op_add (pe_op op_add (pv 5) (pv 6)) pe_int) pa_nil)) (pe_op op_add (pv 3) pe_int)) pe_int))
      (pss_cons (ps_set (i := 8) sc__law_table_rules.nd rfl (Or.inl rfl) (pe_ix ix_list (pe_lst (pa_cons (pv 5) (pa_cons (pv 6) (pa_cons (pe_callB (call_max2 rfl) (by rfl) T.b_max (by decide +kernel) (pa_cons (pv 5) (pa_cons (pv 6) pa_nil))) (pa_cons pe_int (pa_cons (pe_callB (call_min2 rfl) (by rfl) T.b_min (by decide +kernel) (pa_cons (pv 5) (pa_cons (pv 6) pa_nil))) (pa_cons (pe_op op_sub (pv 3) pe_int) (pa_cons (pv 7) (pa_cons (pv 7) pa_nil))))))))) (pv 2) (fun _ _ => rfl)))
      (pss_one (ps_expr (pe_bm PySem.F.plainAttrs_list PySem.F.slot_list_append PySem.F.type_list_append mt_append (pv 4) (pa_cons (pe_tup (pa_cons (pe_op op_add_str (pe_ix ix_str (pv 1) (pv 5) (fun _ _ => rfl)) (pe_ix ix_str (pv 1) (pv 6) (fun _ _ => rfl))) (pa_cons (pe_ifExp (pt_cmpR op_lt (pv 8) pe_int (nomark _)) pe_str (pe_ix ix_str (pv 1) (pv 8) (fun _ _ => rfl))) pa_nil))) pa_nil)))))))))
  (pss_one (ps_ret (pe_callTy call_tuple_of (by rfl) T.b_tuple (by decide +kernel) (pa_cons (pv 4) pa_nil)))))))), ?_⟩
    walk_at "rd"
    refine ⟨a, _, rfl, hS, by omega, by omega, fun kd' H1 hk0 hk1 hS1 b1 => ?_⟩
    obtain ⟨kd, rfl⟩ : ∃ kd : Nat, kd' = kd := ⟨kd'.toNat, by omega⟩
    have hkd : kd ∈ List.range 8 := List.mem_range.mpr (by omega)
    have hgood := tbl_good sg hsg kd hkd
    have hat := tbl_at sg hsg kd hkd
    walk_at "rd"
    intro pr hpr
    have hS2 := Src.sm hS1 (same_new (o := .lst []) hpr)
    have hna := Src.ne hS1 hpr
    have b2 := b1.trans (But.same (same_new (o := .lst []) hpr))
    walk_at "rd"
    have hRl : sg.length ≤ 3 := hsl.2
    have hprH : H pr = none := But.none_of b1 hna hpr
    refine for_range (lo := 0) (n := (((S sg).length : Int)).toNat) (fun i σ H2 => ∃ (ys : List V) (v5 v6 v7 v8 : Option V), σ = [some (.ref a), some (.str (S sg)), some (.int (kd : Nat)), some (.int ((S sg).length : Nat)), some (.ref pr), v5, v6, v7, v8] ∧ Src H2 a ∧ But a H H2 ∧ H2 pr = some (.lst ys) ∧ Items (RItem K) H2 ys (tblI kd sg i))
      ⟨[], _, _, _, _, rfl, hS2, b2, upd_same, Items.nil⟩ ?_ ?_
    · rintro i σ H2 hi ⟨ys, v5, v6, v7, v8, rfl, hS2, b2, hp2, it2⟩
      rw [Int.zero_add]
      have hi2 : i < sg.length := by omega
      walk_at "rd"
      refine for_range (lo := 0) (n := (((S sg).length : Int)).toNat) (fun j σ H2 => ∃ (ys : List V) (v6 v7 v8 : Option V), σ = [some (.ref a), some (.str (S sg)), some (.int (kd : Nat)), some (.int ((S sg).length : Nat)), some (.ref pr), some (.int (i : Nat)), v6, v7, v8] ∧ Src H2 a ∧ But a H H2 ∧ H2 pr = some (.lst ys) ∧ Items (RItem K) H2 ys (tblI kd sg i ++ tblJ kd sg i j))
        ⟨ys, _, _, _, rfl, hS2, b2, hp2, by simpa [tblJ] using it2⟩ ?_ ?_
      · clear it2 hp2 b2 hS2 v8 v7 v6 v5 ys
        rintro j σ H2 hj ⟨ys, v6, v7, v8, rfl, hS2, b2, hp2, it2⟩
        rw [Int.zero_add]
        have hj2 : j < sg.length := by omega
        have hatij := hat i (List.mem_range.mpr hi2) j (List.mem_range.mpr hj2)
        have hgi := getD_some hi2
        have hgj := getD_some hj2
        walk_at "rd"
        rw [hSl]
        refine ⟨by walk_at "sz", fun pl hpl => ?_⟩
        refine ⟨_, rfl, pl, _, kd, .int (tblAt kd sg.length i j), rfl, rfl, SqL.of upd_same, atI_nat ?_, ?_⟩
        · have : kd = 0 ∨ kd = 1 ∨ kd = 2 ∨ kd = 3 ∨ kd = 4 ∨ kd = 5 ∨ kd = 6 ∨ kd = 7 := by omega
          rcases this with rfl | rfl | rfl | rfl | rfl | rfl | rfl | rfl <;> rfl
        have s3 := fun o => same_new (o := o) hpl
        have hS3 := fun o => hS2.sm (s3 o)
        have b3 := fun o => b2.trans (But.same (s3 o))
        have hp3 := fun o => s3 o _ _ hp2
        have it3 := fun o => it2.mono fun x y h => h.sm (s3 o)
        generalize hgo : upd H2 pl _ = H3
        have hS3 : Src H3 a := hgo ▸ hS3 _
        have b3 : But a H H3 := hgo ▸ b3 _
        have hp3 : H3 pr = some (.lst ys) := hgo ▸ hp3 _
        have it3 : Items (RItem K) H3 ys (tblI kd sg i ++ tblJ kd sg i j) := hgo ▸ it3 _
        clear hgo
        walk_at "nx"
        have hyl : ys.length ≤ 9 := by
          have h1 := it3.1
          rw [List.length_append, tblI_len, tblJ_len] at h1
          have h2 : i * sg.length ≤ 2 * 3 := Nat.mul_le_mul (by omega) (by omega)
          omega
        refine ⟨_, rfl, .inl ⟨rfl, _, SqL.of hp3⟩, ?_⟩
        refine ⟨_, rfl, _, rfl, _, i, sg.getD i 0, rfl, rfl, sz_S (t := sg) (by omega), atI_nat hgi, _, rfl, _, rfl, _, j, sg.getD j 0, rfl, rfl, sz_S (t := sg) (by omega), atI_nat hgj, _, _, rfl, rfl, Nat.le_trans (m := 2) (Nat.le_refl 2) (by decide), ?_⟩
        refine ⟨_, rfl, _, _, rfl, rfl, _, rfl, ?_⟩
        refine ite2 (fun c0 => ?_) (fun c0 => ?_)
        · have hneg : tblAt kd sg.length i j < 0 := of_decide_eq_true c0
          refine ⟨by walk_at "sz", fun q hq => ?_⟩
          have hqp : q ≠ pr := (ne_of_none hp3 hq).symm
          have s5 := same_new (o := .tup (rTup (tblRow kd sg i j))) hq
          have etup : (HO.tup [V.str (S [sg.getD i 0, sg.getD j 0]), V.str (S [])]) = HO.tup (rTup (tblRow kd sg i j)) := by
            unfold rTup tblRow
            rw [if_pos hneg]
          refine ⟨pr, ys, _, rfl, rfl, (same_new hq) _ _ hp3, Nat.lt_of_le_of_lt (m := 9) hyl (by decide), ?_⟩
          have h5 : Src (upd H3 q (.tup (rTup (tblRow kd sg i j)))) a := hS3.sm s5
          have hna5 : pr ≠ a := hna
          refine ⟨ys ++ [.ref q], _, _, _, rfl, ?_, ?_, upd_same, ?_⟩
          · obtain ⟨d9, e9, c9, z9⟩ := hS3
            exact ⟨d9, e9, c9, by rw [upd_ne hna5.symm, upd_ne (ne_of_none z9 hq)]; exact z9⟩
          · refine but_mut (b3.trans (But.same (same_new hq))) hprH
          · have hk : Keep (upd H3 q (.tup (rTup (tblRow kd sg i j)))) (upd (upd H3 q (.tup (rTup (tblRow kd sg i j)))) pr (.lst (ys ++ [.ref q]))) := Keep.butL but_upd (s5 _ _ hp3)
            rw [tblJ_succ, ← List.append_assoc]
            rw [show (upd (upd H3 q (HO.tup [V.str _, V.str _])) pr (HO.lst (ys ++ [V.ref q]))) = upd (upd H3 q (.tup (rTup (tblRow kd sg i j)))) pr (.lst (ys ++ [.ref q])) from congrArg (fun o => upd (upd H3 q o) pr (.lst (ys ++ [.ref q]))) etup]
            exact it3.snoc (fun x y h => (h.sm s5).same hk) ⟨q, rfl, hk.seq (SqT.of upd_same)⟩
        · have hneg : ¬ tblAt kd sg.length i j < 0 := by simpa using c0
          have hat2 : (tblAt kd sg.length i j).toNat < sg.length := by omega
          refine ⟨_, rfl, _, rfl, _, _, _, rfl, rfl, sz_S (t := sg) (by omega), atI_at (by omega) (getD_some hat2), ?_⟩
          refine ⟨by walk_at "sz", fun q hq => ?_⟩
          have hqp : q ≠ pr := (ne_of_none hp3 hq).symm
          have s5 := same_new (o := .tup (rTup (tblRow kd sg i j))) hq
          have etup : (HO.tup [V.str (S [sg.getD i 0, sg.getD j 0]), V.str (S [sg.getD (tblAt kd sg.length i j).toNat 0])]) = HO.tup (rTup (tblRow kd sg i j)) := by
            unfold rTup tblRow
            rw [if_neg hneg]
          refine ⟨pr, ys, _, rfl, rfl, (same_new hq) _ _ hp3, Nat.lt_of_le_of_lt (m := 9) hyl (by decide), ?_⟩
          have h5 : Src (upd H3 q (.tup (rTup (tblRow kd sg i j)))) a := hS3.sm s5
          have hna5 : pr ≠ a := hna
          refine ⟨ys ++ [.ref q], _, _, _, rfl, ?_, ?_, upd_same, ?_⟩
          · obtain ⟨d9, e9, c9, z9⟩ := hS3
            exact ⟨d9, e9, c9, by rw [upd_ne hna5.symm, upd_ne (ne_of_none z9 hq)]; exact z9⟩
          · refine but_mut (b3.trans (But.same (same_new hq))) hprH
          · have hk : Keep (upd H3 q (.tup (rTup (tblRow kd sg i j)))) (upd (upd H3 q (.tup (rTup (tblRow kd sg i j)))) pr (.lst (ys ++ [.ref q]))) := Keep.butL but_upd (s5 _ _ hp3)
            rw [tblJ_succ, ← List.append_assoc]
            rw [show (upd (upd H3 q (HO.tup [V.str _, V.str _])) pr (HO.lst (ys ++ [V.ref q]))) = upd (upd H3 q (.tup (rTup (tblRow kd sg i j)))) pr (.lst (ys ++ [.ref q])) from congrArg (fun o => upd (upd H3 q o) pr (.lst (ys ++ [.ref q]))) etup]
            exact it3.snoc (fun x y h => (h.sm s5).same hk) ⟨q, rfl, hk.seq (SqT.of upd_same)⟩
      · rintro σ H3 ⟨ys, v6, v7, v8, rfl, hS3, b3, hp3, it3⟩
        walk_at "nx"
        rw [show (((S sg).length : Int)).toNat = sg.length by omega] at it3
        exact ⟨ys, _, _, _, _, rfl, hS3, b3, hp3, by rw [tblI_succ]; exact it3⟩
    · rintro σ H2 ⟨ys, v5, v6, v7, v8, rfl, hS2, b2, hp2, it2⟩
      walk_at "rd"
      refine ⟨pr, _, rfl, .inl ⟨SqL.of hp2, fun l hl => ?_⟩⟩
      have s3 := same_new (o := .tup ys) hl
      rw [show (((S sg).length : Int)).toNat = sg.length by omega] at it2
      exact k l ys (tbl kd sg) _ ⟨SqT.of upd_same, it2.1, fun i x r h1 h2 => (it2.2 i x r h1 h2).sm s3⟩ hgood (hS2.sm s3) (b2.trans (But.same s3))
end
end Sh
set_option Elab.async false
set_option linter.all false
set_option maxRecDepth 100000
set_option maxHeartbeats 4000000
namespace Sh
open PySem PySem.Spec PyProof.Rows L2
open SX (S S_inj S_len S_cat)
open Bk (Rule firstAt lg bestUp used left drain pushS Wf quarrel Meets)
local macro_rules | `(tactic| walk_at "nx") => `(tactic| repeat (with_reducible first | refine Sh.gn_mk ?_ | refine Sh.nx_mk ?_ | refine Sh.st_nx ?_ | refine Sh.rt_mk ?_ | refine Sh.ct_mk ?_ | refine Sh.bk_mk ?_))
local macro_rules | `(tactic| walk_at "sq") => `(tactic| first | exact SqL.of upd_same | exact SqT.of upd_same | exact SqL.of (by assumption) | exact SqT.of (by assumption) | assumption | exact Or.inl (SqL.of (by assumption)) | exact Or.inr (SqT.of (by assumption)) | exact Or.inl (by assumption) | exact Or.inr (by assumption))
local macro_rules | `(tactic| walk_at "hp") => `(tactic| first | exact upd_same | assumption)
local macro_rules | `(tactic| walk_at "sz") => `(tactic| first | exact Nat.le_of_ble_eq_true rfl | omega)
local macro_rules | `(tactic| walk_at "sd") => `(tactic| first | omega | exact rfl | assumption | (show (0 : Int) < _; omega) | exact And.intro (by omega) (by omega) | exact Or.inl (And.intro (by omega) (by omega)) | exact Or.inr (And.intro (by omega) (by omega)) | omega | exact Sh.sz_S (by omega) | decide)
local macro_rules | `(tactic| walk_at "rd1") => `(tactic| first
  | (with_reducible first | refine Sh.gn_mk ?_ | refine Sh.nx_mk ?_ | refine Sh.st_nx ?_ | refine Sh.rt_mk ?_ | refine Sh.ct_mk ?_ | refine Sh.bk_mk ?_)
  | refine Exists.intro (α := V) _ (And.intro rfl ?_)
  | refine Exists.intro (α := Bool) _ (And.intro rfl ?_)
  | refine Exists.intro (α := Int) _ (And.intro rfl ?_)
  | refine Exists.intro (α := PySem.Str) _ (And.intro rfl ?_)
  | refine Exists.intro (α := Int) _ (Exists.intro (α := Int) _ (And.intro rfl (And.intro rfl ?_)))
  | refine Exists.intro (α := PySem.Str) _ (Exists.intro (α := PySem.Str) _ (And.intro rfl (And.intro rfl ?_)))
  | refine Exists.intro (α := Int) _ (Exists.intro (α := Int) _ (And.intro rfl ?_))
  | refine Or.inl (Exists.intro (α := Int) _ (And.intro rfl ?_))
  | refine Exists.intro _ (Exists.intro _ (Exists.intro _ (Exists.intro _ (And.intro rfl (And.intro rfl (And.intro (by walk_at "sq") (And.intro rfl ?_)))))))
  | refine Exists.intro _ (Exists.intro _ (Exists.intro _ (Exists.intro _ (And.intro rfl (And.intro rfl (And.intro (by walk_at "hp") (And.intro rfl ?_)))))))
  | refine And.intro (by walk_at "sd") ?_
  )
local macro_rules | `(tactic| walk_at "rd") => `(tactic| repeat walk_at "rd1")
local macro_rules | `(tactic| walk_at "lk") => `(tactic| first | exact rfl | (rw [lookup_putF, if_pos rfl]) | (rw [lookup_putF, if_neg (by decide +kernel)]; walk_at "lk"))

section
variable {P : Program} {w : World} {K : PySem.W.Frag} {mg : Str → Option Value} {base : Heap} {CB CE : Addr}
theorem Items.cons {α : Type} {Rel : Hp → V → α → Prop} {H : Hp} {x : V} {xs : List V} {y : α} {ys : List α} (r : Rel H x y) (h : Items Rel H xs ys) : Items Rel H (x :: xs) (y :: ys) := by
  refine ⟨by simp [h.1], fun i a b h1 h2 => ?_⟩
  cases i with
  | zero => simp at h1 h2; subst h1; subst h2; exact r
  | succ i => exact h.2 i a b (by simpa using h1) (by simpa using h2)
/-- a book's tuple -/
def BkV (K : PySem.W.Frag) (H : Hp) (v : V) (R : List Rule) : Prop := ∃ q xs, v = .ref q ∧ RulesAt K H q xs R
theorem BkV.keep {H H' : Hp} {v : V} {R : List Rule} (h : BkV K H v R) (k : Keep H H') : BkV K H' v R := let ⟨q, xs, e, r⟩ := h; ⟨q, xs, e, r.keep k⟩
/-! what an expression of the menu gives -/
def EvS (σ : L2.St) (te : TE) (t : List Nat) : Prop := ∀ (H : Hp) (Q : VK), Q (.str (S t)) H → te σ H Q
def EvR (K : PySem.W.Frag) (σ : L2.St) (te : TE) (r : Rule) : Prop := ∀ (H : Hp) (Q : VK), (∀ v H', RItem K H' v r → Same H H' → Q v H') → te σ H Q
def EvRs (K : PySem.W.Frag) (σ : L2.St) (ta : TA) (R : List Rule) : Prop := ∀ (H : Hp) (Q : List V → Hp → Prop), (∀ vs H', Items (RItem K) H' vs R → Same H H' → Q vs H') → ta σ H Q
def EvB (K : PySem.W.Frag) (σ : L2.St) (te : TE) (R : List Rule) : Prop := ∀ (H : Hp) (Q : VK), (∀ v H', BkV K H' v R → Same H H' → Q v H') → te σ H Q
def EvBs (K : PySem.W.Frag) (σ : L2.St) (ta : TA) (Rs : List (List Rule)) : Prop := ∀ (H : Hp) (Q : List V → Hp → Prop), (∀ vs H', Items (BkV K) H' vs Rs → Same H H' → Q vs H') → ta σ H Q
variable {σ : L2.St} {te x y : TE} {ta : TA}
theorem EvS.var {i : Nat} {t : List Nat} (h : σ[i]? = some (some (.str (S t)))) : EvS σ (tVar i) t := fun H Q q => ⟨_, h, q⟩
theorem EvS.nil : EvS σ (tC (.str (Str.ofString ""))) [] := fun H Q q => q
theorem EvS.add {t u : List Nat} (h : EvS σ x t) (k : EvS σ y u) (l : t.length + u.length ≤ 1000) : EvS σ (tOp (fun x y H Q => ∃ i j, x = V.str i ∧ y = V.str j ∧ i.length + j.length ≤ sizeLine ∧ Q (V.str (i ++ j)) H) x y) (t ++ u) := fun H Q q =>
  h H _ (k H _ ⟨_, _, rfl, rfl, by rw [S_len, S_len]; exact Nat.le_trans l (by decide), by rw [S_cat]; exact q⟩)
theorem EvR.mk {r : Rule} (h : EvS σ x r.1) (k : EvS σ y r.2) : EvR K σ (tTup (tCons x (tCons y tNil))) r := fun H Q q =>
  h H _ (k H _ ⟨Nat.le_of_ble_eq_true rfl, fun p hp => q _ _ ⟨p, rfl, SqT.of upd_same⟩ (same_new hp)⟩)
theorem EvRs.nil : EvRs K σ tNil [] := fun H Q q => q [] H Items.nil (Same.refl H)
theorem EvRs.cons {r : Rule} {R : List Rule} (h : EvR K σ te r) (k : EvRs K σ ta R) : EvRs K σ (tCons te ta) (r :: R) := fun H Q q =>
  h H _ fun v H1 hv s1 => k H1 _ fun vs H2 hvs s2 => q _ _ (Items.cons (hv.sm s2) hvs) (s1.trans s2)
theorem EvB.mk {R : List Rule} (h : EvRs K σ ta R) (l : R.length ≤ 64) : EvB K σ (tTup ta) R := fun H Q q =>
  h H _ fun vs H1 it s1 => ⟨Nat.le_trans (m := 64) (by have := it.1; omega) (by decide), fun p hp => q _ _ ⟨p, vs, rfl, SqT.of upd_same, it.1, fun i x r h1 h2 => (it.2 i x r h1 h2).sm (same_new hp)⟩ (s1.trans (same_new hp))⟩
theorem EvBs.nil : EvBs K σ tNil [] := fun H Q q => q [] H Items.nil (Same.refl H)
theorem EvBs.cons {R : List Rule} {Rs : List (List Rule)} (h : EvB K σ te R) (k : EvBs K σ ta Rs) : EvBs K σ (tCons te ta) (R :: Rs) := fun H Q q =>
  h H _ fun v H1 hv s1 => k H1 _ fun vs H2 hvs s2 => q _ _ (Items.cons (hv.keep (Keep.same s2)) hvs) (s1.trans s2)
theorem EvS.addE {t u s : List Nat} (h : EvS σ x t) (k : EvS σ y u) (l : t.length + u.length ≤ 1000) (e : t ++ u = s) : EvS σ (tOp (fun x y H Q => ∃ i j, x = V.str i ∧ y = V.str j ∧ i.length + j.length ≤ sizeLine ∧ Q (V.str (i ++ j)) H) x y) s := e ▸ EvS.add h k l
theorem st_menu {g : TG} {u : TS} {D : Ends} {H : Hp} {Rs : List (List Rule)} (m : EvBs K σ ta Rs) (k : ∀ vs H1, Items (BkV K) H1 vs Rs → Same H H1 → vs.length ≤ sizeLine ∧ ∀ p, H1 p = none → g (.ref p) σ (upd H1 p (.lst vs)) (u D)) : tSeq (tAsg (tLst ta) g) u D σ H := m H _ k
local macro_rules | `(tactic| walk_at "es") => `(tactic| first | exact EvS.var rfl | exact EvS.nil | exact EvS.addE (by walk_at "es") (by walk_at "es") (by simp) (by exact rfl))
local macro_rules | `(tactic| walk_at "eb") => `(tactic| first | exact EvBs.nil | exact EvRs.nil | (refine EvBs.cons ?_ ?_ <;> walk_at "eb") | (refine EvB.mk ?_ (Nat.le_of_ble_eq_true rfl) <;> walk_at "eb") | (refine EvRs.cons ?_ ?_ <;> walk_at "eb") | (refine EvR.mk ?_ ?_ <;> walk_at "es"))
def spKnown (K : PySem.W.Frag) : Sp := fun vs H Q _ => ∃ (a : Addr) (sg : List Nat), vs = [.ref a, .str (S [sg.getD 0 0]), .str (S [sg.getD (sg.length - 1) 0])] ∧ Src H a ∧ sg ∈ sgMenu ∧ spGood K a sg H Q
theorem c__law_known (T : Txt K mg) : Cal P w K mg base CX0 3 "_law_known" (spKnown K) := by
  have c__law_pick := c__law_pick (P := P) (w := w) (base := base) T
  have c__law_quarrel := c__law_quarrel (P := P) (w := w) (base := base) T
  refine Cal.mk0 T.d__law_known sc__law_known (fun vs H Q E h => ?_) (fun f cdv A outer s H vs Q E hr h => ?_)
  · obtain ⟨a, sg, rfl, _⟩ := h
    rfl
  · obtain ⟨a, sg, rfl, hS, hsg, k⟩ := h
    have hfirst := known_first sg hsg
    have hok := known_ok sg hsg
    have hwf := known_wf sg hsg
    generalize hx : sg.getD 0 0 = x at k hfirst hok hwf ⊢
    generalize hy : sg.getD (sg.length - 1) 0 = y at k hfirst hok hwf ⊢
    refine ⟨_, (pss_cons (ps_set (i := 3) sc__law_known.nd rfl (Or.inl rfl) (pe_lst (pa_cons (pe_tup (pa_cons (pe_tup (pa_cons (pe_op op_add_str (pe_op op_add_str (pv 1) (pv 1)) (pv 1)) (pa_cons (pv 1) pa_nil))) pa_nil)) (pa_cons (pe_tup (pa_cons (pe_tup (pa_cons (pe_op op_add_str (pv 1) (pv 1)) (pa_cons pe_str pa_nil))) pa_nil)) (pa_cons (pe_tup (pa_cons (pe_tup (pa_cons (pe_op op_add_str (pe_op op_add_str (pv 1) (pv 1)) (pv 1)) (pa_cons pe_str pa_nil))) pa_nil)) (pa_cons (pe_tup (pa_cons (pe_tup (pa_cons (pe_op op_add_str (pv 1) (pv 1)) (pa_cons (pv 1) pa_nil))) pa_nil)) (pa_cons (pe_tup (pa_cons (pe_tup (pa_cons (pe_op op_add_str (pe_op op_add_str (pv 1) (pv 2)) (pv 1)) (pa_cons (pv 1) pa_nil))) pa_nil)) (pa_cons (pe_tup (pa_cons (pe_tup (pa_cons (pe_op op_add_str (pv 2) (pv 1)) (pa_cons (pv 1) pa_nil))) pa_nil)) (pa_cons (pe_tup (pa_cons (pe_tup (pa_cons (pe_op op_add_str (pv 1) (pv 2)) (pa_cons (pv 1) pa_nil))) (pa_cons (pe_tup (pa_cons (pe_op op_add_str (pv 2) (pv 2)) (pa_cons (pv 2) pa_nil))) pa_nil))) (pa_cons (pe_tup (pa_cons (pe_tup (pa_cons (pe_op op_add_str (pe_op op_add_str (pv 1) (pv 2)) (pv 2)) (pa_cons (pv 1) pa_nil))) pa_nil)) (pa_cons (pe_tup (pa_cons (pe_tup (pa_cons (pe_op op_add_str (pv 1) (pv 2)) (pa_cons pe_str pa_nil))) (pa_cons (pe_tup (pa_cons (pe_op op_add_str (pv 2) (pv 1)) (pa_cons pe_str pa_nil))) (pa_cons (pe_tup (pa_cons (pe_op op_add_str (pv 1) (pv 1)) (pa_cons (pv 2) pa_nil))) (pa_cons (pe_tup (pa_cons (pe_op op_add_str (pv 2) (pv 2)) (pa_cons (pv 1) pa_nil))) pa_nil))))) (pa_cons (pe_tup (pa_cons (pe_tup (pa_cons (pe_op op_add_str (pv 1) (pv 2)) (pa_cons (pv 1) pa_nil))) (pa_cons (pe_tup (pa_cons (pe_op op_add_str (pv 1) (pv 1)) (pa_cons (pv 1) pa_nil))) pa_nil))) (pa_cons (pe_tup (pa_cons (pe_tup (pa_cons (pe_op op_add_str (pe_op op_add_str (pe_op op_add_str (pv 1) (pv 2)) (pv 1)) (pv 2)) (pa_cons pe_str pa_nil))) pa_nil)) (pa_cons (pe_tup (pa_cons (pe_tup (pa_cons (pe_op op_add_str (pv 1) (pv 2)) (pa_cons (pv 2) pa_nil))) (pa_cons (pe_tup (pa_cons (pe_op op_add_str (pv 1) (pv 1)) (pa_cons (pv 1) pa_nil))) pa_nil))) pa_nil))))))))))))))
  (pss_cons (ps_set (i := 4) sc__law_known.nd rfl (Or.inl rfl) (pe_ix ix_list (pv 3) (pe_c c__law_pick hr (by decide) rfl (pa_cons (pv 0) (pa_cons (pe_callB call_len_seq (by rfl) T.b_len (by decide +kernel) (pa_cons (pv 3) pa_nil)) pa_nil))) (fun _ _ => rfl)))
  (pss_cons (ps_if (PW.pt (pw_or (pt_cmpR op_eq (pv 1) (pv 2) (nomark _)) (pw_or1 (pt_cmpR op_notN (pe_c c__law_quarrel hr (by decide) rfl (pa_cons (pv 4) pa_nil)) pe_non (nomark _)))))
    (pss_one (ps_set (i := 4) sc__law_known.nd rfl (Or.inl rfl) (pe_ix ix_list (pv 3) (pe_c c__law_pick hr (by decide) rfl (pa_cons (pv 0) (pa_cons pe_int pa_nil))) (fun _ _ => rfl))))
    pss_nil)
  (pss_one (ps_ret (pv 4)))))), ?_⟩
    refine st_menu (K := K) (Rs := known x y) (by unfold known; walk_at "eb") fun vs H1 it1 s1 => ?_
    have hkl : (known x y).length = 12 := rfl
    have hvl : vs.length = 12 := it1.1.trans hkl
    refine ⟨Nat.le_trans (m := 12) (by omega) (by decide), fun pl hpl => ?_⟩
    have s2 := s1.trans (same_new (o := .lst vs) hpl)
    have it2 := it1.mono fun x y h => h.keep (Keep.same (same_new (o := .lst vs) hpl))
    have hp2 : (upd H1 pl (.lst vs)) pl = some (.lst vs) := upd_same
    have hS2 := hS.sm s2
    have hna := Src.ne (hS.sm s1) hpl
    generalize upd H1 pl (.lst vs) = H2 at s2 it2 hp2 hS2 ⊢
    walk_at "rd"
    refine ⟨pl, vs, rfl, .inl (SqL.of hp2), a, _, rfl, hS2, by omega, by omega, fun i H3 hi0 hi1 hS3 b3 => ?_⟩
    have hp3 := b3 _ _ hna hp2
    have it3 := it2.mono fun x y h => h.keep (Keep.but b3 hS2)
    have hi2 : i.toNat < (known x y).length := by omega
    obtain ⟨v, hv, q, xs, rfl, hR⟩ := it3.get (List.getElem?_eq_getElem hi2)
    have hRm : (known x y)[i.toNat] ∈ known x y := List.getElem_mem hi2
    generalize (known x y)[i.toNat] = R at hR hRm
    have wf := hwf R hRm
    refine ⟨pl, vs, i, .ref q, rfl, rfl, SqL.of hp3, atI_at hi0 hv, ?_⟩
    walk_at "nx"
    refine st_ifJ (fun σ H' => ∃ (q : Addr) (xs : List V) (R : List Rule) (v3 : Option V), σ = [some (.ref a), some (.str (S [x])), some (.str (S [y])), v3, some (.ref q)] ∧ Src H' a ∧ But a H H' ∧ RulesAt K H' q xs R ∧ Good sg R) (fun N hN => ?_) ?_
    · refine if_JB (fun b H' => Same H3 H' ∧ (b = false → ¬ x = y ∧ Meets R)) (fun Q' hQ => ?_) (fun H4 ⟨s4, hb4⟩ => ?_) (fun H4 ⟨s4, hb4⟩ => ?_)
      · walk_at "rd"
        by_cases hxy : x = y
        · rw [show decide (V.str (S [x]) = V.str (S [y])) = true from decide_eq_true (by rw [hxy])]
          refine iteT ?_
          exact hQ _ _ ⟨Same.refl _, fun e => (by cases e)⟩
        · rw [show decide (V.str (S [x]) = V.str (S [y])) = false from decide_eq_false (fun e => hxy (by have := S_inj (V.str.inj e); simpa using this))]
          refine iteF ?_
          refine ⟨_, rfl, q, xs, R, rfl, .inr hR.sq, hR.items, (Nat.le_trans wf.1 (by decide)), wf.2.1, wf.2.2, fun u H4 hu s4 => ?_⟩
          cases u with
          | none =>
            walk_at "rd"
            exact hQ _ _ ⟨s4, fun _ => ⟨hxy, hu rfl⟩⟩
          | some u =>
            walk_at "rd"
            exact hQ _ _ ⟨s4, fun e => (by cases e)⟩
      · walk_at "nx"
        have hS4 := hS3.sm s4
        refine ⟨_, rfl, _, rfl, a, _, rfl, hS4, by decide, by decide, fun j H5 hj0 hj1 hS5 b5 => ?_⟩
        have hp5 := b5 _ _ hna (s4 _ _ hp3)
        have it5 := (it3.mono fun x y h => h.keep (Keep.same s4)).mono fun x y h => h.keep (Keep.but b5 hS4)
        have hj2 : j.toNat < (known x y).length := by omega
        obtain ⟨v', hv', q', xs', rfl, hR'⟩ := it5.get (List.getElem?_eq_getElem hj2)
        have hRm' : (known x y)[j.toNat] ∈ (known x y).take 4 := by
          rw [List.mem_iff_getElem]
          refine ⟨j.toNat, by rw [List.length_take]; omega, by rw [List.getElem_take]⟩
        generalize (known x y)[j.toNat] = R' at hR' hRm'
        refine ⟨pl, vs, j, .ref q', rfl, rfl, SqL.of hp5, atI_at hj0 hv', ?_⟩
        walk_at "nx"
        exact hN _ _ ⟨q', xs', R', _, rfl, hS5, (But.same s2).trans (b3.trans ((But.same s4).trans b5)), hR', hfirst R' hRm'⟩
      · obtain ⟨hne, hM⟩ := hb4 rfl
        walk_at "nx"
        exact hN _ _ ⟨q, xs, R, _, rfl, hS3.sm s4, (But.same s2).trans (b3.trans (But.same s4)), hR.same s4, hok hne R hRm, quarrel_of_meets hM, wf.1⟩
    · rintro σ H' ⟨q, xs, R, v3, rfl, hS', b', hR', G⟩
      walk_at "rd"
      exact k q xs R H' hR' G hS' b'
end
end Sh
set_option Elab.async false
set_option linter.all false
set_option maxRecDepth 100000
set_option maxHeartbeats 4000000
namespace Sh
open PySem PySem.Spec PyProof.Rows L2
open SX (S S_inj S_len S_cat)
open Bk (Rule firstAt lg bestUp used left drain pushS Wf quarrel Meets)
local macro_rules | `(tactic| walk_at "nx") => `(tactic| repeat (with_reducible first | refine Sh.gn_mk ?_ | refine Sh.nx_mk ?_ | refine Sh.st_nx ?_ | refine Sh.rt_mk ?_ | refine Sh.ct_mk ?_ | refine Sh.bk_mk ?_))
local macro_rules | `(tactic| walk_at "sq") => `(tactic| first | exact SqL.of upd_same | exact SqT.of upd_same | exact SqL.of (by assumption) | exact SqT.of (by assumption) | assumption | exact Or.inl (SqL.of (by assumption)) | exact Or.inr (SqT.of (by assumption)) | exact Or.inl (by assumption) | exact Or.inr (by assumption))
local macro_rules | `(tactic| walk_at "hp") => `(tactic| first | exact upd_same | assumption)
local macro_rules | `(tactic| walk_at "sz") => `(tactic| first | exact Nat.le_of_ble_eq_true rfl | omega)
local macro_rules | `(tactic| walk_at "sd") => `(tactic| first | omega | exact rfl | assumption | (show (0 : Int) < _; omega) | exact And.intro (by omega) (by omega) | exact Or.inl (And.intro (by omega) (by omega)) | exact Or.inr (And.intro (by omega) (by omega)) | omega | exact Sh.sz_S (by omega) | decide)
local macro_rules | `(tactic| walk_at "rd1") => `(tactic| first
  | (with_reducible first | refine Sh.gn_mk ?_ | refine Sh.nx_mk ?_ | refine Sh.st_nx ?_ | refine Sh.rt_mk ?_ | refine Sh.ct_mk ?_ | refine Sh.bk_mk ?_)
  | refine Exists.intro (α := V) _ (And.intro rfl ?_)
  | refine Exists.intro (α := Bool) _ (And.intro rfl ?_)
  | refine Exists.intro (α := Int) _ (And.intro rfl ?_)
  | refine Exists.intro (α := PySem.Str) _ (And.intro rfl ?_)
  | refine Exists.intro (α := Int) _ (Exists.intro (α := Int) _ (And.intro rfl (And.intro rfl ?_)))
  | refine Exists.intro (α := PySem.Str) _ (Exists.intro (α := PySem.Str) _ (And.intro rfl (And.intro rfl ?_)))
  | refine Exists.intro (α := Int) _ (Exists.intro (α := Int) _ (And.intro rfl ?_))
  | refine Or.inl (Exists.intro (α := Int) _ (And.intro rfl ?_))
  | refine Exists.intro _ (Exists.intro _ (Exists.intro _ (Exists.intro _ (And.intro rfl (And.intro rfl (And.intro (by walk_at "sq") (And.intro rfl ?_)))))))
  | refine Exists.intro _ (Exists.intro _ (Exists.intro _ (Exists.intro _ (And.intro rfl (And.intro rfl (And.intro (by walk_at "hp") (And.intro rfl ?_)))))))
  | refine And.intro (by walk_at "sd") ?_
  )
local macro_rules | `(tactic| walk_at "rd") => `(tactic| repeat walk_at "rd1")
local macro_rules | `(tactic| walk_at "lk") => `(tactic| first | exact rfl | (rw [lookup_putF, if_pos rfl]) | (rw [lookup_putF, if_neg (by decide +kernel)]; walk_at "lk"))

section
variable {P : Program} {w : World} {K : PySem.W.Frag} {mg : Str → Option Value} {base : Heap} {CB CE : Addr}
theorem spGood.via {a : Addr} {sg : List Nat} {H H1 : Hp} {Q : VK} (k : spGood K a sg H Q) (b : But a H H1) : spGood K a sg H1 Q := fun p xs R H' r g s b' => k p xs R H' r g s (b.trans b')
theorem EvS.ix {σ : L2.St} {i : Nat} {n : Int} {sg : List Nat} {c : Nat} (h : σ[i]? = some (some (.str (S sg)))) (l : sg.length ≤ 1000) (h0 : 0 ≤ n) (e : sg[n.toNat]? = some c) : EvS σ (tOp rIxS (tVar i) (tC (.int n))) [c] := fun H Q q =>
  ⟨_, h, _, n, c, rfl, rfl, sz_S (t := sg) (by omega), atI_at h0 e, q⟩
theorem EvS.sl {σ : L2.St} {i : Nat} {n : Int} {sg t : List Nat} (h : σ[i]? = some (some (.str (S sg)))) (l : sg.length ≤ 1000) (h0 : 0 ≤ n) (e : sg.take n.toNat = t) : EvS σ (tSl rSlS (tVar i) tNoPart (tPart (tC (.int n)))) t := fun H Q q =>
  ⟨_, h, n, rfl, _, rfl, sz_S (t := sg) (by omega), by rw [cut_to h0, e]; exact q⟩
theorem pair_take {sg : List Nat} (h : 1 < sg.length) : sg.take 2 = [sg.getD 0 0, sg.getD 1 0] := by
  match sg, h with
  | x :: y :: r, _ => simp
theorem ret_sl {σ : L2.St} {te : TE} {r : V → Option Int → Option Int → Hp → VK → Prop} {lo hi : TO} {D : Ends} {H : Hp} {R : List Rule} (m : EvB K σ te R) (k : ∀ v H1, BkV K H1 v R → Same H H1 → lo σ H1 fun l H2 => hi σ H2 fun u H3 => r v l u H3 D.rt) : tRet (tSl r te lo hi) D σ H := m H _ k
def spBookL (K : PySem.W.Frag) : Sp := fun vs H Q _ => ∃ (a : Addr) (sg : List Nat) (most : Int), vs = [.ref a, .str (S sg), .int most] ∧ Src H a ∧ sg ∈ sgMenu ∧ 0 ≤ most ∧ most ≤ 60 ∧ spGood K a sg H Q
theorem c__law_book (T : Txt K mg) : Cal P w K mg base CX0 4 "_law_book" (spBookL K) := by
  have c__law_pick := c__law_pick (P := P) (w := w) (base := base) T
  have c__law_grown := c__law_grown (P := P) (w := w) (base := base) T
  have c__law_table_rules := c__law_table_rules (P := P) (w := w) (base := base) T
  have c__law_known := c__law_known (P := P) (w := w) (base := base) T
  refine Cal.mk0 T.d__law_book sc__law_book (fun vs H Q E h => ?_) (fun f cdv A outer s H vs Q E hr h => ?_)
  · obtain ⟨a, sg, most, rfl, _⟩ := h
    rfl
  · obtain ⟨a, sg, most, rfl, hS, hsg, hm0, hm1, k⟩ := h
    have hsl := menu_len sg hsg
    have hSl := S_len sg
    have hSsg : isSigns sg = true := menu_signs sg hsg
    refine ⟨_, (pss_cons (ps_set (i := 3) sc__law_book.nd rfl (Or.inl rfl) (pe_c c__law_pick hr (by decide) rfl (pa_cons (pv 0) (pa_cons pe_int pa_nil))))
  (pss_cons (ps_if (pt_cmpR op_eq (pv 3) pe_int (nomark _))
    (pss_one (ps_ret (pe_c c__law_table_rules hr (by decide) rfl (pa_cons (pv 0) (pa_cons (pv 1) pa_nil)))))
    pss_nil)
  (pss_cons (ps_if (PW.pt (pw_and (pt_cmpR op_eq (pv 3) pe_int (nomark _)) (pw_and1 (pt_cmpR op_gt (pe_callB call_len_str (by rfl) T.b_len (by decide +kernel) (pa_cons (pv 1) pa_nil)) pe_int (nomark _)))))
    (pss_one (ps_ret (pe_slice sl_tupA (pe_tup (pa_cons (pe_tup (pa_cons (pe_slice sl_str (pv 1) po_none (po_some pe_int)) (pa_cons pe_str pa_nil))) (pa_cons (pe_tup (pa_cons (pe_op op_add_str (pe_ix ix_str (pv 1) pe_int (fun _ _ => rfl)) (pe_ix ix_str (pv 1) pe_int (fun _ _ => rfl))) (pa_cons pe_str pa_nil))) pa_nil))) po_none (po_some (pe_op op_add pe_int (pe_c c__law_pick hr (by decide) rfl (pa_cons (pv 0) (pa_cons pe_int pa_nil))))))))
    pss_nil)
  (pss_cons (ps_if (pt_cmpR op_eq (pv 3) pe_int (nomark _))
    (pss_one (ps_ret (pe_c c__law_known hr (by decide) rfl (pa_cons (pv 0) (pa_cons (pe_ix ix_str (pv 1) pe_int (fun _ _ => rfl)) (pa_cons (pe_ix ix_str (pv 1) (pe_op op_sub (pe_callB call_len_str (by rfl) T.b_len (by decide +kernel) (pa_cons (pv 1) pa_nil)) pe_int) (fun _ _ => rfl)) pa_nil))))))
    pss_nil)
  (pss_one (ps_ret (pe_c c__law_grown hr (by decide) rfl (pa_cons (pv 0) (pa_cons (pv 1) (pa_cons (pv 2) (pa_cons (pe_op op_add pe_int (pe_c c__law_pick hr (by decide) rfl (pa_cons (pv 0) (pa_cons pe_int pa_nil)))) pa_nil))))))))))), ?_⟩
    walk_at "rd"
    refine ⟨a, _, rfl, hS, by omega, by omega, fun way H1 hw0 hw1 hS1 b1 => ?_⟩
    have k1 := k.via b1
    walk_at "rd"
    refine ite2 (fun c0 => ?_) (fun c0 => ?_)
    · walk_at "nx"
      refine ⟨_, rfl, _, rfl, a, sg, rfl, hS1, hsg, ?_⟩
      exact k1
    · walk_at "nx"
      refine st_ifK (decide (way = 1) && decide (1 < sg.length)) (fun Q' hQ => ?_) (fun hb => ?_) (fun hb => ?_)
      · walk_at "rd"
        by_cases hw : way = 1
        · rw [show decide (V.int way = V.int 1) = true from decide_eq_true (by rw [hw])]
          rw [decide_eq_true hw, Bool.true_and] at hQ
          refine iteT ?_
          walk_at "rd"
          exact q_of hQ (decide_eq_decide.mpr (by omega))
        · rw [show decide (V.int way = V.int 1) = false from decide_eq_false (fun e => hw (V.int.inj e))]
          rw [decide_eq_false hw, Bool.false_and] at hQ
          refine iteF ?_
          exact hQ
      · rw [Bool.and_eq_true, decide_eq_true_eq, decide_eq_true_eq] at hb
        have h01 : sg[0]? = some (sg.getD 0 0) := getD_some (by omega)
        have h11 : sg[1]? = some (sg.getD 1 0) := getD_some (by omega)
        walk_at "nx"
        refine ret_sl (K := K) (R := pairB sg) ?_ (fun v H2 hv s2 => ?_)
        · refine EvB.mk (EvRs.cons (EvR.mk ?_ EvS.nil) (EvRs.cons (EvR.mk ?_ EvS.nil) EvRs.nil)) (Nat.le_of_ble_eq_true rfl)
          · exact EvS.sl (sg := sg) rfl (by omega) (by decide) (pair_take hb.2)
          · exact EvS.add (t := [sg.getD 1 0]) (u := [sg.getD 0 0]) (EvS.ix (sg := sg) rfl (by omega) (by decide) h11) (EvS.ix (sg := sg) rfl (by omega) (by decide) h01) (Nat.le_of_ble_eq_true rfl)
        obtain ⟨q, xs, rfl, hR⟩ := hv
        have hS2 := hS1.sm s2
        walk_at "rd"
        refine ⟨a, _, rfl, hS2, by omega, by omega, fun n H3 hn0 hn1 hS3 b3 => ?_⟩
        walk_at "rd"
        have hR3 := (hR.keep (Keep.but b3 hS2))
        have bq := (But.same s2).trans b3
        have h2l : xs.length = 2 := hR.len
        obtain ⟨x1, x2, rfl⟩ : ∃ x1 x2, xs = [x1, x2] := by
          match xs, h2l with
          | [x1, x2], _ => exact ⟨x1, x2, rfl⟩
        have hn : n = 0 ∨ n = 1 := by omega
        rcases hn with rfl | rfl
        · have g := pair_good sg hsg hb.2 1 (by simp)
          refine ⟨q, _, rfl, hR3.sq, fun c => absurd c.2 (by show ¬ (1 : Nat) = 2; decide), fun c p hp => ?_⟩
          have s4 := same_new (o := .tup (cutV [x1, x2] none (some (1 + 0)))) hp
          have hR4 := hR3.same s4
          refine k1 p _ _ _ ⟨SqT.of upd_same, ?_, ?_⟩ g (hS3.sm s4) (bq.trans (But.same s4))
          · rfl
          · intro i x r h1 h2
            cases i with
            | zero => exact hR4.it 0 x r h1 h2
            | succ i => cases h2
        · have g := pair_good sg hsg hb.2 2 (by simp)
          refine ⟨q, _, rfl, hR3.sq, fun c => ?_, fun c => absurd ⟨rfl, rfl⟩ c⟩
          exact k1 q _ _ H3 hR3 g hS3 bq
      · walk_at "rd"
        refine ite2 (fun c2 => ?_) (fun c2 => ?_)
        · walk_at "rd"
          have g0 := getD_some (l := sg) (k := 0) (by omega)
          have gn := getD_some (l := sg) (k := sg.length - 1) (by omega)
          refine ⟨_, 0, sg.getD 0 0, rfl, rfl, sz_S (t := sg) (by omega), atI_at (by decide) g0, ?_⟩
          refine ⟨_, rfl, _, rfl, _, rfl, sz_S (t := sg) (by omega), _, _, rfl, rfl, _, ((S sg).length : Int) - 1, sg.getD (sg.length - 1) 0, rfl, rfl, sz_S (t := sg) (by omega), ?_, ?_⟩
          · have e9 : ((((S sg).length : Int) - 1)).toNat = sg.length - 1 := by omega
            refine atI_at (by omega) ?_
            rw [e9]
            exact gn
          refine ⟨a, sg, rfl, hS1, hsg, k1⟩
        · walk_at "rd"
          refine ⟨a, _, rfl, hS1, by omega, by omega, fun n H3 hn0 hn1 hS3 b3 => ?_⟩
          refine ⟨_, _, rfl, rfl, a, sg, most, _, rfl, hS3, hSsg, hm0, hm1, by omega, by omega, ?_⟩
          exact k1.via b3
end
end Sh
set_option Elab.async false
set_option linter.all false
set_option maxRecDepth 100000
set_option maxHeartbeats 4000000
namespace Sh
open PySem PySem.Spec PyProof.Rows L2
open SX (S S_inj S_len S_cat)
open Bk (Rule firstAt lg bestUp used left drain pushS Wf quarrel Meets lvl txts)
local macro_rules | `(tactic| walk_at "nx") => `(tactic| repeat (with_reducible first | refine Sh.gn_mk ?_ | refine Sh.nx_mk ?_ | refine Sh.st_nx ?_ | refine Sh.rt_mk ?_ | refine Sh.ct_mk ?_ | refine Sh.bk_mk ?_))
local macro_rules | `(tactic| walk_at "sq") => `(tactic| first | exact SqL.of upd_same | exact SqT.of upd_same | exact SqL.of (by assumption) | exact SqT.of (by assumption) | assumption | exact Or.inl (SqL.of (by assumption)) | exact Or.inr (SqT.of (by assumption)) | exact Or.inl (by assumption) | exact Or.inr (by assumption))
local macro_rules | `(tactic| walk_at "hp") => `(tactic| first | exact upd_same | assumption)
local macro_rules | `(tactic| walk_at "sz") => `(tactic| first | exact Nat.le_of_ble_eq_true rfl | omega)
local macro_rules | `(tactic| walk_at "sd") => `(tactic| first | omega | exact rfl | assumption | (show (0 : Int) < _; omega) | exact And.intro (by omega) (by omega) | exact Or.inl (And.intro (by omega) (by omega)) | exact Or.inr (And.intro (by omega) (by omega)) | omega | exact Sh.sz_S (by omega) | decide)
local macro_rules | `(tactic| walk_at "rd1") => `(tactic| first
  | (with_reducible first | refine Sh.gn_mk ?_ | refine Sh.nx_mk ?_ | refine Sh.st_nx ?_ | refine Sh.rt_mk ?_ | refine Sh.ct_mk ?_ | refine Sh.bk_mk ?_)
  | refine Exists.intro (α := V) _ (And.intro rfl ?_)
  | refine Exists.intro (α := Bool) _ (And.intro rfl ?_)
  | refine Exists.intro (α := Int) _ (And.intro rfl ?_)
  | refine Exists.intro (α := PySem.Str) _ (And.intro rfl ?_)
  | refine Exists.intro (α := Int) _ (Exists.intro (α := Int) _ (And.intro rfl (And.intro rfl ?_)))
  | refine Exists.intro (α := PySem.Str) _ (Exists.intro (α := PySem.Str) _ (And.intro rfl (And.intro rfl ?_)))
  | refine Exists.intro (α := Int) _ (Exists.intro (α := Int) _ (And.intro rfl ?_))
  | refine Or.inl (Exists.intro (α := Int) _ (And.intro rfl ?_))
  | refine Exists.intro _ (Exists.intro _ (Exists.intro _ (Exists.intro _ (And.intro rfl (And.intro rfl (And.intro (by walk_at "sq") (And.intro rfl ?_)))))))
  | refine Exists.intro _ (Exists.intro _ (Exists.intro _ (Exists.intro _ (And.intro rfl (And.intro rfl (And.intro (by walk_at "hp") (And.intro rfl ?_)))))))
  | refine And.intro (by walk_at "sd") ?_
  )
local macro_rules | `(tactic| walk_at "rd") => `(tactic| repeat walk_at "rd1")
local macro_rules | `(tactic| walk_at "lk") => `(tactic| first | exact rfl | (rw [lookup_putF, if_pos rfl]) | (rw [lookup_putF, if_neg (by decide +kernel)]; walk_at "lk"))

theorem txts_len (sg : List Nat) : ∀ n, (txts sg (n + 1)).length = (txts sg n).length + sg.length ^ (n + 1) := fun n => by
  rw [Bk.txts_succ, List.length_append, Bk.lvl_len]
theorem txts_le {sg : List Nat} (h : sg.length ≤ 3) : ∀ {n : Nat}, n ≤ 4 → (txts sg n).length ≤ 121 ∧ (lvl sg n).length ≤ 81 := by
  have z : (txts sg 0).length = 1 := rfl
  have e1 := txts_len sg 0
  have e2 := txts_len sg 1
  have e3 := txts_len sg 2
  have e4 := txts_len sg 3
  have p : ∀ k, sg.length ^ k ≤ 3 ^ k := fun k => Nat.pow_le_pow_left h k
  have p1 := p 1
  have p2 := p 2
  have p3 := p 3
  have p4 := p 4
  have p0 := p 0
  intro n hn
  rw [Bk.lvl_len]
  have : n = 0 ∨ n = 1 ∨ n = 2 ∨ n = 3 ∨ n = 4 := by omega
  rcases this with rfl | rfl | rfl | rfl | rfl <;> (simp only [Nat.reduceAdd, Nat.reducePow] at *; omega)
section
variable {P : Program} {w : World} {K : PySem.W.Frag} {mg : Str → Option Value} {base : Heap} {CB CE : Addr}
def ext (sg : List Nat) (t : List Nat) : List (List Nat) := sg.map fun c => t ++ [c]
theorem lvl_succ (sg : List Nat) (n : Nat) : lvl sg (n + 1) = (lvl sg n).flatMap (ext sg) := rfl
def spEnds (K : PySem.W.Frag) : Sp := fun vs H Q _ => ∃ (sg : List Nat) (e : Addr) (n : Nat), vs = [.str (S sg), .ref e, .int (n : Nat)] ∧ SqT K H e [] ∧ sg.length ≤ 3 ∧ n ≤ 4 ∧
  ∀ (p : Addr) (H' : Hp), H p = none → Same H H' → H' p = some (.lst ((txts sg n).map vS)) → Q (.ref p) H'
theorem c__law_ends (T : Txt K mg) : Cal P w K mg base CX0 1 "_law_ends" (spEnds K) := by
  refine Cal.mk0 T.d__law_ends sc__law_ends (fun vs H Q E h => ?_) (fun f cdv A outer s H vs Q E hr h => ?_)
  · obtain ⟨sg, e, n, rfl, _⟩ := h
    rfl
  · obtain ⟨sg, e, n, rfl, he, hsg, hn, kk⟩ := h
    refine ⟨_, (pss_cons (ps_set (i := 3) sc__law_ends.nd rfl (Or.inl rfl) (pe_lst (pa_cons pe_str pa_nil)))
  (pss_cons (ps_set (i := 4) sc__law_ends.nd rfl (Or.inl rfl) (pe_lst (pa_cons pe_str pa_nil)))
  (pss_cons (ps_for PassesOwn.never rfl (pi_range1 (by rfl) T.b_range (pa_cons (pv 2) pa_nil)) (pg_name (i := 5) sc__law_ends.nd rfl (Or.inl rfl))
    (pss_cons (ps_set (i := 6) sc__law_ends.nd rfl (Or.inl rfl) (pe_lst pa_nil))
    (pss_cons (ps_for PassesOwn.never rfl (pi_list (pv 4)) (pg_name (i := 7) sc__law_ends.nd rfl (Or.inr rfl))
      (pss_one (ps_for PassesOwn.never rfl (pi_str (pv 0)) (pg_name (i := 8) sc__law_ends.nd rfl (Or.inr rfl))
        (pss_one (ps_if (pt_not (pt_val (pe_callB (cr_any rfl) (by rfl) T.b_any (by decide +kernel) (pa_cons (pe_lc (own := [("_law_rule_here", 9)]) (g := gName 9) (tt := tYes) rfl sc__law_ends.nd (pi_tup (pv 1)) (blkOk_by (N := ["_law_signs_here", "_law_rules", "_law_size", "_law_told", "_law_level", "_law_k", "_law_later", "_law_text_here", "_law_sign", "_law_rule_here"]) (sc := defScope s__law_ends) (by decide +kernel)) (fun _ _ _ _ _ => (pg_name (i := 9) sc__law_ends.nd rfl (Or.inl rfl))) (fun _ _ _ _ _ => pts_nil) (fun _ _ _ _ _ => (pe_m1 PySem.F.slot_str_endswith PySem.F.type_str_endswith mt_endswith (pe_op op_add_str (pv 7) (pv 8)) (pe_ix ix_tupB (pv 9) pe_int (fun _ _ => rfl))))) pa_nil))))
          (pss_one (ps_expr (pe_bm PySem.F.plainAttrs_list PySem.F.slot_list_append PySem.F.type_list_append mt_append (pv 6) (pa_cons (pe_op op_add_str (pv 7) (pv 8)) pa_nil))))
          pss_nil)))))
    (pss_cons (ps_set (i := 4) sc__law_ends.nd rfl (Or.inl rfl) (pe_callTy call_list_of (by rfl) T.b_list (by decide +kernel) (pa_cons (pv 6) pa_nil)))
    (pss_one (ps_set (i := 3) sc__law_ends.nd rfl (Or.inl rfl) (pe_op op_cat (pv 3) (pv 4))))))))
  (pss_one (ps_ret (pv 3)))))), ?_⟩
    refine ⟨by walk_at "sz", fun p1 hp1 => ?_⟩
    have s1 : Same H (upd H p1 (.lst [.str (Str.ofString "")])) := same_new hp1
    walk_at "nx"
    refine ⟨by walk_at "sz", fun p2 hp2 => ?_⟩
    have s2 := s1.trans (same_new (o := .lst [.str (Str.ofString "")]) hp2)
    have h1 : (upd (upd H p1 (.lst [.str (Str.ofString "")])) p2 (.lst [.str (Str.ofString "")])) p1 = some (.lst ((txts sg 0).map vS)) := by
      rw [upd_ne (ne_of_none upd_same hp2)]; exact upd_same
    have h2 : (upd (upd H p1 (.lst [.str (Str.ofString "")])) p2 (.lst [.str (Str.ofString "")])) p2 = some (.lst ((lvl sg 0).map vS)) := upd_same
    generalize upd (upd H p1 (.lst [.str (Str.ofString "")])) p2 (.lst [.str (Str.ofString "")]) = H2 at s2 h1 h2 ⊢
    walk_at "nx"
    refine ⟨_, rfl, _, rfl, by omega, by omega, ?_⟩
    refine for_range (lo := 0) (n := ((n : Nat) : Int).toNat) (fun k σ H3 => ∃ (pt pl : Addr) (v5 v6 v7 v8 v9 : Option V), σ = [some (.str (S sg)), some (.ref e), some (.int (n : Nat)), some (.ref pt), some (.ref pl), v5, v6, v7, v8, v9] ∧ Same H H3 ∧ H pt = none ∧ H3 pt = some (.lst ((txts sg k).map vS)) ∧ H3 pl = some (.lst ((lvl sg k).map vS)))
      ⟨p1, p2, _, _, _, _, _, rfl, s2, hp1, h1, h2⟩ ?_ ?_
    · rintro k σ H3 hk ⟨pt, pl, v5, v6, v7, v8, v9, rfl, s3, hpt, ht, hl⟩
      rw [Int.zero_add]
      have hk2 : k < n := by omega
      have hz := txts_le hsg (n := k) (by omega)
      have hz1 := txts_le hsg (n := k + 1) (by omega)
      walk_at "nx"
      refine ⟨by walk_at "sz", fun py hpy => ?_⟩
      have s4 := s3.trans (same_new (o := .lst []) hpy)
      have ht4 := (same_new (o := .lst []) hpy) _ _ ht
      have hl4 := (same_new (o := .lst []) hpy) _ _ hl
      have hty : pt ≠ py := ne_of_none ht hpy
      have hly : pl ≠ py := ne_of_none hl hpy
      have hy4 : (upd H3 py (.lst [])) py = some (.lst []) := upd_same
      have hpy0 : H py = none := by
        cases z : H py with
        | none => rfl
        | some o => rw [s3 _ _ z] at hpy; cases hpy
      generalize upd H3 py (.lst []) = H4 at s4 ht4 hl4 hy4 ⊢
      walk_at "nx"
      refine ⟨_, rfl, pl, rfl, ⟨_, SqL.of hl4⟩, ?_⟩
      refine for_lst (K := K) (a := pl) (f := vS) (l := lvl sg k) (fun pre σ H5 => ∃ (v7 v8 v9 : Option V), σ = [some (.str (S sg)), some (.ref e), some (.int (n : Nat)), some (.ref pt), some (.ref pl), some (.int (k : Nat)), some (.ref py), v7, v8, v9] ∧ Same H H5 ∧ H5 pt = some (.lst ((txts sg k).map vS)) ∧ H5 pl = some (.lst ((lvl sg k).map vS)) ∧ H5 py = some (.lst ((pre.flatMap (ext sg)).map vS)))
        ⟨_, _, _, rfl, s4, ht4, hl4, hy4⟩ (fun pre σ H5 ⟨_, _, _, _, _, _, h, _⟩ => SqL.of h) ?_ ?_
      · clear hy4 hl4 ht4 s4 v9 v8 v7 v6
        rintro pre t post σ H5 ee ⟨v7, v8, v9, rfl, s5, ht5, hl5, hy5⟩
        have hpre : (pre.flatMap (ext sg)).length + sg.length ≤ 81 := by
          have e3 : lvl sg (k + 1) = pre.flatMap (ext sg) ++ (ext sg t ++ post.flatMap (ext sg)) := by
            rw [lvl_succ, ee, List.flatMap_append, List.flatMap_cons]
          have := hz1.2
          rw [e3, List.length_append, List.length_append] at this
          have e4 : (ext sg t).length = sg.length := by unfold ext; simp
          omega
        have htl : t.length ≤ 4 := by
          have := (Bk.mem_lvl.mp (show t ∈ lvl sg k by rw [ee]; simp)).1
          omega
        walk_at "rd"
        refine for_str (l := sg) (fun pre2 σ H6 => ∃ (v8 v9 : Option V), σ = [some (.str (S sg)), some (.ref e), some (.int (n : Nat)), some (.ref pt), some (.ref pl), some (.int (k : Nat)), some (.ref py), some (vS t), v8, v9] ∧ Same H H6 ∧ H6 pt = some (.lst ((txts sg k).map vS)) ∧ H6 pl = some (.lst ((lvl sg k).map vS)) ∧ H6 py = some (.lst ((pre.flatMap (ext sg) ++ pre2.map fun c => t ++ [c]).map vS)))
          ⟨_, _, rfl, s5, ht5, hl5, by simpa using hy5⟩ ?_ ?_
        · clear hy5 hl5 ht5 s5 v9 v8 v7
          rintro pre2 c post2 σ H6 e2 ⟨v8, v9, rfl, s6, ht6, hl6, hy6⟩
          have hp2 : pre2.length + 1 ≤ sg.length := by
            have := congrArg List.length e2
            simp at this
            omega
          walk_at "nx"
          refine if_KH true (fun H' => Same H6 H') (fun Q' hQ => ?_) (fun _ H7 s7 => ?_) (fun z => by cases z)
          · refine ⟨_, rfl, e, rfl, ⟨_, (Keep.same s6).seq he⟩, fun D hD => lc_tupR (K := K) (a := e) (xs := []) (l := ([] : List Rule)) (Rel := RItem K) rfl
              (fun pre H7 => H7 D = some (.lst (([] : List Bool).map V.bl)) ∧ Same H6 H7) ⟨upd_same, same_new hD⟩ (fun pre H7 ⟨_, s7⟩ => ⟨(Keep.same (s6.trans s7)).seq he, fun i x y h => by simp at h⟩) ?_ ?_⟩
            · rintro pre y post x H7 e9
              simp at e9
            · rintro H7 ⟨h7, s7⟩
              refine ⟨D, _, rfl, SqL.of h7, _, rfl, ?_⟩
              exact hQ _ s7
          · walk_at "rd"
            refine ⟨.inl ⟨rfl, _, SqL.of (s7 _ _ hy6)⟩, ?_⟩
            refine ⟨_, rfl, _, rfl, _, _, rfl, rfl, by rw [S_len, S_len]; exact Nat.le_trans (m := 5) (by simp; omega) (by decide), ?_⟩
            rw [S_cat]
            refine ⟨py, _, _, rfl, rfl, s7 _ _ hy6, by rw [List.length_map, List.length_append, List.length_map]; exact Nat.lt_of_le_of_lt (m := 81) (by omega) (by decide), ?_⟩
            refine ⟨_, _, rfl, same_mut (s6.trans s7) hpy0, by rw [upd_ne hty]; exact s7 _ _ ht6, by rw [upd_ne hly]; exact s7 _ _ hl6, ?_⟩
            rw [upd_same]
            simp
        · rintro σ H6 ⟨v8, v9, rfl, s6, ht6, hl6, hy6⟩
          walk_at "nx"
          refine ⟨_, _, _, rfl, s6, ht6, hl6, ?_⟩
          rw [List.flatMap_append, List.flatMap_cons, List.flatMap_nil, List.append_nil]
          exact hy6
      · rintro σ H5 ⟨v7, v8, v9, rfl, s5, ht5, hl5, hy5⟩
        rw [← lvl_succ] at hy5
        walk_at "nx"
        refine ⟨_, rfl, py, _, rfl, .inl (SqL.of hy5), fun l2 hl2 => ?_⟩
        have s6 := same_new (o := .lst ((lvl sg (k + 1)).map vS)) hl2
        walk_at "nx"
        refine ⟨_, rfl, _, rfl, pt, l2, _, _, rfl, rfl, s6 _ _ ht5, upd_same, by rw [List.length_map, List.length_map]; exact Nat.le_trans (m := 202) (by have := hz1.2; omega) (by decide), fun p9 hp9 => ?_⟩
        have s7 := same_new (o := .lst ((txts sg k).map vS ++ (lvl sg (k + 1)).map vS)) hp9
        have hp90 : H p9 = none := by
          cases z : H p9 with
          | none => rfl
          | some o => rw [s6 _ _ (s5 _ _ z)] at hp9; cases hp9
        walk_at "nx"
        refine ⟨p9, l2, _, _, _, _, _, rfl, s5.trans (s6.trans s7), hp90, ?_, s7 _ _ upd_same⟩
        rw [upd_same, Bk.txts_succ, List.map_append]
    · rintro σ H3 ⟨pt, pl, v5, v6, v7, v8, v9, rfl, s3, hpt, ht, hl⟩
      walk_at "rd"
      exact kk pt H3 hpt s3 ht
def spTexts (K : PySem.W.Frag) : Sp := fun vs H Q _ => ∃ (sg : List Nat) (n : Nat), vs = [.str (S sg), .int (n : Nat)] ∧ sg.length ≤ 3 ∧ n ≤ 4 ∧
  ∀ (p : Addr) (H' : Hp), Same H H' → H' p = some (.lst ((txts sg n).map vS)) → Q (.ref p) H'
theorem c__law_texts (T : Txt K mg) : Cal P w K mg base CX0 2 "_law_texts" (spTexts K) := by
  have c__law_ends := c__law_ends (P := P) (w := w) (base := base) T
  refine Cal.mk0 T.d__law_texts sc__law_texts (fun vs H Q E h => ?_) (fun f cdv A outer s H vs Q E hr h => ?_)
  · obtain ⟨sg, n, rfl, _⟩ := h
    rfl
  · obtain ⟨sg, n, rfl, hsg, hn, kk⟩ := h
    refine ⟨_, (pss_one (ps_ret (pe_c c__law_ends hr (by decide) rfl (pa_cons (pv 0) (pa_cons (pe_tup pa_nil) (pa_cons (pv 1) pa_nil)))))), ?_⟩
    refine ⟨_, rfl, by walk_at "sz", fun e he => ?_⟩
    refine ⟨_, rfl, sg, e, n, rfl, SqT.of upd_same, hsg, hn, fun p H' _ s' h' => ?_⟩
    exact kk p H' ((same_new he).trans s') h'
end
end Sh
set_option Elab.async false
set_option linter.all false
set_option maxRecDepth 100000
set_option maxHeartbeats 4000000
namespace Sh
open PySem PySem.Spec PyProof.Rows L2
open SX (S S_inj S_len S_cat)
open Bk (Rule firstAt lg bestUp used left drain pushS Wf quarrel Meets Ov ovs)
local macro_rules | `(tactic| walk_at "nx") => `(tactic| repeat (with_reducible first | refine Sh.gn_mk ?_ | refine Sh.nx_mk ?_ | refine Sh.st_nx ?_ | refine Sh.rt_mk ?_ | refine Sh.ct_mk ?_ | refine Sh.bk_mk ?_))
local macro_rules | `(tactic| walk_at "sq") => `(tactic| first | exact SqL.of upd_same | exact SqT.of upd_same | exact SqL.of (by assumption) | exact SqT.of (by assumption) | assumption | exact Or.inl (SqL.of (by assumption)) | exact Or.inr (SqT.of (by assumption)) | exact Or.inl (by assumption) | exact Or.inr (by assumption))
local macro_rules | `(tactic| walk_at "hp") => `(tactic| first | exact upd_same | assumption)
local macro_rules | `(tactic| walk_at "sz") => `(tactic| first | exact Nat.le_of_ble_eq_true rfl | omega)
local macro_rules | `(tactic| walk_at "sd") => `(tactic| first | omega | exact rfl | assumption | (show (0 : Int) < _; omega) | exact And.intro (by omega) (by omega) | exact Or.inl (And.intro (by omega) (by omega)) | exact Or.inr (And.intro (by omega) (by omega)) | omega | exact Sh.sz_S (by omega) | decide)
local macro_rules | `(tactic| walk_at "rd1") => `(tactic| first
  | (with_reducible first | refine Sh.gn_mk ?_ | refine Sh.nx_mk ?_ | refine Sh.st_nx ?_ | refine Sh.rt_mk ?_ | refine Sh.ct_mk ?_ | refine Sh.bk_mk ?_)
  | refine Exists.intro (α := V) _ (And.intro rfl ?_)
  | refine Exists.intro (α := Bool) _ (And.intro rfl ?_)
  | refine Exists.intro (α := Int) _ (And.intro rfl ?_)
  | refine Exists.intro (α := PySem.Str) _ (And.intro rfl ?_)
  | refine Exists.intro (α := Int) _ (Exists.intro (α := Int) _ (And.intro rfl (And.intro rfl ?_)))
  | refine Exists.intro (α := PySem.Str) _ (Exists.intro (α := PySem.Str) _ (And.intro rfl (And.intro rfl ?_)))
  | refine Exists.intro (α := Int) _ (Exists.intro (α := Int) _ (And.intro rfl ?_))
  | refine Or.inl (Exists.intro (α := Int) _ (And.intro rfl ?_))
  | refine Exists.intro _ (Exists.intro _ (Exists.intro _ (Exists.intro _ (And.intro rfl (And.intro rfl (And.intro (by walk_at "sq") (And.intro rfl ?_)))))))
  | refine Exists.intro _ (Exists.intro _ (Exists.intro _ (Exists.intro _ (And.intro rfl (And.intro rfl (And.intro (by walk_at "hp") (And.intro rfl ?_)))))))
  | refine And.intro (by walk_at "sd") ?_
  )
local macro_rules | `(tactic| walk_at "rd") => `(tactic| repeat walk_at "rd1")
local macro_rules | `(tactic| walk_at "lk") => `(tactic| first | exact rfl | (rw [lookup_putF, if_pos rfl]) | (rw [lookup_putF, if_neg (by decide +kernel)]; walk_at "lk"))

/-- what overlaps are sorted by -/
def gOv (o : Ov) : List V := [.int (o.1.length : Nat), .str (S o.1), .int (o.2.1 : Nat), .int (o.2.2.1 : Nat), .int (o.2.2.2 : Nat)]
theorem gOv_same (o u : Ov) : sameKs (gOv o) (gOv u) = true := rfl
theorem gOv_head (o : Ov) : Head "int" (gOv o) := ⟨_, _, rfl, .int _⟩
theorem ovs_cnt {R : List Rule} (hl : R.length ≤ 64) (h4 : ∀ r ∈ R, r.1.length ≤ 4) : (ovs R).length ≤ 16384 := by
  have h1 := Bk.ovI_len (R := R) (m := 4) (fun i => Bk.lf_le h4 i) R.length
  have h2 : R.length * (R.length * 4) ≤ 64 * (64 * 4) := Nat.mul_le_mul hl (Nat.mul_le_mul_right 4 hl)
  exact Nat.le_trans h1 h2
theorem shaped_tup {R : List Rule} (h : RChars R) : SeqAt.shaped (.tuple (R.map rD)) = true := by
  obtain ⟨h1, h2⟩ := lay_rules h
  unfold SeqAt.shaped
  rw [Bool.and_eq_true]
  refine ⟨h1, decide_eq_true ?_⟩
  show PyData.depthAll (R.map rD) + 1 ≤ 64
  omega
section
variable {P : Program} {w : World} {K : PySem.W.Frag} {mg : Str → Option Value} {base : Heap} {CB CE : Addr}
def spOverlaps (K : PySem.W.Frag) (C : Addr) : Sp := fun vs H Q _ => ∃ (p : Addr) (sg : List Nat) (R : List Rule), vs = [.ref p] ∧ BookAt K C H p sg R ∧ R.length ≤ 64 ∧ (∀ r ∈ R, r.1.length ≤ 4) ∧
  ∀ (q : Addr) (xs : List V) (os : List Ov) (H' : Hp), os.Perm (ovs R) → os.Pairwise (fun y z => cLt (gOv z) (gOv y) = false) → Same H H' → H' q = some (.tup xs) → Items OvV H' xs os → Q (.ref q) H'
/-! ### settled -/
def StAt (C : Addr) (H : Hp) (p : Addr) (v : V) : Prop := ∃ (dx : Addr) (fs : List (Str × V)), H p = some (.ins C dx fs) ∧ fs.lookup ("holds" : Str) = some (.bl (decide (v = .non))) ∧ fs.lookup ("text" : Str) = some v
theorem StAt.same {C : Addr} {H H' : Hp} {p : Addr} {v : V} (h : StAt C H p v) (s : Same H H') : StAt C H' p v := let ⟨dx, fs, h1, h2⟩ := h; ⟨dx, fs, s _ _ h1, h2⟩
def MtAt (C : Addr) (H : Hp) (p : Addr) (v : V) : Prop := ∃ (dx : Addr) (fs : List (Str × V)), H p = some (.ins C dx fs) ∧ fs.lookup ("meets" : Str) = some v
def spStInit (C : Addr) : Sp := fun vs H Q _ => ∃ (p dx : Addr) (m v t : V), vs = [.ref p, m, v, t] ∧ H p = some (.ins C dx []) ∧ ∀ H' : Hp, StAt C H' p v → MtAt C H' p m → But p H H' → Q .non H'
def spStBool (C : Addr) : Sp := fun vs H Q _ => ∃ (p : Addr) (v : V), vs = [.ref p] ∧ StAt C H p v ∧ Q (.bl (decide (v = .non))) H
def spBookQ (K : PySem.W.Frag) (C : Addr) : Sp := fun vs H Q _ => ∃ (p : Addr) (sg : List Nat) (R : List Rule), vs = [.ref p] ∧ BookAt K C H p sg R ∧ Q (optS (quarrel R)) H
/-- the ends of the overlaps -/
def spSettledR (K : PySem.W.Frag) (C D : Addr) : Sp := fun vs H Q _ => ∃ (p : Addr) (sg : List Nat) (R : List Rule), vs = [.ref p] ∧ BookAt K C H p sg R ∧ R.length ≤ 64 ∧ (∀ r ∈ R, r.1.length ≤ 4) ∧ Wf R ∧ quarrel R = none ∧
  ∀ (q m : Addr) (os : List Ov) (H' : Hp), os.Perm (ovs R) → os.Pairwise (fun y z => cLt (gOv z) (gOv y) = false) → Same H H' → StAt D H' q .non → MtAt D H' q (.ref m) → H' m = some (.tup (os.map fun o => .str (S (left R o.1)))) → Q (.ref q) H'
/-! ### books that are equal -/
def spBookEq (K : PySem.W.Frag) (C : Addr) : Sp := fun vs H Q _ => ∃ (p q : Addr) (sg su : List Nat) (R N : List Rule), vs = [.ref p, .ref q] ∧ BookAt K C H p sg R ∧ BookAt K C H q su N ∧ RChars R ∧ RChars N ∧ Q (.bl (decide (sg = su ∧ R = N))) H
theorem eqv_rules : ∀ (R N : List Rule), PyData.eqvAll (R.map rD) (N.map rD) = decide (R = N)
  | [], [] => by simp [PyData.eqvAll]
  | [], _ :: _ => by simp [PyData.eqvAll]
  | _ :: _, [] => by simp [PyData.eqvAll]
  | r :: R, n :: N => by
    show (PyData.eqv (rD r) (rD n) && PyData.eqvAll (R.map rD) (N.map rD)) = _
    rw [rD_eqv, eqv_rules R N, Bool.eq_iff_iff]
    simp
theorem c_Book___eq__ (T : TxtC K mg CB CE) : MetC P w K mg base 1 CB "__eq__" (spBookEq K CB) := by
  refine MetC.mk0 T.m_Book___eq__ sc_Book___eq__ (fun vs H Q E h => ?_) (fun f cdv A outer s H vs Q E hr h => ?_)
  · obtain ⟨p, q, sg, su, R, N, rfl, _⟩ := h
    rfl
  · obtain ⟨p, q, sg, su, R, N, rfl, ⟨dx, fs, a, xs, pl, hp, g1, g2, hR, _⟩, ⟨dy, gs, b, ys, pl2, hq, k1, k2, hN, _⟩, cR, cN, k⟩ := h
    have cl := T.k_Book.cl
    refine ⟨_, (pss_one (ps_ret (pe_and (pe_callB (C8.call_isC T.i_Book) (by rfl) T.b_isinstance (by decide +kernel) (pa_cons (pv 1) (pa_cons (pe_glob (v := .ref CB) rfl T.k_Book.mgC rfl) pa_nil))) (pe_and (pe_cmpR op_eq (pe_fld (pv 0) rfl) (pe_fld (pv 1) rfl) (nomark _)) (pe_one (pe_cmpR (op_eqD hr.units) (pe_fld (pv 0) rfl) (pe_fld (pv 1) rfl) (nomark _))))))), ?_⟩
    refine ⟨_, rfl, q, dy, gs, rfl, hq, true, rfl, ?_⟩
    refine iteT ?_
    refine ⟨_, rfl, p, CB, dx, fs, _, rfl, hp, cl, T.n_Book_signs, g1, _, rfl, q, CB, dy, gs, _, rfl, hq, cl, T.n_Book_signs, k1, rfl, _, rfl, ?_⟩
    by_cases hs : sg = su
    · rw [decide_eq_true (by rw [hs])]
      refine iteT ?_
      refine ⟨_, rfl, p, CB, dx, fs, _, rfl, hp, cl, T.n_Book_rules, g2, _, rfl, q, CB, dy, gs, _, rfl, hq, cl, T.n_Book_rules, k2, .tuple (R.map rD), .tuple (N.map rD), .tup hR.sq (dpAll_rules hR.items), .tup hN.sq (dpAll_rules hN.items), ?_, ?_, ?_⟩
      · exact shaped_tup cR
      · exact shaped_tup cN
      · have e : PyData.eqv (.tuple (R.map rD)) (.tuple (N.map rD)) = decide (sg = su ∧ R = N) := by
          show PyData.eqvAll _ _ = _
          rw [eqv_rules]
          exact decide_eq_decide.mpr ⟨fun z => ⟨hs, z⟩, fun z => z.2⟩
        rw [e]
        exact k
    · rw [decide_eq_false (fun z => hs (S_inj (V.str.inj z)))]
      refine iteF ?_
      rw [decide_eq_false (fun z => hs z.1)] at k
      exact k
end
end Sh
set_option Elab.async false
set_option linter.all false
set_option maxRecDepth 100000
set_option maxHeartbeats 4000000
namespace Sh
open PySem PySem.Spec PyProof.Rows L2
open SX (S S_inj S_len S_cat)
open Bk (Rule firstAt lg bestUp used left drain pushS Wf quarrel Meets keyLt IsDue lrules MinRed Ins Asc)
local macro_rules | `(tactic| walk_at "nx") => `(tactic| repeat (with_reducible first | refine Sh.gn_mk ?_ | refine Sh.nx_mk ?_ | refine Sh.st_nx ?_ | refine Sh.rt_mk ?_ | refine Sh.ct_mk ?_ | refine Sh.bk_mk ?_))
local macro_rules | `(tactic| walk_at "sq") => `(tactic| first | exact SqL.of upd_same | exact SqT.of upd_same | exact SqL.of (by assumption) | exact SqT.of (by assumption) | assumption | exact Or.inl (SqL.of (by assumption)) | exact Or.inr (SqT.of (by assumption)) | exact Or.inl (by assumption) | exact Or.inr (by assumption))
local macro_rules | `(tactic| walk_at "hp") => `(tactic| first | exact upd_same | assumption)
local macro_rules | `(tactic| walk_at "sz") => `(tactic| first | exact Nat.le_of_ble_eq_true rfl | omega)
local macro_rules | `(tactic| walk_at "sd") => `(tactic| first | omega | exact rfl | assumption | (show (0 : Int) < _; omega) | exact And.intro (by omega) (by omega) | exact Or.inl (And.intro (by omega) (by omega)) | exact Or.inr (And.intro (by omega) (by omega)) | omega | exact Sh.sz_S (by omega) | decide)
local macro_rules | `(tactic| walk_at "rd1") => `(tactic| first
  | (with_reducible first | refine Sh.gn_mk ?_ | refine Sh.nx_mk ?_ | refine Sh.st_nx ?_ | refine Sh.rt_mk ?_ | refine Sh.ct_mk ?_ | refine Sh.bk_mk ?_)
  | refine Exists.intro (α := V) _ (And.intro rfl ?_)
  | refine Exists.intro (α := Bool) _ (And.intro rfl ?_)
  | refine Exists.intro (α := Int) _ (And.intro rfl ?_)
  | refine Exists.intro (α := PySem.Str) _ (And.intro rfl ?_)
  | refine Exists.intro (α := Int) _ (Exists.intro (α := Int) _ (And.intro rfl (And.intro rfl ?_)))
  | refine Exists.intro (α := PySem.Str) _ (Exists.intro (α := PySem.Str) _ (And.intro rfl (And.intro rfl ?_)))
  | refine Exists.intro (α := Int) _ (Exists.intro (α := Int) _ (And.intro rfl ?_))
  | refine Or.inl (Exists.intro (α := Int) _ (And.intro rfl ?_))
  | refine Exists.intro _ (Exists.intro _ (Exists.intro _ (Exists.intro _ (And.intro rfl (And.intro rfl (And.intro (by walk_at "sq") (And.intro rfl ?_)))))))
  | refine Exists.intro _ (Exists.intro _ (Exists.intro _ (Exists.intro _ (And.intro rfl (And.intro rfl (And.intro (by walk_at "hp") (And.intro rfl ?_)))))))
  | refine And.intro (by walk_at "sd") ?_
  )
local macro_rules | `(tactic| walk_at "rd") => `(tactic| repeat walk_at "rd1")
local macro_rules | `(tactic| walk_at "lk") => `(tactic| first | exact rfl | (rw [lookup_putF, if_pos rfl]) | (rw [lookup_putF, if_neg (by decide +kernel)]; walk_at "lk"))

theorem reach_charsB {sg : List Nat} {R : List Rule} (h : ∀ r ∈ R, RuleOk sg 4 r) {t u : List Nat} (s : Bk.Reach R t u) : (∀ c ∈ t, c ∈ sg) → ∀ c ∈ u, c ∈ sg := by
  induction s with
  | refl => exact id
  | step x _ ih =>
    intro ht
    refine ih ?_
    cases x with
    | mk x y r hr =>
      intro c hc
      rcases List.mem_append.mp hc with z | z
      · rcases List.mem_append.mp z with z | z
        · exact ht c (List.mem_append_left _ (List.mem_append_left _ z))
        · exact (h r hr).2.2.2.1 c z
      · exact ht c (List.mem_append_right _ z)
/-! ### a dict whose keys are texts -/
def setK (ls : List (List Nat)) : List (Key × V) := ls.map fun l => ((Sum.inr (S l) : Key), V.bl true)
theorem setK_val (ls : List (List Nat)) (l : List Nat) : valV (setK ls) (Sum.inr (S l) : Key) = if l ∈ ls then some (.bl true) else none := by
  induction ls with
  | nil => rfl
  | cons x ls ih =>
    by_cases e : x = l
    · subst e
      rw [if_pos List.mem_cons_self]
      exact valV_pos (p := ((Sum.inr (S x) : Key), V.bl true)) rfl
    · have e2 : ¬ (Sum.inr (S x) : Key) = Sum.inr (S l) := fun z => e (S_inj (Sum.inr.inj z))
      have : valV (setK (x :: ls)) (Sum.inr (S l) : Key) = valV (setK ls) (Sum.inr (S l) : Key) := valV_neg (p := ((Sum.inr (S x) : Key), V.bl true)) e2
      rw [this, ih]
      by_cases m : l ∈ ls
      · rw [if_pos m, if_pos (List.mem_cons_of_mem _ m)]
      · rw [if_neg m, if_neg (fun z => (List.mem_cons.mp z).elim (fun q => e q.symm) m)]
def addL (ls : List (List Nat)) (l : List Nat) : List (List Nat) := if l ∈ ls then ls else ls ++ [l]
theorem setK_put (ls : List (List Nat)) (l : List Nat) : putK (setK ls) (Sum.inr (S l) : Key) (.bl true) = setK (addL ls l) := by
  unfold addL
  by_cases m : l ∈ ls
  · rw [if_pos m]
    unfold putK
    have h := setK_val ls l
    rw [if_pos m] at h
    rw [valV_any, h]
    rw [if_pos (show (some (V.bl true)).isSome = true from rfl)]
    unfold setK
    rw [List.map_map]
    refine List.map_congr_left fun x _ => ?_
    show (if (Sum.inr (S x) : Key) = Sum.inr (S l) then ((Sum.inr (S x) : Key), V.bl true) else ((Sum.inr (S x) : Key), V.bl true)) = _
    split <;> rfl
  · rw [if_neg m, putK_new _ (by rw [setK_val, if_neg m])]
    unfold setK
    rw [List.map_append]
    rfl
def dl (R : List Rule) : List (List Nat) := R.foldl (fun ls r => addL ls r.1) []
theorem dl_snoc (R : List Rule) (r : Rule) : dl (R ++ [r]) = addL (dl R) r.1 := by
  unfold dl
  rw [List.foldl_append]
  rfl
theorem mem_addL {ls : List (List Nat)} {l x : List Nat} : x ∈ addL ls l ↔ x ∈ ls ∨ x = l := by
  unfold addL
  split
  · next h => exact ⟨.inl, fun z => z.elim id fun e => e ▸ h⟩
  · simp
theorem addL_nodup {ls : List (List Nat)} {l : List Nat} (h : ls.Nodup) : (addL ls l).Nodup := by
  unfold addL
  split
  · exact h
  · next hn =>
    rw [List.nodup_append]
    refine ⟨h, by simp, fun x hx y hy => ?_⟩
    have : y = l := by simpa using hy
    subst this
    intro e
    exact hn (e ▸ hx)
theorem addL_len (ls : List (List Nat)) (l : List Nat) : (addL ls l).length ≤ ls.length + 1 := by
  unfold addL
  split <;> simp
theorem dl_all (R : List Rule) : (dl R).Nodup ∧ (dl R).length ≤ R.length ∧ ∀ l, l ∈ dl R ↔ ∃ r ∈ R, r.1 = l := by
  have key : ∀ n, ∀ R : List Rule, R.length = n → (dl R).Nodup ∧ (dl R).length ≤ R.length ∧ ∀ l, l ∈ dl R ↔ ∃ r ∈ R, r.1 = l := by
    intro n
    induction n with
    | zero =>
      intro R h
      have : R = [] := List.eq_nil_of_length_eq_zero h
      subst this
      exact ⟨List.nodup_nil, Nat.le_refl _, fun l => ⟨fun z => (by cases z), fun ⟨r, hr, _⟩ => (by cases hr)⟩⟩
    | succ n ih =>
      intro R h
      obtain ⟨R0, r, rfl⟩ : ∃ R0 r, R = R0 ++ [r] := ⟨R.dropLast, R.getLast (by intro e; rw [e] at h; cases h), (List.dropLast_concat_getLast _).symm⟩
      obtain ⟨h1, h2, h3⟩ := ih R0 (by simp at h; exact h)
      rw [dl_snoc]
      refine ⟨addL_nodup h1, ?_, fun l => ?_⟩
      · have := addL_len (dl R0) r.1
        simp
        omega
      · rw [mem_addL, h3]
        constructor
        · rintro (⟨q, hq, e⟩ | e)
          · exact ⟨q, List.mem_append_left _ hq, e⟩
          · exact ⟨r, by simp, e.symm⟩
        · rintro ⟨q, hq, e⟩
          rcases List.mem_append.mp hq with z | z
          · exact .inl ⟨q, z, e⟩
          · have : q = r := by simpa using z
            subst this
            exact .inr e.symm
  exact key _ R rfl
/-- a proper piece of l is among them -/
def insB (ls : List (List Nat)) (l : List Nat) : Bool := (List.range l.length).any fun s => (List.range (l.length - s)).any fun d => decide (d + 1 < l.length) && decide ((l.drop s).take (d + 1) ∈ ls)
theorem insB_iff {R : List Rule} (hw : Wf R) {l : List Nat} : insB (dl R) l = true ↔ Ins R l := by
  unfold insB Ins
  simp only [List.any_eq_true, List.mem_range, Bool.and_eq_true, decide_eq_true_eq]
  constructor
  · rintro ⟨s, hs, d, hd, h1, h2⟩
    obtain ⟨r, hr, e⟩ := ((dl_all R).2.2 _).mp h2
    refine ⟨l.take s, (l.drop s).take (d + 1), l.drop (s + (d + 1)), ?_, ?_, r, hr, e⟩
    · rw [List.append_assoc, ← List.drop_drop, List.take_append_drop, List.take_append_drop]
    · intro z
      have := congrArg List.length z
      simp at this
      omega
  · rintro ⟨x, m, y, e, hm, r, hr, er⟩
    have hl := congrArg List.length e
    simp at hl
    have hm1 : 1 ≤ m.length := by
      have := (hw r hr).1
      rw [er] at this
      omega
    have hlt : m.length < l.length := by
      rcases Nat.lt_or_ge m.length l.length with q | q
      · exact q
      · exfalso
        have : x = [] ∧ y = [] := by
          refine ⟨?_, ?_⟩ <;> (apply List.eq_nil_of_length_eq_zero; omega)
        obtain ⟨rfl, rfl⟩ := this
        exact hm (by simpa using e.symm)
    refine ⟨x.length, by omega, m.length - 1, by omega, by omega, ?_⟩
    rw [show m.length - 1 + 1 = m.length by omega]
    have : (l.drop x.length).take m.length = m := by
      rw [e, List.append_assoc, List.drop_left, List.take_left]
    rw [this]
    exact ((dl_all R).2.2 m).mpr ⟨r, hr, er⟩
/-! ### what texts are sorted by -/
def gKey (l : List Nat) : List V := [.int (l.length : Nat), .str (S l)]
theorem gKey_same (a b : List Nat) : sameKs (gKey a) (gKey b) = true := rfl
theorem gKey_head (a : List Nat) : Head "int" (gKey a) := ⟨_, _, rfl, .int _⟩
theorem gKey_lt (a b : List Nat) : cLt (gKey a) (gKey b) = keyLt a b := by
  rw [← tup_cLt (gKey_same a b)]
  exact key_lt a b
theorem keyLt_tot {a b : List Nat} (h : keyLt b a = false) (n : a ≠ b) : keyLt a b = true := by
  unfold keyLt at *
  by_cases e : b.length = a.length
  · rw [if_pos e] at h
    rw [if_pos e.symm]
    have h' := of_decide_eq_false h
    refine decide_eq_true ?_
    refine Classical.byContradiction fun z => n ?_
    exact List.le_antisymm (List.not_lt.mp h') (List.not_lt.mp z)
  · rw [if_neg e] at h
    rw [if_neg (Ne.symm e)]
    have h' := of_decide_eq_false h
    exact decide_eq_true (by omega)
theorem asc_of {l : List (List Nat)} (nd : l.Nodup) (h : l.Pairwise fun y z => cLt (gKey z) (gKey y) = false) : Asc l := by
  have h2 : l.Pairwise fun y z => y ≠ z ∧ cLt (gKey z) (gKey y) = false := List.pairwise_and_iff.mpr ⟨nd, h⟩
  refine h2.imp fun {a b} ⟨n, c⟩ => ?_
  rw [gKey_lt] at c
  exact keyLt_tot c n
/-- the left sides that are kept, sorted -/
theorem due_of {R : List Rule} (hw : Wf R) {ds : List (List Nat)} (p : ds.Perm ((dl R).filter fun l => !insB (dl R) l)) (h : ds.Pairwise fun y z => cLt (gKey z) (gKey y) = false) : IsDue R ds := by
  refine ⟨asc_of (p.nodup_iff.mpr ((dl_all R).1.filter _)) h, fun l => ?_⟩
  rw [p.mem_iff, List.mem_filter, (dl_all R).2.2, ← Bk.minRed_iff, ← insB_iff hw]
  simp
section
variable {P : Program} {w : World} {K : PySem.W.Frag} {mg : Str → Option Value} {base : Heap} {CB CE : Addr}
/-- a comprehension over such a dict -/
theorem lc_setK {d : Addr} {o : Obj} {ls : List (List Nat)} {g : TG} {tt : TT} {te : TE} {vs : List Nat} {σ : L2.St} {H1 : Hp} {D : Addr} {Qd : Hp → Prop}
    (Pv : List (List Nat) → Hp → Prop) (h0 : Pv [] (upd H1 D (.lst []))) (hG : ∀ pre H, Pv pre H → H d = some (.frz o (.dK (setK ls))))
    (hs : ∀ pre k post H, ls = pre ++ k :: post → Pv pre H → g (.str (S k)) (wipe σ vs) H fun σ2 H2 => wipe σ2 vs = wipe σ vs ∧ tt σ2 H2 fun b H3 =>
      if b = true then te σ2 H3 fun y' H4 => ∃ acc, H4 D = some (.lst acc) ∧ acc.length < sizeLine ∧ Pv (pre ++ [k]) (upd H4 D (.lst (acc ++ [y']))) else Pv (pre ++ [k]) H3) (hd : ∀ H, Pv ls H → Qd H) :
    ∃ W : Nat → Nat → Hp → Prop, (∃ m, W 0 m (upd H1 D (.lst []))) ∧ ∀ i m H, W i m H →
      ((Itk d o (setK ls)).stop i H ∧ Qd H) ∨ ((Itk d o (setK ls)).go i H ∧ ∃ Nx : Hp → Prop, (∀ H', Nx H' → ∃ m', m' < m ∧ W (i + 1) m' H') ∧ ∀ x H', (Itk d o (setK ls)).yld i H x H' → g x (wipe σ vs) H' fun σ2 H2 => wipe σ2 vs = wipe σ vs ∧ tt σ2 H2 fun b H3 =>
        if b = true then te σ2 H3 fun y H4 => ∃ acc, H4 D = some (.lst acc) ∧ acc.length < sizeLine ∧ Nx (upd H4 D (.lst (acc ++ [y]))) else Nx H3) := by
  have w := walk_keys (d := d) (o := o) (kvs := setK ls)
  refine lc_it w (fun i H => Pv (ls.take i) H) (by simpa using h0) (fun i H _ p => hG _ H p) (fun i x H H' hi p y => ?_) (fun H p => hd H (by rw [List.take_of_length_le (by simp [setK])] at p; exact p))
  obtain ⟨rfl, k, v, hk, rfl⟩ := y
  unfold setK at hk
  rw [List.getElem?_map] at hk
  cases hl : ls[i]? with
  | none => rw [hl] at hk; cases hk
  | some l =>
    rw [hl] at hk
    cases hk
    obtain ⟨e1, e2⟩ := take_succ_of hl
    have q := hs _ l _ H' e2 p
    rw [← e1] at q
    exact q
theorem lc_lst {α : Type} {f : α → V} {l : List α} {a : Addr} {g : TG} {tt : TT} {te : TE} {vs : List Nat} {σ : L2.St} {H1 : Hp} {D : Addr} {Qd : Hp → Prop}
    (Pv : List α → Hp → Prop) (h0 : Pv [] (upd H1 D (.lst []))) (hG : ∀ pre H, Pv pre H → SqL K H a (l.map f))
    (hs : ∀ pre x post H, l = pre ++ x :: post → Pv pre H → g (f x) (wipe σ vs) H fun σ2 H2 => wipe σ2 vs = wipe σ vs ∧ tt σ2 H2 fun b H3 =>
      if b = true then te σ2 H3 fun y' H4 => ∃ acc, H4 D = some (.lst acc) ∧ acc.length < sizeLine ∧ Pv (pre ++ [x]) (upd H4 D (.lst (acc ++ [y']))) else Pv (pre ++ [x]) H3) (hd : ∀ H, Pv l H → Qd H) :
    ∃ W : Nat → Nat → Hp → Prop, (∃ m, W 0 m (upd H1 D (.lst []))) ∧ ∀ i m H, W i m H →
      ((Itl K a).stop i H ∧ Qd H) ∨ ((Itl K a).go i H ∧ ∃ Nx : Hp → Prop, (∀ H', Nx H' → ∃ m', m' < m ∧ W (i + 1) m' H') ∧ ∀ x H', (Itl K a).yld i H x H' → g x (wipe σ vs) H' fun σ2 H2 => wipe σ2 vs = wipe σ vs ∧ tt σ2 H2 fun b H3 =>
        if b = true then te σ2 H3 fun y H4 => ∃ acc, H4 D = some (.lst acc) ∧ acc.length < sizeLine ∧ Nx (upd H4 D (.lst (acc ++ [y]))) else Nx H3) := by
  have w := walk_list (K := K) (a := a) (xs := l.map f)
  rw [List.length_map] at w
  refine lc_pre w (fun x v _ => v = f x) (fun i H x H' hi _ y => rList i H x H' hi trivial y) Pv h0 hG (fun pre x post v H e r p => ?_) hd
  subst r
  exact hs pre x post H e p
def spInside : Sp := fun vs H Q _ => ∃ (p : Addr) (ls : List (List Nat)) (l : List Nat), vs = [.ref p, .str (S l)] ∧ Rd H p (.dK (setK ls)) ∧ l.length ≤ 8 ∧ Q (.bl (insB ls l)) H
theorem insB_false {ls : List (List Nat)} {l : List Nat} : insB ls l = false ↔ ∀ s d, s + d + 1 ≤ l.length → d + 1 < l.length → (l.drop s).take (d + 1) ∉ ls := by
  unfold insB
  simp only [List.any_eq_false, List.mem_range, Bool.not_eq_true, Bool.and_eq_false_iff, decide_eq_false_iff_not, List.any_eq_false]
  constructor
  · intro h s d h1 h2 h3
    rcases h s (by omega) d (by omega) with z | z
    · exact z h2
    · exact z h3
  · intro h s hs d hd
    by_cases c : d + 1 < l.length
    · exact .inr (h s d (by omega) c)
    · exact .inl c
theorem insB_true {ls : List (List Nat)} {l : List Nat} {s d : Nat} (h1 : s + d + 1 ≤ l.length) (h2 : d + 1 < l.length) (h3 : (l.drop s).take (d + 1) ∈ ls) : insB ls l = true := by
  cases e : insB ls l with
  | true => rfl
  | false => exact absurd h3 (insB_false.mp e s d h1 h2)
theorem c_has_left_inside (T : Txt K mg) : Cal P w K mg base CX0 1 "has_left_inside" spInside := by
  refine Cal.mk0 T.d_has_left_inside sc_has_left_inside (fun vs H Q E h => ?_) (fun f cdv A outer s H vs Q E hr h => ?_)
  · obtain ⟨p, ls, l, rfl, _⟩ := h
    rfl
  · obtain ⟨p, ls, l, rfl, hD, hl, k⟩ := h
    have hu := hu_of hr
    have hSl := S_len l
    refine ⟨_, (pss_cons (ps_for PassesOwn.never rfl (pi_range1 (by rfl) T.b_range (pa_cons (pe_callB call_len_str (by rfl) T.b_len (by decide +kernel) (pa_cons (pv 1) pa_nil)) pa_nil)) (pg_name (i := 2) sc_has_left_inside.nd rfl (Or.inl rfl))
    (pss_one (ps_for PassesOwn.never rfl (pi_range2 (by rfl) T.b_range (pa_cons (pe_op op_add (pv 2) pe_int) (pa_cons (pe_op op_add (pe_callB call_len_str (by rfl) T.b_len (by decide +kernel) (pa_cons (pv 1) pa_nil)) pe_int) pa_nil))) (pg_name (i := 3) sc_has_left_inside.nd rfl (Or.inl rfl))
      (pss_one (ps_if (PW.pt (pw_and (pt_cmpR op_lt (pe_op op_sub (pv 3) (pv 2)) (pe_callB call_len_str (by rfl) T.b_len (by decide +kernel) (pa_cons (pv 1) pa_nil)) (nomark _)) (pw_and1 (pt_cmp (pc_din hu (pe_slice sl_str (pv 1) (po_some (pv 2)) (po_some (pv 3))) (pv 0))))))
        (pss_one (ps_ret pe_bl))
        pss_nil)))))
  (pss_one (ps_ret pe_bl))), ?_⟩
    walk_at "rd"
    refine for_range (lo := 0) (n := (((S l).length : Int)).toNat) (fun i σ H2 => ∃ (v2 v3 : Option V), σ = [some (.ref p), some (.str (S l)), v2, v3] ∧ H2 = H ∧ ∀ s d, s < i → s + d + 1 ≤ l.length → d + 1 < l.length → (l.drop s).take (d + 1) ∉ ls)
      ⟨_, _, rfl, rfl, fun s d h => (by omega)⟩ ?_ ?_
    · rintro i σ H2 hi ⟨v2, v3, rfl, rfl, hn⟩
      rw [Int.zero_add]
      walk_at "rd"
      refine for_range (lo := ((i : Nat) : Int) + 1) (n := ((((S l).length : Nat) : Int) + 1 - (((i : Nat) : Int) + 1)).toNat) (fun j σ H3 => ∃ (v3 : Option V), σ = [some (.ref p), some (.str (S l)), some (.int (i : Nat)), v3] ∧ H3 = H2 ∧ ∀ d, d < j → d + 1 < l.length → (l.drop i).take (d + 1) ∉ ls)
        ⟨_, rfl, rfl, fun d h => (by omega)⟩ ?_ ?_
      · rintro j σ H3 hj ⟨v3, rfl, rfl, hm⟩
        have hj2 : i + j + 1 ≤ l.length := by omega
        walk_at "nx"
        refine if_K (decide (j + 1 < l.length) && decide ((l.drop i).take (j + 1) ∈ ls)) (fun Q' hQ => ?_) (fun hb => ?_) (fun hb => ?_)
        · walk_at "rd"
          by_cases c : j + 1 < l.length
          · rw [decide_eq_true c, Bool.true_and] at hQ
            rw [decide_eq_true (show ((i : Nat) : Int) + 1 + (j : Nat) - (i : Nat) < ((S l).length : Nat) by rw [hSl]; omega)]
            refine iteT ?_
            refine ⟨_, rfl, _, rfl, _, rfl, _, rfl, _, rfl, _, rfl, sz_S (t := l) (by omega), ?_⟩
            rw [cut_mid (by omega) (by omega), show ((i : Nat) : Int).toNat = i by omega, show (((i : Nat) : Int) + 1 + (j : Nat)).toNat - i = j + 1 by omega]
            refine ⟨_, rfl, p, _, rfl, .inl ⟨_, (Sum.inr (S ((l.drop i).take (j + 1))) : Key), hD, rfl, rfl⟩, _, rfl, ?_⟩
            rw [setK_val]
            by_cases m : (l.drop i).take (j + 1) ∈ ls
            · rw [if_pos m]
              rw [decide_eq_true m] at hQ
              exact hQ
            · rw [if_neg m]
              rw [decide_eq_false m] at hQ
              exact hQ
          · rw [decide_eq_false c, Bool.false_and] at hQ
            rw [decide_eq_false (show ¬ ((i : Nat) : Int) + 1 + (j : Nat) - (i : Nat) < ((S l).length : Nat) by rw [hSl]; omega)]
            refine iteF ?_
            exact hQ
        · rw [Bool.and_eq_true, decide_eq_true_eq, decide_eq_true_eq] at hb
          walk_at "rd"
          have := insB_true hj2 hb.1 hb.2
          rw [this] at k
          exact k
        · walk_at "nx"
          refine ⟨_, rfl, rfl, fun d hd h1 => ?_⟩
          by_cases e : d = j
          · subst e
            rw [decide_eq_true h1, Bool.true_and] at hb
            exact of_decide_eq_false hb
          · exact hm d (by omega) h1
      · rintro σ H3 ⟨v3, rfl, rfl, hm⟩
        walk_at "nx"
        refine ⟨_, _, rfl, rfl, fun s d hs h1 h2 => ?_⟩
        by_cases e : s = i
        · subst e
          exact hm d (by omega) h2
        · exact hn s d (by omega) h1 h2
    · rintro σ H2 ⟨v2, v3, rfl, rfl, hn⟩
      walk_at "rd"
      have : insB ls l = false := insB_false.mpr fun s d h1 h2 => hn s d (by omega) h1 h2
      rw [this] at k
      exact k
def spLeastRules (K : PySem.W.Frag) (C : Addr) : Sp := fun vs H Q _ => ∃ (p : Addr) (sg : List Nat) (R : List Rule), vs = [.ref p] ∧ BookAt K C H p sg R ∧ BookOk sg R ∧
  ∀ (q : Addr) (ys : List V) (ds : List (List Nat)) (H' : Hp), IsDue R ds → ds.length ≤ R.length → Same H H' → RulesAt K H' q ys (lrules R ds) → Q (.ref q) H'
theorem c_least_rules (T : TxtC K mg CB CE) : Cal P w K mg base CX0 4 "least_rules" (spLeastRules K CB) := by
  have c_text_key := c_text_key (P := P) (w := w) (base := base) T.toTxt
  have c_rest_of := c_rest_of (P := P) (w := w) (base := base) T
  have c_has_left_inside := c_has_left_inside (P := P) (w := w) (base := base) T.toTxt
  refine Cal.mk0 T.d_least_rules sc_least_rules (fun vs H Q E h => ?_) (fun f cdv A outer s H vs Q E hr h => ?_)
  · obtain ⟨p, sg, R, rfl, _⟩ := h
    rfl
  · obtain ⟨p, sg, R, rfl, B, hB, k⟩ := h
    obtain ⟨dx, fs, a, xs, pl, hp, g1, g2, hR, _⟩ := id B
    have cl := T.k_Book.cl
    have hw := hB.wf
    have hl := hB.2.1
    have h4 : ∀ r ∈ R, r.1.length ≤ 4 := fun r m => (hB.2.2.1 r m).2.1
    obtain ⟨dn, dlen, dm⟩ := dl_all R
    have d4 : ∀ l ∈ dl R, l.length ≤ 4 := fun l m => by
      obtain ⟨r, hr, e⟩ := (dm l).mp m
      rw [← e]
      exact h4 r hr
    refine ⟨_, (pss_cons (ps_set (i := 1) sc_least_rules.nd rfl (Or.inr rfl) (pe_dc (own := [("rule", 3)]) (g := gName 3) (tt := tYes) rfl sc_least_rules.nd (pi_tup (pe_fld (pv 0) rfl)) (blkOk_by (N := ["book", "lefts", "kept", "rule", "left", "key"]) (sc := defScope s_least_rules) (by decide +kernel)) (fun _ _ _ _ _ => (pg_name (i := 3) sc_least_rules.nd rfl (Or.inl rfl))) (fun _ _ _ _ _ => pts_nil) (fun _ _ _ _ _ => (pe_ix ix_tupB (pv 3) pe_int (fun _ _ => rfl))) (fun _ _ _ _ _ => pe_bl)))
  (pss_cons (ps_set (i := 2) sc_least_rules.nd rfl (Or.inl rfl) (pe_callB cr_sortM (by rfl) T.b_sorted (by decide +kernel) (pa_cons (pe_lock (pe_lc (own := [("left", 4)]) (g := gName 4) rfl sc_least_rules.nd (pi_keys (pv 1)) (blkOk_by (N := ["book", "lefts", "kept", "rule", "left", "key"]) (sc := defScope s_least_rules) (by decide +kernel)) (fun _ _ _ _ _ => (pg_name (i := 4) sc_least_rules.nd rfl (Or.inl rfl))) (fun _ _ _ _ _ => (pts_one (pt_not (pt_val (pe_c c_has_left_inside hr (by decide) rfl (pa_cons (pv 1) (pa_cons (pv 4) pa_nil))))))) (fun _ _ _ _ _ => (pe_c c_text_key hr (by decide) rfl (pa_cons (pv 4) pa_nil))))) pa_nil)))
  (pss_one (ps_ret (pe_callTy call_tuple_of (by rfl) T.b_tuple (by decide +kernel) (pa_cons (pe_lc (own := [("key", 5)]) (g := gName 5) (tt := tYes) rfl sc_least_rules.nd (pi_list (pv 2)) (blkOk_by (N := ["book", "lefts", "kept", "rule", "left", "key"]) (sc := defScope s_least_rules) (by decide +kernel)) (fun _ _ _ _ _ => (pg_name (i := 5) sc_least_rules.nd rfl (Or.inl rfl))) (fun _ _ _ _ _ => pts_nil) (fun _ _ _ _ _ => (pe_tup (pa_cons (pe_ix ix_tupB (pv 5) pe_int (fun _ _ => rfl)) (pa_cons (pe_c c_rest_of hr (by decide) rfl (pa_cons (pv 0) (pa_cons (pe_ix ix_tupB (pv 5) pe_int (fun _ _ => rfl)) pa_nil))) pa_nil))))) pa_nil)))))), ?_⟩
    refine ⟨_, rfl, p, CB, dx, fs, _, rfl, hp, cl, T.n_Book_rules, g2, a, rfl, ⟨_, hR.sq⟩, fun D hD => dc_tupR (K := K) (a := a) (xs := xs) (l := R) (Rel := RItem K) hR.len (fun pre H3 => H3 D = some (.dK (setK (dl pre))) ∧ Same H H3) ⟨upd_same, same_new hD⟩
      (fun pre H3 ⟨_, s3⟩ => ⟨(hR.same s3).sq, (hR.same s3).it⟩) ?_ ?_⟩
    · rintro pre r post x H3 e hx ⟨q, rfl, sq⟩ ⟨h3, s3⟩
      have hpl : pre.length + 1 ≤ 64 := by
        have := congrArg List.length e
        simp at this
        omega
      refine ⟨rfl, ty_T ?_⟩
      refine ⟨_, rfl, q, _, 0, .str (S r.1), rfl, rfl, sq, rfl, ?_⟩
      refine ⟨setK (dl pre), (Sum.inr (S r.1) : Key), rfl, h3, ?_, ?_, same_mut s3 hD⟩
      · have := (dl_all pre).2.1
        unfold setK
        rw [List.length_map]
        exact Nat.lt_of_le_of_lt (m := 64) (by omega) (by decide)
      · rw [upd_same, setK_put, dl_snoc]
    · rintro H2 ⟨h2, s2⟩
      walk_at "nx"
      refine ⟨D, _, h2, trivial, fun od => ?_⟩
      have hfz : (upd H2 D (.frz od (.dK (setK (dl R))))) D = some (.frz od (.dK (setK (dl R)))) := upd_same
      refine ⟨_, rfl, D, od, rfl, .inl ⟨_, hfz, fun D3 hD3 => lc_setK (d := D) (o := od) (ls := dl R) (fun pre H3 => ∃ acc, H3 D3 = some (.lst acc) ∧ Items (TupAt gKey) H3 acc (pre.filter fun l => !insB (dl R) l) ∧ Same (upd H2 D (.frz od (.dK (setK (dl R))))) H3) ⟨[], upd_same, Items.nil, same_new hD3⟩
        (fun pre H3 ⟨_, _, _, s3⟩ => s3 _ _ hfz) ?_ ?_⟩⟩
      · rintro pre l post H3 e ⟨acc, h3, ita, s3⟩
        have hl4 := d4 l (by rw [e]; simp)
        have hpl : pre.length + 1 ≤ 64 := by
          have := congrArg List.length e
          simp at this
          omega
        refine ⟨rfl, ?_⟩
        refine ⟨_, rfl, _, rfl, D, dl R, l, rfl, .inr ⟨od, s3 _ _ hfz⟩, by omega, _, rfl, ?_⟩
        rw [List.filter_append]
        cases hi : insB (dl R) l with
        | true =>
          refine iteF ?_
          refine ⟨acc, h3, ?_, s3⟩
          rw [show ([l].filter fun l => !insB (dl R) l) = [] by simp [hi], List.append_nil]
          exact ita
        | false =>
          refine iteT ?_
          refine ⟨_, rfl, l, rfl, by omega, fun pt hpt => ?_⟩
          have s4 := same_new (o := .tup [.int (l.length : Nat), .str (S l)]) hpt
          have hne : ∀ q0 ks, (upd H3 pt (.tup [.int (l.length : Nat), .str (S l)])) q0 = some (.tup ks) → ∀ acc', upd (upd H3 pt (.tup [.int (l.length : Nat), .str (S l)])) D3 (.lst acc') q0 = some (.tup ks) := fun q0 ks e0 acc' => by
            rw [upd_ne (ne_of e0 (s4 _ _ h3) (by intro z; cases z))]
            exact e0
          have hal : acc.length ≤ pre.length := by rw [ita.1]; exact List.length_filter_le _ _
          refine ⟨_, s4 _ _ h3, Nat.lt_of_le_of_lt (m := 64) (by omega) (by decide), _, upd_same, ?_, same_mut (s3.trans s4) hD3⟩
          rw [show ([l].filter fun l => !insB (dl R) l) = [l] by simp [hi]]
          exact ita.snoc (fun x y ⟨q0, e0, h0⟩ => ⟨q0, e0, hne q0 _ (s4 _ _ h0) _⟩) ⟨pt, rfl, hne pt _ upd_same _⟩
      · rintro H3 ⟨acc, h3, ita, s3⟩
        refine ⟨s3 _ _ hfz, ?_⟩
        have nD : D3 ≠ D := fun z => by rw [z, hfz] at hD3; cases hD3
        -- the dict is let go
        have s4 : Same H (upd H3 D (.dK (setK (dl R)))) := fun b o e => by
          have nb : b ≠ D := ne_of_none e hD
          rw [upd_ne nb]
          refine s3 _ _ ?_
          rw [upd_ne nb]
          exact s2 _ _ e
        have h34 : (upd H3 D (.dK (setK (dl R)))) D3 = some (.lst acc) := by rw [upd_ne nD]; exact h3
        have it4 : Items (TupAt gKey) (upd H3 D (.dK (setK (dl R)))) acc ((dl R).filter fun l => !insB (dl R) l) := ita.mono fun x y ⟨q0, e0, h0⟩ => ⟨q0, e0, by
          rw [upd_ne (ne_of h0 (s3 _ _ hfz) (by intro z; cases z))]
          exact h0⟩
        generalize upd H3 D (.dK (setK (dl R))) = H4 at s4 h34 it4 ⊢
        refine ⟨List Nat, gKey, "int", D3, acc, _, rfl, SqL.of h34, it4, fun o _ => gKey_head o, fun o _ u _ => gKey_same o u, fun ds ys2 ps H5 pm po hps s5 hps5 it5 => ?_⟩
        have hdue := due_of hw pm po
        have hdl : ds.length ≤ R.length := by
          rw [pm.length_eq]
          exact Nat.le_trans (List.length_filter_le _ _) dlen
        have s05 := s4.trans s5
        walk_at "nx"
        refine ⟨_, rfl, ps, rfl, ⟨_, SqL.of hps5⟩, fun D2 hD2 => lc_lstR (K := K) (a := ps) (xs := ys2) (l := ds) (Rel := TupAt gKey) it5.1 (fun pre H6 => ∃ acc, H6 D2 = some (.lst acc) ∧ Items (RItem K) H6 acc (lrules R pre) ∧ Same H5 H6) ⟨[], upd_same, Items.nil, same_new hD2⟩
          (fun pre H6 ⟨_, _, _, s6⟩ => ⟨SqL.of (s6 _ _ hps5), fun i x y h1 h2 => (it5.2 i x y h1 h2).sm s6⟩) ?_ ?_⟩
        · rintro pre l post x H6 e hx ⟨q, rfl, hq⟩ ⟨acc, h6, ita, s6⟩
          have hl4 : l.length ≤ 4 := by
            have : l ∈ (dl R).filter fun l => !insB (dl R) l := pm.mem_iff.mp (by rw [e]; simp)
            exact d4 l (List.mem_filter.mp this).1
          have hpl : pre.length + 1 ≤ 64 := by
            have := congrArg List.length e
            simp at this
            omega
          refine ⟨rfl, ty_T ?_⟩
          refine ⟨_, rfl, q, _, 1, .str (S l), rfl, rfl, SqT.of hq, rfl, _, rfl, _, rfl, q, _, 1, .str (S l), rfl, rfl, SqT.of hq, rfl, p, sg, l, R, rfl, (B.same s05).same s6, hw, by omega, fun H7 s7 => ?_⟩
          refine ⟨by walk_at "sz", fun pt hpt => ?_⟩
          have s8 := s7.trans (same_new (o := .tup [.str (S l), .str (S (left R l))]) hpt)
          have hk : Keep (upd H7 pt (.tup [.str (S l), .str (S (left R l))])) (upd (upd H7 pt (.tup [.str (S l), .str (S (left R l))])) D2 (.lst (acc ++ [.ref pt]))) := Keep.butL but_upd (s8 _ _ h6)
          have hal : acc.length = pre.length := by rw [ita.1]; simp [lrules]
          refine ⟨_, s8 _ _ h6, Nat.lt_of_le_of_lt (m := 64) (by omega) (by decide), _, upd_same, ?_, same_mut (s6.trans s8) hD2⟩
          rw [show lrules R (pre ++ [l]) = lrules R pre ++ [(l, left R l)] by simp [lrules]]
          exact ita.snoc (fun x y h => (h.sm s8).same hk) (RItem.same (H := upd H7 pt (.tup [.str (S l), .str (S (left R l))])) ⟨pt, rfl, SqT.of upd_same⟩ hk)
        · rintro H6 ⟨acc6, h6, it6, s6⟩
          refine ⟨D2, _, rfl, .inl ⟨SqL.of h6, fun l hl => ?_⟩⟩
          have s7 := same_new (o := .tup acc6) hl
          exact k l acc6 ds _ hdue hdl (s05.trans (s6.trans s7)) ⟨SqT.of upd_same, it6.1, fun i x r h1 h2 => (it6.2 i x r h1 h2).sm s7⟩
/-- the least book stands -/
def spLeastBook (K : PySem.W.Frag) (C : Addr) : Sp := fun vs H Q _ => ∃ (p : Addr) (sg : List Nat) (R : List Rule), vs = [.ref p] ∧ BookAt K C H p sg R ∧ BookOk sg R ∧ quarrel R = none ∧
  ∀ (x : Addr) (ds : List (List Nat)) (H' : Hp), IsDue R ds → ds.length ≤ R.length → BookAt K C H' x sg (lrules R ds) → BookOk sg (lrules R ds) → Same H H' → Q (.ref x) H'
theorem lrules_ok {sg : List Nat} {R : List Rule} {ds : List (List Nat)} (hB : BookOk sg R) (hM : Meets R) (d : IsDue R ds) (hl : ds.length ≤ R.length) : BookOk sg (lrules R ds) := by
  have hw := hB.wf
  have wL := Bk.due_wf hw hM d
  refine ⟨hB.1, by unfold lrules; rw [List.length_map]; exact Nat.le_trans hl hB.2.1, fun r hr => ?_, Bk.lrules_nodup d.1⟩
  have w1 := wL r hr
  obtain ⟨l, hl', rfl⟩ := List.mem_map.mp hr
  obtain ⟨q, hq, rfl⟩ := Bk.due_left d hl'
  obtain ⟨o1, o2, o3, o4, o5, o6⟩ := hB.2.2.1 q hq
  exact ⟨o1, o2, o3, reach_charsB hB.2.2.1 (Bk.left_reach q.1) o3, w1.2, w1.1⟩
theorem c_least_book (T : TxtC K mg CB CE) : Cal P w K mg base CX0 6 "least_book" (spLeastBook K CB) := by
  have c_check_settled := c_check_settled (P := P) (w := w) (base := base) T
  have c_Book := c_Book___init__ (P := P) (w := w) (base := base) T
  have c_least_rules := c_least_rules (P := P) (w := w) (base := base) T
  refine Cal.mk0 T.d_least_book sc_least_book (fun vs H Q E h => ?_) (fun f cdv A outer s H vs Q E hr h => ?_)
  · obtain ⟨p, sg, R, rfl, _⟩ := h
    rfl
  · obtain ⟨p, sg, R, rfl, B, hB, hq, k⟩ := h
    obtain ⟨dx, fs, a, xs, pl, hp, g1, g2, hR, _⟩ := id B
    have cl := T.k_Book.cl
    have hM := Bk.meets_of hB.wf hq
    refine ⟨_, (pss_cons (ps_expr (pe_c c_check_settled hr (by decide) rfl (pa_cons (pv 0) pa_nil)))
  (pss_one (ps_ret (pe_mkC T.k_Book c_Book hr (by decide) rfl (pa_cons (pe_fld (pv 0) rfl) (pa_cons (pe_c c_least_rules hr (by decide) rfl (pa_cons (pv 0) pa_nil)) pa_nil)))))), ?_⟩
    refine ⟨_, rfl, p, sg, R, rfl, B, hq, ?_⟩
    walk_at "nx"
    refine ⟨_, rfl, p, CB, dx, fs, _, rfl, hp, cl, T.n_Book_signs, g1, _, rfl, p, sg, R, rfl, B, hB, fun q ys ds H1 hd hdl s1 hL => ?_⟩
    intro x dx2 hx hdx hne
    have s2 : Same H1 (upd (upd H1 dx2 (.own x)) x (.ins CB dx2 [])) := fun b o e => by
      rw [upd_ne (ne_of_none e hx), upd_ne (ne_of_none e hdx)]
      exact e
    refine ⟨x, dx2, q, sg, ys, _, rfl, upd_same, hL.same s2, lrules_ok hB hM hd hdl, fun H6 BL b6 => ⟨rfl, ?_⟩⟩
    have s6 := Same.made hx hdx fun b o e n => b6 b o n e
    exact k x ds H6 hd hdl BL (lrules_ok hB hM hd hdl) (s1.trans s6)
end
end Sh
set_option Elab.async false
set_option linter.all false
set_option maxRecDepth 100000
/-! x in t, items and x data of any depth, t a tuple -/
namespace Sh
open PySem PySem.Spec PyProof.Rows L2
section
variable {X : Cx}
def rInDT (K : PySem.W.Frag) (neg : Bool) : R2 := fun x y H Q => ∃ d ds, Dp K H x d ∧ Dp K H y (.tuple ds) ∧ SeqAt.shaped d = true ∧ SeqAt.shaped (.tuple ds) = true ∧ Q (.bl (if neg then !ds.any fun z => PyData.eqv z d else ds.any fun z => PyData.eqv z d)) H
theorem op_inDT (hu : X.A.units + 65 < cLine) : OpR X (compareOp .In) (rInDT X.K false) := fun pins s σ H x y v u Q I rx ry h =>
  match h with
  | ⟨d, ds, hd, he, sd, se, q⟩ => by
    obtain ⟨as, r1⟩ := Dp.reads I d x v hd rx
    obtain ⟨bs, r2⟩ := Dp.reads I (.tuple ds) y u he ry
    exact SeqAt.in_tuple_reads r2 r1 (SeqAt.canLay_of_shaped se) (SeqAt.canLay_of_shaped sd) (room_in_shaped sd hu) ⟨.bl _, H, I, rfl, q⟩
theorem op_notInDT (hu : X.A.units + 65 < cLine) : OpR X (compareOp .NotIn) (rInDT X.K true) := fun pins s σ H x y v u Q I rx ry h =>
  match h with
  | ⟨d, ds, hd, he, sd, se, q⟩ => by
    obtain ⟨as, r1⟩ := Dp.reads I d x v hd rx
    obtain ⟨bs, r2⟩ := Dp.reads I (.tuple ds) y u he ry
    exact SeqAt.notIn_tuple_reads r2 r1 (SeqAt.canLay_of_shaped se) (SeqAt.canLay_of_shaped sd) (room_in_shaped sd hu) ⟨.bl _, H, I, rfl, q⟩
end
end Sh
set_option Elab.async false
set_option linter.all false
set_option maxRecDepth 100000
/-! t[::-1], t a tuple -/
namespace Sh
open PySem PySem.Spec PyProof.Rows L2
theorem back_adjust (n : Nat) : Builtin.Slice.sliceAdjust none none (-1) (n : Int) = ((n : Int) - 1, -1) := rfl
theorem back_places (n : Nat) : Builtin.Slice.slicePlaces ((n : Int) - 1) (-1) (-1) = n := by
  unfold Builtin.Slice.slicePlaces
  rw [if_neg (by decide)]
  by_cases h : (n : Int) - 1 > -1
  · rw [if_pos h, show (-(-1) : Int) = 1 by decide, Int.ediv_one]
    omega
  · rw [if_neg h]
    omega
theorem fm_congr {α β : Type} {f g : α → Option β} : ∀ {l : List α}, (∀ x ∈ l, f x = g x) → l.filterMap f = l.filterMap g
  | [], _ => rfl
  | x :: l, h => by
    rw [List.filterMap_cons, List.filterMap_cons, h x List.mem_cons_self, fm_congr fun y hy => h y (List.mem_cons_of_mem _ hy)]
theorem back_pick (xs : Array Value) : (List.range xs.size).filterMap (fun (k : Nat) => xs[((xs.size : Int) - 1 + (k : Int) * (-1)).toNat]?) = xs.toList.reverse := by
  have e : (List.range xs.size).filterMap (fun (k : Nat) => xs[((xs.size : Int) - 1 + (k : Int) * (-1)).toNat]?) = ((List.range xs.size).map fun k => xs.size - 1 - k).filterMap (xs[·]?) := by
    rw [List.filterMap_map]
    refine fm_congr fun k hk => ?_
    have := List.mem_range.mp hk
    show xs[_]? = xs[xs.size - 1 - k]?
    congr 1
    omega
  rw [e, PySem.W.krv_range, List.filterMap_reverse, PySem.W.krv_all]
section
variable {prog : Program} {w : World} {A : Around} {E : Value → Shared → Prop} {s : Shared}
theorem getItem_tup_back {t sl : Addr} {items : Array Value} {tk : Tok} {Q : Value → Shared → Prop} (ht : IsTup s.heap t items) (hs : s.heap.IsSliceOf sl .none .none (.int (-1) tk))
    (h : Q (.ref s.heap.objs.size) { s with heap := s.heap.push { cls := .type "tuple", data := .seq items.toList.reverse.toArray } }) (hsz : items.size ≤ sizeLine) : wpAny (model prog w) A (getItem (.ref t) (.ref sl)) Q E s := by
  have hok : sizeOk (.seq items.toList.reverse.toArray) := by
    show items.toList.reverse.toArray.size ≤ sizeLine
    rw [List.size_toArray, List.length_reverse, Array.length_toList]
    exact hsz
  obtain ⟨os, hos, hcs, hds⟩ := id hs
  have tyS : s.TypeIs (.ref sl) "slice" := ⟨os, hos, hcs⟩
  unfold getItem
  try with_reducible refine wpAny_holding ?_
  first | refine wpAny_bind (wpAny_pure ?_) | skip
  refine wpAny_bind (wpAny_sequenceKey ht.typeIs (by decide) (wpAny_bind (wpAny_callSpecial?_slot (name := Str.ofString "__getitem__") ht.typeIs PyProof.Rows.slot_tuple_getitem
    (wpAny_call_entry PyProof.Rows.slot_tuple_getitem ht.typeIs entry_tuple_getitem ?_ (args_tuple_getitem _ _)))))
  show wpAny _ _ (Builtin.Tuple.tupleItemsOf (.ref t) >>= _) _ _ s
  refine wpAny_bind (tupleItemsOf_ ht (wpAny_bind (wpAny_typeOf tyS ?_)))
  rw [if_pos (by decide)]
  refine wpAny_bind ?_
  unfold Builtin.Slice.sliceApplied Builtin.Slice.sliceFields
  refine wpAny_bind (wpAny_bind (wpAny_field hos hds (x := .none) rfl (wpAny_bind (wpAny_field hos hds (x := .none) rfl (wpAny_bind (wpAny_field hos hds (x := .int (-1) tk) rfl (wpAny_pure ?_)))))))
  refine wpAny_bind (slicePart_int ?_)
  show wpAny _ _ (if ((-1 : Int) == 0) = true then _ else _) _ _ s
  rw [if_neg (by decide)]
  refine wpAny_bind (slicePart_none (wpAny_bind (slicePart_none (wpAny_bind (wpAny_pure ?_)))))
  show wpAny _ _ (pure ((items.size : Int) - 1, (-1 : Int), Builtin.Slice.slicePlaces ((items.size : Int) - 1) (-1) (-1))) _ _ s
  rw [back_places]
  refine wpAny_pure ?_
  have hno : ¬ ((((items.size : Int) - 1) == 0 && (-1 : Int) == 1 && items.size == items.size) = true) := by simp
  show wpAny _ _ (if (((items.size : Int) - 1) == 0 && (-1 : Int) == 1 && items.size == items.size) = true then _ else _) _ _ s
  rw [if_neg hno, back_pick]
  first
    | exact wpAny_bind (m := Builtin.Tuple.tupleExact _) (wpAny_newObj_type (wpAny_pure ⟨_, rfl, wpAny_pure h⟩) hok)
    | exact wpAny_bind (m := Builtin.Tuple.tupleExact _) (wpAny_newObj_type (wpAny_bind (wpAny_pure (wpAny_pure ⟨_, rfl, wpAny_pure h⟩))) hok)
    | exact wpAny_bind (wpAny_bind (m := Builtin.Tuple.tupleExact _) (wpAny_newObj_type (wpAny_pure (wpAny_pure ⟨_, rfl, wpAny_pure h⟩)) hok))
    | exact wpAny_bind (wpAny_bind (m := Builtin.Tuple.tupleExact _) (wpAny_newObj_type (wpAny_pure ⟨_, rfl, wpAny_pure h⟩) hok))
end
section
variable {X : Cx}
def tRevT (K : PySem.W.Frag) (te : TE) : TE := fun σ H Q => te σ H fun x H1 => ∃ a xs, x = .ref a ∧ SqT K H1 a xs ∧ ∀ p, H1 p = none → Q (.ref p) (upd H1 p (.tup xs.reverse))
theorem pe_revT {e : Expr} {te : TE} {k : Nat} {p1 p2 p3 pos : Pos} (he : PE X e te) : PE X (.Subscript e (.Slice none none (some (.UnaryOp .USub (.Constant (.int 1) k p1) p2)) p3) pos) (tRevT X.K te) := by
  refine ⟨fun pins s σ H Q I h => Subscript_ (thn (he.run pins s σ H _ I h) fun v s1 ⟨x, H1, I1, r1, a, xs, ex, hx, q⟩ => ?_)⟩
  subst ex
  cases r1
  have hst : PO X (some (.UnaryOp .USub (.Constant (.int 1) k p1) p2)) (tPart (tUn (rU fun i => .int (-i)) (tC (.int 1)))) := po_some (pe_un un_neg pe_int)
  refine wpAny_Slice (thn (po_none.run pins s1 σ H1 (fun o H2 => o = none ∧ H2 = H1) I1 ⟨rfl, rfl⟩) fun vl s2 ⟨l, H2, I2, pl, el, e2⟩ => thn (po_none.run pins s2 σ H2 (fun o H3 => o = none ∧ H3 = H2) I2 ⟨rfl, rfl⟩) fun vu s3 ⟨u, H3, I3, pu, eu, e3⟩ =>
    thn (hst.run pins s3 σ H3 (fun o H4 => o = some (-1) ∧ H4 = H3) I3 ⟨1, rfl, -1, rfl, rfl, rfl⟩) fun vs s4 ⟨o, H4, I4, ps, eo, e4⟩ => ?_)
  subst el e2 eu e3 eo e4
  have I5 : Inv X pins σ H4 { s4 with heap := s4.heap.push { cls := .type "slice", data := .fields #[vl, vu, vs] } } := I4.kept (t' := s4.toks) fun b ob q => Heap.get?_push_of_some _ q
  obtain ⟨its, r, ht, hz⟩ := I5.tuple hx
  have hlen := r.length
  cases pl
  cases pu
  cases ps
  show wpAny (model X.prog X.w) X.A (subscriptTail e (.Slice none none (some (.UnaryOp .USub (.Constant (.int 1) k p1) p2)) p3) (.ref a) (.ref s4.heap.objs.size)) (EP X pins σ Q) X.xe _
  refine tail_any (ops := [.ref a, .ref s4.heap.objs.size]) ht.typeIs (PyProof.Rows.slot_tuple_getitem.lookup) ?_ (by with_unfolding_all rfl)
  refine getItem_tup_back ht (Heap.IsSliceOf.new _ _ _ _) ?_ (by rw [List.size_toArray]; omega)
  refine ⟨.ref _, _, I5.laid (t' := s4.toks) (o := .tup xs.reverse) (fun b ob q => Heap.get?_push_of_some _ q) (Nat.le_refl _) ?_, rfl, q _ (I5.hok.fresh (Nat.le_refl _))⟩
  exact ⟨by rw [List.length_reverse]; exact hz, _, r.reverse, IsTup.new _ _⟩
end
end Sh
set_option Elab.async false
set_option linter.all false
set_option maxRecDepth 100000
set_option maxHeartbeats 4000000
namespace Sh
open PySem PySem.Spec PyProof.Rows L2
open SX (S S_inj S_len S_cat)
open Bk (Rule firstAt lg bestUp used left drain pushS Wf quarrel Meets keyLt leastOf parting lefts2)
local macro_rules | `(tactic| walk_at "nx") => `(tactic| repeat (with_reducible first | refine Sh.gn_mk ?_ | refine Sh.nx_mk ?_ | refine Sh.st_nx ?_ | refine Sh.rt_mk ?_ | refine Sh.ct_mk ?_ | refine Sh.bk_mk ?_))
local macro_rules | `(tactic| walk_at "sq") => `(tactic| first | exact SqL.of upd_same | exact SqT.of upd_same | exact SqL.of (by assumption) | exact SqT.of (by assumption) | assumption | exact Or.inl (SqL.of (by assumption)) | exact Or.inr (SqT.of (by assumption)) | exact Or.inl (by assumption) | exact Or.inr (by assumption))
local macro_rules | `(tactic| walk_at "hp") => `(tactic| first | exact upd_same | assumption)
local macro_rules | `(tactic| walk_at "sz") => `(tactic| first | exact Nat.le_of_ble_eq_true rfl | omega)
local macro_rules | `(tactic| walk_at "sd") => `(tactic| first | omega | exact rfl | assumption | (show (0 : Int) < _; omega) | exact And.intro (by omega) (by omega) | exact Or.inl (And.intro (by omega) (by omega)) | exact Or.inr (And.intro (by omega) (by omega)) | omega | exact Sh.sz_S (by omega) | decide)
local macro_rules | `(tactic| walk_at "rd1") => `(tactic| first
  | (with_reducible first | refine Sh.gn_mk ?_ | refine Sh.nx_mk ?_ | refine Sh.st_nx ?_ | refine Sh.rt_mk ?_ | refine Sh.ct_mk ?_ | refine Sh.bk_mk ?_)
  | refine Exists.intro (α := V) _ (And.intro rfl ?_)
  | refine Exists.intro (α := Bool) _ (And.intro rfl ?_)
  | refine Exists.intro (α := Int) _ (And.intro rfl ?_)
  | refine Exists.intro (α := PySem.Str) _ (And.intro rfl ?_)
  | refine Exists.intro (α := Int) _ (Exists.intro (α := Int) _ (And.intro rfl (And.intro rfl ?_)))
  | refine Exists.intro (α := PySem.Str) _ (Exists.intro (α := PySem.Str) _ (And.intro rfl (And.intro rfl ?_)))
  | refine Exists.intro (α := Int) _ (Exists.intro (α := Int) _ (And.intro rfl ?_))
  | refine Or.inl (Exists.intro (α := Int) _ (And.intro rfl ?_))
  | refine Exists.intro _ (Exists.intro _ (Exists.intro _ (Exists.intro _ (And.intro rfl (And.intro rfl (And.intro (by walk_at "sq") (And.intro rfl ?_)))))))
  | refine Exists.intro _ (Exists.intro _ (Exists.intro _ (Exists.intro _ (And.intro rfl (And.intro rfl (And.intro (by walk_at "hp") (And.intro rfl ?_)))))))
  | refine And.intro (by walk_at "sd") ?_
  )
local macro_rules | `(tactic| walk_at "rd") => `(tactic| repeat walk_at "rd1")
local macro_rules | `(tactic| walk_at "lk") => `(tactic| first | exact rfl | (rw [lookup_putF, if_pos rfl]) | (rw [lookup_putF, if_neg (by decide +kernel)]; walk_at "lk"))

section
variable {P : Program} {w : World} {K : PySem.W.Frag} {mg : Str → Option Value} {base : Heap} {CB CE XN FN XU FU : Addr}
/-- an exception with one field is let out -/
def Thrown (E : XK) (H : Hp) (X : Addr) (fld : Str) (v : V) : Prop := ∀ d, H d = none → E (.ref X) (some d) (upd H d (.xd [(fld, v)]))
def spCheckX (K : PySem.W.Frag) (C XN : Addr) : Sp := fun vs H Q E => ∃ (p : Addr) (sg : List Nat) (R : List Rule), vs = [.ref p] ∧ BookAt K C H p sg R ∧ (∀ t, quarrel R = some t → (reprText (S t)).length ≤ 1000 ∧ Thrown E H XN "text" (.str (S t))) ∧ (quarrel R = none → Q .non H)
theorem c_X_check_settled (T : TxtX P K mg CB CE XN FN XU FU) : Cal P w K mg base (L2.CX P w) 3 "check_settled" (spCheckX K CB XN) := by
  have x_NotSettled := x_NotSettled (P := P) (w := w) (base := base) T
  refine Cal.mkX T.toTxtC.toTxt.d_check_settled sc_check_settled (fun vs H Q E h => ?_) (fun f cdv A outer s H vs Q E hr h => ?_)
  · obtain ⟨p, sg, R, rfl, _⟩ := h
    rfl
  · obtain ⟨p, sg, R, rfl, ⟨dx, fs, a, xs, pl, hp, g1, g2, hR, g3, L, g4, g5⟩, ky, kn⟩ := h
    have cl := T.k_Book.cl
    refine ⟨_, (pss_one (ps_if (pt_cmpR op_notN (pe_fld (pv 0) rfl) pe_non (nomark _))
    (pss_one (ps_raiseX T.e_NotSettled x_NotSettled hr (by decide) rfl (takes_of rfl rfl rfl rfl) rfl (pa_cons (pe_fld (pv 0) rfl) pa_nil)))
    pss_nil)), ?_⟩
    refine ⟨_, rfl, p, CB, dx, fs, _, rfl, hp, cl, T.n_Book__quarrel, g5, ?_⟩
    cases hq : quarrel R with
    | none =>
      walk_at "rd"
      exact kn hq
    | some t =>
      obtain ⟨hl, kt⟩ := ky t hq
      walk_at "rd"
      refine ⟨p, CB, dx, fs, _, rfl, hp, cl, T.n_Book__quarrel, g5, ?_⟩
      rw [hq]
      exact mk1 T.e_NotSettled T.nf_NotSettled_text ⟨_, rfl, hl⟩ kt
def spBothX (K : PySem.W.Frag) (C XN XU : Addr) : Sp := fun vs H Q E => ∃ (p q : Addr) (sg su : List Nat) (R N : List Rule), vs = [.ref p, .ref q] ∧ BookAt K C H p sg R ∧ BookAt K C H q su N ∧
  (∀ t, quarrel R = some t → (reprText (S t)).length ≤ 1000 ∧ Thrown E H XN "text" (.str (S t))) ∧
  (quarrel R = none → (∀ t, quarrel N = some t → (reprText (S t)).length ≤ 1000 ∧ Thrown E H XN "text" (.str (S t))) ∧
    (quarrel N = none → (sg ≠ su → Thrown E H XU "word" (.str "signs")) ∧ (sg = su → Q .non H)))
theorem c_X_check_both (T : TxtX P K mg CB CE XN FN XU FU) : Cal P w K mg base (L2.CX P w) 4 "check_both" (spBothX K CB XN XU) := by
  have x_Unlike := x_Unlike (P := P) (w := w) (base := base) T
  have c_X_check_settled := c_X_check_settled (P := P) (w := w) (base := base) T
  refine Cal.mkX T.toTxtC.toTxt.d_check_both sc_check_both (fun vs H Q E h => ?_) (fun f cdv A outer s H vs Q E hr h => ?_)
  · obtain ⟨p, q, sg, su, R, N, rfl, _⟩ := h
    rfl
  · obtain ⟨p, q, sg, su, R, N, rfl, BR, BN, ky, kn⟩ := h
    have cl := T.k_Book.cl
    refine ⟨_, (pss_cons (ps_expr (pe_cX c_X_check_settled hr (by decide) (takes_of rfl rfl rfl rfl) rfl (pa_cons (pv 0) pa_nil)))
  (pss_cons (ps_expr (pe_cX c_X_check_settled hr (by decide) (takes_of rfl rfl rfl rfl) rfl (pa_cons (pv 1) pa_nil)))
  (pss_one (ps_if (pt_cmpR op_ne (pe_fld (pv 0) rfl) (pe_fld (pv 1) rfl) (nomark _))
    (pss_one (ps_raiseX T.e_Unlike x_Unlike hr (by decide) rfl (takes_of rfl rfl rfl rfl) rfl (pa_cons pe_str pa_nil)))
    pss_nil)))), ?_⟩
    refine ⟨_, rfl, p, sg, R, rfl, BR, fun t ht => ky t ht, fun hR => ?_⟩
    obtain ⟨ky2, kn2⟩ := kn hR
    walk_at "nx"
    refine ⟨_, rfl, q, su, N, rfl, BN, fun t ht => ky2 t ht, fun hN => ?_⟩
    obtain ⟨k1, k2⟩ := kn2 hN
    obtain ⟨dx, fs, a, xs, pl, hp, g1, g2, hR0, g3, L, g4, g5⟩ := BR
    obtain ⟨dx2, fs2, a2, xs2, pl2, hp2, h1, h2, hN0, h3, L2, h4, h5⟩ := BN
    walk_at "nx"
    refine ⟨_, rfl, p, CB, dx, fs, _, rfl, hp, cl, T.n_Book_signs, g1, _, rfl, q, CB, dx2, fs2, _, rfl, hp2, cl, T.n_Book_signs, h1, ?_⟩
    refine ⟨rfl, _, rfl, ?_⟩
    by_cases hs : sg = su
    · rw [show (!decide (V.str (S sg) = V.str (S su))) = false by rw [decide_eq_true (by rw [hs])]; rfl]
      refine iteF ?_
      exact k2 hs
    · rw [show (!decide (V.str (S sg) = V.str (S su))) = true by rw [decide_eq_false (fun z => hs (S_inj (V.str.inj z)))]; rfl]
      refine iteT ?_
      exact mk1 T.e_Unlike T.nf_Unlike_word ⟨_, rfl, by decide⟩ (k1 hs)
/-! ### same_ends -/
/-- what a SameEnds holds -/
def SeAt (C : Addr) (H : Hp) (p : Addr) (v u w : V) : Prop := ∃ (dx : Addr) (fs : List (Str × V)), H p = some (.ins C dx fs) ∧ fs.lookup ("holds" : Str) = some (.bl (decide (v = .non))) ∧ fs.lookup ("text" : Str) = some v ∧ fs.lookup ("one_end" : Str) = some u ∧ fs.lookup ("other_end" : Str) = some w
theorem SeAt.same {C : Addr} {H H' : Hp} {p : Addr} {v u w : V} (h : SeAt C H p v u w) (s : Same H H') : SeAt C H' p v u w := let ⟨dx, fs, h1, h2⟩ := h; ⟨dx, fs, s _ _ h1, h2⟩
def spSeInit (C : Addr) : Sp := fun vs H Q _ => ∃ (p dx : Addr) (v u w : V), vs = [.ref p, v, u, w] ∧ (v = .non ∨ ∃ z, v = .str z) ∧ H p = some (.ins C dx []) ∧ ∀ H' : Hp, SeAt C H' p v u w → But p H H' → Q .non H'
theorem c_SameEnds___init__ (T : TxtC K mg CB CE) : MetC P w K mg base 1 CE "__init__" (spSeInit CE) := by
  refine MetC.mk0 T.m_SameEnds___init__ sc_SameEnds___init__ (fun vs H Q E h => ?_) (fun f cdv A outer s H vs Q E hr h => ?_)
  · obtain ⟨p, dx, v, u, w, rfl, _⟩ := h
    rfl
  · obtain ⟨p, dx, v, u, w, rfl, hv, hp, k⟩ := h
    have cl := T.k_SameEnds.cl
    refine ⟨_, (pss_cons (ps_fld (pv 0) (pe_cmpR op_isN (pv 1) pe_non (nomark _)) rfl)
  (pss_cons (ps_fld (pv 0) (pv 1) rfl)
  (pss_cons (ps_fld (pv 0) (pv 2) rfl)
  (pss_one (ps_fld (pv 0) (pv 3) rfl))))), ?_⟩
    refine ⟨_, rfl, rfl, _, rfl, p, CE, dx, [], rfl, hp, cl, T.n_SameEnds_holds, by show 0 < 1000; decide, ?_⟩
    walk_at "nx"
    refine ⟨_, rfl, _, rfl, p, CE, dx, _, rfl, upd_same, cl, T.n_SameEnds_text, by show 1 < 1000; decide, ?_⟩
    walk_at "nx"
    refine ⟨_, rfl, _, rfl, p, CE, dx, _, rfl, upd_same, cl, T.n_SameEnds_one_end, by show 2 < 1000; decide, ?_⟩
    walk_at "nx"
    refine ⟨_, rfl, _, rfl, p, CE, dx, _, rfl, upd_same, cl, T.n_SameEnds_other_end, by show 3 < 1000; decide, ?_⟩
    refine k _ ⟨dx, _, upd_same, by walk_at "lk", by walk_at "lk", by walk_at "lk", by walk_at "lk"⟩ (but_upd.trans (but_upd.trans (but_upd.trans but_upd)))
def spSeBool (C : Addr) : Sp := fun vs H Q _ => ∃ (p : Addr) (v u w : V), vs = [.ref p] ∧ SeAt C H p v u w ∧ Q (.bl (decide (v = .non))) H
theorem c_SameEnds___bool__ (T : TxtC K mg CB CE) : MetC P w K mg base 1 CE "__bool__" (spSeBool CE) := by
  refine MetC.mk0 T.m_SameEnds___bool__ sc_SameEnds___bool__ (fun vs H Q E h => ?_) (fun f cdv A outer s H vs Q E hr h => ?_)
  · obtain ⟨p, v, u, w, rfl, _⟩ := h
    rfl
  · obtain ⟨p, v, u, w, rfl, ⟨dx, fs, hp, g1, g2⟩, k⟩ := h
    have cl := T.k_SameEnds.cl
    refine ⟨_, (pss_one (ps_ret (pe_callTy call_bool1 (by rfl) T.b_bool (by decide +kernel) (pa_cons (pe_fld (pv 0) rfl) pa_nil)))), ?_⟩
    refine ⟨_, rfl, p, CE, dx, fs, _, rfl, hp, cl, T.n_SameEnds_holds, g1, .inr ⟨_, rfl, ?_⟩⟩
    exact k
def spLeast (K : PySem.W.Frag) : Sp := fun vs H Q _ => ∃ (a : Addr) (b : List Nat) (l : List (List Nat)), vs = [.ref a] ∧ SqL K H a ((b :: l).map fun t => V.str (S t)) ∧ (∀ t ∈ b :: l, t.length ≤ 1000) ∧ (b :: l).length ≤ 1000 ∧ ∀ H', Same H H' → Q (.str (S (leastOf b l))) H'
theorem c_least_of (T : Txt K mg) : Cal P w K mg base CX0 2 "least_of" (spLeast K) := by
  have c_text_key := c_text_key (P := P) (w := w) (base := base) T
  refine Cal.mk0 T.d_least_of sc_least_of (fun vs H Q E h => ?_) (fun f cdv A outer s H vs Q E hr h => ?_)
  · obtain ⟨a, b, l, rfl, _⟩ := h
    rfl
  · obtain ⟨a, b, l, rfl, ha, hb, hl, k⟩ := h
    refine ⟨_, (pss_cons (ps_set (i := 1) sc_least_of.nd rfl (Or.inl rfl) (pe_ix ix_list (pv 0) pe_int (fun _ _ => rfl)))
  (pss_cons (ps_for PassesOwn.never rfl (pi_list (pv 0)) (pg_name (i := 2) sc_least_of.nd rfl (Or.inl rfl))
    (pss_one (ps_if (pt_cmpR (op_ltTM hr.units) (pe_c c_text_key hr (by decide) rfl (pa_cons (pv 2) pa_nil)) (pe_c c_text_key hr (by decide) rfl (pa_cons (pv 1) pa_nil)) (nomark _))
      (pss_one (ps_set (i := 1) sc_least_of.nd rfl (Or.inl rfl) (pv 2)))
      pss_nil)))
  (pss_one (ps_ret (pv 1))))), ?_⟩
    refine ⟨_, rfl, a, _, 0, .str (S b), rfl, rfl, ha, (atI_nat (j := 0) (by simp)), ?_⟩
    walk_at "nx"
    refine ⟨_, rfl, a, rfl, ⟨_, ha⟩, ?_⟩
    refine for_lst (K := K) (a := a) (f := fun t => V.str (S t)) (l := b :: l) (fun pre σ H2 => ∃ (v2 : Option V), σ = [some (.ref a), some (.str (S (leastOf b pre))), v2] ∧ Same H H2)
      ⟨_, rfl, Same.refl H⟩ (fun pre σ H2 ⟨_, _, s2⟩ => s2.seq ha) ?_ ?_
    · rintro pre t post σ H2 e ⟨v2, rfl, s2⟩
      have htm := hb t (by rw [e]; simp)
      have hpm : leastOf b pre ∈ b :: l := by
        have hp : ∀ z ∈ pre, z ∈ b :: l := fun z hz => by rw [e]; simp [hz]
        rcases List.mem_cons.mp (Bk.leastOf_mem pre b) with z | z
        · rw [z]; simp
        · exact hp _ z
      have hbm := hb _ hpm
      walk_at "nx"
      refine if_KH (keyLt t (leastOf b pre)) (fun H' => Same H2 H') (fun Q' hQ => ?_) (fun hk H3 s3 => ?_) (fun hk H3 s3 => ?_)
      · walk_at "rd"
        refine ⟨t, rfl, by omega, fun p3 hp3 => ?_⟩
        have s3 : Same H2 (upd H2 p3 (.tup [.int (t.length : Nat), .str (S t)])) := same_new hp3
        walk_at "rd"
        refine ⟨leastOf b pre, rfl, by omega, fun p4 hp4 => ?_⟩
        have s4 := s3.trans (same_new (o := .tup [.int ((leastOf b pre).length : Nat), .str (S (leastOf b pre))]) hp4)
        refine ⟨p3, p4, _, _, rfl, rfl, SqT.of (same_new hp4 _ _ upd_same), SqT.of upd_same, rfl, _, rfl, ?_⟩
        exact q_of (hQ _ s4) (key_lt t _)
      · walk_at "rd"
        refine ⟨some (.str (S t)), ?_, s2.trans s3⟩
        rw [Bk.leastOf_snoc, if_pos hk]
        rfl
      · walk_at "nx"
        refine ⟨some (.str (S t)), ?_, s2.trans s3⟩
        rw [Bk.leastOf_snoc, if_neg (by rw [hk]; exact Bool.false_ne_true)]
        rfl
    · rintro σ H2 ⟨v2, rfl, s2⟩
      walk_at "rd"
      have e1 : leastOf b (b :: l) = leastOf b l := by
        show leastOf (if keyLt b b = true then b else b) l = _
        rw [ite_self]
      rw [e1]
      exact k _ s2
/-- both books sound and over the same signs -/
def spSameX (K : PySem.W.Frag) (C D XN XU : Addr) : Sp := fun vs H Q E => ∃ (p q : Addr) (sg su : List Nat) (R N : List Rule), vs = [.ref p, .ref q] ∧ BookAt K C H p sg R ∧ BookAt K C H q su N ∧
  (∀ t, quarrel R = some t → (reprText (S t)).length ≤ 1000 ∧ Thrown E H XN "text" (.str (S t))) ∧
  (quarrel R = none → (∀ t, quarrel N = some t → (reprText (S t)).length ≤ 1000 ∧ Thrown E H XN "text" (.str (S t))) ∧
    (quarrel N = none → (sg ≠ su → Thrown E H XU "word" (.str "signs")) ∧
      (sg = su → Bk.Wf R ∧ Bk.Wf N ∧ R.length ≤ 64 ∧ N.length ≤ 64 ∧ (∀ r ∈ R, r.1.length ≤ 4) ∧ (∀ r ∈ N, r.1.length ≤ 4) ∧
        ∀ (x : Addr) (v u w : V) (H' : Hp), Same H H' → SeAt D H' x v u w →
          (parting R N = [] → v = .non ∧ u = .non ∧ w = .non) → (∀ b l, parting R N = b :: l → v = .str (S (leastOf b l)) ∧ u = .str (S (left R (leastOf b l))) ∧ w = .str (S (left N (leastOf b l)))) → Q (.ref x) H')))
theorem c_X_same_ends (T : TxtX P K mg CB CE XN FN XU FU) : Cal P w K mg base (L2.CX P w) 5 "same_ends" (spSameX K CB CE XN XU) := by
  have c_X_check_both := c_X_check_both (P := P) (w := w) (base := base) T
  have c_least_of := c_least_of (P := P) (w := w) (base := base) T.toTxtC.toTxt
  have c_SameEnds := c_SameEnds___init__ (P := P) (w := w) (base := base) T.toTxtC
  have c_rest_of := c_rest_of (P := P) (w := w) (base := base) T.toTxtC
  refine Cal.mkX T.toTxtC.toTxt.d_same_ends sc_same_ends (fun vs H Q E h => ?_) (fun f cdv A outer s H vs Q E hr h => ?_)
  · obtain ⟨p, q, sg, su, R, N, rfl, _⟩ := h
    rfl
  · obtain ⟨p, q, sg, su, R, N, rfl, BR, BN, ky, kn⟩ := h
    have cl := T.k_Book.cl
    refine ⟨_, (pss_cons (ps_expr (pe_cX c_X_check_both hr (by decide) (takes_of rfl rfl rfl rfl) rfl (pa_cons (pv 0) (pa_cons (pv 1) pa_nil))))
  (pss_cons (ps_set (i := 2) sc_same_ends.nd rfl (Or.inl rfl) (pe_op op_cat (pe_lc (own := [("rule", 5)]) (g := gName 5) (tt := tYes) rfl sc_same_ends.nd (pi_tup (pe_fld (pv 0) rfl)) (blkOk_by (N := ["one", "other", "lefts", "parting", "text", "rule", "left"]) (sc := defScope s_same_ends) (by decide +kernel)) (fun _ _ _ _ _ => (pg_name (i := 5) sc_same_ends.nd rfl (Or.inl rfl))) (fun _ _ _ _ _ => pts_nil) (fun _ _ _ _ _ => (pe_ix ix_tupB (pv 5) pe_int (fun _ _ => rfl)))) (pe_lc (own := [("rule", 5)]) (g := gName 5) (tt := tYes) rfl sc_same_ends.nd (pi_tup (pe_fld (pv 1) rfl)) (blkOk_by (N := ["one", "other", "lefts", "parting", "text", "rule", "left"]) (sc := defScope s_same_ends) (by decide +kernel)) (fun _ _ _ _ _ => (pg_name (i := 5) sc_same_ends.nd rfl (Or.inl rfl))) (fun _ _ _ _ _ => pts_nil) (fun _ _ _ _ _ => (pe_ix ix_tupB (pv 5) pe_int (fun _ _ => rfl))))))
  (pss_cons (ps_setLc (i := 3) (own := [("left", 6)]) (g := gName 6) (by rfl) sc_same_ends.nd rfl rfl (sw_true rfl rfl rfl (by decide +kernel)) (pi_list (pv 2)) (blkOk_by (N := ["one", "other", "lefts", "parting", "text", "rule", "left"]) (sc := defScope s_same_ends) (by decide +kernel)) (fun _ _ _ _ _ => (pg_name (i := 6) sc_same_ends.nd rfl (Or.inl rfl))) (fun _ _ _ _ _ => (pts_one (pt_cmpR op_ne (pe_c c_rest_of hr (by decide) rfl (pa_cons (pv 0) (pa_cons (pv 6) pa_nil))) (pe_c c_rest_of hr (by decide) rfl (pa_cons (pv 1) (pa_cons (pv 6) pa_nil))) (nomark _)))) (fun _ _ _ _ _ => (pv 6)))
  (pss_cons (ps_if (pt_not (pt_truth (pv 3) (by intro _; rfl)))
    (pss_one (ps_ret (pe_mkC T.k_SameEnds c_SameEnds hr (by decide) rfl (pa_cons pe_non (pa_cons pe_non (pa_cons pe_non pa_nil))))))
    pss_nil)
  (pss_cons (ps_set (i := 4) sc_same_ends.nd rfl (Or.inl rfl) (pe_c c_least_of hr (by decide) rfl (pa_cons (pv 3) pa_nil)))
  (pss_one (ps_ret (pe_mkC T.k_SameEnds c_SameEnds hr (by decide) rfl (pa_cons (pv 4) (pa_cons (pe_c c_rest_of hr (by decide) rfl (pa_cons (pv 0) (pa_cons (pv 4) pa_nil))) (pa_cons (pe_c c_rest_of hr (by decide) rfl (pa_cons (pv 1) (pa_cons (pv 4) pa_nil))) pa_nil))))))))))), ?_⟩
    refine ⟨_, rfl, _, rfl, p, q, sg, su, R, N, rfl, BR, BN, fun t ht => ky t ht, fun hR => ⟨fun t ht => (kn hR).1 t ht, fun hN => ⟨fun hs => ((kn hR).2 hN).1 hs, fun hs => ?_⟩⟩⟩
    obtain ⟨wR, wN, lR, lN, h4R, h4N, k⟩ := ((kn hR).2 hN).2 hs
    obtain ⟨dx, fs, a, xs, pl, hp, g1, g2, hRa, g3, L, g4, g5⟩ := id BR
    obtain ⟨dx2, fs2, a2, xs2, pl2, hp2, h1, h2, hNa, h3, L2, h4, h5⟩ := id BN
    walk_at "nx"
    refine ⟨_, rfl, p, CB, dx, fs, _, rfl, hp, cl, T.n_Book_rules, g2, a, rfl, ⟨_, hRa.sq⟩, fun D hD => lc_tupR (K := K) (a := a) (xs := xs) (l := R) (Rel := RItem K) hRa.len (fun pre H3 => H3 D = some (.lst (pre.map fun r => V.str (S r.1))) ∧ Same H H3) ⟨upd_same, same_new hD⟩ (fun pre H3 ⟨_, s3⟩ => ⟨(hRa.same s3).sq, (hRa.same s3).it⟩) ?_ ?_⟩
    · rintro pre r post x H3 e hx ⟨qr, rfl, sq⟩ ⟨h3, s3⟩
      have hpl : pre.length + 1 ≤ 64 := by
        have := congrArg List.length e
        simp at this
        omega
      refine ⟨rfl, ty_T ?_⟩
      refine ⟨_, rfl, qr, _, 0, .str (S r.1), rfl, rfl, sq, rfl, ?_⟩
      refine ⟨_, h3, by rw [List.length_map]; exact Nat.lt_of_le_of_lt (m := 64) (by omega) (by decide), ?_, same_mut s3 hD⟩
      rw [upd_same, List.map_append]
      rfl
    rintro H3 ⟨h3, s3⟩
    refine ⟨_, rfl, q, CB, dx2, fs2, _, rfl, s3 _ _ hp2, cl, T.n_Book_rules, h2, a2, rfl, ⟨_, (hNa.same s3).sq⟩, fun D2 hD2 => lc_tupR (K := K) (a := a2) (xs := xs2) (l := N) (Rel := RItem K) hNa.len (fun pre H4 => H4 D2 = some (.lst (pre.map fun r => V.str (S r.1))) ∧ Same H3 H4) ⟨upd_same, same_new hD2⟩ (fun pre H4 ⟨_, s4⟩ => ⟨(hNa.same (s3.trans s4)).sq, (hNa.same (s3.trans s4)).it⟩) ?_ ?_⟩
    · rintro pre r post x H4 e hx ⟨qr, rfl, sq⟩ ⟨h4', s4⟩
      have hpl : pre.length + 1 ≤ 64 := by
        have := congrArg List.length e
        simp at this
        omega
      refine ⟨rfl, ty_T ?_⟩
      refine ⟨_, rfl, qr, _, 0, .str (S r.1), rfl, rfl, sq, rfl, ?_⟩
      refine ⟨_, h4', by rw [List.length_map]; exact Nat.lt_of_le_of_lt (m := 64) (by omega) (by decide), ?_, same_mut s4 hD2⟩
      rw [upd_same, List.map_append]
      rfl
    rintro H4 ⟨h4', s4⟩
    refine ⟨D, D2, _, _, rfl, rfl, s4 _ _ h3, h4', Nat.le_trans (m := 128) (by rw [List.length_map, List.length_map]; omega) (by decide), fun pc hpc => ?_⟩
    have s5 := s3.trans (s4.trans (same_new (o := .lst (R.map (fun r => V.str (S r.1)) ++ N.map (fun r => V.str (S r.1)))) hpc))
    have hlf : R.map (fun r => V.str (S r.1)) ++ N.map (fun r => V.str (S r.1)) = (lefts2 R N).map fun l => V.str (S l) := by
      unfold lefts2
      rw [List.map_append, List.map_map, List.map_map]
      rfl
    rw [hlf] at s5 ⊢
    have hpc5 : (upd H4 pc (.lst ((lefts2 R N).map fun l => V.str (S l)))) pc = some (.lst ((lefts2 R N).map fun l => V.str (S l))) := upd_same
    generalize upd H4 pc (.lst ((lefts2 R N).map fun l => V.str (S l))) = H5 at s5 hpc5 ⊢
    clear hlf hpc s4 h4' hD2 D2 s3 h3 hD D H3 H4
    have hl2 : (lefts2 R N).length ≤ 128 := by unfold lefts2; rw [List.length_append, List.length_map, List.length_map]; omega
    have hl4 : ∀ l ∈ lefts2 R N, l.length ≤ 4 := by
      intro l hl
      unfold lefts2 at hl
      rcases List.mem_append.mp hl with z | z
      · obtain ⟨r, hr, rfl⟩ := List.mem_map.mp z; exact h4R r hr
      · obtain ⟨r, hr, rfl⟩ := List.mem_map.mp z; exact h4N r hr
    walk_at "nx"
    refine ⟨_, rfl, pc, rfl, ⟨_, SqL.of hpc5⟩, fun D hD => lc_lst (K := K) (a := pc) (f := fun l => V.str (S l)) (l := lefts2 R N) (fun pre H6 => H6 D = some (.lst ((pre.filter fun l => decide (left R l ≠ left N l)).map fun l => V.str (S l))) ∧ Same H5 H6) ⟨upd_same, same_new hD⟩ (fun pre H6 ⟨_, s6⟩ => SqL.of (s6 _ _ hpc5)) ?_ ?_⟩
    · rintro pre l post H6 e ⟨h6, s6⟩
      have hpl : pre.length + 1 ≤ 128 := by
        have := congrArg List.length e
        simp at this
        omega
      have hll := hl4 l (by rw [e]; simp)
      have s56 := s5.trans s6
      refine ⟨rfl, ?_⟩
      refine ⟨_, rfl, _, rfl, p, sg, l, R, rfl, BR.same s56, wR, by omega, fun H7 s7 => ?_⟩
      refine ⟨_, rfl, _, rfl, q, su, l, N, rfl, (BN.same s56).same s7, wN, by omega, fun H8 s8 => ?_⟩
      refine ⟨rfl, _, rfl, ?_⟩
      have hfl : (pre.filter fun l => decide (left R l ≠ left N l)).length ≤ pre.length := List.length_filter_le _ _
      rw [List.filter_append]
      by_cases hd : left R l = left N l
      · rw [show ([l].filter fun l => decide (left R l ≠ left N l)) = [] by simp [hd], List.append_nil]
        rw [show (!decide (V.str (S (left R l)) = V.str (S (left N l)))) = false by rw [decide_eq_true (by rw [hd])]; rfl]
        refine iteF ?_
        exact ⟨s8 _ _ (s7 _ _ h6), s6.trans (s7.trans s8)⟩
      · rw [show ([l].filter fun l => decide (left R l ≠ left N l)) = [l] by simp [hd]]
        rw [show (!decide (V.str (S (left R l)) = V.str (S (left N l)))) = true by rw [decide_eq_false (fun z => hd (S_inj (V.str.inj z)))]; rfl]
        refine iteT ?_
        refine ⟨_, rfl, _, s8 _ _ (s7 _ _ h6), by rw [List.length_map]; exact Nat.lt_of_le_of_lt (m := 128) (by omega) (by decide), ?_, same_mut (s6.trans (s7.trans s8)) hD⟩
        rw [upd_same, List.map_append]
        rfl
    rintro H6 ⟨h6, s6⟩
    have h6' : H6 D = some (.lst ((parting R N).map fun l => V.str (S l))) := h6
    have s06 := s5.trans s6
    clear h6 s6 s5 hpc5 hD H5
    walk_at "nx"
    walk_at "nx"
    cases hpt : parting R N with
    | nil =>
      rw [hpt] at h6'
      refine if_K true (fun Q' hQ => ?_) (fun _ => ?_) (fun z => by cases z)
      · refine ⟨_, rfl, false, .inl ⟨_, SqL.of h6', rfl⟩, ?_⟩
        exact hQ
      walk_at "nx"
      intro x dx3 nx ndx nex
      refine ⟨x, dx3, .non, .non, .non, rfl, .inl rfl, upd_same, fun H7 st b7 => ⟨rfl, ?_⟩⟩
      have s67 : Same H6 H7 := Same.made nx ndx fun b o e n => b7 b o n e
      exact k x _ _ _ H7 (s06.trans s67) st (fun _ => ⟨rfl, rfl, rfl⟩) (fun b l z => by rw [hpt] at z; cases z)
    | cons b l =>
      rw [hpt] at h6'
      have hbl : ∀ t ∈ b :: l, t.length ≤ 4 := fun t ht => by
        rw [← hpt] at ht
        exact hl4 t (List.mem_filter.mp ht).1
      have hlen : (b :: l).length ≤ 128 := by
        rw [← hpt]
        exact Nat.le_trans (List.length_filter_le _ _) hl2
      have hlo : (leastOf b l).length ≤ 4 := hbl _ (Bk.leastOf_mem l b)
      refine if_K false (fun Q' hQ => ?_) (fun z => by cases z) (fun _ => ?_)
      · refine ⟨_, rfl, true, .inl ⟨_, SqL.of h6', rfl⟩, ?_⟩
        exact hQ
      walk_at "nx"
      refine ⟨_, rfl, D, b, l, rfl, SqL.of h6', fun t ht => Nat.le_trans (hbl t ht) (by decide), by omega, fun H7 s7 => ?_⟩
      have s07 := s06.trans s7
      walk_at "nx"
      refine ⟨_, rfl, _, rfl, _, rfl, p, sg, leastOf b l, R, rfl, BR.same s07, wR, by omega, fun H8 s8 => ?_⟩
      refine ⟨_, rfl, _, rfl, q, su, leastOf b l, N, rfl, (BN.same s07).same s8, wN, by omega, fun H9 s9 => ?_⟩
      intro x dx3 nx ndx nex
      refine ⟨x, dx3, _, _, _, rfl, .inr ⟨_, rfl⟩, upd_same, fun H10 st b10 => ⟨rfl, ?_⟩⟩
      have s910 : Same H9 H10 := Same.made nx ndx fun b o e n => b10 b o n e
      exact k x _ _ _ H10 (s07.trans (s8.trans (s9.trans s910))) st (fun z => by rw [hpt] at z; cases z) (fun b' l' z => by rw [hpt] at z; cases z; exact ⟨rfl, rfl, rfl⟩)
end
end Sh
set_option Elab.async false
set_option linter.all false
set_option maxRecDepth 100000
/-! slices of rows of values, and of what they tell -/
namespace Sh
open PySem PySem.Spec PyProof.Rows L2
theorem cut_fromV {xs : List V} {i : Int} (h : 0 ≤ i) : cutV xs (some i) none = xs.drop i.toNat := by
  unfold cutV
  have h1 : HT.sIx xs.length 0 (some i) = min i.toNat xs.length := by
    show (if i < 0 then _ else min i.toNat xs.length) = _
    rw [if_neg (by omega)]
  have h2 : HT.sIx xs.length xs.length none = xs.length := rfl
  rw [h1, h2]
  by_cases c : i.toNat ≤ xs.length
  · rw [Nat.min_eq_left c]
    exact List.take_of_length_le (by simp)
  · rw [Nat.min_eq_right (by omega)]
    rw [List.drop_eq_nil_of_le (by omega), List.drop_eq_nil_of_le (by omega), List.take_nil]
theorem cut_toV {xs : List V} {i : Int} (h : 0 ≤ i) : cutV xs none (some i) = xs.take i.toNat := by
  unfold cutV
  have h1 : HT.sIx xs.length 0 none = 0 := rfl
  have h2 : HT.sIx xs.length xs.length (some i) = min i.toNat xs.length := by
    show (if i < 0 then _ else min i.toNat xs.length) = _
    rw [if_neg (by omega)]
  rw [h1, h2, List.drop_zero, Nat.sub_zero]
  by_cases c : i.toNat ≤ xs.length
  · rw [Nat.min_eq_left c]
  · rw [Nat.min_eq_right (by omega), List.take_of_length_le (Nat.le_refl _), List.take_of_length_le (by omega)]
theorem Items.drop {α : Type} {Rel : Hp → V → α → Prop} {H : Hp} {xs : List V} {l : List α} (h : Items Rel H xs l) (n : Nat) : Items Rel H (xs.drop n) (l.drop n) := by
  refine ⟨by rw [List.length_drop, List.length_drop, h.1], fun i x y h1 h2 => ?_⟩
  rw [List.getElem?_drop] at h1 h2
  exact h.2 _ x y h1 h2
theorem Items.take {α : Type} {Rel : Hp → V → α → Prop} {H : Hp} {xs : List V} {l : List α} (h : Items Rel H xs l) (n : Nat) : Items Rel H (xs.take n) (l.take n) := by
  refine ⟨by rw [List.length_take, List.length_take, h.1], fun i x y h1 h2 => ?_⟩
  rw [List.getElem?_take] at h1 h2
  split at h1
  · next c =>
    rw [if_pos c] at h2
    exact h.2 _ x y h1 h2
  · cases h1
theorem Items.app {α : Type} {Rel : Hp → V → α → Prop} {H : Hp} {xs ys : List V} {l m : List α} (h : Items Rel H xs l) (k : Items Rel H ys m) : Items Rel H (xs ++ ys) (l ++ m) := by
  refine ⟨by rw [List.length_append, List.length_append, h.1, k.1], fun i x y h1 h2 => ?_⟩
  rcases Nat.lt_or_ge i xs.length with q | q
  · rw [List.getElem?_append_left q] at h1
    rw [List.getElem?_append_left (h.1 ▸ q)] at h2
    exact h.2 i x y h1 h2
  · rw [List.getElem?_append_right q] at h1
    rw [List.getElem?_append_right (h.1 ▸ q), ← h.1] at h2
    exact k.2 _ x y h1 h2
theorem Items.rev {α : Type} {Rel : Hp → V → α → Prop} {H : Hp} : ∀ {xs : List V} {l : List α}, Items Rel H xs l → Items Rel H xs.reverse l.reverse
  | [], [], _ => Items.nil
  | [], _ :: _, h => by have := h.1; simp at this
  | _ :: _, [], h => by have := h.1; simp at this
  | x :: xs, y :: l, h => by
    rw [List.reverse_cons, List.reverse_cons]
    exact (Items.rev (xs := xs) (l := l) ⟨by have := h.1; simpa using this, fun i a b h1 h2 => h.2 (i + 1) a b (by simpa using h1) (by simpa using h2)⟩).snoc (fun _ _ z => z) (h.2 0 x y rfl rfl)
end Sh
set_option Elab.async false
set_option linter.all false
set_option maxRecDepth 100000
set_option maxHeartbeats 4000000
namespace Sh
open PySem PySem.Spec PyProof.Rows L2
open SX (S S_inj S_len S_cat)
open Bk (Rule firstAt lg bestUp used left drain pushS Wf quarrel Meets keyLt leastOf parting lefts2)
local macro_rules | `(tactic| walk_at "nx") => `(tactic| repeat (with_reducible first | refine Sh.gn_mk ?_ | refine Sh.nx_mk ?_ | refine Sh.st_nx ?_ | refine Sh.rt_mk ?_ | refine Sh.ct_mk ?_ | refine Sh.bk_mk ?_))
local macro_rules | `(tactic| walk_at "sq") => `(tactic| first | exact SqL.of upd_same | exact SqT.of upd_same | exact SqL.of (by assumption) | exact SqT.of (by assumption) | assumption | exact Or.inl (SqL.of (by assumption)) | exact Or.inr (SqT.of (by assumption)) | exact Or.inl (by assumption) | exact Or.inr (by assumption))
local macro_rules | `(tactic| walk_at "hp") => `(tactic| first | exact upd_same | assumption)
local macro_rules | `(tactic| walk_at "sz") => `(tactic| first | exact Nat.le_of_ble_eq_true rfl | omega)
local macro_rules | `(tactic| walk_at "sd") => `(tactic| first | omega | exact rfl | assumption | (show (0 : Int) < _; omega) | exact And.intro (by omega) (by omega) | exact Or.inl (And.intro (by omega) (by omega)) | exact Or.inr (And.intro (by omega) (by omega)) | omega | exact Sh.sz_S (by omega) | decide)
local macro_rules | `(tactic| walk_at "rd1") => `(tactic| first
  | (with_reducible first | refine Sh.gn_mk ?_ | refine Sh.nx_mk ?_ | refine Sh.st_nx ?_ | refine Sh.rt_mk ?_ | refine Sh.ct_mk ?_ | refine Sh.bk_mk ?_)
  | refine Exists.intro (α := V) _ (And.intro rfl ?_)
  | refine Exists.intro (α := Bool) _ (And.intro rfl ?_)
  | refine Exists.intro (α := Int) _ (And.intro rfl ?_)
  | refine Exists.intro (α := PySem.Str) _ (And.intro rfl ?_)
  | refine Exists.intro (α := Int) _ (Exists.intro (α := Int) _ (And.intro rfl (And.intro rfl ?_)))
  | refine Exists.intro (α := PySem.Str) _ (Exists.intro (α := PySem.Str) _ (And.intro rfl (And.intro rfl ?_)))
  | refine Exists.intro (α := Int) _ (Exists.intro (α := Int) _ (And.intro rfl ?_))
  | refine Or.inl (Exists.intro (α := Int) _ (And.intro rfl ?_))
  | refine Exists.intro _ (Exists.intro _ (Exists.intro _ (Exists.intro _ (And.intro rfl (And.intro rfl (And.intro (by walk_at "sq") (And.intro rfl ?_)))))))
  | refine Exists.intro _ (Exists.intro _ (Exists.intro _ (Exists.intro _ (And.intro rfl (And.intro rfl (And.intro (by walk_at "hp") (And.intro rfl ?_)))))))
  | refine And.intro (by walk_at "sd") ?_
  )
local macro_rules | `(tactic| walk_at "rd") => `(tactic| repeat walk_at "rd1")
local macro_rules | `(tactic| walk_at "lk") => `(tactic| first | exact rfl | (rw [lookup_putF, if_pos rfl]) | (rw [lookup_putF, if_neg (by decide +kernel)]; walk_at "lk"))

theorem reach_chars {sg : List Nat} {R : List Rule} (h : ∀ r ∈ R, RuleOk sg 4 r) {t u : List Nat} (s : Bk.Reach R t u) : (∀ c ∈ t, c ∈ sg) → ∀ c ∈ u, c ∈ sg := by
  induction s with
  | refl => exact id
  | step x _ ih =>
    intro ht
    refine ih ?_
    cases x with
    | mk x y r hr =>
      intro c hc
      rcases List.mem_append.mp hc with z | z
      · rcases List.mem_append.mp z with z | z
        · exact ht c (List.mem_append_left _ (List.mem_append_left _ z))
        · exact (h r hr).2.2.2.1 c z
      · exact ht c (List.mem_append_right _ z)
theorem left_chars {sg : List Nat} {R : List Rule} (h : ∀ r ∈ R, RuleOk sg 4 r) {t : List Nat} (ht : ∀ c ∈ t, c ∈ sg) : ∀ c ∈ left R t, c ∈ sg := reach_chars h (Bk.left_reach t) ht
section
variable {P : Program} {w : World} {K : PySem.W.Frag} {mg : Str → Option Value} {base : Heap} {CB CE XN FN XU FU : Addr}
/-- the rules told so far, in a list of their own -/
structure NInv (K : PySem.W.Frag) (sg : List Nat) (a : Addr) (H : Hp) (pt : Addr) (ys : List V) (N : List Rule) (n : Nat) : Prop where
  lst : H pt = some (.lst ys)
  na : pt ≠ a
  it : Items (RItem K) H ys N
  len : N.length ≤ n
  ok : ∀ r ∈ N, RuleOk sg 4 r
  nd : N.Nodup
theorem NInv.but {sg : List Nat} {a : Addr} {H H' : Hp} {pt : Addr} {ys : List V} {N : List Rule} {n : Nat} (h : NInv K sg a H pt ys N n) (b : But a H H') (s : Src H a) : NInv K sg a H' pt ys N n :=
  ⟨b _ _ h.na h.lst, h.na, h.it.mono fun x y z => z.same (Keep.but b s), h.len, h.ok, h.nd⟩
theorem NInv.mono {sg : List Nat} {a : Addr} {H : Hp} {pt : Addr} {ys : List V} {N : List Rule} {n m : Nat} (h : NInv K sg a H pt ys N n) (l : n ≤ m) : NInv K sg a H pt ys N m := ⟨h.lst, h.na, h.it, Nat.le_trans h.len l, h.ok, h.nd⟩
def spNear (K : PySem.W.Frag) : Sp := fun vs H Q _ => ∃ (a q : Addr) (sg : List Nat) (xs : List V) (R : List Rule), vs = [.ref a, .str (S sg), .ref q] ∧ Src H a ∧ sg ∈ sgMenu ∧ RulesAt K H q xs R ∧ Good sg R ∧
  ∀ (p : Addr) (ys : List V) (N : List Rule) (H' : Hp), RulesAt K H' p ys N → BookOk sg N → quarrel N = none → But a H H' → Q (.ref p) H'
theorem c__law_near (T : Txt K mg) : Cal P w K mg base CX0 5 "_law_near" (spNear K) := by
  have c__law_pick := c__law_pick (P := P) (w := w) (base := base) T
  have c__law_book := c__law_book (P := P) (w := w) (base := base) T
  have c__law_text := c__law_text (P := P) (w := w) (base := base) T
  have c__law_left := c__law_left (P := P) (w := w) (base := base) T
  have c__law_rule := c__law_rule (P := P) (w := w) (base := base) T
  have c__law_quarrel := c__law_quarrel (P := P) (w := w) (base := base) T
  refine Cal.mk0 T.d__law_near sc__law_near (fun vs H Q E h => ?_) (fun f cdv A outer s H vs Q E hr h => ?_)
  · obtain ⟨a, q, sg, xs, R, rfl, _⟩ := h
    rfl
  · obtain ⟨a, q, sg, xs, R, rfl, hS, hsg, hR, hG, k⟩ := h
    have hu65 := hu65_of hr
    have hsl := menu_len sg hsg
    have hSl := S_len sg
    have hssg := menu_signs sg hsg
    obtain ⟨hB, hQn, h60⟩ := hG
    have hw := hB.wf
    have hM := Bk.meets_of hw hQn
    have h4 : ∀ r ∈ R, r.1.length ≤ 4 := fun r m => (hB.2.2.1 r m).2.1
    have cap : ∀ r : Rule, RuleOk sg 4 r → Chars r.1 ∧ Chars r.2 := fun r h => ⟨fun c hc => signs_chars hssg c (h.2.2.1 c hc), fun c hc => signs_chars hssg c (h.2.2.2.1 c hc)⟩
    refine ⟨_, (pss_cons (ps_set (i := 3) sc__law_near.nd rfl (Or.inl rfl) (pe_c c__law_pick hr (by decide) rfl (pa_cons (pv 0) (pa_cons pe_int pa_nil))))
  (pss_cons (ps_if (pt_cmpR op_eq (pv 3) pe_int (nomark _))
    (pss_one (ps_ret (pe_c c__law_book hr (by decide) rfl (pa_cons (pv 0) (pa_cons (pv 1) (pa_cons pe_int pa_nil))))))
    pss_nil)
  (pss_cons (ps_set (i := 4) sc__law_near.nd rfl (Or.inl rfl) (pe_callTy call_list_of (by rfl) T.b_list (by decide +kernel) (pa_cons (pv 2) pa_nil)))
  (pss_cons (ps_if (pt_cmpR op_eq (pv 3) pe_int (nomark _))
    (pss_one (ps_for PassesOwn.never rfl (pi_range1 (by rfl) T.b_range (pa_cons pe_int pa_nil)) (pg_name (i := 5) sc__law_near.nd rfl (Or.inl rfl))
      (pss_cons (ps_set (i := 6) sc__law_near.nd rfl (Or.inl rfl) (pe_c c__law_text hr (by decide) rfl (pa_cons (pv 0) (pa_cons (pv 1) (pa_cons pe_int pa_nil)))))
      (pss_cons (ps_set (i := 7) sc__law_near.nd rfl (Or.inl rfl) (pe_c c__law_left hr (by decide) rfl (pa_cons (pv 2) (pa_cons (pv 6) pa_nil))))
      (pss_one (ps_if (PW.pt (pw_and (pt_cmpR op_lt (pe_callB call_len_str (by rfl) T.b_len (by decide +kernel) (pa_cons (pv 7) pa_nil)) pe_int (nomark _)) (pw_and (pt_cmpR op_lt (pe_callB call_len_str (by rfl) T.b_len (by decide +kernel) (pa_cons (pv 7) pa_nil)) (pe_callB call_len_str (by rfl) T.b_len (by decide +kernel) (pa_cons (pv 6) pa_nil)) (nomark _)) (pw_and1 (pt_cmpR (op_notInD hu65) (pe_tup (pa_cons (pv 6) (pa_cons (pv 7) pa_nil))) (pv 4) (by rfl))))))
        (pss_one (ps_expr (pe_bm PySem.F.plainAttrs_list PySem.F.slot_list_append PySem.F.type_list_append mt_append (pv 4) (pa_cons (pe_tup (pa_cons (pv 6) (pa_cons (pv 7) pa_nil))) pa_nil))))
        pss_nil))))))
    (pss_one (ps_if (pt_truth (pv 4) (by intro _; rfl))
      (pss_cons (ps_set (i := 8) sc__law_near.nd rfl (Or.inl rfl) (pe_c c__law_pick hr (by decide) rfl (pa_cons (pv 0) (pa_cons (pe_callB call_len_seq (by rfl) T.b_len (by decide +kernel) (pa_cons (pv 4) pa_nil)) pa_nil))))
      (pss_cons (ps_set (i := 9) sc__law_near.nd rfl (Or.inl rfl) (pe_c c__law_rule hr (by decide) rfl (pa_cons (pv 0) (pa_cons (pv 1) (pa_cons pe_int pa_nil)))))
      (pss_cons (ps_set (i := 4) sc__law_near.nd rfl (Or.inl rfl) (pe_op op_cat (pe_slice sl_list (pv 4) po_none (po_some (pv 8))) (pe_slice sl_list (pv 4) (po_some (pe_op op_add (pv 8) pe_int)) po_none)))
      (pss_one (ps_if (PW.pt (pw_and (pt_cmpR (op_notInD hu65) (pv 9) (pv 4) (by rfl)) (pw_and1 (pt_cmpR op_eq (pv 3) pe_int (nomark _)))))
        (pss_one (ps_expr (pe_bm PySem.F.plainAttrs_list PySem.F.slot_list_append PySem.F.type_list_append mt_append (pv 4) (pa_cons (pv 9) pa_nil))))
        pss_nil)))))
      pss_nil)))
  (pss_cons (ps_set (i := 4) sc__law_near.nd rfl (Or.inl rfl) (pe_callTy call_tuple_of (by rfl) T.b_tuple (by decide +kernel) (pa_cons (pv 4) pa_nil)))
  (pss_one (ps_ret (pe_ifExp (pt_cmpR op_isN (pe_c c__law_quarrel hr (by decide) rfl (pa_cons (pv 4) pa_nil)) pe_non (nomark _)) (pv 4) (pe_revT (pv 2)))))))))), ?_⟩
    walk_at "rd"
    refine ⟨a, 4, rfl, hS, by decide, by decide, fun way H1 hw0 hw1 hS1 b1 => ?_⟩
    have hR1 := hR.keep (Keep.but b1 hS)
    walk_at "nx"
    refine if_K (decide (way = 0)) (fun Q' hQ => ?_) (fun hb => ?_) (fun hb => ?_)
    · walk_at "rd"
      exact q_of hQ (decide_eq_decide.mpr (by constructor <;> intro z <;> first | (exact V.int.inj z) | (rw [z])))
    · walk_at "nx"
      refine ⟨_, rfl, _, rfl, a, sg, 4, rfl, hS1, hsg, by decide, by decide, fun p ys N H2 hN hG2 hS2 b2 => ?_⟩
      exact k p ys N H2 hN hG2.1 hG2.2.1 (b1.trans b2)
    walk_at "nx"
    refine ⟨_, rfl, q, xs, rfl, .inr hR1.sq, fun pt hpt => ?_⟩
    have s2 := same_new (o := .lst xs) hpt
    have hS2 := hS1.sm s2
    have b2 := b1.trans (But.same s2)
    have hR2 := hR1.same s2
    have hna : pt ≠ a := by
      obtain ⟨d, e, c, z⟩ := hS1
      exact (ne_of_none z hpt).symm
    have G2 : NInv K sg a (upd H1 pt (.lst xs)) pt xs R 60 := ⟨upd_same, hna, hR2.items, h60, hB.2.2.1, hB.2.2.2⟩
    generalize upd H1 pt (.lst xs) = H2 at s2 hS2 b2 hR2 G2 ⊢
    walk_at "nx"
    refine st_ifJ (fun σ H3 => ∃ (pt : Addr) (ys : List V) (N : List Rule) (v5 v6 v7 v8 v9 : Option V), σ = [some (.ref a), some (.str (S sg)), some (.ref q), some (.int way), some (.ref pt), v5, v6, v7, v8, v9] ∧ Src H3 a ∧ But a H H3 ∧ RulesAt K H3 q xs R ∧ NInv K sg a H3 pt ys N 64) (fun Q' hQ => ?_) ?_
    · refine if_K (decide (way = 1)) (fun Q' hQ => ?_) (fun hb => ?_) (fun hb => ?_)
      · walk_at "rd"
        exact q_of hQ (decide_eq_decide.mpr (by constructor <;> intro z <;> first | (exact V.int.inj z) | (rw [z])))
      · walk_at "rd"
        refine for_range (lo := 0) (n := _) (fun i σ H3 => ∃ (ys : List V) (N : List Rule) (v5 v6 v7 v8 v9 : Option V), σ = [some (.ref a), some (.str (S sg)), some (.ref q), some (.int way), some (.ref pt), v5, v6, v7, v8, v9] ∧ Src H3 a ∧ But a H H3 ∧ RulesAt K H3 q xs R ∧ NInv K sg a H3 pt ys N (60 + i))
          ⟨_, _, _, _, _, _, _, rfl, hS2, b2, hR2, G2⟩ ?_ ?_
        · rintro i σ H3 hi ⟨ys, N, v5, v6, v7, v8, v9, rfl, hS3, b3, hR3, G⟩
          have hi3 : i < 3 := hi
          rw [Int.zero_add]
          walk_at "nx"
          refine ⟨_, rfl, _, rfl, a, sg, 4, rfl, hS3, by omega, by omega, by decide, by decide, fun t H4 hl hc hS4 b4 => ?_⟩
          have G4 := G.but b4 hS3
          have hR4 := hR3.keep (Keep.but b4 hS3)
          have b04 := b3.trans b4
          walk_at "nx"
          refine ⟨_, rfl, _, rfl, q, xs, R, t, rfl, .inr hR4.sq, hR4.items, hB.2.1, hw, h4, by omega, fun H5 s5 => ?_⟩
          have hS5 := hS4.sm s5
          have G5 := G4.but (But.same s5) hS4
          have hR5 := hR4.same s5
          have b05 := b04.trans (But.same s5)
          have hll := left_len hw t
          have hSt := S_len t
          have hSe := S_len (left R t)
          have hcl := left_chars hB.2.2.1 hc
          have hct : RChars N := fun x m => cap x (G5.ok x m)
          have hci : Chars t ∧ Chars (left R t) := ⟨fun c h => signs_chars hssg c (hc c h), fun c h => signs_chars hssg c (hcl c h)⟩
          have hyl : ys.length ≤ 63 := by have := G5.it.1; have := G5.len; omega
          walk_at "nx"
          refine if_JB (fun b H' => Same H5 H' ∧ (b = true → (left R t).length < 2 ∧ (left R t).length < t.length ∧ (t, left R t) ∉ N)) (fun Q' hQ' => ?_) (fun H6 ⟨s6, hb6⟩ => ?_) (fun H6 ⟨s6, hb6⟩ => ?_)
          · walk_at "rd"
            refine ite2 (fun c1 => ?_) (fun c1 => ?_)
            · walk_at "rd"
              refine ite2 (fun c2 => ?_) (fun c2 => ?_)
              · have c1' := of_decide_eq_true c1
                have c2' := of_decide_eq_true c2
                walk_at "rd"
                refine ⟨by walk_at "sz", fun pz hpz => ?_⟩
                have s6 := same_new (o := .tup [.str (S t), .str (S (left R t))]) hpz
                have iq : RItem K (upd H5 pz (.tup [.str (S t), .str (S (left R t))])) (.ref pz) (t, left R t) := ⟨pz, rfl, SqT.of upd_same⟩
                refine ⟨_, rfl, rD (t, left R t), N.map rD, RItem.dp iq, .lst (SqL.of (s6 _ _ G5.lst)) (dpAll_rules (G5.it.mono fun x y h => h.sm s6)), shaped_rule hci, shaped_rules hct, _, rfl, ?_⟩
                rw [any_rules]
                exact hQ' _ _ ⟨s6, fun e => ⟨by omega, by omega, by simpa using e⟩⟩
              · exact hQ' _ _ ⟨Same.refl _, fun e => by cases e⟩
            · exact hQ' _ _ ⟨Same.refl _, fun e => by cases e⟩
          · obtain ⟨e1, e2, e3⟩ := hb6 rfl
            have hS6 := hS5.sm s6
            have G6 := G5.but (But.same s6) hS5
            have hR6 := hR5.same s6
            walk_at "nx"
            refine ⟨_, rfl, .inl ⟨rfl, _, SqL.of G6.lst⟩, ?_⟩
            walk_at "rd"
            refine ⟨by walk_at "sz", fun pz hpz => ?_⟩
            have s7 := same_new (o := .tup [.str (S t), .str (S (left R t))]) hpz
            have G7 := G6.but (But.same s7) hS6
            have hS7 := hS6.sm s7
            have hz7 : (upd H6 pz (.tup [.str (S t), .str (S (left R t))])) pz = some (.tup (rTup (t, left R t))) := upd_same
            have b07 := b05.trans (But.same (s6.trans s7))
            have hR7 := hR6.same s7
            generalize upd H6 pz (.tup [.str (S t), .str (S (left R t))]) = H7 at s7 G7 hS7 hz7 b07 hR7 ⊢
            refine ⟨pt, _, _, rfl, rfl, G7.lst, Nat.lt_of_le_of_lt (m := 63) hyl (by decide), ?_⟩
            have kk : Keep H7 (upd H7 pt (.lst (ys ++ [.ref pz]))) := Keep.butL but_upd G7.lst
            have hptH : H pt = none := by
              cases z : H pt with
              | none => rfl
              | some o =>
                have := b1 _ _ hna z
                rw [this] at hpt
                cases hpt
            refine ⟨ys ++ [.ref pz], N ++ [(t, left R t)], _, _, _, _, _, rfl, ?_, but_mut b07 hptH, hR7.keep kk, ⟨upd_same, hna, G7.it.snoc (fun x y h => h.same kk) ⟨pz, rfl, kk.seq (SqT.of hz7)⟩, by have := G7.len; simp; omega, ?_, ?_⟩⟩
            · obtain ⟨d, e, c, z⟩ := hS7
              exact ⟨d, e, c, by rw [upd_ne hna.symm]; exact z⟩
            · intro x hx
              rcases List.mem_append.mp hx with z | z
              · exact G7.ok x z
              · have : x = (t, left R t) := by simpa using z
                rw [this]
                exact ⟨by show 1 ≤ t.length; omega, by show t.length ≤ 4; omega, hc, hcl, by show (left R t).length ≤ 1; omega, e2⟩
            · rw [List.nodup_append]
              refine ⟨G7.nd, by simp, fun x hx y hy => ?_⟩
              have : y = (t, left R t) := by simpa using hy
              subst this
              intro e
              exact e3 (e ▸ hx)
          · walk_at "nx"
            exact ⟨ys, N, _, _, _, _, _, rfl, hS5.sm s6, b05.trans (But.same s6), hR5.same s6, (G5.but (But.same s6) hS5).mono (by omega)⟩
        · rintro σ H3 ⟨ys, N, v5, v6, v7, v8, v9, rfl, hS3, b3, hR3, G⟩
          exact hQ _ _ ⟨pt, ys, N, _, _, _, _, _, rfl, hS3, b3, hR3, G.mono (by show 60 + 3 ≤ 64; decide)⟩
      · walk_at "nx"
        refine if_K (!xs.isEmpty) (fun Q' hQ => ⟨_, rfl, !xs.isEmpty, .inl ⟨_, SqL.of G2.lst, rfl⟩, hQ⟩) (fun hb2 => ?_) (fun hb2 => ?_)
        · have hx0 : 0 < xs.length := by
            cases xs with
            | nil => cases hb2
            | cons _ _ => simp
          have hxl : xs.length ≤ 60 := by have := G2.it.1; omega
          walk_at "nx"
          refine ⟨_, rfl, _, rfl, pt, xs, rfl, .inl (SqL.of G2.lst), a, _, rfl, hS2, by omega, by omega, fun at_ H3 ha0 ha1 hS3 b3 => ?_⟩
          have G3 := G2.but b3 hS2
          have hR3 := hR2.keep (Keep.but b3 hS2)
          have b03 := b2.trans b3
          walk_at "nx"
          refine ⟨_, rfl, _, rfl, a, sg, 3, rfl, hS3, by omega, by omega, by decide, by decide, fun r qr H4 hrk hS4 b4 hqn hqr => ?_⟩
          have hr4 : RuleOk sg 4 r := hrk.le (by decide)
          have G4 := G3.but b4 hS3
          have hR4 := hR3.keep (Keep.but b4 hS3)
          have b04 := b03.trans b4
          walk_at "nx"
          have hla : xs.length = R.length := G4.it.1
          refine ⟨_, rfl, _, rfl, _, rfl, pt, xs, rfl, SqL.of G4.lst, fun p1 hp1 => ?_⟩
          rw [cut_toV ha0]
          have s5 := same_new (o := .lst (xs.take at_.toNat)) hp1
          refine ⟨_, rfl, _, rfl, _, _, rfl, rfl, _, rfl, pt, xs, rfl, SqL.of (s5 _ _ G4.lst), fun p2 hp2 => ?_⟩
          rw [cut_fromV (by omega)]
          have s6 := s5.trans (same_new (o := .lst (xs.drop (at_ + 1).toNat)) hp2)
          refine ⟨p1, p2, _, _, rfl, rfl, same_new hp2 _ _ upd_same, upd_same, Nat.le_trans (m := 120) (by rw [List.length_take, List.length_drop]; omega) (by decide), fun p3 hp3 => ?_⟩
          have s7 := s6.trans (same_new (o := .lst (xs.take at_.toNat ++ xs.drop (at_ + 1).toNat)) hp3)
          have h37 := @upd_same (upd (upd H4 p1 (.lst (xs.take at_.toNat))) p2 (.lst (xs.drop (at_ + 1).toNat))) p3 (.lst (xs.take at_.toNat ++ xs.drop (at_ + 1).toNat))
          have hn3 : H4 p3 = none := by
            cases z : H4 p3 with
            | none => rfl
            | some o => rw [s6 _ _ z] at hp3; cases hp3
          generalize upd (upd (upd H4 p1 (.lst (xs.take at_.toNat))) p2 (.lst (xs.drop (at_ + 1).toNat))) p3 (.lst (xs.take at_.toNat ++ xs.drop (at_ + 1).toNat)) = H7 at s7 h37 ⊢
          have it7 : Items (RItem K) H7 (xs.take at_.toNat ++ xs.drop (at_ + 1).toNat) (R.take at_.toNat ++ R.drop (at_ + 1).toNat) := Items.app (Items.take (G4.it.mono fun x y z => z.sm s7) at_.toNat) (Items.drop (G4.it.mono fun x y z => z.sm s7) (at_ + 1).toNat)
          have sub : (R.take at_.toNat ++ R.drop (at_ + 1).toNat).Sublist R := by
            rw [show (at_ + 1).toNat = at_.toNat + 1 by omega, ← List.eraseIdx_eq_take_drop_succ]
            exact List.eraseIdx_sublist _ _
          have hna3 : p3 ≠ a := by
            obtain ⟨d, e, c, z⟩ := hS4
            exact (ne_of_none z hn3).symm
          have G7 : NInv K sg a H7 p3 (xs.take at_.toNat ++ xs.drop (at_ + 1).toNat) (R.take at_.toNat ++ R.drop (at_ + 1).toNat) 60 := ⟨h37, hna3, it7, Nat.le_trans sub.length_le h60, fun x hx => hB.2.2.1 x (sub.subset hx), hB.2.2.2.sublist sub⟩
          have hS7 := hS4.sm s7
          have hR7 := hR4.same s7
          have b07 := b04.trans (But.same s7)
          have hqr7 := s7 _ _ hqr
          generalize xs.take at_.toNat ++ xs.drop (at_ + 1).toNat = ys at G7
          generalize R.take at_.toNat ++ R.drop (at_ + 1).toNat = N at G7
          have hyl : ys.length ≤ 60 := by have := G7.it.1; have := G7.len; omega
          have hci := cap r hr4
          have hct : RChars N := fun x m => cap x (G7.ok x m)
          have iq : RItem K H7 (.ref qr) r := ⟨qr, rfl, SqT.of hqr7⟩
          walk_at "nx"
          refine if_K (decide (r ∉ N) && decide (way = 2)) (fun Q' hQ => ?_) (fun hb3 => ?_) (fun hb3 => ?_)
          · refine ⟨_, rfl, _, rfl, rD r, N.map rD, RItem.dp iq, .lst (SqL.of G7.lst) (dpAll_rules G7.it), shaped_rule hci, shaped_rules hct, _, rfl, ?_⟩
            rw [any_rules]
            by_cases hin : r ∈ N
            · rw [decide_eq_true hin]
              refine iteF ?_
              exact q_of hQ (by simp [hin])
            · rw [decide_eq_false hin]
              refine iteT ?_
              walk_at "rd"
              refine q_of hQ ?_
              rw [decide_eq_true hin, Bool.true_and]
              exact decide_eq_decide.mpr (by constructor <;> intro z <;> first | (exact V.int.inj z) | (rw [z]))
          · rw [Bool.and_eq_true, decide_eq_true_eq, decide_eq_true_eq] at hb3
            walk_at "nx"
            refine ⟨_, rfl, .inl ⟨rfl, _, SqL.of G7.lst⟩, ?_⟩
            walk_at "rd"
            refine ⟨p3, _, _, rfl, rfl, G7.lst, Nat.lt_of_le_of_lt (m := 60) hyl (by decide), ?_⟩
            have kk : Keep H7 (upd H7 p3 (.lst (ys ++ [.ref qr]))) := Keep.butL but_upd G7.lst
            have hpH : H p3 = none := by
              cases z : H p3 with
              | none => rfl
              | some o => rw [b04 _ _ hna3 z] at hn3; cases hn3
            refine hQ _ _ ⟨p3, ys ++ [.ref qr], N ++ [r], _, _, _, _, _, rfl, ?_, but_mut b07 hpH, hR7.keep kk, ⟨upd_same, hna3, G7.it.snoc (fun x y h => h.same kk) ⟨qr, rfl, kk.seq (SqT.of hqr7)⟩, by have := G7.len; simp; omega, ?_, ?_⟩⟩
            · obtain ⟨d, e, c, z⟩ := hS7
              exact ⟨d, e, c, by rw [upd_ne hna3.symm]; exact z⟩
            · intro x hx
              rcases List.mem_append.mp hx with z | z
              · exact G7.ok x z
              · have : x = r := by simpa using z
                exact this ▸ hr4
            · rw [List.nodup_append]
              refine ⟨G7.nd, by simp, fun x hx y hy => ?_⟩
              have : y = r := by simpa using hy
              subst this
              intro e
              exact hb3.1 (e ▸ hx)
          · walk_at "nx"
            exact hQ _ _ ⟨p3, ys, N, _, _, _, _, _, rfl, hS7, b07, hR7, G7.mono (by decide)⟩
        · walk_at "nx"
          exact hQ _ _ ⟨pt, xs, R, _, _, _, _, _, rfl, hS2, b2, hR2, G2.mono (by decide)⟩
    · rintro σ H3 ⟨pt, ys, N, v5, v6, v7, v8, v9, rfl, hS3, b3, hR3, G⟩
      have hNw : Wf N := fun r m => ⟨(G.ok r m).2.2.2.2.2, (G.ok r m).2.2.2.2.1⟩
      have hN4 : ∀ r ∈ N, r.1.length ≤ 4 := fun r m => (G.ok r m).2.1
      walk_at "nx"
      refine ⟨_, rfl, pt, ys, rfl, .inl ⟨SqL.of G.lst, fun pz hpz => ?_⟩⟩
      have s4 := same_new (o := .tup ys) hpz
      have G4 := G.but (But.same s4) hS3
      have hz4 : (upd H3 pz (.tup ys)) pz = some (.tup ys) := upd_same
      have hR4 := hR3.same s4
      have b4 := b3.trans (But.same s4)
      generalize upd H3 pz (.tup ys) = H4 at s4 G4 hz4 hR4 b4 ⊢
      walk_at "nx"
      refine ⟨_, rfl, pz, ys, N, rfl, .inr (SqT.of hz4), G4.it, G4.len, hNw, hN4, fun u H5 hu5 s5 => ?_⟩
      cases u with
      | none =>
        walk_at "rd"
        exact k pz ys N H5 ⟨SqT.of (s5 _ _ hz4), G4.it.1, fun i x r h1 h2 => (G4.it.2 i x r h1 h2).sm s5⟩ ⟨hssg, G4.len, G4.ok, G4.nd⟩ (quarrel_of_meets (hu5 rfl)) (b4.trans (But.same s5))
      | some t =>
        walk_at "rd"
        have hR5 := hR4.same s5
        refine ⟨q, xs, rfl, hR5.sq, fun p hp => ?_⟩
        have s6 := same_new (o := .tup xs.reverse) hp
        have itr := (hR5.items.mono fun x y z => z.sm s6).rev
        refine k p xs.reverse R.reverse _ ⟨SqT.of upd_same, itr.1, itr.2⟩ ⟨hssg, by rw [List.length_reverse]; exact hB.2.1, fun r m => hB.2.2.1 r (List.mem_reverse.mp m), (List.reverse_perm R).nodup_iff.mpr hB.2.2.2⟩ ?_ (b4.trans ((But.same s5).trans (But.same s6)))
        exact quarrel_of_meets (Bk.more_same hw hM (fun r m => List.mem_reverse.mpr m) (fun r m => .inl (List.mem_reverse.mp m))).2.2.2
end
end Sh
set_option Elab.async false
set_option linter.all false
set_option maxRecDepth 100000
/-! how data are shown: bounds -/
namespace Sh
open PySem PySem.Spec PyProof.Rows L2
open SX (S S_inj S_len S_cat)
def Shw (d : PyData) (k m : Nat) : Prop := d.showable = true ∧ d.hasDict = false ∧ d.depth ≤ k ∧ d.shown.length ≤ m
theorem Shw.mono {d : PyData} {k m k' m' : Nat} (h : Shw d k m) (h1 : k ≤ k') (h2 : m ≤ m') : Shw d k' m' := ⟨h.1, h.2.1, Nat.le_trans h.2.2.1 h1, Nat.le_trans h.2.2.2 h2⟩
theorem Shw.non : Shw .none 0 4 := ⟨rfl, rfl, Nat.le_refl _, by decide⟩
theorem Shw.bl (b : Bool) : Shw (.bool b) 0 5 := by cases b <;> exact ⟨rfl, rfl, Nat.le_refl _, by decide⟩
theorem Shw.str {u : List Nat} (h : ∀ c ∈ u, c < 1114112) : Shw (.str (S u)) 0 (10 * u.length + 2) := by
  refine ⟨rfl, rfl, Nat.le_refl _, ?_⟩
  have := PySem.StrLaws.reprText_len (S u) (fun c hc => Nat.lt_trans (h c hc) (by decide))
  rw [S_len] at this
  exact this
theorem showAll {ds : List PyData} {k m : Nat} (h : ∀ d ∈ ds, Shw d k m) : PyData.showableAll ds = true ∧ PyData.hasDictAll ds = false ∧ PyData.depthAll ds ≤ k ∧ (((PyData.shownAll ds).map (·.length)).sum ≤ ds.length * m) ∧ (PyData.shownAll ds).length = ds.length := by
  induction ds with
  | nil => exact ⟨rfl, rfl, Nat.zero_le _, Nat.zero_le _, rfl⟩
  | cons d ds ih =>
    obtain ⟨a1, a2, a3, a4⟩ := h d List.mem_cons_self
    obtain ⟨b1, b2, b3, b4, b5⟩ := ih fun x hx => h x (List.mem_cons_of_mem _ hx)
    refine ⟨?_, ?_, ?_, ?_, ?_⟩
    · show (d.showable && PyData.showableAll ds) = true
      rw [a1, b1]; rfl
    · show (d.hasDict || PyData.hasDictAll ds) = false
      rw [a2, b2]; rfl
    · show max d.depth (PyData.depthAll ds) ≤ k
      omega
    · show d.shown.length + ((PyData.shownAll ds).map (·.length)).sum ≤ (ds.length + 1) * m
      rw [Nat.succ_mul]
      omega
    · show (PyData.shownAll ds).length + 1 = ds.length + 1
      rw [b5]
theorem Shw.tup {ds : List PyData} {k m : Nat} (h : ∀ d ∈ ds, Shw d k m) : Shw (.tuple ds) (k + 1) (ds.length * m + 2 * ds.length + 3) := by
  obtain ⟨b1, b2, b3, b4, b5⟩ := showAll h
  refine ⟨b1, b2, ?_, ?_⟩
  · show PyData.depthAll ds + 1 ≤ k + 1
    omega
  · have := PySem.tupleText_len_le (PyData.shownAll ds)
    rw [b5] at this
    show (tupleText (PyData.shownAll ds)).length ≤ _
    omega
theorem Shw.lst {ds : List PyData} {k m : Nat} (h : ∀ d ∈ ds, Shw d k m) : Shw (.list ds) (k + 1) (ds.length * m + 2 * ds.length + 3) := by
  obtain ⟨b1, b2, b3, b4, b5⟩ := showAll h
  refine ⟨b1, b2, ?_, ?_⟩
  · show PyData.depthAll ds + 1 ≤ k + 1
    omega
  · have := PySem.listText_len_le (PyData.shownAll ds)
    rw [b5] at this
    show (listText (PyData.shownAll ds)).length ≤ _
    omega
theorem Shw.ok {d : PyData} {k m : Nat} (h : Shw d k m) (h1 : k ≤ 60) (h2 : m ≤ 16777216) : d.showable = true ∧ d.hasDict = false ∧ d.depth ≤ 60 ∧ d.shown.length ≤ sizeLine := ⟨h.1, h.2.1, Nat.le_trans h.2.2.1 h1, Nat.le_trans h.2.2.2 (Nat.le_trans h2 (by decide))⟩
end Sh
set_option Elab.async false
set_option linter.all false
set_option maxRecDepth 100000
set_option maxHeartbeats 8000000
namespace Sh
open PySem PySem.Spec PyProof.Rows L2
open SX (S S_inj S_len S_cat)
open Bk (Rule firstAt lg bestUp used left drain pushS Wf quarrel Meets keyLt leastOf parting lefts2 txts lrules IsDue)
local macro_rules | `(tactic| walk_at "nx") => `(tactic| repeat (with_reducible first | refine Sh.gn_mk ?_ | refine Sh.nx_mk ?_ | refine Sh.st_nx ?_ | refine Sh.rt_mk ?_ | refine Sh.ct_mk ?_ | refine Sh.bk_mk ?_))
local macro_rules | `(tactic| walk_at "sq") => `(tactic| first | exact SqL.of upd_same | exact SqT.of upd_same | exact SqL.of (by assumption) | exact SqT.of (by assumption) | assumption | exact Or.inl (SqL.of (by assumption)) | exact Or.inr (SqT.of (by assumption)) | exact Or.inl (by assumption) | exact Or.inr (by assumption))
local macro_rules | `(tactic| walk_at "hp") => `(tactic| first | exact upd_same | assumption)
local macro_rules | `(tactic| walk_at "sz") => `(tactic| first | exact Nat.le_of_ble_eq_true rfl | omega)
local macro_rules | `(tactic| walk_at "sd") => `(tactic| first | omega | exact rfl | assumption | (show (0 : Int) < _; omega) | exact And.intro (by omega) (by omega) | exact Or.inl (And.intro (by omega) (by omega)) | exact Or.inr (And.intro (by omega) (by omega)) | omega | exact Sh.sz_S (by omega) | decide)
local macro_rules | `(tactic| walk_at "rd1") => `(tactic| first
  | (with_reducible first | refine Sh.gn_mk ?_ | refine Sh.nx_mk ?_ | refine Sh.st_nx ?_ | refine Sh.rt_mk ?_ | refine Sh.ct_mk ?_ | refine Sh.bk_mk ?_)
  | refine Exists.intro (α := V) _ (And.intro rfl ?_)
  | refine Exists.intro (α := Bool) _ (And.intro rfl ?_)
  | refine Exists.intro (α := Int) _ (And.intro rfl ?_)
  | refine Exists.intro (α := PySem.Str) _ (And.intro rfl ?_)
  | refine Exists.intro (α := Int) _ (Exists.intro (α := Int) _ (And.intro rfl (And.intro rfl ?_)))
  | refine Exists.intro (α := PySem.Str) _ (Exists.intro (α := PySem.Str) _ (And.intro rfl (And.intro rfl ?_)))
  | refine Exists.intro (α := Int) _ (Exists.intro (α := Int) _ (And.intro rfl ?_))
  | refine Or.inl (Exists.intro (α := Int) _ (And.intro rfl ?_))
  | refine Exists.intro _ (Exists.intro _ (Exists.intro _ (Exists.intro _ (And.intro rfl (And.intro rfl (And.intro (by walk_at "sq") (And.intro rfl ?_)))))))
  | refine Exists.intro _ (Exists.intro _ (Exists.intro _ (Exists.intro _ (And.intro rfl (And.intro rfl (And.intro (by walk_at "hp") (And.intro rfl ?_)))))))
  | refine And.intro (by walk_at "sd") ?_
  )
local macro_rules | `(tactic| walk_at "rd") => `(tactic| repeat walk_at "rd1")
local macro_rules | `(tactic| walk_at "lk") => `(tactic| first | exact rfl | (rw [lookup_putF, if_pos rfl]) | (rw [lookup_putF, if_neg (by decide +kernel)]; walk_at "lk"))

theorem But.toSame {p : Addr} {H H' : Hp} (b : But p H H') (n : H p = none) : Same H H' := fun c o e => b c o (ne_of_none e n) e
theorem menu_asc : ∀ sg ∈ sgMenu, sg.Pairwise (· < ·) := by decide +kernel
theorem menu_cd : ∀ sg ∈ sgMenu, sg ≠ [99, 100] := by decide +kernel
def looseR : List Rule := [([97, 97], [97]), ([97, 98], [])]
theorem loose_ok : BookOk [97, 98] looseR := by decide +kernel
theorem strange_ok : BookOk [99, 100] [] := by decide +kernel
theorem loose_q : quarrel looseR = some [97, 97, 98] := by decide +kernel
theorem lit_ab : (Str.ofString "ab") = S [97, 98] := by decide +kernel
theorem lit_cd : (Str.ofString "cd") = S [99, 100] := by decide +kernel
theorem lk1 {f : Str} {v : V} : List.lookup f [(f, v)] = some v := by simp [List.lookup]
theorem lit_aab : (Str.ofString "aab") = S [97, 97, 98] := by decide +kernel
theorem rep_aab : (reprText (S [97, 97, 98])).length ≤ 1000 := by decide +kernel
theorem lit_r1 : rTup ([97, 97], [97]) = [.str (Str.ofString "aa"), .str (Str.ofString "a")] := by
  have h1 : (Str.ofString "aa") = S [97, 97] := by decide +kernel
  have h2 : (Str.ofString "a") = S [97] := by decide +kernel
  rw [h1, h2]; rfl
theorem lit_r2 : rTup ([97, 98], []) = [.str (Str.ofString "ab"), .str (Str.ofString "")] := by
  have h2 : (Str.ofString "") = S [] := by decide +kernel
  rw [lit_ab, h2]; rfl
theorem BookOk.over {sg : List Nat} {R : List Rule} (h : BookOk sg R) : Bk.OverR sg R := fun r m => ⟨(h.2.2.1 r m).2.2.1, (h.2.2.1 r m).2.2.2.1⟩
/-- the reading of a try, as a word of its own (within a loop) -/
def tTry (tb : WX → TS) (K : PySem.W.Frag) (Wo : WX) (l : List ClA) : TS := fun D σ H => tb (wAsN K Wo D l) D σ H
theorem ps_tryT {X : Cx} {body : List Stmt} {h0 : ExceptHandler} {hds : List ExceptHandler} {l : List ClA} {pos : Pos} {tb : WX → TS} {Wo : WX} (hs : X.stack = X.env :: X.outer) (hf : X.env.frame = some X.env.locals) (hN : X.N.Nodup) (tk : Takes X Wo)
    (hb : ∀ (W : WX) (pn : List (Addr × Obj)) (xe : Value → Shared → Prop), Takes (X.tr pn xe) W → PassesOwn (model X.prog X.w) X.A X.env xe → PSs (X.tr pn xe) body (tb W))
    (hh : HdsA X (h0 :: hds) l) : PS X (.Try body (h0 :: hds) [] [] pos) (tTry tb X.K Wo l) := ps_try_asN hs hf hN tk hb hh
/-- two tuples put together -/
theorem catA_J {K : PySem.W.Frag} {a b : Addr} {xs ys : List V} {H : Hp} {Q : VK} (h : SqT K H a xs) (g : SqT K H b ys) (l : xs.length + ys.length ≤ sizeLine) (k : ∀ q H', Same H H' → SqT K H' q (xs ++ ys) → Q (.ref q) H') : rCatA K (.ref a) (.ref b) H Q :=
  ⟨a, b, xs, ys, rfl, rfl, h, g, l, fun e => k b H (Same.refl _) (by rw [e]; exact g), fun _ e => k a H (Same.refl _) (by rw [e, List.append_nil]; exact h), fun _ _ p hp => k p _ (same_new hp) (SqT.of upd_same)⟩
section
variable {P : Program} {w : World} {K : PySem.W.Frag} {mg : Str → Option Value} {base : Heap} {CB CE XN FN XU FU : Addr}
theorem law_body (T : TxtX P K mg CB CE XN FN XU FU) (f : Addr) (cdv : Value) (A : Around) (outer : List Env) (s : Shared) (H : Hp) (E : XK) (hr : Room 7 (A.deeper (envOfC "law" (defScope s_law) s.heap.objs.size f cdv))) (hgd : A.guards = some [])
    (a : Addr) (ns : List Int) (hS : SqL K H a (ns.map V.int)) (hbits : ∀ z ∈ ns, Builtin.Int.intBits z ≤ 1048576) (hlen : ns.length ≤ 63) :
    ∃ t, PSs (cxOf CX0 P w K mg base ["_law_script", "_law_source_here", "_law_signs_here", "_law_rules", "_law_near_here", "_law_one", "_law_other", "_law_told", "_law_lefts", "_law_unlike", "_law_least", "_law_text_here", "_law_due", "_law_loose", "_law_strange", "_law_turn", "raised", "_law_rule_here", "_law_left_here"] "law" (defScope s_law) f cdv A outer s H E).nox (defBody s_law) t ∧
      t { nx := fun _ _ => V.non = V.bl true, rt := fun v _ => v = .bl true } (start ["_law_script", "_law_source_here", "_law_signs_here", "_law_rules", "_law_near_here", "_law_one", "_law_other", "_law_told", "_law_lefts", "_law_unlike", "_law_least", "_law_text_here", "_law_due", "_law_loose", "_law_strange", "_law_turn", "raised", "_law_rule_here", "_law_left_here"] [.ref a]) H := by
  have c__law_source := c__law_source (P := P) (w := w) (base := base) T.toTxtC.toTxt
  have c__law_signs := c__law_signs (P := P) (w := w) (base := base) T.toTxtC.toTxt
  have c__law_book := c__law_book (P := P) (w := w) (base := base) T.toTxtC.toTxt
  have c__law_near := c__law_near (P := P) (w := w) (base := base) T.toTxtC.toTxt
  have c_X_same_ends := c_X_same_ends (P := P) (w := w) (base := base) T
  have c__law_texts := c__law_texts (P := P) (w := w) (base := base) T.toTxtC.toTxt
  have c_Book := c_Book___init__ (P := P) (w := w) (base := base) T.toTxtC
  have c_least_book := c_least_book (P := P) (w := w) (base := base) T.toTxtC
  have c__law_left := c__law_left (P := P) (w := w) (base := base) T.toTxtC.toTxt
  have c_Book___eq__ := c_Book___eq__ (P := P) (w := w) (base := base) T.toTxtC
  have c_SameEnds___bool__ := c_SameEnds___bool__ (P := P) (w := w) (base := base) T.toTxtC
  have hgd : (A.deeper (envOfC "law" (defScope s_law) s.heap.objs.size f cdv)).guards = some [] := hgd
  have hu := hu_of hr
  refine ⟨_, (pss_cons (ps_set (i := 1) sc_law.nd rfl (Or.inl rfl) (pe_c c__law_source hr (by decide) rfl (pa_cons (pv 0) (pa_cons pe_int pa_nil))))
  (pss_cons (ps_set (i := 2) sc_law.nd rfl (Or.inl rfl) (pe_c c__law_signs hr (by decide) rfl (pa_cons (pv 1) pa_nil)))
  (pss_cons (ps_set (i := 3) sc_law.nd rfl (Or.inr rfl) (pe_c c__law_book hr (by decide) rfl (pa_cons (pv 1) (pa_cons (pv 2) (pa_cons pe_int pa_nil)))))
  (pss_cons (ps_set (i := 4) sc_law.nd rfl (Or.inr rfl) (pe_c c__law_near hr (by decide) rfl (pa_cons (pe_c c__law_source hr (by decide) rfl (pa_cons (pv 0) (pa_cons pe_int pa_nil))) (pa_cons (pv 2) (pa_cons (pv 3) pa_nil)))))
  (pss_cons (ps_par (i := 5) (j := 6) (by rfl) sc_law.nd rfl rfl (by decide) rfl rfl (pa_cons (pe_mkC T.k_Book c_Book hr (by decide) rfl (pa_cons (pv 2) (pa_cons (pv 3) pa_nil))) (pa_cons (pe_mkC T.k_Book c_Book hr (by decide) rfl (pa_cons (pv 2) (pa_cons (pv 4) pa_nil))) pa_nil)) (by rfl))
  (pss_cons (ps_set (i := 7) sc_law.nd rfl (Or.inl rfl) (pe_cXn c_X_same_ends hr (by decide) rfl (pa_cons (pv 5) (pa_cons (pv 6) pa_nil))))
  (pss_cons (ps_setLc (i := 8) (own := [("_law_rule_here", 17)]) (g := gName 17) (tt := tYes) (by rfl) sc_law.nd rfl rfl (sw_true rfl rfl rfl (by decide +kernel)) (pi_tup (pe_op op_catA (pv 3) (pv 4))) (blkOk_by (N := ["_law_script", "_law_source_here", "_law_signs_here", "_law_rules", "_law_near_here", "_law_one", "_law_other", "_law_told", "_law_lefts", "_law_unlike", "_law_least", "_law_text_here", "_law_due", "_law_loose", "_law_strange", "_law_turn", "raised", "_law_rule_here", "_law_left_here"]) (sc := defScope s_law) (by decide +kernel)) (fun _ _ _ _ _ => (pg_name (i := 17) sc_law.nd rfl (Or.inl rfl))) (fun _ _ _ _ _ => pts_nil) (fun _ _ _ _ _ => (pe_ix ix_tupB (pv 17) pe_int (fun _ _ => rfl))))
  (pss_cons (ps_setLc (i := 9) (own := [("_law_left_here", 18)]) (g := gName 18) (by rfl) sc_law.nd rfl rfl (sw_true rfl rfl rfl (by decide +kernel)) (pi_list (pv 8)) (blkOk_by (N := ["_law_script", "_law_source_here", "_law_signs_here", "_law_rules", "_law_near_here", "_law_one", "_law_other", "_law_told", "_law_lefts", "_law_unlike", "_law_least", "_law_text_here", "_law_due", "_law_loose", "_law_strange", "_law_turn", "raised", "_law_rule_here", "_law_left_here"]) (sc := defScope s_law) (by decide +kernel)) (fun _ _ _ _ _ => (pg_name (i := 18) sc_law.nd rfl (Or.inl rfl))) (fun _ _ _ _ _ => (pts_one (pt_cmpR op_ne (pe_c c__law_left hr (by decide) rfl (pa_cons (pv 3) (pa_cons (pv 18) pa_nil))) (pe_c c__law_left hr (by decide) rfl (pa_cons (pv 4) (pa_cons (pv 18) pa_nil))) (nomark _)))) (fun _ _ _ _ _ => (pv 18)))
  (pss_cons (ps_if (PW.pt (pw_or (pt_cmpR op_ne (pe_callB (call_reprD hgd hr.units) (by rfl) T.b_repr (by decide +kernel) (pa_cons (pe_fld (pv 7) rfl) pa_nil)) (pe_callB (call_reprD hgd hr.units) (by rfl) T.b_repr (by decide +kernel) (pa_cons (pe_notT (pv 9)) pa_nil)) (nomark _)) (pw_or1 (pt_cmpR op_ne (pe_callTy (call_boolC c_SameEnds___bool__ hr (by decide)) (by rfl) T.b_bool (by decide +kernel) (pa_cons (pv 7) pa_nil)) (pe_notT (pv 9)) (nomark _)))))
    (pss_one (ps_ret pe_bl))
    pss_nil)
  (pss_cons (ps_if (pt_cmpR op_ne (pe_cmpR (op_eqI c_Book___eq__ hr (by decide)) (pe_c c_least_book hr (by decide) rfl (pa_cons (pv 5) pa_nil)) (pe_c c_least_book hr (by decide) rfl (pa_cons (pv 6) pa_nil)) (nomark _)) (pe_notT (pv 9)) (nomark _))
    (pss_one (ps_ret pe_bl))
    pss_nil)
  (pss_cons (ps_set (i := 10) sc_law.nd rfl (Or.inl rfl) pe_non)
  (pss_cons (ps_for PassesOwn.never rfl (pi_list (pe_c c__law_texts hr (by decide) rfl (pa_cons (pv 2) (pa_cons pe_int pa_nil)))) (pg_name (i := 11) sc_law.nd rfl (Or.inl rfl))
    (pss_one (ps_if (PW.pt (pw_and (pt_cmpR op_isN (pv 10) pe_non (nomark _)) (pw_and1 (pt_cmpR op_ne (pe_c c__law_left hr (by decide) rfl (pa_cons (pv 3) (pa_cons (pv 11) pa_nil))) (pe_c c__law_left hr (by decide) rfl (pa_cons (pv 4) (pa_cons (pv 11) pa_nil))) (nomark _)))))
      (pss_one (ps_set (i := 10) sc_law.nd rfl (Or.inl rfl) (pv 11)))
      pss_nil)))
  (pss_cons (ps_if (pt_not (pt_truth (pv 9) (by intro _; rfl)))
    (pss_one (ps_if (PW.pt (pw_or (pt_cmpR op_notN (pv 10) pe_non (nomark _)) (pw_or (pt_cmpR op_notN (pe_fld (pv 7) rfl) pe_non (nomark _)) (pw_or (pt_cmpR op_notN (pe_fld (pv 7) rfl) pe_non (nomark _)) (pw_or1 (pt_cmpR op_notN (pe_fld (pv 7) rfl) pe_non (nomark _)))))))
      (pss_one (ps_ret pe_bl))
      pss_nil))
    (pss_cons (ps_set (i := 12) sc_law.nd rfl (Or.inl rfl) (pe_tup (pa_cons (pv 10) (pa_cons (pe_c c__law_left hr (by decide) rfl (pa_cons (pv 3) (pa_cons (pv 10) pa_nil))) (pa_cons (pe_c c__law_left hr (by decide) rfl (pa_cons (pv 4) (pa_cons (pv 10) pa_nil))) pa_nil)))))
    (pss_one (ps_if (pt_cmpR op_ne (pe_callB (call_reprD hgd hr.units) (by rfl) T.b_repr (by decide +kernel) (pa_cons (pe_tup (pa_cons (pe_fld (pv 7) rfl) (pa_cons (pe_fld (pv 7) rfl) (pa_cons (pe_fld (pv 7) rfl) pa_nil)))) pa_nil)) (pe_callB (call_reprD hgd hr.units) (by rfl) T.b_repr (by decide +kernel) (pa_cons (pv 12) pa_nil)) (nomark _))
      (pss_one (ps_ret pe_bl))
      pss_nil))))
  (pss_cons (ps_set (i := 13) sc_law.nd rfl (Or.inl rfl) (pe_mkC T.k_Book c_Book hr (by decide) rfl (pa_cons pe_str (pa_cons (pe_tup (pa_cons (pe_tup (pa_cons pe_str (pa_cons pe_str pa_nil))) (pa_cons (pe_tup (pa_cons pe_str (pa_cons pe_str pa_nil))) pa_nil))) pa_nil))))
  (pss_cons (ps_set (i := 14) sc_law.nd rfl (Or.inl rfl) (pe_mkC T.k_Book c_Book hr (by decide) rfl (pa_cons pe_str (pa_cons (pe_tup pa_nil) pa_nil))))
  (pss_cons (ps_for PassesOwn.never rfl (pi_range1 (by rfl) T.b_range (pa_cons pe_int pa_nil)) (pg_name (i := 15) sc_law.nd rfl (Or.inl rfl))
    (pss_one (ps_tryT rfl rfl sc_law.nd takes0 (fun W pn xe tk po => (pss_cons (ps_if (pt_cmpR op_eq (pv 15) pe_int (nomark _))
        (pss_one (ps_expr (pe_cX c_X_same_ends hr (by decide) tk rfl (pa_cons (pv 13) (pa_cons (pv 14) pa_nil)))))
        (pss_one (ps_if (pt_cmpR op_eq (pv 15) pe_int (nomark _))
          (pss_one (ps_expr (pe_cX c_X_same_ends hr (by decide) tk rfl (pa_cons (pv 14) (pa_cons (pv 13) pa_nil)))))
          (pss_one (ps_expr (pe_cX c_X_same_ends hr (by decide) tk rfl (pa_cons (pv 14) (pa_cons (pv 5) pa_nil))))))))
      (pss_one (ps_ret pe_bl))))
      (HdsA.cons (i := 16) rfl rfl ⟨rfl, by decide, Or.inl T.e_NotSettled.mgC⟩ (fun a oe cls d pn hz hf => (pss_one (ps_if (PW.pt (pw_or (pt_cmpR op_eq (pv 15) pe_int (nomark _)) (pw_or1 (pt_cmpR op_ne (pe_xf T.e_NotSettled.xf T.nf_NotSettled_text hz hf (pv 16)) pe_str (nomark _)))))
        (pss_one (ps_ret pe_bl))
        pss_nil)))
      (HdsA.cons (i := 16) rfl rfl ⟨rfl, by decide, Or.inl T.e_Unlike.mgC⟩ (fun a oe cls d pn hz hf => (pss_one (ps_if (PW.pt (pw_or (pt_cmpR op_lt (pv 15) pe_int (nomark _)) (pw_or1 (pt_cmpR op_ne (pe_xf T.e_Unlike.xf T.nf_Unlike_word hz hf (pv 16)) pe_str (nomark _)))))
        (pss_one (ps_ret pe_bl))
        pss_nil)))
      HdsA.nil)))))
  (pss_one (ps_ret pe_bl)))))))))))))))))), ?_⟩
  have cl := T.k_Book.cl
  refine ⟨_, rfl, a, ns, 0, rfl, hS, hbits, hlen, by decide, by decide, fun p H1 hp s1 hp1 => ?_⟩
  walk_at "nx"
  refine ⟨_, rfl, p, rfl, hp1, fun sg H2 hsg hp2 b2 => ?_⟩
  have hsl := menu_len sg hsg
  have hSl := S_len sg
  walk_at "nx"
  refine ⟨_, rfl, _, rfl, p, sg, 4, rfl, hp2, hsg, by decide, by decide, fun q xs R H3 hR hG hp3 b3 => ?_⟩
  have s3 : Same H H3 := ((But.same s1).trans (b2.trans b3)).toSame hp
  clear b3 hp3 b2 hp2 H2 s1 hp1 H1
  obtain ⟨hB, hQn, h60⟩ := id hG
  have hw := hB.wf
  have hM := Bk.meets_of hw hQn
  have h4 : ∀ r ∈ R, r.1.length ≤ 4 := fun r m => (hB.2.2.1 r m).2.1
  have hsgc := signs_chars hB.1
  walk_at "nx"
  refine ⟨_, rfl, a, ns, 1, rfl, s3.seq hS, hbits, hlen, by decide, by decide, fun p2 H4 hp2 s4 hs4 => ?_⟩
  refine ⟨_, rfl, _, rfl, p2, q, sg, xs, R, rfl, hs4, hsg, hR.same s4, hG, fun qn yn N H5 hN hBN hQN b5 => ?_⟩
  have s35 : Same H3 H5 := ((But.same s4).trans b5).toSame hp2
  have s5 := s3.trans s35
  have hR5 := hR.same s35
  clear b5 hs4 s4 hp2 H4 s35 s3 hR H3
  have hwN := hBN.wf
  have hMN := Bk.meets_of hwN hQN
  have h4N : ∀ r ∈ N, r.1.length ≤ 4 := fun r m => (hBN.2.2.1 r m).2.1
  walk_at "nx"
  refine ⟨_, rfl, _, rfl, ?_⟩
  intro x dx nx ndx nex
  have s6 : Same H5 (upd (upd H5 dx (.own x)) x (.ins CB dx [])) := fun b o e => by
    rw [upd_ne (ne_of_none e nx), upd_ne (ne_of_none e ndx)]
    exact e
  refine ⟨x, dx, q, sg, xs, R, rfl, upd_same, hR5.same s6, hB, fun H7 BA b7 => ⟨rfl, ?_⟩⟩
  have s57 : Same H5 H7 := Same.made nx ndx fun b o e n => b7 b o n e
  have hR7 := hR5.same s57
  have hN7 := hN.same s57
  have s07 := s5.trans s57
  clear b7 s6 nex ndx nx dx s57 s5 hR5 hN H5
  refine ⟨_, rfl, _, rfl, ?_⟩
  intro y dy ny ndy ney
  have s8 : Same H7 (upd (upd H7 dy (.own y)) y (.ins CB dy [])) := fun b o e => by
    rw [upd_ne (ne_of_none e ny), upd_ne (ne_of_none e ndy)]
    exact e
  refine ⟨y, dy, qn, sg, yn, N, rfl, upd_same, hN7.same s8, hBN, fun H9 BN b9 => ⟨rfl, ?_⟩⟩
  have s79 : Same H7 H9 := Same.made ny ndy fun b o e n => b9 b o n e
  have hR9 := hR7.same s79
  have hN9 := hN7.same s79
  have BA9 := BA.same s79
  have s09 := s07.trans s79
  clear b9 s8 ney ndy ny dy s79 s07 hR7 hN7 BA H7
  refine ⟨_, _, rfl, ?_⟩
  walk_at "nx"
  refine ⟨_, rfl, _, rfl, x, y, sg, sg, R, N, rfl, BA9, BN, fun t ht => (by rw [hQn] at ht; cases ht), fun _ => ⟨fun t ht => (by rw [hQN] at ht; cases ht), fun _ => ⟨fun z => absurd rfl z, fun _ => ⟨hw, hwN, hB.2.1, hBN.2.1, h4, h4N, fun z v1 v2 v3 H10 s10 SE e1 e2 => ?_⟩⟩⟩⟩
  have hR10 := hR9.same s10
  have hN10 := hN9.same s10
  have BA10 := BA9.same s10
  have BN10 := BN.same s10
  have s010 := s09.trans s10
  clear s10 s09 hR9 hN9 BA9 BN H9
  walk_at "nx"
  refine ⟨_, rfl, _, rfl, ?_⟩
  refine catA_J hR10.sq hN10.sq (Nat.le_trans (m := 128) (by rw [hR10.len, hN10.len]; have := hB.2.1; have := hBN.2.1; omega) (by decide)) fun qc H11 s11 hqc => ?_
  have itc : Items (RItem K) H11 (xs ++ yn) (R ++ N) := Items.app (hR10.same s11).items (hN10.same s11).items
  refine ⟨qc, rfl, ⟨_, hqc⟩, fun D hD => lc_tupR (K := K) (a := qc) (xs := xs ++ yn) (l := R ++ N) (Rel := RItem K) itc.1 (fun pre H3 => H3 D = some (.lst (pre.map fun r => V.str (S r.1))) ∧ Same H11 H3) ⟨upd_same, same_new hD⟩ (fun pre H3 ⟨_, s3⟩ => ⟨(Keep.same s3).seq hqc, fun i a b h1 h2 => (itc.2 i a b h1 h2).sm s3⟩) ?_ ?_⟩
  · rintro pre r post xv H3 e hx ⟨qr, rfl, sq⟩ ⟨h3, s3⟩
    have hpl : pre.length + 1 ≤ 128 := by
      have := congrArg List.length e
      have := hB.2.1
      have := hBN.2.1
      simp at *
      omega
    refine ⟨rfl, ty_T ?_⟩
    refine ⟨_, rfl, qr, _, 0, .str (S r.1), rfl, rfl, sq, rfl, ?_⟩
    refine ⟨_, h3, by rw [List.length_map]; exact Nat.lt_of_le_of_lt (m := 128) (by omega) (by decide), ?_, same_mut s3 hD⟩
    rw [upd_same, List.map_append]
    rfl
  rintro H12 ⟨h12, s12⟩
  have hlf : (R ++ N).map (fun r => V.str (S r.1)) = (lefts2 R N).map fun l => V.str (S l) := by
    unfold lefts2
    rw [List.map_append, List.map_append, List.map_map, List.map_map]
    rfl
  rw [hlf] at h12
  have s1012 := s11.trans s12
  have hR12 := hR10.same s1012
  have hN12 := hN10.same s1012
  have BA12 := BA10.same s1012
  have BN12 := BN10.same s1012
  have SE12 := SE.same s1012
  have s012 := s010.trans s1012
  clear s1012 s12 hlf hD itc hqc s11 hR10 hN10 BA10 BN10 SE s010 H10 H11
  have hl2 : (lefts2 R N).length ≤ 128 := by unfold lefts2; rw [List.length_append, List.length_map, List.length_map]; have := hB.2.1; have := hBN.2.1; omega
  have hl4 : ∀ l ∈ lefts2 R N, l.length ≤ 4 := by
    intro l hl
    unfold lefts2 at hl
    rcases List.mem_append.mp hl with z | z
    · obtain ⟨r, hr, rfl⟩ := List.mem_map.mp z; exact h4 r hr
    · obtain ⟨r, hr, rfl⟩ := List.mem_map.mp z; exact h4N r hr
  walk_at "nx"
  walk_at "nx"
  refine ⟨_, rfl, D, rfl, ⟨_, SqL.of h12⟩, fun D2 hD2 => lc_lst (K := K) (a := D) (f := fun l => V.str (S l)) (l := lefts2 R N) (fun pre H6 => H6 D2 = some (.lst ((pre.filter fun l => decide (left R l ≠ left N l)).map fun l => V.str (S l))) ∧ Same H12 H6) ⟨upd_same, same_new hD2⟩ (fun pre H6 ⟨_, s6⟩ => SqL.of (s6 _ _ h12)) ?_ ?_⟩
  · rintro pre l post H6 e ⟨h6, s6⟩
    have hpl : pre.length + 1 ≤ 128 := by
      have := congrArg List.length e
      simp at this
      omega
    have hll := hl4 l (by rw [e]; simp)
    refine ⟨rfl, ?_⟩
    refine ⟨_, rfl, _, rfl, q, xs, R, l, rfl, .inr (hR12.same s6).sq, (hR12.same s6).items, hB.2.1, hw, h4, by omega, fun H7 s7 => ?_⟩
    refine ⟨_, rfl, _, rfl, qn, yn, N, l, rfl, .inr ((hN12.same s6).same s7).sq, ((hN12.same s6).same s7).items, hBN.2.1, hwN, h4N, by omega, fun H8 s8 => ?_⟩
    refine ⟨rfl, _, rfl, ?_⟩
    have hfl : (pre.filter fun l => decide (left R l ≠ left N l)).length ≤ pre.length := List.length_filter_le _ _
    rw [List.filter_append]
    by_cases hd : left R l = left N l
    · rw [show ([l].filter fun l => decide (left R l ≠ left N l)) = [] by simp [hd], List.append_nil]
      rw [show (!decide (V.str (S (left R l)) = V.str (S (left N l)))) = false by rw [decide_eq_true (by rw [hd])]; rfl]
      refine iteF ?_
      exact ⟨s8 _ _ (s7 _ _ h6), s6.trans (s7.trans s8)⟩
    · rw [show ([l].filter fun l => decide (left R l ≠ left N l)) = [l] by simp [hd]]
      rw [show (!decide (V.str (S (left R l)) = V.str (S (left N l)))) = true by rw [decide_eq_false (fun z => hd (S_inj (V.str.inj z)))]; rfl]
      refine iteT ?_
      refine ⟨_, rfl, _, s8 _ _ (s7 _ _ h6), by rw [List.length_map]; exact Nat.lt_of_le_of_lt (m := 128) (by omega) (by decide), ?_, same_mut (s6.trans (s7.trans s8)) hD2⟩
      rw [upd_same, List.map_append]
      rfl
  rintro H13 ⟨h13, s13⟩
  have hun : H13 D2 = some (.lst ((parting R N).map fun l => V.str (S l))) := h13
  have hR13 := hR12.same s13
  have hN13 := hN12.same s13
  have BA13 := BA12.same s13
  have BN13 := BN12.same s13
  have SE13 := SE12.same s13
  have s013 := s012.trans s13
  clear h13 s13 hD2 hl2 hl4 h12 hR12 hN12 BA12 BN12 SE12 s012 H12
  have hv : decide (v1 = V.non) = (parting R N).isEmpty := by
    cases hp : parting R N with
    | nil => rw [(e1 hp).1]; rfl
    | cons b l => rw [(e2 b l hp).1]; rfl
  walk_at "nx"
  walk_at "nx"
  obtain ⟨dz, fz, hz, g1, g2, g3, g4⟩ := id SE13
  have sb : ∀ b : Bool, _ := fun b => (Shw.bl b).ok (by decide) (by decide)
  have hE : decide (v1 = V.non) = !(!((parting R N).map fun l => V.str (S l)).isEmpty) := by rw [hv, List.isEmpty_map, Bool.not_not]
  refine if_K false (fun Q' hQ => ?_) (fun zz => by cases zz) (fun _ => ?_)
  · refine ⟨_, rfl, z, CE, dz, fz, _, rfl, hz, T.k_SameEnds.cl, T.n_SameEnds_holds, g1, _, _, rfl, .bl _, (sb _).1, (sb _).2.1, (sb _).2.2.1, (sb _).2.2.2, ?_⟩
    refine ⟨_, rfl, _, .inl ⟨_, SqL.of hun, rfl⟩, _, _, rfl, .bl _, (sb _).1, (sb _).2.1, (sb _).2.2.1, (sb _).2.2.2, rfl, _, rfl, ?_⟩
    rw [hE, decide_eq_true rfl]
    refine iteF ?_
    refine ⟨_, rfl, z, dz, fz, rfl, hz, z, v1, v2, v3, rfl, SE13, _, rfl, ?_⟩
    refine ⟨_, rfl, _, .inl ⟨_, SqL.of hun, rfl⟩, rfl, _, rfl, ?_⟩
    rw [hE, decide_eq_true rfl]
    exact hQ
  walk_at "nx"
  -- the least books
  refine if_KH false (fun H' => Same H13 H') (fun Q' hQ => ?_) (fun zz => by cases zz) (fun _ H14 s14 => ?_)
  · refine ⟨_, rfl, x, sg, R, rfl, BA13, hB, hQn, fun ya ds H14 hd hdl BL hL s14 => ?_⟩
    refine ⟨_, rfl, y, sg, N, rfl, BN13.same s14, hBN, hQN, fun yb es H15 he hel BL2 hL2 s15 => ?_⟩
    obtain ⟨da, fa, _, _, _, ha', _⟩ := id (BL.same s15)
    obtain ⟨db, fb, _, _, _, hb', _⟩ := id BL2
    refine ⟨ya, da, fa, yb, db, fb, rfl, rfl, ha', hb', ya, yb, sg, sg, _, _, rfl, BL.same s15, BL2, hL.chars, hL2.chars, _, rfl, ?_⟩
    have hun15 := s15 _ _ (s14 _ _ hun)
    refine ⟨_, rfl, _, .inl ⟨_, SqL.of hun15, rfl⟩, rfl, _, rfl, ?_⟩
    have hpd := Bk.due_parting hw hM hwN hMN hB.over hBN.over hd he
    have hE2 : decide (sg = sg ∧ lrules R ds = lrules N es) = !(!((parting R N).map fun l => V.str (S l)).isEmpty) := by
      rw [List.isEmpty_map, Bool.not_not, Bool.eq_iff_iff, decide_eq_true_eq, List.isEmpty_iff]
      exact ⟨fun z => hpd.mp z.2, fun z => ⟨rfl, hpd.mpr z⟩⟩
    rw [hE2, decide_eq_true rfl]
    exact hQ _ (s14.trans s15)
  have hR14 := hR13.same s14
  have hN14 := hN13.same s14
  have BA14 := BA13.same s14
  have SE14 := SE13.same s14
  have hun14 := s14 _ _ hun
  have s014 := s013.trans s14
  clear s14 hun hE g4 g3 g2 g1 hz dz fz hR13 hN13 BA13 BN13 SE13 s013 H13
  walk_at "nx"
  walk_at "nx"
  walk_at "nx"
  refine ⟨_, rfl, sg, 4, rfl, hsl.2, by decide, fun pt H15 s15 hp15 => ?_⟩
  have hR15 := hR14.same s15
  have hN15 := hN14.same s15
  refine ⟨pt, rfl, ⟨_, SqL.of hp15⟩, ?_⟩
  refine for_lst (K := K) (a := pt) (f := vS) (l := txts sg 4) (fun pre σ H16 => ∃ (v11 v12 v13 v14 v15 v16 v17 v18 : Option V), σ = [some (.ref a), some (.ref p), some (.str (S sg)), some (.ref q), some (.ref qn), some (.ref x), some (.ref y), some (.ref z), some (.ref D), some (.ref D2), some (optS (pre.find? fun t => decide (left R t ≠ left N t))), v11, v12, v13, v14, v15, v16, v17, v18] ∧ Same H15 H16)
    ⟨_, _, _, _, _, _, _, _, rfl, Same.refl H15⟩ (fun pre σ H16 ⟨_, _, _, _, _, _, _, _, _, s16⟩ => SqL.of (s16 _ _ hp15)) ?_ ?_
  · rintro pre t post σ H16 ee ⟨v11, v12, v13, v14, v15, v16, v17, v18, rfl, s16⟩
    obtain ⟨t4, tc⟩ := Bk.mem_txts.mp (show t ∈ txts sg 4 by rw [ee]; simp)
    walk_at "nx"
    cases hf : pre.find? (fun t => decide (left R t ≠ left N t)) with
    | some u =>
      refine if_K false (fun Q' hQ => ?_) (fun zz => by cases zz) (fun _ => ?_)
      · walk_at "rd"
        exact hQ
      · walk_at "nx"
        refine ⟨some (vS t), v12, v13, v14, v15, v16, v17, v18, ?_, s16⟩
        rw [List.find?_append, hf]
        rfl
    | none =>
      refine if_KH (decide (left R t ≠ left N t)) (fun H' => Same H16 H') (fun Q' hQ => ?_) (fun hb H17 s17 => ?_) (fun hb H17 s17 => ?_)
      · walk_at "rd"
        refine ⟨q, xs, R, t, rfl, .inr (hR15.same s16).sq, (hR15.same s16).items, hB.2.1, hw, h4, by omega, fun H17 s17 => ?_⟩
        refine ⟨_, rfl, _, rfl, qn, yn, N, t, rfl, .inr ((hN15.same s16).same s17).sq, ((hN15.same s16).same s17).items, hBN.2.1, hwN, h4N, by omega, fun H18 s18 => ?_⟩
        refine ⟨rfl, _, rfl, ?_⟩
        refine q_of (hQ _ (s17.trans s18)) ?_
        by_cases hd : left R t = left N t
        · rw [decide_eq_true (by rw [hd]), decide_eq_false (fun zz => zz hd)]; rfl
        · rw [decide_eq_false (fun zz => hd (S_inj (V.str.inj zz))), decide_eq_true hd]; rfl
      · walk_at "rd"
        refine ⟨some (vS t), v12, v13, v14, v15, v16, v17, v18, ?_, s16.trans s17⟩
        rw [List.find?_append, hf, List.find?_cons, hb]
        rfl
      · walk_at "nx"
        refine ⟨some (vS t), v12, v13, v14, v15, v16, v17, v18, ?_, s16.trans s17⟩
        rw [List.find?_append, hf, List.find?_cons, hb]
        rfl
  rintro σ H16 ⟨v11, v12, v13, v14, v15, v16, v17, v18, rfl, s16⟩
  have s1416 := s15.trans s16
  have hR16 := hR14.same s1416
  have hN16 := hN14.same s1416
  have BA16 := BA14.same s1416
  have SE16 := SE14.same s1416
  have hun16 := s1416 _ _ hun14
  have s016 := s014.trans s1416
  clear s1416 s16 hp15 hR15 hN15 s15 hun14 hR14 hN14 BA14 SE14 s014 H14 H15
  obtain ⟨dz, fz, hz, g1, g2, g3, g4⟩ := id SE16
  walk_at "nx"
  refine st_ifJ (fun σ H17 => ∃ (v10 v11 v12 v13 v14 v15 v16 v17 v18 : Option V), σ = [some (.ref a), some (.ref p), some (.str (S sg)), some (.ref q), some (.ref qn), some (.ref x), some (.ref y), some (.ref z), some (.ref D), some (.ref D2), v10, v11, v12, v13, v14, v15, v16, v17, v18] ∧ Same H16 H17) (fun Q' hQJ => ?_) ?_
  · cases hp : parting R N with
    | nil =>
      obtain ⟨rfl, rfl, rfl⟩ := e1 hp
      have hno : (txts sg 4).find? (fun t => decide (left R t ≠ left N t)) = none := by
        rw [List.find?_eq_none]
        intro t ht
        obtain ⟨t4, tc⟩ := Bk.mem_txts.mp ht
        simp [Bk.same_all hw hM hwN hMN hB.over hBN.over hp t.length t (Nat.le_refl _) tc]
      rw [hno]
      rw [hp] at hun16
      refine if_K true (fun Q' hQ => ⟨_, rfl, false, .inl ⟨_, SqL.of hun16, rfl⟩, hQ⟩) (fun _ => ?_) (fun zz => by cases zz)
      refine if_K false (fun Q' hQ => ?_) (fun zz => by cases zz) (fun _ => ?_)
      · walk_at "rd"
        refine ⟨z, CE, dz, fz, _, rfl, hz, T.k_SameEnds.cl, T.n_SameEnds_text, g2, ?_⟩
        walk_at "rd"
        refine ⟨z, CE, dz, fz, _, rfl, hz, T.k_SameEnds.cl, T.n_SameEnds_one_end, g3, ?_⟩
        walk_at "rd"
        refine ⟨z, CE, dz, fz, _, rfl, hz, T.k_SameEnds.cl, T.n_SameEnds_other_end, g4, ?_⟩
        walk_at "rd"
        exact hQ
      · walk_at "nx"
        exact hQJ _ _ ⟨_, _, _, _, _, _, _, _, _, rfl, Same.refl _⟩
    | cons b l =>
      obtain ⟨rfl, rfl, rfl⟩ := e2 b l hp
      rw [Bk.first_diff hw hM hwN hMN hB.over hBN.over h4 h4N (menu_asc sg hsg) hp, show optS (some (leastOf b l)) = V.str (S (leastOf b l)) from rfl]
      rw [hp] at hun16
      refine if_K false (fun Q' hQ => ⟨_, rfl, true, .inl ⟨_, SqL.of hun16, rfl⟩, hQ⟩) (fun zz => by cases zz) (fun _ => ?_)
      have hlm := Bk.mem_parting.mp (show leastOf b l ∈ parting R N by rw [hp]; exact Bk.leastOf_mem l b)
      have htl : (leastOf b l).length ≤ 4 ∧ Bk.Over sg (leastOf b l) := by
        rcases hlm.1 with ⟨r, hr, e⟩ | ⟨r, hr, e⟩
        · rw [← e]; exact ⟨h4 r hr, (hB.over r hr).1⟩
        · rw [← e]; exact ⟨h4N r hr, (hBN.over r hr).1⟩
      have hll1 := left_len hw (leastOf b l)
      have hll2 := left_len hwN (leastOf b l)
      have hch : ∀ u : List Nat, Bk.Over sg u → Chars u := fun u hu c hc => hsgc c (hu c hc)
      have c1 := left_chars hB.2.2.1 htl.2
      have c2 := left_chars hBN.2.2.1 htl.2
      have sh3 : Shw (.tuple [.str (S (leastOf b l)), .str (S (left R (leastOf b l))), .str (S (left N (leastOf b l)))]) 1 200 := by
        refine (Shw.tup (k := 0) (m := 42) fun d hd => ?_).mono (Nat.le_refl _) (by show 3 * 42 + 2 * 3 + 3 ≤ 200; decide)
        simp only [List.mem_cons, List.not_mem_nil, or_false] at hd
        rcases hd with rfl | rfl | rfl
        · exact (Shw.str (hch _ htl.2)).mono (Nat.le_refl _) (by omega)
        · exact (Shw.str (hch _ c1)).mono (Nat.le_refl _) (by omega)
        · exact (Shw.str (hch _ c2)).mono (Nat.le_refl _) (by omega)
      have sh := sh3.ok (by decide) (by decide)
      walk_at "nx"
      refine ⟨_, rfl, _, rfl, _, rfl, q, xs, R, leastOf b l, rfl, .inr hR16.sq, hR16.items, hB.2.1, hw, h4, by omega, fun H17 s17 => ?_⟩
      refine ⟨_, rfl, _, rfl, qn, yn, N, leastOf b l, rfl, .inr (hN16.same s17).sq, (hN16.same s17).items, hBN.2.1, hwN, h4N, by omega, fun H18 s18 => ?_⟩
      refine ⟨by walk_at "sz", fun pd hpd => ?_⟩
      have s1618 := s17.trans (s18.trans (same_new (o := .tup [.str (S (leastOf b l)), .str (S (left R (leastOf b l))), .str (S (left N (leastOf b l)))]) hpd))
      have hpd9 : (upd H18 pd (.tup [.str (S (leastOf b l)), .str (S (left R (leastOf b l))), .str (S (left N (leastOf b l)))])) pd = some (.tup [.str (S (leastOf b l)), .str (S (left R (leastOf b l))), .str (S (left N (leastOf b l)))]) := upd_same
      generalize upd H18 pd (.tup [.str (S (leastOf b l)), .str (S (left R (leastOf b l))), .str (S (left N (leastOf b l)))]) = H19 at s1618 hpd9 ⊢
      have hz9 := s1618 _ _ hz
      walk_at "nx"
      refine if_KH false (fun H' => Same H19 H') (fun Q' hQ => ?_) (fun zz => by cases zz) (fun _ H20 s20 => ?_)
      · refine ⟨_, rfl, z, CE, dz, fz, _, rfl, hz9, T.k_SameEnds.cl, T.n_SameEnds_text, g2, _, rfl, z, CE, dz, fz, _, rfl, hz9, T.k_SameEnds.cl, T.n_SameEnds_one_end, g3, _, rfl, z, CE, dz, fz, _, rfl, hz9, T.k_SameEnds.cl, T.n_SameEnds_other_end, g4, by walk_at "sz", fun pe hpe => ?_⟩
        have s20 := same_new (o := .tup [.str (S (leastOf b l)), .str (S (left R (leastOf b l))), .str (S (left N (leastOf b l)))]) hpe
        refine ⟨_, _, rfl, .tup (SqT.of upd_same) (.cons (.str _) (.cons (.str _) (.cons (.str _) .nil))), sh.1, sh.2.1, sh.2.2.1, sh.2.2.2, ?_⟩
        refine ⟨_, rfl, _, _, rfl, .tup (SqT.of (s20 _ _ hpd9)) (.cons (.str _) (.cons (.str _) (.cons (.str _) .nil))), sh.1, sh.2.1, sh.2.2.1, sh.2.2.2, rfl, _, rfl, ?_⟩
        rw [decide_eq_true rfl]
        exact hQ _ s20
      · walk_at "nx"
        exact hQJ _ _ ⟨_, _, _, _, _, _, _, _, _, rfl, s1618.trans s20⟩
  · rintro σ H17 ⟨v10, v11, v12, v13, v14, v15, v16, v17, v18, rfl, s17⟩
    have BA17 := BA16.same s17
    clear g4 g3 g2 g1 hz dz fz s17 SE16 BA16 hun16 hR16 hN16 s016 e1 e2 hv
    walk_at "nx"
    refine ⟨by walk_at "sz", fun l1 hl1 => ?_⟩
    have s18 := same_new (o := .tup [.str (Str.ofString "aa"), .str (Str.ofString "a")]) hl1
    have hh1 : (upd H17 l1 (.tup [.str (Str.ofString "aa"), .str (Str.ofString "a")])) l1 = some (.tup [.str (Str.ofString "aa"), .str (Str.ofString "a")]) := upd_same
    generalize upd H17 l1 (.tup [.str (Str.ofString "aa"), .str (Str.ofString "a")]) = H18 at s18 hh1 ⊢
    refine ⟨by walk_at "sz", fun l2 hl2 => ?_⟩
    have s19 := same_new (o := .tup [.str (Str.ofString "ab"), .str (Str.ofString "")]) hl2
    have hh2 : (upd H18 l2 (.tup [.str (Str.ofString "ab"), .str (Str.ofString "")])) l2 = some (.tup [.str (Str.ofString "ab"), .str (Str.ofString "")]) := upd_same
    generalize upd H18 l2 (.tup [.str (Str.ofString "ab"), .str (Str.ofString "")]) = H19 at s19 hh2 ⊢
    refine ⟨by walk_at "sz", fun l3 hl3 => ?_⟩
    have s20 := same_new (o := .tup [.ref l1, .ref l2]) hl3
    have hh3 : (upd H19 l3 (.tup [.ref l1, .ref l2])) l3 = some (.tup [.ref l1, .ref l2]) := upd_same
    generalize upd H19 l3 (.tup [.ref l1, .ref l2]) = H20 at s20 hh3 ⊢
    have hLR : RulesAt K H20 l3 [.ref l1, .ref l2] looseR := by
      refine ⟨SqT.of hh3, rfl, fun i v r h1 h2 => ?_⟩
      match i, h1, h2 with
      | 0, h1, h2 =>
        cases h1; cases h2
        exact ⟨l1, rfl, by rw [lit_r1]; exact SqT.of (s20 _ _ (s19 _ _ hh1))⟩
      | 1, h1, h2 =>
        cases h1; cases h2
        exact ⟨l2, rfl, by rw [lit_r2]; exact SqT.of (s20 _ _ hh2)⟩
      | _ + 2, h1, h2 => cases h1
    have BA20 := ((BA17.same s18).same s19).same s20
    clear hh3 hh2 hh1 hl3 hl2 hl1 s20 s19 s18 BA17 H17 H18 H19
    intro xl dxl nx ndx nex
    have s6 : Same H20 (upd (upd H20 dxl (.own xl)) xl (.ins CB dxl [])) := fun b o e => by
      rw [upd_ne (ne_of_none e nx), upd_ne (ne_of_none e ndx)]
      exact e
    refine ⟨xl, dxl, l3, [97, 98], _, looseR, by rw [lit_ab]; rfl, upd_same, hLR.same s6, loose_ok, fun H21 BL b21 => ⟨rfl, ?_⟩⟩
    have s21 : Same H20 H21 := Same.made nx ndx fun b o e n => b21 b o n e
    have BA21 := BA20.same s21
    clear b21 s6 nex ndx nx s21 BA20 hLR H20
    walk_at "nx"
    refine ⟨by walk_at "sz", fun l4 hl4 => ?_⟩
    have s22 := same_new (o := .tup []) hl4
    have hh4 : (upd H21 l4 (.tup [])) l4 = some (.tup []) := upd_same
    generalize upd H21 l4 (.tup []) = H22 at s22 hh4 ⊢
    have hLS : RulesAt K H22 l4 [] [] := ⟨SqT.of hh4, rfl, fun i v r h1 _ => by cases h1⟩
    intro ys dys ny ndy ney
    have s7 : Same H22 (upd (upd H22 dys (.own ys)) ys (.ins CB dys [])) := fun b o e => by
      rw [upd_ne (ne_of_none e ny), upd_ne (ne_of_none e ndy)]
      exact e
    refine ⟨ys, dys, l4, [99, 100], _, [], by rw [lit_cd]; rfl, upd_same, hLS.same s7, strange_ok, fun H23 BS b23 => ⟨rfl, ?_⟩⟩
    have s23 : Same H22 H23 := Same.made ny ndy fun b o e n => b23 b o n e
    have BA23 := BA21.same (s22.trans s23)
    have BL23 := BL.same (s22.trans s23)
    clear b23 s7 ney ndy ny s23 hLS hh4 s22 hl4 BA21 BL H21 H22
    walk_at "nx"
    walk_at "rd"
    refine for_range (lo := 0) (n := _) (fun i σ H24 => ∃ (v15 v16 : Option V), σ = [some (.ref a), some (.ref p), some (.str (S sg)), some (.ref q), some (.ref qn), some (.ref x), some (.ref y), some (.ref z), some (.ref D), some (.ref D2), v10, v11, v12, some (.ref xl), some (.ref ys), v15, v16, v17, v18] ∧ Same H23 H24)
      ⟨_, _, rfl, Same.refl H23⟩ ?_ ?_
    · rintro i σ H24 hi ⟨v15, v16, rfl, s24⟩
      rw [Int.zero_add]
      have hi3 : i = 0 ∨ i = 1 ∨ i = 2 := by
        have : i < 3 := hi
        omega
      unfold tTry
      rcases hi3 with rfl | rfl | rfl
      · refine st_ifK true (fun Q' hQ => ?_) (fun _ => ?_) (fun zz => by cases zz)
        · walk_at "rd"
          exact hQ
        refine ⟨_, rfl, _, rfl, xl, ys, [97, 98], [99, 100], looseR, [], rfl, BL23.same s24, BS.same s24, fun t ht => ?_, fun hn => (by rw [loose_q] at hn; cases hn)⟩
        rw [loose_q] at ht
        cases ht
        refine ⟨rep_aab, fun d hd => ⟨true, T.mm_NotSettled_NotSettled, fun _ a0 ha0 => ?_, fun zz => (by cases zz)⟩⟩
        dsimp only [outA]
        refine if_K false (fun Q' hQ => ?_) (fun zz => by cases zz) (fun _ => ?_)
        · walk_at "rd"
          refine ⟨d, _, _, rfl, upd_same, lk1, ?_⟩
          rw [← lit_aab]
          walk_at "rd"
          exact hQ
        · walk_at "nx"
          exact ⟨_, _, rfl, s24.trans (same_new hd)⟩
      · refine st_ifK false (fun Q' hQ => ?_) (fun zz => by cases zz) (fun _ => ?_)
        · walk_at "rd"
          exact hQ
        refine if_K true (fun Q' hQ => ?_) (fun _ => ?_) (fun zz => by cases zz)
        · walk_at "rd"
          exact hQ
        refine ⟨_, rfl, _, rfl, ys, xl, [99, 100], [97, 98], [], looseR, rfl, BS.same s24, BL23.same s24, fun t ht => (by cases ht), fun _ => ⟨fun t ht => ?_, fun hn => (by rw [loose_q] at hn; cases hn)⟩⟩
        rw [loose_q] at ht
        cases ht
        refine ⟨rep_aab, fun d hd => ⟨true, T.mm_NotSettled_NotSettled, fun _ a0 ha0 => ?_, fun zz => (by cases zz)⟩⟩
        dsimp only [outA]
        refine if_K false (fun Q' hQ => ?_) (fun zz => by cases zz) (fun _ => ?_)
        · walk_at "rd"
          refine ⟨d, _, _, rfl, upd_same, lk1, ?_⟩
          rw [← lit_aab]
          walk_at "rd"
          exact hQ
        · walk_at "nx"
          exact ⟨_, _, rfl, s24.trans (same_new hd)⟩
      · refine st_ifK false (fun Q' hQ => ?_) (fun zz => by cases zz) (fun _ => ?_)
        · walk_at "rd"
          exact hQ
        refine if_K false (fun Q' hQ => ?_) (fun zz => by cases zz) (fun _ => ?_)
        · walk_at "rd"
          exact hQ
        refine ⟨_, rfl, _, rfl, ys, x, [99, 100], sg, [], R, rfl, BS.same s24, BA23.same s24, fun t ht => (by cases ht), fun _ => ⟨fun t ht => (by rw [hQn] at ht; cases ht), fun _ => ⟨fun hs d hd => ?_, fun hs => absurd hs.symm (menu_cd sg hsg)⟩⟩⟩
        refine ⟨false, T.mm_Unlike_NotSettled, fun zz => (by cases zz), fun _ => ⟨true, T.mm_Unlike_Unlike, fun _ a0 ha0 => ?_, fun zz => (by cases zz)⟩⟩
        dsimp only [outA]
        refine if_K false (fun Q' hQ => ?_) (fun zz => by cases zz) (fun _ => ?_)
        · walk_at "rd"
          refine ⟨d, _, _, rfl, upd_same, lk1, ?_⟩
          walk_at "rd"
          exact hQ
        · walk_at "nx"
          exact ⟨_, _, rfl, s24.trans (same_new hd)⟩
    · rintro σ H24 ⟨v15, v16, rfl, s24⟩
      walk_at "nx"
      rfl
end
end Sh
set_option Elab.async false
set_option linter.all false
set_option maxRecDepth 100000
namespace Sh
open PySem PySem.Spec PyProof.Rows L2
section
variable {P : Program} {K : PySem.W.Frag} {h : Heap} {mg : Str → Option Value}
/-- an exception class -/
theorem exc_mk {x : Str} {C f D N : Addr} {nm q : Str} {bs bm : List Value} {sn : List Str} {sub : List Value} {ab : Bool} {col : Option Bool} {dd : Option Addr} {k0 k1 k2 k3 k5 : Option Value} (X : K.In h) (Y : h.Ns mainGlobals mg)
    (a : PySem.W.nsIn K mainGlobals x = some (some (.ref C))) (l : K.lookup C = some (excClassObj nm q C N bs bm true sn sub ab col dd k0 k1 k2 k3 k5 "ValueError.__new__")) (vb : PySem.HandSPX.refsVE bm = true)
    (sa : PySem.W.findIn K (.ref C) "__setattr__" = some (some (.builtin "object.__setattr__"))) (ga : PySem.W.findIn K (.ref C) "__getattribute__" = some (some (.builtin "BaseException.__getattribute__"))) (gg : PySem.W.findIn K (.ref C) "__getattr__" = some none)
    (ic : PySem.W.findIn K (.ref C) "__init__" = some (some (.ref f))) (ti : PySem.W.typeIn K (.ref f) = some (.type "function")) (kc : PySem.W.keepIn K (.ref C) = true) (ex : PySem.W.subIn K (.ref C) (.type "BaseException") = some true)
    (ty : PySem.W.typeIn K (.ref C) = some (.type "type")) (hd : PySem.W.hasDictIn K C = true) (su : PySem.W.mroIn K C (.ref D) = some true) (sp : PySem.W.ks_superIn K C D "__init__" = some (some (.builtin "ValueError.__init__"))) (ve : PySem.W.subIn K (.ref C) (.type "ValueError") = some true) :
    ExcAt K mg x C f D :=
  ⟨⟨⟨nm, q, N, bs, bm, sn, sub, ab, col, dd, k0, k1, k2, k3, k5, l, vb⟩, sa, ex, ty, kc⟩, PySem.W.mg_of X Y a, ic, ti, ⟨su, sp, ve⟩, ⟨ga, gg, ex, hd⟩⟩
/-- its __init__ -/
theorem xinit_mk {q : Str} {st : Stmt} {ps : List Str} {D f cc cda : Addr} {oc kv dc pm ct cl cl2 : Value} {od an cld cld2 : Option Addr} {sl csl csl2 : Array (Option Value)} {vs : Array Value} {file : Str} {tf : Tok} {cd : ClassData}
    (l : K.lookup f = some ⟨oc, od, .func (PySem.W.fnX "__init__" q (defArgs st) (defBody st) (defScope st) [("__class__", cc)] .none kv dc pm an (.ref cda) ct), sl⟩) (c : PySem.W.codeIn K (.ref cda) q = true)
    (hcc : K.lookup cc = some ⟨cl, cld, .cell (some (.ref D)), csl⟩) (hcd : K.lookup cda = some ⟨cl2, cld2, .fields vs, csl2⟩) (hvs : vs[2]? = some (.str file tf)) (hfl : ((P.main.file : Str) == file) = true) (top : (P.main.scope.names.lookup ("super" : Str)).isSome = false)
    (hD : PySem.W.clsIn K D = some cd) (op : PySem.W.nsIn K cStatics "thirdparty.any" = some none) (ms : mg "super" = none) (hp : ∃ ar : Arg, ((defArgs st).posonlyargs ++ (defArgs st).args).head? = some ar ∧ ar.arg = "self") (hks : (defScope st).names.lookup ("super" : Str) = some .globalImplicit)
    (b : ∀ (kV doc pm : Value) (an : Option Addr) (cdv ct : Value) (us : List Value), us.length = ps.length → bindArgs (PySem.W.fnX "__init__" q (defArgs st) (defBody st) (defScope st) [("__class__", cc)] .none kV doc pm an cdv ct) ⟨us, []⟩ = pure (ps.zip us)) : XInit P K mg q st ps D f :=
  ⟨_, ⟨⟨cc, cda, oc, kv, dc, pm, ct, od, an, sl, rfl, l, c, ⟨cl, cld, csl, hcc⟩, ⟨cl2, cld2, vs, csl2, file, tf, hcd, hvs, hfl⟩⟩, top, ms, ⟨cd, hD⟩, op, hp, hks⟩, Binds.all fun us hl => b kv dc pm an (.ref cda) ct us hl⟩
end
end Sh
set_option Elab.async false
set_option linter.all false
set_option maxRecDepth 100000
namespace Sh
open PySem PySem.Spec PyProof.Rows L2
theorem all_cls {K : PySem.W.Frag} {h : Heap} {mg : Str → Option Value} {CB CE : Addr}
    {f_Book___init__ : Addr} {od_Book___init__ an_Book___init__ : Option Addr} {sl_Book___init__ : Array (Option Value)} {oc_Book___init__ kv_Book___init__ dc_Book___init__ pm_Book___init__ cd_Book___init__ ct_Book___init__ : Value}
    {f_Book___call__ : Addr} {od_Book___call__ an_Book___call__ : Option Addr} {sl_Book___call__ : Array (Option Value)} {oc_Book___call__ kv_Book___call__ dc_Book___call__ pm_Book___call__ cd_Book___call__ ct_Book___call__ : Value}
    {f_Book___eq__ : Addr} {od_Book___eq__ an_Book___eq__ : Option Addr} {sl_Book___eq__ : Array (Option Value)} {oc_Book___eq__ kv_Book___eq__ dc_Book___eq__ pm_Book___eq__ cd_Book___eq__ ct_Book___eq__ : Value}
    {f_Book_quarrel p_Book_quarrel : Addr} {od_Book_quarrel an_Book_quarrel : Option Addr} {sl_Book_quarrel : Array (Option Value)} {oc_Book_quarrel kv_Book_quarrel dc_Book_quarrel pm_Book_quarrel cd_Book_quarrel ct_Book_quarrel : Value} {rs_Book_quarrel : List Value}
    {f_SameEnds___init__ : Addr} {od_SameEnds___init__ an_SameEnds___init__ : Option Addr} {sl_SameEnds___init__ : Array (Option Value)} {oc_SameEnds___init__ kv_SameEnds___init__ dc_SameEnds___init__ pm_SameEnds___init__ cd_SameEnds___init__ ct_SameEnds___init__ : Value}
    {f_SameEnds___bool__ : Addr} {od_SameEnds___bool__ an_SameEnds___bool__ : Option Addr} {sl_SameEnds___bool__ : Array (Option Value)} {oc_SameEnds___bool__ kv_SameEnds___bool__ dc_SameEnds___bool__ pm_SameEnds___bool__ cd_SameEnds___bool__ ct_SameEnds___bool__ : Value}
    (X : K.In h) (Y : h.Ns mainGlobals mg) (T0 : Txt K mg)
    (a_Book : PySem.W.nsIn K mainGlobals "Book" = some (some (.ref CB)))
    (pg_Book : PySem.W.plainGet K CB Str.empty = true) (hd_Book : PySem.W.hasDictIn K CB = true) (po_Book : PySem.W.plainOver K CB = true) (sa_Book : PySem.W.findIn K (.ref CB) "__setattr__" = some (some (.builtin "object.__setattr__")))
    (mk_Book : PySem.W.makesIn K CB = true) (kp_Book : PySem.W.keepIn K (.ref CB) = true)
    (m_Book___init__ : PySem.W.findIn K (.ref CB) "__init__" = some (some (.ref f_Book___init__))) (i_Book___init__ : PySem.W.isFn K (.ref f_Book___init__) = true) (o_Book___init__ : PySem.W.fnIn K f_Book___init__ = true)
    (l_Book___init__ : K.lookup f_Book___init__ = some ⟨oc_Book___init__, od_Book___init__, .func (PySem.W.fnOf "__init__" "Book.__init__" (defArgs s_Book___init__) (defBody s_Book___init__) (defScope s_Book___init__) .none kv_Book___init__ dc_Book___init__ pm_Book___init__ an_Book___init__ cd_Book___init__ ct_Book___init__), sl_Book___init__⟩)
    (c_Book___init__ : PySem.W.codeIn K cd_Book___init__ "Book.__init__" = true) (k_Book___init__ : PySem.W.keepIn K (.ref f_Book___init__) = true)
    (m_Book___call__ : PySem.W.findIn K (.ref CB) "__call__" = some (some (.ref f_Book___call__))) (i_Book___call__ : PySem.W.isFn K (.ref f_Book___call__) = true) (o_Book___call__ : PySem.W.fnIn K f_Book___call__ = true)
    (l_Book___call__ : K.lookup f_Book___call__ = some ⟨oc_Book___call__, od_Book___call__, .func (PySem.W.fnOf "__call__" "Book.__call__" (defArgs s_Book___call__) (defBody s_Book___call__) (defScope s_Book___call__) .none kv_Book___call__ dc_Book___call__ pm_Book___call__ an_Book___call__ cd_Book___call__ ct_Book___call__), sl_Book___call__⟩)
    (c_Book___call__ : PySem.W.codeIn K cd_Book___call__ "Book.__call__" = true) (k_Book___call__ : PySem.W.keepIn K (.ref f_Book___call__) = true)
    (m_Book___eq__ : PySem.W.findIn K (.ref CB) "__eq__" = some (some (.ref f_Book___eq__))) (i_Book___eq__ : PySem.W.isFn K (.ref f_Book___eq__) = true) (o_Book___eq__ : PySem.W.fnIn K f_Book___eq__ = true)
    (l_Book___eq__ : K.lookup f_Book___eq__ = some ⟨oc_Book___eq__, od_Book___eq__, .func (PySem.W.fnOf "__eq__" "Book.__eq__" (defArgs s_Book___eq__) (defBody s_Book___eq__) (defScope s_Book___eq__) .none kv_Book___eq__ dc_Book___eq__ pm_Book___eq__ an_Book___eq__ cd_Book___eq__ ct_Book___eq__), sl_Book___eq__⟩)
    (c_Book___eq__ : PySem.W.codeIn K cd_Book___eq__ "Book.__eq__" = true) (k_Book___eq__ : PySem.W.keepIn K (.ref f_Book___eq__) = true)
    (m_Book_quarrel : PySem.W.findIn K (.ref CB) "quarrel" = some (some (.ref p_Book_quarrel))) (g_Book_quarrel : PySem.W.specialIn K (.ref p_Book_quarrel) "__get__" = some (some (.builtin "property.__get__"))) (t_Book_quarrel : PySem.W.takesIn K (.ref p_Book_quarrel) = some true) (r_Book_quarrel : PySem.W.recIn K p_Book_quarrel "property" = some (.ref f_Book_quarrel :: rs_Book_quarrel))
    (l_Book_quarrel : K.lookup f_Book_quarrel = some ⟨oc_Book_quarrel, od_Book_quarrel, .func (PySem.W.fnOf "quarrel" "Book.quarrel" (defArgs s_Book_quarrel) (defBody s_Book_quarrel) (defScope s_Book_quarrel) .none kv_Book_quarrel dc_Book_quarrel pm_Book_quarrel an_Book_quarrel cd_Book_quarrel ct_Book_quarrel), sl_Book_quarrel⟩)
    (c_Book_quarrel : PySem.W.codeIn K cd_Book_quarrel "Book.quarrel" = true) (k_Book_quarrel : PySem.W.keepIn K (.ref f_Book_quarrel) = true)
    (ia_Book : PySem.W.findIn K (.ref CB) "__class__" = some (some (.builtin "object.__class__"))) (in_Book : PySem.W.specialIn K (.builtin "object.__class__") "__get__" = some (some (.builtin "getset_descriptor.__get__"))) (it_Book : PySem.W.takesIn K (.builtin "object.__class__") = some true) (im_Book : PySem.W.mroIn K CB (.type "object") = some true)
    (n_Book_signs : PySem.W.findIn K (.ref CB) "signs" = some none)
    (n_Book_rules : PySem.W.findIn K (.ref CB) "rules" = some none)
    (n_Book__lefts : PySem.W.findIn K (.ref CB) "_lefts" = some none)
    (n_Book__longest : PySem.W.findIn K (.ref CB) "_longest" = some none)
    (n_Book__quarrel : PySem.W.findIn K (.ref CB) "_quarrel" = some none)
    (n_Book__moves : PySem.W.findIn K (.ref CB) "_moves" = some none)
    (a_SameEnds : PySem.W.nsIn K mainGlobals "SameEnds" = some (some (.ref CE)))
    (pg_SameEnds : PySem.W.plainGet K CE Str.empty = true) (hd_SameEnds : PySem.W.hasDictIn K CE = true) (po_SameEnds : PySem.W.plainOver K CE = true) (sa_SameEnds : PySem.W.findIn K (.ref CE) "__setattr__" = some (some (.builtin "object.__setattr__")))
    (mk_SameEnds : PySem.W.makesIn K CE = true) (kp_SameEnds : PySem.W.keepIn K (.ref CE) = true)
    (m_SameEnds___init__ : PySem.W.findIn K (.ref CE) "__init__" = some (some (.ref f_SameEnds___init__))) (i_SameEnds___init__ : PySem.W.isFn K (.ref f_SameEnds___init__) = true) (o_SameEnds___init__ : PySem.W.fnIn K f_SameEnds___init__ = true)
    (l_SameEnds___init__ : K.lookup f_SameEnds___init__ = some ⟨oc_SameEnds___init__, od_SameEnds___init__, .func (PySem.W.fnOf "__init__" "SameEnds.__init__" (defArgs s_SameEnds___init__) (defBody s_SameEnds___init__) (defScope s_SameEnds___init__) .none kv_SameEnds___init__ dc_SameEnds___init__ pm_SameEnds___init__ an_SameEnds___init__ cd_SameEnds___init__ ct_SameEnds___init__), sl_SameEnds___init__⟩)
    (c_SameEnds___init__ : PySem.W.codeIn K cd_SameEnds___init__ "SameEnds.__init__" = true) (k_SameEnds___init__ : PySem.W.keepIn K (.ref f_SameEnds___init__) = true)
    (m_SameEnds___bool__ : PySem.W.findIn K (.ref CE) "__bool__" = some (some (.ref f_SameEnds___bool__))) (i_SameEnds___bool__ : PySem.W.isFn K (.ref f_SameEnds___bool__) = true) (o_SameEnds___bool__ : PySem.W.fnIn K f_SameEnds___bool__ = true)
    (l_SameEnds___bool__ : K.lookup f_SameEnds___bool__ = some ⟨oc_SameEnds___bool__, od_SameEnds___bool__, .func (PySem.W.fnOf "__bool__" "SameEnds.__bool__" (defArgs s_SameEnds___bool__) (defBody s_SameEnds___bool__) (defScope s_SameEnds___bool__) .none kv_SameEnds___bool__ dc_SameEnds___bool__ pm_SameEnds___bool__ an_SameEnds___bool__ cd_SameEnds___bool__ ct_SameEnds___bool__), sl_SameEnds___bool__⟩)
    (c_SameEnds___bool__ : PySem.W.codeIn K cd_SameEnds___bool__ "SameEnds.__bool__" = true) (k_SameEnds___bool__ : PySem.W.keepIn K (.ref f_SameEnds___bool__) = true)
    (n_SameEnds_holds : PySem.W.findIn K (.ref CE) "holds" = some none)
    (n_SameEnds_text : PySem.W.findIn K (.ref CE) "text" = some none)
    (n_SameEnds_one_end : PySem.W.findIn K (.ref CE) "one_end" = some none)
    (n_SameEnds_other_end : PySem.W.findIn K (.ref CE) "other_end" = some none) :
    ∃ CB CE : Addr, TxtC K mg CB CE :=
  ⟨CB, CE, { T0 with
    k_Book := ⟨⟨pg_Book, hd_Book, po_Book, sa_Book⟩, PySem.W.mg_of X Y a_Book, mk_Book, kp_Book⟩
    m_Book___init__ := meth_mk (ps := ["self", "signs", "rules"]) l_Book___init__ c_Book___init__ k_Book___init__ m_Book___init__ i_Book___init__ o_Book___init__ (fun _ _ _ _ _ _ us hl => match us, hl with | [_, _, _], _ => rfl)
    m_Book___call__ := meth_mk (ps := ["self", "text"]) l_Book___call__ c_Book___call__ k_Book___call__ m_Book___call__ i_Book___call__ o_Book___call__ (fun _ _ _ _ _ _ us hl => match us, hl with | [_, _], _ => rfl)
    m_Book___eq__ := meth_mk (ps := ["self", "other"]) l_Book___eq__ c_Book___eq__ k_Book___eq__ m_Book___eq__ i_Book___eq__ o_Book___eq__ (fun _ _ _ _ _ _ us hl => match us, hl with | [_, _], _ => rfl)
    p_Book_quarrel := prop_mk l_Book_quarrel c_Book_quarrel k_Book_quarrel m_Book_quarrel g_Book_quarrel t_Book_quarrel r_Book_quarrel (fun _ _ _ _ _ _ us hl => match us, hl with | [_], _ => rfl)
    i_Book := ⟨⟨pg_Book, hd_Book, po_Book, sa_Book⟩, ia_Book, in_Book, it_Book, im_Book, kit_self⟩
    n_Book_signs := n_Book_signs
    n_Book_rules := n_Book_rules
    n_Book__lefts := n_Book__lefts
    n_Book__longest := n_Book__longest
    n_Book__quarrel := n_Book__quarrel
    n_Book__moves := n_Book__moves
    k_SameEnds := ⟨⟨pg_SameEnds, hd_SameEnds, po_SameEnds, sa_SameEnds⟩, PySem.W.mg_of X Y a_SameEnds, mk_SameEnds, kp_SameEnds⟩
    m_SameEnds___init__ := meth_mk (ps := ["self", "text", "one_end", "other_end"]) l_SameEnds___init__ c_SameEnds___init__ k_SameEnds___init__ m_SameEnds___init__ i_SameEnds___init__ o_SameEnds___init__ (fun _ _ _ _ _ _ us hl => match us, hl with | [_, _, _, _], _ => rfl)
    m_SameEnds___bool__ := meth_mk (ps := ["self"]) l_SameEnds___bool__ c_SameEnds___bool__ k_SameEnds___bool__ m_SameEnds___bool__ i_SameEnds___bool__ o_SameEnds___bool__ (fun _ _ _ _ _ _ us hl => match us, hl with | [_], _ => rfl)
    n_SameEnds_holds := n_SameEnds_holds
    n_SameEnds_text := n_SameEnds_text
    n_SameEnds_one_end := n_SameEnds_one_end
    n_SameEnds_other_end := n_SameEnds_other_end }⟩
theorem all_exc {P : Program} {K : PySem.W.Frag} {h : Heap} {mg : Str → Option Value} {CB CE XN FN XU FU : Addr}
    {N_NotSettled : Addr} {nm_NotSettled q_NotSettled : Str} {bs_NotSettled bm_NotSettled : List Value} {sn_NotSettled : List Str} {sub_NotSettled : List Value} {ab_NotSettled : Bool} {col_NotSettled : Option Bool} {dd_NotSettled : Option Addr} {k0_NotSettled k1_NotSettled k2_NotSettled k3_NotSettled k5_NotSettled : Option Value}
    {cc_NotSettled ca_NotSettled : Addr} {oc_NotSettled kv_NotSettled dc_NotSettled pm_NotSettled ct_NotSettled cl_NotSettled cm_NotSettled : Value} {od_NotSettled an_NotSettled ce_NotSettled cf_NotSettled : Option Addr} {sl_NotSettled cs_NotSettled ct2_NotSettled : Array (Option Value)} {fv_NotSettled : Array Value} {fi_NotSettled : Str} {tf_NotSettled : Tok} {cd_NotSettled : ClassData}
    {N_Unlike : Addr} {nm_Unlike q_Unlike : Str} {bs_Unlike bm_Unlike : List Value} {sn_Unlike : List Str} {sub_Unlike : List Value} {ab_Unlike : Bool} {col_Unlike : Option Bool} {dd_Unlike : Option Addr} {k0_Unlike k1_Unlike k2_Unlike k3_Unlike k5_Unlike : Option Value}
    {cc_Unlike ca_Unlike : Addr} {oc_Unlike kv_Unlike dc_Unlike pm_Unlike ct_Unlike cl_Unlike cm_Unlike : Value} {od_Unlike an_Unlike ce_Unlike cf_Unlike : Option Addr} {sl_Unlike cs_Unlike ct2_Unlike : Array (Option Value)} {fv_Unlike : Array Value} {fi_Unlike : Str} {tf_Unlike : Tok} {cd_Unlike : ClassData}
    (KX : K.In h) (G : h.Ns mainGlobals mg) (TC : TxtC K mg CB CE)
    (op : PySem.W.nsIn K cStatics "thirdparty.any" = some none)
    (a_NotSettled : PySem.W.nsIn K mainGlobals "NotSettled" = some (some (.ref XN)))
    (xl_NotSettled : K.lookup XN = some (excClassObj nm_NotSettled q_NotSettled XN N_NotSettled bs_NotSettled bm_NotSettled true sn_NotSettled sub_NotSettled ab_NotSettled col_NotSettled dd_NotSettled k0_NotSettled k1_NotSettled k2_NotSettled k3_NotSettled k5_NotSettled "ValueError.__new__"))
    (vb_NotSettled : PySem.HandSPX.refsVE bm_NotSettled = true)
    (sa_NotSettled : PySem.W.findIn K (.ref XN) "__setattr__" = some (some (.builtin "object.__setattr__")))
    (ga_NotSettled : PySem.W.findIn K (.ref XN) "__getattribute__" = some (some (.builtin "BaseException.__getattribute__")))
    (gg_NotSettled : PySem.W.findIn K (.ref XN) "__getattr__" = some none)
    (ic_NotSettled : PySem.W.findIn K (.ref XN) "__init__" = some (some (.ref FN)))
    (ti_NotSettled : PySem.W.typeIn K (.ref FN) = some (.type "function"))
    (kc_NotSettled : PySem.W.keepIn K (.ref XN) = true)
    (ex_NotSettled : PySem.W.subIn K (.ref XN) (.type "BaseException") = some true)
    (ty_NotSettled : PySem.W.typeIn K (.ref XN) = some (.type "type"))
    (hd_NotSettled : PySem.W.hasDictIn K XN = true)
    (l_NotSettled : K.lookup FN = some ⟨oc_NotSettled, od_NotSettled, .func (PySem.W.fnX "__init__" "NotSettled.__init__" (defArgs s_NotSettled___init__) (defBody s_NotSettled___init__) (defScope s_NotSettled___init__) [("__class__", cc_NotSettled)] .none kv_NotSettled dc_NotSettled pm_NotSettled an_NotSettled (.ref ca_NotSettled) ct_NotSettled), sl_NotSettled⟩)
    (c_NotSettled : PySem.W.codeIn K (.ref ca_NotSettled) "NotSettled.__init__" = true)
    (cl1_NotSettled : K.lookup cc_NotSettled = some ⟨cl_NotSettled, ce_NotSettled, .cell (some (.ref XN)), cs_NotSettled⟩)
    (cl2_NotSettled : K.lookup ca_NotSettled = some ⟨cm_NotSettled, cf_NotSettled, .fields fv_NotSettled, ct2_NotSettled⟩)
    (fv1_NotSettled : fv_NotSettled[2]? = some (.str fi_NotSettled tf_NotSettled))
    (fl_NotSettled : ((P.main.file : Str) == fi_NotSettled) = true)
    (cD_NotSettled : PySem.W.clsIn K XN = some cd_NotSettled)
    (top : (P.main.scope.names.lookup ("super" : Str)).isSome = false)
    (su_NotSettled : PySem.W.mroIn K XN (.ref XN) = some true)
    (sp_NotSettled : PySem.W.ks_superIn K XN XN "__init__" = some (some (.builtin "ValueError.__init__")))
    (ve_NotSettled : PySem.W.subIn K (.ref XN) (.type "ValueError") = some true)
    (nf_NotSettled_text : PySem.W.findIn K (.ref XN) "text" = some none)
    (a_Unlike : PySem.W.nsIn K mainGlobals "Unlike" = some (some (.ref XU)))
    (xl_Unlike : K.lookup XU = some (excClassObj nm_Unlike q_Unlike XU N_Unlike bs_Unlike bm_Unlike true sn_Unlike sub_Unlike ab_Unlike col_Unlike dd_Unlike k0_Unlike k1_Unlike k2_Unlike k3_Unlike k5_Unlike "ValueError.__new__"))
    (vb_Unlike : PySem.HandSPX.refsVE bm_Unlike = true)
    (sa_Unlike : PySem.W.findIn K (.ref XU) "__setattr__" = some (some (.builtin "object.__setattr__")))
    (ga_Unlike : PySem.W.findIn K (.ref XU) "__getattribute__" = some (some (.builtin "BaseException.__getattribute__")))
    (gg_Unlike : PySem.W.findIn K (.ref XU) "__getattr__" = some none)
    (ic_Unlike : PySem.W.findIn K (.ref XU) "__init__" = some (some (.ref FU)))
    (ti_Unlike : PySem.W.typeIn K (.ref FU) = some (.type "function"))
    (kc_Unlike : PySem.W.keepIn K (.ref XU) = true)
    (ex_Unlike : PySem.W.subIn K (.ref XU) (.type "BaseException") = some true)
    (ty_Unlike : PySem.W.typeIn K (.ref XU) = some (.type "type"))
    (hd_Unlike : PySem.W.hasDictIn K XU = true)
    (l_Unlike : K.lookup FU = some ⟨oc_Unlike, od_Unlike, .func (PySem.W.fnX "__init__" "Unlike.__init__" (defArgs s_Unlike___init__) (defBody s_Unlike___init__) (defScope s_Unlike___init__) [("__class__", cc_Unlike)] .none kv_Unlike dc_Unlike pm_Unlike an_Unlike (.ref ca_Unlike) ct_Unlike), sl_Unlike⟩)
    (c_Unlike : PySem.W.codeIn K (.ref ca_Unlike) "Unlike.__init__" = true)
    (cl1_Unlike : K.lookup cc_Unlike = some ⟨cl_Unlike, ce_Unlike, .cell (some (.ref XU)), cs_Unlike⟩)
    (cl2_Unlike : K.lookup ca_Unlike = some ⟨cm_Unlike, cf_Unlike, .fields fv_Unlike, ct2_Unlike⟩)
    (fv1_Unlike : fv_Unlike[2]? = some (.str fi_Unlike tf_Unlike))
    (fl_Unlike : ((P.main.file : Str) == fi_Unlike) = true)
    (cD_Unlike : PySem.W.clsIn K XU = some cd_Unlike)
    (su_Unlike : PySem.W.mroIn K XU (.ref XU) = some true)
    (sp_Unlike : PySem.W.ks_superIn K XU XU "__init__" = some (some (.builtin "ValueError.__init__")))
    (ve_Unlike : PySem.W.subIn K (.ref XU) (.type "ValueError") = some true)
    (nf_Unlike_word : PySem.W.findIn K (.ref XU) "word" = some none)
    (h_NotSettled_NotSettled : PySem.W.subIn K (.ref XN) (.ref XN) = some true)
    (h_Unlike_NotSettled : PySem.W.subIn K (.ref XU) (.ref XN) = some false)
    (h_Unlike_Unlike : PySem.W.subIn K (.ref XU) (.ref XU) = some true) :
    ∃ XN FN XU FU : Addr, TxtX P K mg CB CE XN FN XU FU :=
  ⟨XN, FN, XU, FU, { TC with
    e_NotSettled := exc_mk KX G a_NotSettled xl_NotSettled vb_NotSettled sa_NotSettled ga_NotSettled gg_NotSettled ic_NotSettled ti_NotSettled kc_NotSettled ex_NotSettled ty_NotSettled hd_NotSettled su_NotSettled sp_NotSettled ve_NotSettled
    q_NotSettled := xinit_mk l_NotSettled c_NotSettled cl1_NotSettled cl2_NotSettled fv1_NotSettled fl_NotSettled top cD_NotSettled op TC.b_super ⟨_, rfl, rfl⟩ (by decide +kernel) (fun _ _ _ _ _ _ us hl => match us, hl with | [_, _], _ => rfl)
    nf_NotSettled_text := nf_NotSettled_text
    e_Unlike := exc_mk KX G a_Unlike xl_Unlike vb_Unlike sa_Unlike ga_Unlike gg_Unlike ic_Unlike ti_Unlike kc_Unlike ex_Unlike ty_Unlike hd_Unlike su_Unlike sp_Unlike ve_Unlike
    q_Unlike := xinit_mk l_Unlike c_Unlike cl1_Unlike cl2_Unlike fv1_Unlike fl_Unlike top cD_Unlike op TC.b_super ⟨_, rfl, rfl⟩ (by decide +kernel) (fun _ _ _ _ _ _ us hl => match us, hl with | [_, _], _ => rfl)
    nf_Unlike_word := nf_Unlike_word
    mm_NotSettled_NotSettled := PySem.W.exm_ref ex_NotSettled hd_NotSettled ty_NotSettled h_NotSettled_NotSettled
    mm_Unlike_NotSettled := PySem.W.exm_ref ex_NotSettled hd_NotSettled ty_NotSettled h_Unlike_NotSettled
    mm_Unlike_Unlike := PySem.W.exm_ref ex_Unlike hd_Unlike ty_Unlike h_Unlike_Unlike }⟩
end Sh
open PySem PySem.W PyProof.Rows
set_option maxRecDepth 100000 in
set_option maxHeartbeats 0 in
theorem PySem.Challenge.cw_shrunkalike_k11_whole_same_ends_holds : PySem.Challenge.rw_shrunkalike_k11_whole_same_ends.Holds := by
  w_on; o_law; k_head; (case hw => w_witness2)
  k_fill
  refine Sh.walk_law (l := PySem.Challenge.rw_shrunkalike_k11_whole_same_ends) (n := 63) (k := 7) (x := "law") (p1 := "_law_script") (st := Sh.s_law) (N := ["_law_script", "_law_source_here", "_law_signs_here", "_law_rules", "_law_near_here", "_law_one", "_law_other", "_law_told", "_law_lefts", "_law_unlike", "_law_least", "_law_text_here", "_law_due", "_law_loose", "_law_strange", "_law_turn", "raised", "_law_rule_here", "_law_left_here"]) rfl (by decide) rfl ⟨rfl, by decide, by decide⟩ Sh.sc_law (fun w h Y => PySem.W.kIn_of Y) ?F
  case F =>
    intro w mg fa h KX G hmg
    have b_len : mg "len" = none := by refine' PySem.W.mg_none_of KX G ?z; (case z => k_is)
    have b_range : mg "range" = none := by refine' PySem.W.mg_none_of KX G ?z; (case z => k_is)
    have b_min : mg "min" = none := by refine' PySem.W.mg_none_of KX G ?z; (case z => k_is)
    have b_max : mg "max" = none := by refine' PySem.W.mg_none_of KX G ?z; (case z => k_is)
    have b_any : mg "any" = none := by refine' PySem.W.mg_none_of KX G ?z; (case z => k_is)
    have b_isinstance : mg "isinstance" = none := by refine' PySem.W.mg_none_of KX G ?z; (case z => k_is)
    have b_abs : mg "abs" = none := by refine' PySem.W.mg_none_of KX G ?z; (case z => k_is)
    have b_int : mg "int" = none := by refine' PySem.W.mg_none_of KX G ?z; (case z => k_is)
    have b_str : mg "str" = none := by refine' PySem.W.mg_none_of KX G ?z; (case z => k_is)
    have b_bool : mg "bool" = none := by refine' PySem.W.mg_none_of KX G ?z; (case z => k_is)
    have b_tuple : mg "tuple" = none := by refine' PySem.W.mg_none_of KX G ?z; (case z => k_is)
    have b_list : mg "list" = none := by refine' PySem.W.mg_none_of KX G ?z; (case z => k_is)
    have b_repr : mg "repr" = none := by refine' PySem.W.mg_none_of KX G ?z; (case z => k_is)
    have b_sorted : mg "sorted" = none := by refine' PySem.W.mg_none_of KX G ?z; (case z => k_is)
    have b_iter : mg "iter" = none := by refine' PySem.W.mg_none_of KX G ?z; (case z => k_is)
    have b_super : mg "super" = none := by refine' PySem.W.mg_none_of KX G ?z; (case z => k_is)
    have g_LETTERS : ∃ u, mg "LETTERS" = some u ∧ L2.RelV (.str "abcdefghijklmnopqrstuvwxyz") u := by refine' Sh.con_mk KX G ?a ?r; (case a => k_is); (case r => exact ⟨_, rfl⟩)
    have g_LONGEST_TEXT : ∃ u, mg "LONGEST_TEXT" = some u ∧ L2.RelV (.int 200) u := by refine' Sh.con_mk KX G ?a ?r; (case a => k_is); (case r => exact ⟨_, rfl⟩)
    have g_MOST_RULES : ∃ u, mg "MOST_RULES" = some u ∧ L2.RelV (.int 64) u := by refine' Sh.con_mk KX G ?a ?r; (case a => k_is); (case r => exact ⟨_, rfl⟩)
    have g_LONGEST_LEFT : ∃ u, mg "LONGEST_LEFT" = some u ∧ L2.RelV (.int 4) u := by refine' Sh.con_mk KX G ?a ?r; (case a => k_is); (case r => exact ⟨_, rfl⟩)
    have d_is_listed : Sh.DefAt (L2.KOf KX) mg "is_listed" Sh.s_is_listed ["thing"] := by delta L2.KOf; refine' Sh.def_mk KX G ?a ?l ?c ?k ?b; (case a => k_is); (case l => k_is); (case c => k_is); (case k => k_is); (case b => exact fun _ _ _ _ _ _ us hl => match us, hl with | [_], _ => rfl)
    have d_is_signs : Sh.DefAt (L2.KOf KX) mg "is_signs" Sh.s_is_signs ["thing"] := by delta L2.KOf; refine' Sh.def_mk KX G ?a ?l ?c ?k ?b; (case a => k_is); (case l => k_is); (case c => k_is); (case k => k_is); (case b => exact fun _ _ _ _ _ _ us hl => match us, hl with | [_], _ => rfl)
    have d_check_signs : Sh.DefAt (L2.KOf KX) mg "check_signs" Sh.s_check_signs ["thing"] := by delta L2.KOf; refine' Sh.def_mk KX G ?a ?l ?c ?k ?b; (case a => k_is); (case l => k_is); (case c => k_is); (case k => k_is); (case b => exact fun _ _ _ _ _ _ us hl => match us, hl with | [_], _ => rfl)
    have d_is_text : Sh.DefAt (L2.KOf KX) mg "is_text" Sh.s_is_text ["signs", "thing", "low", "high"] := by delta L2.KOf; refine' Sh.def_mk KX G ?a ?l ?c ?k ?b; (case a => k_is); (case l => k_is); (case c => k_is); (case k => k_is); (case b => exact fun _ _ _ _ _ _ us hl => match us, hl with | [_, _, _, _], _ => rfl)
    have d_check_text : Sh.DefAt (L2.KOf KX) mg "check_text" Sh.s_check_text ["signs", "thing"] := by delta L2.KOf; refine' Sh.def_mk KX G ?a ?l ?c ?k ?b; (case a => k_is); (case l => k_is); (case c => k_is); (case k => k_is); (case b => exact fun _ _ _ _ _ _ us hl => match us, hl with | [_, _], _ => rfl)
    have d_text_key : Sh.DefAt (L2.KOf KX) mg "text_key" Sh.s_text_key ["text"] := by delta L2.KOf; refine' Sh.def_mk KX G ?a ?l ?c ?k ?b; (case a => k_is); (case l => k_is); (case c => k_is); (case k => k_is); (case b => exact fun _ _ _ _ _ _ us hl => match us, hl with | [_], _ => rfl)
    have d_least_of : Sh.DefAt (L2.KOf KX) mg "least_of" Sh.s_least_of ["texts"] := by delta L2.KOf; refine' Sh.def_mk KX G ?a ?l ?c ?k ?b; (case a => k_is); (case l => k_is); (case c => k_is); (case k => k_is); (case b => exact fun _ _ _ _ _ _ us hl => match us, hl with | [_], _ => rfl)
    have d_first_rules : Sh.DefAt (L2.KOf KX) mg "first_rules" Sh.s_first_rules ["rules"] := by delta L2.KOf; refine' Sh.def_mk KX G ?a ?l ?c ?k ?b; (case a => k_is); (case l => k_is); (case c => k_is); (case k => k_is); (case b => exact fun _ _ _ _ _ _ us hl => match us, hl with | [_], _ => rfl)
    have d_longest_left : Sh.DefAt (L2.KOf KX) mg "longest_left" Sh.s_longest_left ["rules"] := by delta L2.KOf; refine' Sh.def_mk KX G ?a ?l ?c ?k ?b; (case a => k_is); (case l => k_is); (case c => k_is); (case k => k_is); (case b => exact fun _ _ _ _ _ _ us hl => match us, hl with | [_], _ => rfl)
    have d_used_at_end : Sh.DefAt (L2.KOf KX) mg "used_at_end" Sh.s_used_at_end ["lefts", "longest", "pile"] := by delta L2.KOf; refine' Sh.def_mk KX G ?a ?l ?c ?k ?b; (case a => k_is); (case l => k_is); (case c => k_is); (case k => k_is); (case b => exact fun _ _ _ _ _ _ us hl => match us, hl with | [_, _, _], _ => rfl)
    have d_left_over : Sh.DefAt (L2.KOf KX) mg "left_over" Sh.s_left_over ["lefts", "longest", "text"] := by delta L2.KOf; refine' Sh.def_mk KX G ?a ?l ?c ?k ?b; (case a => k_is); (case l => k_is); (case c => k_is); (case k => k_is); (case b => exact fun _ _ _ _ _ _ us hl => match us, hl with | [_, _, _], _ => rfl)
    have d_overlap_rows : Sh.DefAt (L2.KOf KX) mg "overlap_rows" Sh.s_overlap_rows ["rules"] := by delta L2.KOf; refine' Sh.def_mk KX G ?a ?l ?c ?k ?b; (case a => k_is); (case l => k_is); (case c => k_is); (case k => k_is); (case b => exact fun _ _ _ _ _ _ us hl => match us, hl with | [_], _ => rfl)
    have d_both_results : Sh.DefAt (L2.KOf KX) mg "both_results" Sh.s_both_results ["rules", "overlap"] := by delta L2.KOf; refine' Sh.def_mk KX G ?a ?l ?c ?k ?b; (case a => k_is); (case l => k_is); (case c => k_is); (case k => k_is); (case b => exact fun _ _ _ _ _ _ us hl => match us, hl with | [_, _], _ => rfl)
    have d_quarrel_of : Sh.DefAt (L2.KOf KX) mg "quarrel_of" Sh.s_quarrel_of ["rules", "lefts", "longest"] := by delta L2.KOf; refine' Sh.def_mk KX G ?a ?l ?c ?k ?b; (case a => k_is); (case l => k_is); (case c => k_is); (case k => k_is); (case b => exact fun _ _ _ _ _ _ us hl => match us, hl with | [_, _, _], _ => rfl)
    have d_end_moves : Sh.DefAt (L2.KOf KX) mg "end_moves" Sh.s_end_moves ["signs", "rules"] := by delta L2.KOf; refine' Sh.def_mk KX G ?a ?l ?c ?k ?b; (case a => k_is); (case l => k_is); (case c => k_is); (case k => k_is); (case b => exact fun _ _ _ _ _ _ us hl => match us, hl with | [_, _], _ => rfl)
    have d_kept_tail : Sh.DefAt (L2.KOf KX) mg "kept_tail" Sh.s_kept_tail ["lefts", "longest", "text"] := by delta L2.KOf; refine' Sh.def_mk KX G ?a ?l ?c ?k ?b; (case a => k_is); (case l => k_is); (case c => k_is); (case k => k_is); (case b => exact fun _ _ _ _ _ _ us hl => match us, hl with | [_, _, _], _ => rfl)
    have d_is_rule : Sh.DefAt (L2.KOf KX) mg "is_rule" Sh.s_is_rule ["signs", "thing"] := by delta L2.KOf; refine' Sh.def_mk KX G ?a ?l ?c ?k ?b; (case a => k_is); (case l => k_is); (case c => k_is); (case k => k_is); (case b => exact fun _ _ _ _ _ _ us hl => match us, hl with | [_, _], _ => rfl)
    have d_checked_rules : Sh.DefAt (L2.KOf KX) mg "checked_rules" Sh.s_checked_rules ["signs", "thing"] := by delta L2.KOf; refine' Sh.def_mk KX G ?a ?l ?c ?k ?b; (case a => k_is); (case l => k_is); (case c => k_is); (case k => k_is); (case b => exact fun _ _ _ _ _ _ us hl => match us, hl with | [_, _], _ => rfl)
    have d_rest_of : Sh.DefAt (L2.KOf KX) mg "rest_of" Sh.s_rest_of ["book", "text"] := by delta L2.KOf; refine' Sh.def_mk KX G ?a ?l ?c ?k ?b; (case a => k_is); (case l => k_is); (case c => k_is); (case k => k_is); (case b => exact fun _ _ _ _ _ _ us hl => match us, hl with | [_, _], _ => rfl)
    have d_check_settled : Sh.DefAt (L2.KOf KX) mg "check_settled" Sh.s_check_settled ["book"] := by delta L2.KOf; refine' Sh.def_mk KX G ?a ?l ?c ?k ?b; (case a => k_is); (case l => k_is); (case c => k_is); (case k => k_is); (case b => exact fun _ _ _ _ _ _ us hl => match us, hl with | [_], _ => rfl)
    have d_has_left_inside : Sh.DefAt (L2.KOf KX) mg "has_left_inside" Sh.s_has_left_inside ["lefts", "left"] := by delta L2.KOf; refine' Sh.def_mk KX G ?a ?l ?c ?k ?b; (case a => k_is); (case l => k_is); (case c => k_is); (case k => k_is); (case b => exact fun _ _ _ _ _ _ us hl => match us, hl with | [_, _], _ => rfl)
    have d_least_rules : Sh.DefAt (L2.KOf KX) mg "least_rules" Sh.s_least_rules ["book"] := by delta L2.KOf; refine' Sh.def_mk KX G ?a ?l ?c ?k ?b; (case a => k_is); (case l => k_is); (case c => k_is); (case k => k_is); (case b => exact fun _ _ _ _ _ _ us hl => match us, hl with | [_], _ => rfl)
    have d_least_book : Sh.DefAt (L2.KOf KX) mg "least_book" Sh.s_least_book ["book"] := by delta L2.KOf; refine' Sh.def_mk KX G ?a ?l ?c ?k ?b; (case a => k_is); (case l => k_is); (case c => k_is); (case k => k_is); (case b => exact fun _ _ _ _ _ _ us hl => match us, hl with | [_], _ => rfl)
    have d_check_both : Sh.DefAt (L2.KOf KX) mg "check_both" Sh.s_check_both ["one", "other"] := by delta L2.KOf; refine' Sh.def_mk KX G ?a ?l ?c ?k ?b; (case a => k_is); (case l => k_is); (case c => k_is); (case k => k_is); (case b => exact fun _ _ _ _ _ _ us hl => match us, hl with | [_, _], _ => rfl)
    have d_same_ends : Sh.DefAt (L2.KOf KX) mg "same_ends" Sh.s_same_ends ["one", "other"] := by delta L2.KOf; refine' Sh.def_mk KX G ?a ?l ?c ?k ?b; (case a => k_is); (case l => k_is); (case c => k_is); (case k => k_is); (case b => exact fun _ _ _ _ _ _ us hl => match us, hl with | [_, _], _ => rfl)
    have d__law_source : Sh.DefAt (L2.KOf KX) mg "_law_source" Sh.s__law_source ["_law_script", "_law_place"] := by delta L2.KOf; refine' Sh.def_mk KX G ?a ?l ?c ?k ?b; (case a => k_is); (case l => k_is); (case c => k_is); (case k => k_is); (case b => exact fun _ _ _ _ _ _ us hl => match us, hl with | [_, _], _ => rfl)
    have d__law_pick : Sh.DefAt (L2.KOf KX) mg "_law_pick" Sh.s__law_pick ["_law_source_here", "_law_many"] := by delta L2.KOf; refine' Sh.def_mk KX G ?a ?l ?c ?k ?b; (case a => k_is); (case l => k_is); (case c => k_is); (case k => k_is); (case b => exact fun _ _ _ _ _ _ us hl => match us, hl with | [_, _], _ => rfl)
    have d__law_signs : Sh.DefAt (L2.KOf KX) mg "_law_signs" Sh.s__law_signs ["_law_source_here"] := by delta L2.KOf; refine' Sh.def_mk KX G ?a ?l ?c ?k ?b; (case a => k_is); (case l => k_is); (case c => k_is); (case k => k_is); (case b => exact fun _ _ _ _ _ _ us hl => match us, hl with | [_], _ => rfl)
    have d__law_text : Sh.DefAt (L2.KOf KX) mg "_law_text" Sh.s__law_text ["_law_source_here", "_law_signs_here", "_law_most"] := by delta L2.KOf; refine' Sh.def_mk KX G ?a ?l ?c ?k ?b; (case a => k_is); (case l => k_is); (case c => k_is); (case k => k_is); (case b => exact fun _ _ _ _ _ _ us hl => match us, hl with | [_, _, _], _ => rfl)
    have d__law_key : Sh.DefAt (L2.KOf KX) mg "_law_key" Sh.s__law_key ["_law_text_here"] := by delta L2.KOf; refine' Sh.def_mk KX G ?a ?l ?c ?k ?b; (case a => k_is); (case l => k_is); (case c => k_is); (case k => k_is); (case b => exact fun _ _ _ _ _ _ us hl => match us, hl with | [_], _ => rfl)
    have d__law_left : Sh.DefAt (L2.KOf KX) mg "_law_left" Sh.s__law_left ["_law_rules", "_law_text_here"] := by delta L2.KOf; refine' Sh.def_mk KX G ?a ?l ?c ?k ?b; (case a => k_is); (case l => k_is); (case c => k_is); (case k => k_is); (case b => exact fun _ _ _ _ _ _ us hl => match us, hl with | [_, _], _ => rfl)
    have d__law_quarrel : Sh.DefAt (L2.KOf KX) mg "_law_quarrel" Sh.s__law_quarrel ["_law_rules"] := by delta L2.KOf; refine' Sh.def_mk KX G ?a ?l ?c ?k ?b; (case a => k_is); (case l => k_is); (case c => k_is); (case k => k_is); (case b => exact fun _ _ _ _ _ _ us hl => match us, hl with | [_], _ => rfl)
    have d__law_rule : Sh.DefAt (L2.KOf KX) mg "_law_rule" Sh.s__law_rule ["_law_source_here", "_law_signs_here", "_law_longest"] := by delta L2.KOf; refine' Sh.def_mk KX G ?a ?l ?c ?k ?b; (case a => k_is); (case l => k_is); (case c => k_is); (case k => k_is); (case b => exact fun _ _ _ _ _ _ us hl => match us, hl with | [_, _, _], _ => rfl)
    have d__law_grown : Sh.DefAt (L2.KOf KX) mg "_law_grown" Sh.s__law_grown ["_law_source_here", "_law_signs_here", "_law_most", "_law_longest"] := by delta L2.KOf; refine' Sh.def_mk KX G ?a ?l ?c ?k ?b; (case a => k_is); (case l => k_is); (case c => k_is); (case k => k_is); (case b => exact fun _ _ _ _ _ _ us hl => match us, hl with | [_, _, _, _], _ => rfl)
    have d__law_table_rules : Sh.DefAt (L2.KOf KX) mg "_law_table_rules" Sh.s__law_table_rules ["_law_source_here", "_law_signs_here"] := by delta L2.KOf; refine' Sh.def_mk KX G ?a ?l ?c ?k ?b; (case a => k_is); (case l => k_is); (case c => k_is); (case k => k_is); (case b => exact fun _ _ _ _ _ _ us hl => match us, hl with | [_, _], _ => rfl)
    have d__law_book : Sh.DefAt (L2.KOf KX) mg "_law_book" Sh.s__law_book ["_law_source_here", "_law_signs_here", "_law_most"] := by delta L2.KOf; refine' Sh.def_mk KX G ?a ?l ?c ?k ?b; (case a => k_is); (case l => k_is); (case c => k_is); (case k => k_is); (case b => exact fun _ _ _ _ _ _ us hl => match us, hl with | [_, _, _], _ => rfl)
    have d__law_known : Sh.DefAt (L2.KOf KX) mg "_law_known" Sh.s__law_known ["_law_source_here", "_law_a", "_law_b"] := by delta L2.KOf; refine' Sh.def_mk KX G ?a ?l ?c ?k ?b; (case a => k_is); (case l => k_is); (case c => k_is); (case k => k_is); (case b => exact fun _ _ _ _ _ _ us hl => match us, hl with | [_, _, _], _ => rfl)
    have d__law_ends : Sh.DefAt (L2.KOf KX) mg "_law_ends" Sh.s__law_ends ["_law_signs_here", "_law_rules", "_law_size"] := by delta L2.KOf; refine' Sh.def_mk KX G ?a ?l ?c ?k ?b; (case a => k_is); (case l => k_is); (case c => k_is); (case k => k_is); (case b => exact fun _ _ _ _ _ _ us hl => match us, hl with | [_, _, _], _ => rfl)
    have d__law_texts : Sh.DefAt (L2.KOf KX) mg "_law_texts" Sh.s__law_texts ["_law_signs_here", "_law_size"] := by delta L2.KOf; refine' Sh.def_mk KX G ?a ?l ?c ?k ?b; (case a => k_is); (case l => k_is); (case c => k_is); (case k => k_is); (case b => exact fun _ _ _ _ _ _ us hl => match us, hl with | [_, _], _ => rfl)
    have d__law_near : Sh.DefAt (L2.KOf KX) mg "_law_near" Sh.s__law_near ["_law_draws", "_law_signs_here", "_law_rules"] := by delta L2.KOf; refine' Sh.def_mk KX G ?a ?l ?c ?k ?b; (case a => k_is); (case l => k_is); (case c => k_is); (case k => k_is); (case b => exact fun _ _ _ _ _ _ us hl => match us, hl with | [_, _, _], _ => rfl)
    have T0 : Sh.Txt (L2.KOf KX) mg := ⟨b_len, b_range, b_min, b_max, b_any, b_isinstance, b_abs, b_int, b_str, b_bool, b_tuple, b_list, b_repr, b_sorted, b_iter, b_super, g_LETTERS, g_LONGEST_TEXT, g_MOST_RULES, g_LONGEST_LEFT, d_is_listed, d_is_signs, d_check_signs, d_is_text, d_check_text, d_text_key, d_least_of, d_first_rules, d_longest_left, d_used_at_end, d_left_over, d_overlap_rows, d_both_results, d_quarrel_of, d_end_moves, d_kept_tail, d_is_rule, d_checked_rules, d_rest_of, d_check_settled, d_has_left_inside, d_least_rules, d_least_book, d_check_both, d_same_ends, d__law_source, d__law_pick, d__law_signs, d__law_text, d__law_key, d__law_left, d__law_quarrel, d__law_rule, d__law_grown, d__law_table_rules, d__law_book, d__law_known, d__law_ends, d__law_texts, d__law_near⟩
    obtain ⟨CB, CE, T⟩ : ∃ CB CE : Addr, Sh.TxtC (L2.KOf KX) mg CB CE := by
      delta L2.KOf at T0 ⊢; refine' Sh.all_cls KX G T0 ?a_Book ?pg_Book ?hd_Book ?po_Book ?sa_Book ?mk_Book ?kp_Book ?m_Book___init__ ?i_Book___init__ ?o_Book___init__ ?l_Book___init__ ?c_Book___init__ ?k_Book___init__ ?m_Book___call__ ?i_Book___call__ ?o_Book___call__ ?l_Book___call__ ?c_Book___call__ ?k_Book___call__ ?m_Book___eq__ ?i_Book___eq__ ?o_Book___eq__ ?l_Book___eq__ ?c_Book___eq__ ?k_Book___eq__ ?m_Book_quarrel ?g_Book_quarrel ?t_Book_quarrel ?r_Book_quarrel ?l_Book_quarrel ?c_Book_quarrel ?k_Book_quarrel ?ia_Book ?in_Book ?it_Book ?im_Book ?n_Book_signs ?n_Book_rules ?n_Book__lefts ?n_Book__longest ?n_Book__quarrel ?n_Book__moves ?a_SameEnds ?pg_SameEnds ?hd_SameEnds ?po_SameEnds ?sa_SameEnds ?mk_SameEnds ?kp_SameEnds ?m_SameEnds___init__ ?i_SameEnds___init__ ?o_SameEnds___init__ ?l_SameEnds___init__ ?c_SameEnds___init__ ?k_SameEnds___init__ ?m_SameEnds___bool__ ?i_SameEnds___bool__ ?o_SameEnds___bool__ ?l_SameEnds___bool__ ?c_SameEnds___bool__ ?k_SameEnds___bool__ ?n_SameEnds_holds ?n_SameEnds_text ?n_SameEnds_one_end ?n_SameEnds_other_end
      (case a_Book => k_is)
      (case pg_Book => k_is)
      (case hd_Book => k_is)
      (case po_Book => k_is)
      (case sa_Book => k_is)
      (case mk_Book => k_is)
      (case kp_Book => k_is)
      (case m_Book___init__ => k_is)
      (case i_Book___init__ => k_is)
      (case o_Book___init__ => k_is)
      (case l_Book___init__ => k_is)
      (case c_Book___init__ => k_is)
      (case k_Book___init__ => k_is)
      (case m_Book___call__ => k_is)
      (case i_Book___call__ => k_is)
      (case o_Book___call__ => k_is)
      (case l_Book___call__ => k_is)
      (case c_Book___call__ => k_is)
      (case k_Book___call__ => k_is)
      (case m_Book___eq__ => k_is)
      (case i_Book___eq__ => k_is)
      (case o_Book___eq__ => k_is)
      (case l_Book___eq__ => k_is)
      (case c_Book___eq__ => k_is)
      (case k_Book___eq__ => k_is)
      (case m_Book_quarrel => k_is)
      (case g_Book_quarrel => k_is)
      (case t_Book_quarrel => k_is)
      (case r_Book_quarrel => k_is)
      (case l_Book_quarrel => k_is)
      (case c_Book_quarrel => k_is)
      (case k_Book_quarrel => k_is)
      (case ia_Book => k_is)
      (case in_Book => k_is)
      (case it_Book => k_is)
      (case im_Book => k_is)
      (case n_Book_signs => k_is)
      (case n_Book_rules => k_is)
      (case n_Book__lefts => k_is)
      (case n_Book__longest => k_is)
      (case n_Book__quarrel => k_is)
      (case n_Book__moves => k_is)
      (case a_SameEnds => k_is)
      (case pg_SameEnds => k_is)
      (case hd_SameEnds => k_is)
      (case po_SameEnds => k_is)
      (case sa_SameEnds => k_is)
      (case mk_SameEnds => k_is)
      (case kp_SameEnds => k_is)
      (case m_SameEnds___init__ => k_is)
      (case i_SameEnds___init__ => k_is)
      (case o_SameEnds___init__ => k_is)
      (case l_SameEnds___init__ => k_is)
      (case c_SameEnds___init__ => k_is)
      (case k_SameEnds___init__ => k_is)
      (case m_SameEnds___bool__ => k_is)
      (case i_SameEnds___bool__ => k_is)
      (case o_SameEnds___bool__ => k_is)
      (case l_SameEnds___bool__ => k_is)
      (case c_SameEnds___bool__ => k_is)
      (case k_SameEnds___bool__ => k_is)
      (case n_SameEnds_holds => k_is)
      (case n_SameEnds_text => k_is)
      (case n_SameEnds_one_end => k_is)
      (case n_SameEnds_other_end => k_is)
    obtain ⟨XN, FN, XU, FU, T⟩ : ∃ XN FN XU FU : Addr, Sh.TxtX (PySem.Challenge.rw_shrunkalike_k11_whole_same_ends).prog (L2.KOf KX) mg CB CE XN FN XU FU := by
      delta L2.KOf at T ⊢; refine' Sh.all_exc KX G T ?op ?a_NotSettled ?xl_NotSettled ?vb_NotSettled ?sa_NotSettled ?ga_NotSettled ?gg_NotSettled ?ic_NotSettled ?ti_NotSettled ?kc_NotSettled ?ex_NotSettled ?ty_NotSettled ?hd_NotSettled ?l_NotSettled ?c_NotSettled ?cl1_NotSettled ?cl2_NotSettled ?fv1_NotSettled ?fl_NotSettled ?cD_NotSettled ?top ?su_NotSettled ?sp_NotSettled ?ve_NotSettled ?nf_NotSettled_text ?a_Unlike ?xl_Unlike ?vb_Unlike ?sa_Unlike ?ga_Unlike ?gg_Unlike ?ic_Unlike ?ti_Unlike ?kc_Unlike ?ex_Unlike ?ty_Unlike ?hd_Unlike ?l_Unlike ?c_Unlike ?cl1_Unlike ?cl2_Unlike ?fv1_Unlike ?fl_Unlike ?cD_Unlike ?su_Unlike ?sp_Unlike ?ve_Unlike ?nf_Unlike_word ?h_NotSettled_NotSettled ?h_Unlike_NotSettled ?h_Unlike_Unlike
      (case op => k_is)
      (case a_NotSettled => k_is)
      (case xl_NotSettled => k_is)
      (case vb_NotSettled => first | rfl | decide +kernel)
      (case sa_NotSettled => k_is)
      (case ga_NotSettled => k_is)
      (case gg_NotSettled => k_is)
      (case ic_NotSettled => k_is)
      (case ti_NotSettled => k_is)
      (case kc_NotSettled => k_is)
      (case ex_NotSettled => k_is)
      (case ty_NotSettled => k_is)
      (case hd_NotSettled => k_is)
      (case l_NotSettled => k_is)
      (case c_NotSettled => k_is)
      (case cl1_NotSettled => k_is)
      (case cl2_NotSettled => k_is)
      (case fv1_NotSettled => rfl)
      (case fl_NotSettled => first | rfl | decide +kernel)
      (case cD_NotSettled => k_is)
      (case top => first | rfl | decide +kernel)
      (case su_NotSettled => k_is)
      (case sp_NotSettled => ks_is)
      (case ve_NotSettled => k_is)
      (case nf_NotSettled_text => k_is)
      (case a_Unlike => k_is)
      (case xl_Unlike => k_is)
      (case vb_Unlike => first | rfl | decide +kernel)
      (case sa_Unlike => k_is)
      (case ga_Unlike => k_is)
      (case gg_Unlike => k_is)
      (case ic_Unlike => k_is)
      (case ti_Unlike => k_is)
      (case kc_Unlike => k_is)
      (case ex_Unlike => k_is)
      (case ty_Unlike => k_is)
      (case hd_Unlike => k_is)
      (case l_Unlike => k_is)
      (case c_Unlike => k_is)
      (case cl1_Unlike => k_is)
      (case cl2_Unlike => k_is)
      (case fv1_Unlike => rfl)
      (case fl_Unlike => first | rfl | decide +kernel)
      (case cD_Unlike => k_is)
      (case su_Unlike => k_is)
      (case sp_Unlike => ks_is)
      (case ve_Unlike => k_is)
      (case nf_Unlike_word => k_is)
      (case h_NotSettled_NotSettled => first | rfl | k_is)
      (case h_Unlike_NotSettled => first | rfl | k_is)
      (case h_Unlike_Unlike => first | rfl | k_is)
    obtain ⟨fd, Fn, bi⟩ : ∃ fd : FuncData, L2.Fun (L2.KOf KX) "law" "law" Sh.s_law fa fd ∧ ∀ (s : Shared) (u : Value), BindsTo s fd ⟨[u], []⟩ [("_law_script", u)] := by
      delta L2.KOf; refine' Sh.law_mk KX G hmg ?a ?l ?c ?k ?b; (case a => k_is); (case l => k_is); (case c => k_is); (case k => k_is); (case b => exact fun _ _ _ _ _ _ s u => .of_eq rfl)
    exact ⟨fd, Fn, bi, fun s1 a zs base H cdv hl hb hr hS => Sh.law_body T fa cdv callerA [] s1 H _ hr rfl a zs hS hb hl⟩
#print axioms PySem.Challenge.cw_shrunkalike_k11_whole_same_ends_holds
