import PyProof.Rows.All
import Wide.All
import OpenK.AllK
import Wide.FinOn
import HandS.ForMost
import HandS.Codes
import HandS.IsInst
import HandS.TupLe
import HandS.TupAny
import HandS.Deep
import HandS.Wide
import HandS.WideBits
import HandS.WideMore
import HandS.EndBits
import HandS.Star
import HandS.StrMore
import HandS.Walk
import PySem.Challenge.RW_shrunkalike_k04_books_made
import PyProof.ReprRoads
import PyProof.Rows.Range3
import HandS.SortKw
import HandS.Keys
import HandS.Conv
import HandS.Property
import HandS.DictComp
import KE.KExcSuper
import HandS.ExcInit
import HandS.Nested
import HandS.WordsExc
import HandS.ExcField
import HandS.RaiseMore
import HandS.TryMany
import HandS.ExcIs
import KE.KExcIs
import HandS.RaiseFrom
import HandS.ExcInitHot
import HandS.NestedHot
import OpenK.KOps
import HandS.Text
import PyProof.Rows.StrCountLaw
import PyProof.StrLawsFirst
import OpenK.KMeth
import HandS.OwnIter
import HandS.IterVal
import PyProof.TupleIter
import KE.KOwnIter
import PyProof.ReprLen
import PyProof.P3In
import KE.KRevSl
import HandS.Style
import PyProof.StrBlock2
set_option Elab.async false
set_option linter.all false
set_option maxRecDepth 100000
/-! My base over the hand layer: callables, heaps but for one object, the law's source of draws, the lacking rules -/
namespace Sh
open PySem PySem.Spec PyProof.Rows L2
open SX (S S_inj S_len S_cat)

/-- all that was tracked is as it was, but for the object at a -/
def But (a : Addr) (H H' : Hp) : Prop := ∀ b o, b ≠ a → H b = some o → H' b = some o
theorem But.refl (a : Addr) (H : Hp) : But a H H := fun _ _ _ h => h
theorem But.trans {a : Addr} {H H1 H2 : Hp} (x : But a H H1) (y : But a H1 H2) : But a H H2 := fun b o n h => y b o n (x b o n h)
theorem But.same {a : Addr} {H H1 : Hp} (x : Same H H1) : But a H H1 := fun b o _ h => x b o h
theorem same_new {H : Hp} {p : Addr} {o : HO} (h : H p = none) : Same H (upd H p o) := fun b u e => by
  rw [upd_ne (ne_of_none e h)]
  exact e
theorem but_upd {H : Hp} {p : Addr} {o : HO} : But p H (upd H p o) := fun b u n e => by
  rw [upd_ne n]
  exact e
/-- a fresh object may change -/
theorem same_mut {H H1 : Hp} {p : Addr} {o : HO} (s : Same H H1) (h : H p = none) : Same H (upd H1 p o) := fun b u e => by
  rw [upd_ne (ne_of_none e h)]
  exact s b u e
theorem but_mut {a : Addr} {H H1 : Hp} {p : Addr} {o : HO} (s : But a H H1) (h : H p = none) : But a H (upd H1 p o) := fun b u n e => by
  rw [upd_ne (ne_of_none e h)]
  exact s b u n e
theorem But.none_of {a : Addr} {H H1 : Hp} (s : But a H H1) {p : Addr} (n : p ≠ a) (h : H1 p = none) : H p = none := by
  cases e : H p with
  | none => rfl
  | some o => rw [s p o n e] at h; cases h

/-- the law's source of draws: a list of three ints -/
def Src (H : Hp) (a : Addr) : Prop := ∃ d s c : Int, H a = some (.lst [.int d, .int s, .int c])

/-- a def that may be called by its name -/
structure Cal (P : Program) (w : World) (K : PySem.W.Frag) (mg : Str → Option Value) (base : Heap) (CX : CXT) (k : Nat) (x : Str) (sp : Sp) : Prop where
  ex : ∃ (f : Addr) (fd : FuncData) (ps : List Str), FnOk P w K mg base CX k f fd ps sp ∧ mg x = some (.ref f) ∧ PySem.W.keepIn K (.ref f) = true ∧ Binds K fd ps []
/-- a def of the text under its name, its parameters bound by place -/
structure DefAt (K : PySem.W.Frag) (mg : Str → Option Value) (x : Str) (st : Stmt) (ps : List Str) : Prop where
  ex : ∃ (f : Addr) (fd : FuncData), L2.Fun K x x st f fd ∧ mg x = some (.ref f) ∧ Binds K fd ps []
section
variable {P : Program} {w : World} {K : PySem.W.Frag} {mg : Str → Option Value} {base : Heap}
theorem Cal.mk0 {x : Str} {st : Stmt} {N ps : List Str} {k : Nat} {sp : Sp} (D : DefAt K mg x st ps) (S : FnScope N ps (defScope st)) (len : ∀ vs H Q E, sp vs H Q E → vs.length = ps.length)
    (hbody : ∀ (f : Addr) (cdv : Value) (A : Around) (outer : List Env) (s : Shared) (H : Hp) (vs : List V) (Q : VK) (E : XK), Room k (A.deeper (envOfC x (defScope st) s.heap.objs.size f cdv)) → sp vs H Q E →
      ∃ t, PSs (cxOf CX0 P w K mg base N x (defScope st) f cdv A outer s H E).nox (defBody st) t ∧ t { nx := fun _ H' => Q .non H', rt := Q } (start N vs) H) : Cal P w K mg base CX0 (k + 1) x sp := by
  obtain ⟨f, fd, F, m, b⟩ := D.ex
  exact ⟨f, fd, ps, F.ok S len (hbody f), m, F.kp, b⟩
end
section
variable {X : Cx} {k j : Nat} {x : Str} {sp : Sp} {p pos : Pos} {e : Expr} {es : List Expr} {t : TA}
theorem pe_c (c : Cal X.prog X.w X.K X.mg X.base CX0 k x sp) (hr : Room j X.A) (hk : k ≤ j) (hg : Gl X x) (ha : PA X (e :: es) t)
    (hdb : (x == ("__debug__" : Str)) = false := by decide) (he : starEach (e :: es) X.env = (false, eval e X.env) :: starEach es X.env := by rfl) (hpl : (backTo pos (starEach es X.env)).any (·.1) = false := by rfl) :
    PE X (.Call (.Name x p) (e :: es) [] pos) (tCall sp [] E0 t) := by
  obtain ⟨f, fd, ps, F, hm, kp, b⟩ := c.ex
  exact pe_call F (hr.mono hk) hg hm kp b .nil pass0 ha hdb he hpl
end

/-! ### walks by what has been taken -/
section
variable {J : It} {G : Hp → Prop} {Y : Nat → Hp → V → Hp → Prop} {α : Type}
theorem take_succ_of {l : List α} {i : Nat} {a : α} (h : l[i]? = some a) : l.take (i + 1) = l.take i ++ [a] ∧ l = l.take i ++ a :: l.drop (i + 1) := by
  obtain ⟨hi, rfl⟩ := List.getElem?_eq_some_iff.mp h
  refine ⟨?_, ?_⟩
  · rw [List.take_succ, h]; rfl
  · rw [← List.drop_eq_getElem_cons hi, List.take_append_drop]
/-- a for over l: Pv by the part that was taken -/
theorem for_pre {l : List α} (w : Walk J l.length G Y) (Rel : α → V → Hp → Prop) (hY : ∀ i H x H', i < l.length → G H → Y i H x H' → H' = H ∧ ∃ a, l[i]? = some a ∧ Rel a x H) {g : TG} {tb : TS} {D : Ends} {σ : L2.St} {H : Hp}
    (Pv : List α → L2.St → Hp → Prop) (h0 : Pv [] σ H) (hG : ∀ pre σ H, Pv pre σ H → G H)
    (hs : ∀ pre a post x σ H, l = pre ++ a :: post → Rel a x H → Pv pre σ H → g x σ H fun σ2 H2 => tb { D with nx := Pv (pre ++ [a]), ct := Pv (pre ++ [a]), bk := D.nx } σ2 H2) (hd : ∀ σ H, Pv l σ H → D.nx σ H) :
    ∃ W : Nat → Nat → L2.St → Hp → Prop, (∃ m, W 0 m σ H) ∧ ∀ i m σ H, W i m σ H →
      (J.stop i H ∧ D.nx σ H) ∨ (J.go i H ∧ ∃ N : L2.St → Hp → Prop, (∀ σ' H', N σ' H' → ∃ m', m' < m ∧ W (i + 1) m' σ' H') ∧ ∀ x H', J.yld i H x H' → g x σ H' fun σ2 H2 => tb { D with nx := N, ct := N, bk := D.nx } σ2 H2) := by
  refine for_it w (fun i σ H => Pv (l.take i) σ H) (by simpa using h0) (fun i σ H _ p => hG _ σ H p) (fun i x σ H H' hi p y => ?_) (fun σ H p => hd σ H (by simpa using p))
  obtain ⟨rfl, a, ha, r⟩ := hY i H x H' hi (hG _ _ _ p) y
  obtain ⟨e1, e2⟩ := take_succ_of ha
  have q := hs _ a _ x σ H' e2 r p
  rw [← e1] at q
  exact q
/-- a comprehension over l -/
theorem lc_pre {l : List α} (w : Walk J l.length G Y) (Rel : α → V → Hp → Prop) (hY : ∀ i H x H', i < l.length → G H → Y i H x H' → H' = H ∧ ∃ a, l[i]? = some a ∧ Rel a x H) {g : TG} {tt : TT} {te : TE} {vs : List Nat} {σ : L2.St} {H1 : Hp} {D : Addr} {Qd : Hp → Prop}
    (Pv : List α → Hp → Prop) (h0 : Pv [] (upd H1 D (.lst []))) (hG : ∀ pre H, Pv pre H → G H)
    (hs : ∀ pre a post x H, l = pre ++ a :: post → Rel a x H → Pv pre H → g x (wipe σ vs) H fun σ2 H2 => wipe σ2 vs = wipe σ vs ∧ tt σ2 H2 fun b H3 =>
      if b = true then te σ2 H3 fun y H4 => ∃ acc, H4 D = some (.lst acc) ∧ acc.length < sizeLine ∧ Pv (pre ++ [a]) (upd H4 D (.lst (acc ++ [y]))) else Pv (pre ++ [a]) H3) (hd : ∀ H, Pv l H → Qd H) :
    ∃ W : Nat → Nat → Hp → Prop, (∃ m, W 0 m (upd H1 D (.lst []))) ∧ ∀ i m H, W i m H →
      (J.stop i H ∧ Qd H) ∨ (J.go i H ∧ ∃ Nx : Hp → Prop, (∀ H', Nx H' → ∃ m', m' < m ∧ W (i + 1) m' H') ∧ ∀ x H', J.yld i H x H' → g x (wipe σ vs) H' fun σ2 H2 => wipe σ2 vs = wipe σ vs ∧ tt σ2 H2 fun b H3 =>
        if b = true then te σ2 H3 fun y H4 => ∃ acc, H4 D = some (.lst acc) ∧ acc.length < sizeLine ∧ Nx (upd H4 D (.lst (acc ++ [y]))) else Nx H3) := by
  refine lc_it w (fun i H => Pv (l.take i) H) (by simpa using h0) (fun i H _ p => hG _ H p) (fun i x H H' hi p y => ?_) (fun H p => hd H (by simpa using p))
  obtain ⟨rfl, a, ha, r⟩ := hY i H x H' hi (hG _ _ p) y
  obtain ⟨e1, e2⟩ := take_succ_of ha
  have q := hs _ a _ x H' e2 r p
  rw [← e1] at q
  exact q
theorem yStr {l : List Nat} : ∀ (i : Nat) (H : Hp) (x : V) (H' : Hp), i < l.length → True → (H' = H ∧ ∃ c, (S l).cps[i]? = some c ∧ x = V.str ⟨#[c]⟩) → H' = H ∧ ∃ a, l[i]? = some a ∧ x = V.str (S [a]) := by
  rintro i H x H' _ _ ⟨rfl, c, hc, rfl⟩
  exact ⟨rfl, c, by simpa using hc, rfl⟩
theorem wStr {l : List Nat} : Walk (Its (S l)) l.length (fun _ => True) (fun i H v H' => H' = H ∧ ∃ c, (S l).cps[i]? = some c ∧ v = .str ⟨#[c]⟩) := by
  have h := walk_str (z := S l)
  simpa using h
end
/-! ### data of None, bools, ints, texts and tuples -/
mutual
inductive Tp (K : PySem.W.Frag) (H : Hp) : V → PyData → Prop
  | non : Tp K H .non .none
  | bl (b : Bool) : Tp K H (.bl b) (.bool b)
  | int (i : Int) : Tp K H (.int i) (.int i)
  | str (x : Str) : Tp K H (.str x) (.str x)
  | tup {a : Addr} {xs : List V} {ds : List PyData} : SqT K H a xs → TpAll K H xs ds → Tp K H (.ref a) (.tuple ds)
inductive TpAll (K : PySem.W.Frag) (H : Hp) : List V → List PyData → Prop
  | nil : TpAll K H [] []
  | cons {v : V} {vs : List V} {d : PyData} {ds : List PyData} : Tp K H v d → TpAll K H vs ds → TpAll K H (v :: vs) (d :: ds)
end
/-- what was a tuple is one -/
def Keep (H H' : Hp) : Prop := ∀ b xs, Rd H b (.tup xs) → Rd H' b (.tup xs)
theorem Keep.refl (H : Hp) : Keep H H := fun _ _ h => h
theorem Keep.trans {H H1 H2 : Hp} (a : Keep H H1) (b : Keep H1 H2) : Keep H H2 := fun x y h => b x y (a x y h)
theorem Keep.same {H H' : Hp} (s : Same H H') : Keep H H' := fun b xs h => by
  rcases h with h | ⟨o, h⟩
  · exact .inl (s _ _ h)
  · exact .inr ⟨o, s _ _ h⟩
theorem Keep.but {H H' : Hp} {a : Addr} (s : But a H H') (z : Src H a) : Keep H H' := fun b xs h => by
  obtain ⟨d, e, c, z⟩ := z
  rcases h with h | ⟨o, h⟩
  · exact .inl (s _ _ (ne_of h z (by intro q; cases q)) h)
  · exact .inr ⟨o, s _ _ (ne_of h z (by intro q; cases q)) h⟩
theorem Keep.butL {H H' : Hp} {a : Addr} {ys : List V} (s : But a H H') (z : H a = some (.lst ys)) : Keep H H' := fun b xs h => by
  rcases h with h | ⟨o, h⟩
  · exact .inl (s _ _ (ne_of h z (by intro q; cases q)) h)
  · exact .inr ⟨o, s _ _ (ne_of h z (by intro q; cases q)) h⟩
theorem Keep.seq {K : PySem.W.Frag} {H H' : Hp} {a : Addr} {xs : List V} (k : Keep H H') (h : SqT K H a xs) : SqT K H' a xs := by
  rcases h with h | h
  · exact .inl (k _ _ h)
  · exact .inr h
mutual
theorem Tp.keep {K : PySem.W.Frag} {H H' : Hp} (k : Keep H H') : ∀ {v : V} {d : PyData}, Tp K H v d → Tp K H' v d
  | _, _, .non => .non
  | _, _, .bl b => .bl b
  | _, _, .int i => .int i
  | _, _, .str x => .str x
  | _, _, .tup h t => .tup (k.seq h) (TpAll.keep k t)
theorem TpAll.keep {K : PySem.W.Frag} {H H' : Hp} (k : Keep H H') : ∀ {vs : List V} {ds : List PyData}, TpAll K H vs ds → TpAll K H' vs ds
  | _, _, .nil => .nil
  | _, _, .cons h t => .cons (Tp.keep k h) (TpAll.keep k t)
end
mutual
theorem Tp.dp {K : PySem.W.Frag} {H : Hp} : ∀ {v : V} {d : PyData}, Tp K H v d → Dp K H v d
  | _, _, .non => .non
  | _, _, .bl b => .bl b
  | _, _, .int i => .int i
  | _, _, .str x => .str x
  | _, _, .tup h t => .tup h (TpAll.dp t)
theorem TpAll.dp {K : PySem.W.Frag} {H : Hp} : ∀ {vs : List V} {ds : List PyData}, TpAll K H vs ds → DpAll K H vs ds
  | _, _, .nil => .nil
  | _, _, .cons h t => .cons (Tp.dp h) (TpAll.dp t)
end
section
variable {K : PySem.W.Frag} {H : Hp} {v : V} {d : PyData} {vs ws : List V} {ds es : List PyData}
theorem Tp.inv (h : Tp K H v (.tuple ds)) : ∃ a xs, v = .ref a ∧ SqT K H a xs ∧ TpAll K H xs ds := by
  cases h with
  | tup h t => exact ⟨_, _, rfl, h, t⟩
theorem TpAll.len : ∀ {vs : List V} {ds : List PyData}, TpAll K H vs ds → vs.length = ds.length
  | _, _, .nil => rfl
  | _, _, .cons _ t => congrArg (· + 1) (TpAll.len t)
theorem TpAll.get : ∀ {vs : List V} {ds : List PyData}, TpAll K H vs ds → ∀ {i : Nat} {d : PyData}, ds[i]? = some d → ∃ v, vs[i]? = some v ∧ Tp K H v d
  | _, _, .nil, _, _, e => by simp at e
  | _, _, .cons h _, 0, _, e => by simp at e; subst e; exact ⟨_, rfl, h⟩
  | _, _, .cons _ t, i + 1, d, e => by
    obtain ⟨v, h1, h2⟩ := TpAll.get t (i := i) (d := d) (by simpa using e)
    exact ⟨v, by simpa using h1, h2⟩
theorem TpAll.getV : ∀ {vs : List V} {ds : List PyData}, TpAll K H vs ds → ∀ {i : Nat} {v : V}, vs[i]? = some v → ∃ d, ds[i]? = some d ∧ Tp K H v d
  | _, _, .nil, _, _, e => by simp at e
  | _, _, .cons h _, 0, _, e => by simp at e; subst e; exact ⟨_, rfl, h⟩
  | _, _, .cons _ t, i + 1, v, e => by
    obtain ⟨d, h1, h2⟩ := TpAll.getV t (i := i) (v := v) (by simpa using e)
    exact ⟨d, by simpa using h1, h2⟩
theorem TpAll.app (h : TpAll K H vs ds) (k : TpAll K H ws es) : TpAll K H (vs ++ ws) (ds ++ es) := by
  induction h using TpAll.rec (motive_1 := fun _ _ _ => True) with
  | nil => exact k
  | cons a _ _ ih => exact .cons a ih
  | _ => trivial
end
end Sh
namespace Sh
open PySem PySem.Spec PyProof.Rows L2
theorem pe_gK {X : Cx} {x : Str} {pos : Pos} {v : V} (hg : Gl X x) (h : ∃ u, X.mg x = some u ∧ RelV v u) (hd : (x == ("__debug__" : Str)) = false := by decide) : PE X (.Name x pos) (tC v) := by
  obtain ⟨u, hu, r⟩ := h
  exact pe_glob hg hu r hd
end Sh
namespace Sh
open PySem PySem.Spec PyProof.Rows L2
/-- the ways through an assignment's expression meet in P -/
theorem st_asgJ {te : TE} {g : TG} {u : TS} {D : Ends} {σ : L2.St} {H : Hp} (P : V → Hp → Prop) (h : ∀ Q : VK, (∀ v H', P v H' → Q v H') → te σ H Q) (k : ∀ v H', P v H' → g v σ H' (u D)) : tSeq (tAsg te g) u D σ H := h _ k
/-- the ways through an if meet in P -/
theorem st_ifJ {c : TT} {t v u : TS} {D : Ends} {σ : L2.St} {H : Hp} (P : L2.St → Hp → Prop) (h : ∀ N : L2.St → Hp → Prop, (∀ σ' H', P σ' H' → N σ' H') → tIfS c t v { D with nx := N } σ H) (k : ∀ σ' H', P σ' H' → u D σ' H') : tSeq (tIfS c t v) u D σ H := h _ k
/-- any statement's ways meet in P -/
theorem st_J {t u : TS} {D : Ends} {σ : L2.St} {H : Hp} (P : L2.St → Hp → Prop) (h : ∀ N : L2.St → Hp → Prop, (∀ σ' H', P σ' H' → N σ' H') → t { D with nx := N } σ H) (k : ∀ σ' H', P σ' H' → u D σ' H') : tSeq t u D σ H := h _ k
/-- the ways through an expression meet in P -/
theorem ev_J {te : TE} {σ : L2.St} {H : Hp} {Q : VK} (P : V → Hp → Prop) (h : ∀ Q : VK, (∀ v H', P v H' → Q v H') → te σ H Q) (k : ∀ v H', P v H' → Q v H') : te σ H Q := h _ k
theorem tt_J {te : TT} {σ : L2.St} {H : Hp} {Q : Bool → Hp → Prop} (P : Bool → Hp → Prop) (h : ∀ Q : Bool → Hp → Prop, (∀ v H', P v H' → Q v H') → te σ H Q) (k : ∀ v H', P v H' → Q v H') : te σ H Q := h _ k
end Sh
namespace Sh
open PySem PySem.Spec PyProof.Rows L2
theorem atI_at {α : Type} {xs : List α} {i : Int} {v : α} (h0 : 0 ≤ i) (h : xs[i.toNat]? = some v) : atI xs i = some v := by
  have := atI_nat h
  rwa [Int.toNat_of_nonneg h0] at this
theorem rList {α : Type} {f : α → V} {l : List α} : ∀ (i : Nat) (H : Hp) (x : V) (H' : Hp), i < l.length → True → (YAt (l.map f) i H x H') → H' = H ∧ ∃ a, l[i]? = some a ∧ x = f a := by
  rintro i H x H' hi _ ⟨rfl, h⟩
  refine ⟨rfl, l[i], by simp [hi], ?_⟩
  rw [List.getElem?_map, List.getElem?_eq_getElem hi] at h
  exact (Option.some.inj h).symm
/-- a for over a list of l's values -/
theorem for_lst {α : Type} {f : α → V} {l : List α} {K : PySem.W.Frag} {a : Addr} {g : TG} {tb : TS} {D : Ends} {σ : L2.St} {H : Hp}
    (Pv : List α → L2.St → Hp → Prop) (h0 : Pv [] σ H) (hG : ∀ pre σ H, Pv pre σ H → SqL K H a (l.map f))
    (hs : ∀ pre x post σ H, l = pre ++ x :: post → Pv pre σ H → g (f x) σ H fun σ2 H2 => tb { D with nx := Pv (pre ++ [x]), ct := Pv (pre ++ [x]), bk := D.nx } σ2 H2) (hd : ∀ σ H, Pv l σ H → D.nx σ H) :
    ∃ W : Nat → Nat → L2.St → Hp → Prop, (∃ m, W 0 m σ H) ∧ ∀ i m σ H, W i m σ H →
      ((Itl K a).stop i H ∧ D.nx σ H) ∨ ((Itl K a).go i H ∧ ∃ N : L2.St → Hp → Prop, (∀ σ' H', N σ' H' → ∃ m', m' < m ∧ W (i + 1) m' σ' H') ∧ ∀ x H', (Itl K a).yld i H x H' → g x σ H' fun σ2 H2 => tb { D with nx := N, ct := N, bk := D.nx } σ2 H2) := by
  have w := walk_list (K := K) (a := a) (xs := l.map f)
  rw [List.length_map] at w
  refine for_pre w (fun x v _ => v = f x) (fun i H x H' hi _ y => rList i H x H' hi trivial y) Pv h0 hG (fun pre x post v σ H e r p => ?_) hd
  subst r
  exact hs pre x post σ H e p
/-- a for over a text's signs -/
theorem for_str {l : List Nat} {g : TG} {tb : TS} {D : Ends} {σ : L2.St} {H : Hp}
    (Pv : List Nat → L2.St → Hp → Prop) (h0 : Pv [] σ H)
    (hs : ∀ pre x post σ H, l = pre ++ x :: post → Pv pre σ H → g (.str (SX.S [x])) σ H fun σ2 H2 => tb { D with nx := Pv (pre ++ [x]), ct := Pv (pre ++ [x]), bk := D.nx } σ2 H2) (hd : ∀ σ H, Pv l σ H → D.nx σ H) :
    ∃ W : Nat → Nat → L2.St → Hp → Prop, (∃ m, W 0 m σ H) ∧ ∀ i m σ H, W i m σ H →
      ((Its (SX.S l)).stop i H ∧ D.nx σ H) ∨ ((Its (SX.S l)).go i H ∧ ∃ N : L2.St → Hp → Prop, (∀ σ' H', N σ' H' → ∃ m', m' < m ∧ W (i + 1) m' σ' H') ∧ ∀ x H', (Its (SX.S l)).yld i H x H' → g x σ H' fun σ2 H2 => tb { D with nx := N, ct := N, bk := D.nx } σ2 H2) := by
  refine for_pre wStr (fun x v _ => v = .str (SX.S [x])) (fun i H x H' hi _ y => yStr i H x H' hi trivial y) Pv h0 (fun _ _ _ _ => trivial) (fun pre x post v σ H e r p => ?_) hd
  subst r
  exact hs pre x post σ H e p
/-- tuples whose items are told by l -/
theorem for_tupR {α : Type} {Rel : Hp → V → α → Prop} {l : List α} {xs : List V} {K : PySem.W.Frag} {a : Addr} {g : TG} {tb : TS} {D : Ends} {σ : L2.St} {H : Hp} (hlen : xs.length = l.length)
    (Pv : List α → L2.St → Hp → Prop) (h0 : Pv [] σ H) (hG : ∀ pre σ H, Pv pre σ H → SqT K H a xs ∧ ∀ (i : Nat) x y, xs[i]? = some x → l[i]? = some y → Rel H x y)
    (hs : ∀ pre y post x σ H, l = pre ++ y :: post → xs[pre.length]? = some x → Rel H x y → Pv pre σ H → g x σ H fun σ2 H2 => tb { D with nx := Pv (pre ++ [y]), ct := Pv (pre ++ [y]), bk := D.nx } σ2 H2) (hd : ∀ σ H, Pv l σ H → D.nx σ H) :
    ∃ W : Nat → Nat → L2.St → Hp → Prop, (∃ m, W 0 m σ H) ∧ ∀ i m σ H, W i m σ H →
      ((Itt K a).stop i H ∧ D.nx σ H) ∨ ((Itt K a).go i H ∧ ∃ N : L2.St → Hp → Prop, (∀ σ' H', N σ' H' → ∃ m', m' < m ∧ W (i + 1) m' σ' H') ∧ ∀ x H', (Itt K a).yld i H x H' → g x σ H' fun σ2 H2 => tb { D with nx := N, ct := N, bk := D.nx } σ2 H2) := by
  have w := walk_tup (K := K) (a := a) (xs := xs)
  refine for_it w (fun i σ H => Pv (l.take i) σ H) (by simpa using h0) (fun i σ H _ p => (hG _ σ H p).1) (fun i x σ H H' hi p y => ?_) (fun σ H p => hd σ H (by simpa [hlen] using p))
  obtain ⟨rfl, hx⟩ := y
  have hi' : i < l.length := hlen ▸ hi
  have hl : l[i]? = some l[i] := by simp [hi']
  obtain ⟨e1, e2⟩ := take_succ_of hl
  have q := hs _ l[i] _ x σ H' e2 (by rw [List.length_take, Nat.min_eq_left (Nat.le_of_lt hi')]; exact hx) ((hG _ σ H' p).2 i x l[i] hx hl) p
  rw [← e1] at q
  exact q
end Sh
namespace Sh
open PySem PySem.Spec PyProof.Rows L2
theorem st_nx {D : Ends} {σ : L2.St} {H : Hp} (q : D.nx σ H) : tNext D σ H := q
end Sh
namespace Sh
open PySem PySem.Spec PyProof.Rows L2
theorem nx_mk {a c d : L2.St → Hp → Prop} {b : VK} {σ : L2.St} {H : Hp} (h : a σ H) : (Ends.mk a b c d).nx σ H := h
theorem rt_mk {a c d : L2.St → Hp → Prop} {b : VK} {v : V} {H : Hp} (h : b v H) : (Ends.mk a b c d).rt v H := h
theorem bk_mk {a c d : L2.St → Hp → Prop} {b : VK} {σ : L2.St} {H : Hp} (h : c σ H) : (Ends.mk a b c d).bk σ H := h
theorem ct_mk {a c d : L2.St → Hp → Prop} {b : VK} {σ : L2.St} {H : Hp} (h : d σ H) : (Ends.mk a b c d).ct σ H := h
end Sh
namespace Sh
open PySem PySem.Spec PyProof.Rows L2
theorem gn_mk {i : Nat} {v : V} {σ : L2.St} {H : Hp} {Q : L2.St → Hp → Prop} (h : Q (σ.set i (some v)) H) : gName i v σ H Q := h
theorem sz_S {t : List Nat} (h : t.length ≤ 1000000) : (SX.S t).length ≤ sizeLine := by
  rw [SX.S_len]
  exact Nat.le_trans h (by decide)
end Sh
namespace Sh
open PySem PySem.Spec PyProof.Rows L2
theorem ty_T {A B : Hp → Prop} {σ : L2.St} {H : Hp} (h : A H) : tYes σ H (fun b H3 => if b = true then A H3 else B H3) := h
end Sh
namespace Sh
open PySem PySem.Spec PyProof.Rows L2
/-- a comprehension over a tuple whose items are told by l -/
theorem lc_tupR {α : Type} {Rel : Hp → V → α → Prop} {l : List α} {xs : List V} {K : PySem.W.Frag} {a : Addr} {g : TG} {tt : TT} {te : TE} {vs : List Nat} {σ : L2.St} {H1 : Hp} {D : Addr} {Qd : Hp → Prop} (hlen : xs.length = l.length)
    (Pv : List α → Hp → Prop) (h0 : Pv [] (upd H1 D (.lst []))) (hG : ∀ pre H, Pv pre H → SqT K H a xs ∧ ∀ (i : Nat) x y, xs[i]? = some x → l[i]? = some y → Rel H x y)
    (hs : ∀ pre y post x H, l = pre ++ y :: post → xs[pre.length]? = some x → Rel H x y → Pv pre H → g x (wipe σ vs) H fun σ2 H2 => wipe σ2 vs = wipe σ vs ∧ tt σ2 H2 fun b H3 =>
      if b = true then te σ2 H3 fun y' H4 => ∃ acc, H4 D = some (.lst acc) ∧ acc.length < sizeLine ∧ Pv (pre ++ [y]) (upd H4 D (.lst (acc ++ [y']))) else Pv (pre ++ [y]) H3) (hd : ∀ H, Pv l H → Qd H) :
    ∃ W : Nat → Nat → Hp → Prop, (∃ m, W 0 m (upd H1 D (.lst []))) ∧ ∀ i m H, W i m H →
      ((Itt K a).stop i H ∧ Qd H) ∨ ((Itt K a).go i H ∧ ∃ Nx : Hp → Prop, (∀ H', Nx H' → ∃ m', m' < m ∧ W (i + 1) m' H') ∧ ∀ x H', (Itt K a).yld i H x H' → g x (wipe σ vs) H' fun σ2 H2 => wipe σ2 vs = wipe σ vs ∧ tt σ2 H2 fun b H3 =>
        if b = true then te σ2 H3 fun y H4 => ∃ acc, H4 D = some (.lst acc) ∧ acc.length < sizeLine ∧ Nx (upd H4 D (.lst (acc ++ [y]))) else Nx H3) := by
  have w := walk_tup (K := K) (a := a) (xs := xs)
  refine lc_it w (fun i H => Pv (l.take i) H) (by simpa using h0) (fun i H _ p => (hG _ H p).1) (fun i x H H' hi p y => ?_) (fun H p => hd H (by simpa [hlen] using p))
  obtain ⟨rfl, hx⟩ := y
  have hi' : i < l.length := hlen ▸ hi
  have hl : l[i]? = some l[i] := by simp [hi']
  obtain ⟨e1, e2⟩ := take_succ_of hl
  have q := hs _ l[i] _ x H' e2 (by rw [List.length_take, Nat.min_eq_left (Nat.le_of_lt hi')]; exact hx) ((hG _ H' p).2 i x l[i] hx hl) p
  rw [← e1] at q
  exact q
end Sh
namespace Sh
open PySem PySem.Spec PyProof.Rows L2
section
variable {X : Cx} {s : Shared} {H : Hp} {sc : Scope} {ce : Env} {fp : List Addr}
theorem ix_tupB : IxR (X.blk s H sc ce fp) (rIxT X.K) := ix_tup
theorem ix_listB : IxR (X.blk s H sc ce fp) (rIxL X.K) := ix_list
theorem sl_tupAB : SlR (X.blk s H sc ce fp) (rSlA X.K) := sl_tupA
theorem sl_listB : SlR (X.blk s H sc ce fp) (rSlL X.K) := sl_list
theorem call_len_seqB : CallR (X.blk s H sc ce fp) (.builtin "len") (fun xs H Q => ∃ p ys, xs = [.ref p] ∧ (SqL X.K H p ys ∨ SqT X.K H p ys) ∧ Q (.int ys.length) H) := call_len_seq
theorem call_list_ofB : CallR (X.blk s H sc ce fp) (.type "list") (fun xs H Q => ∃ p ys, xs = [.ref p] ∧ (SqL X.K H p ys ∨ SqT X.K H p ys) ∧ ∀ l, H l = none → Q (.ref l) (upd H l (.lst ys))) := call_list_of
end
end Sh
namespace Sh
open PySem PySem.Spec PyProof.Rows L2
/-- the values xs tell the list l -/
def Items {α : Type} (Rel : Hp → V → α → Prop) (H : Hp) (xs : List V) (l : List α) : Prop := xs.length = l.length ∧ ∀ (i : Nat) x y, xs[i]? = some x → l[i]? = some y → Rel H x y
section
variable {α : Type} {Rel : Hp → V → α → Prop} {H H' : Hp} {xs : List V} {l : List α}
theorem Items.nil : Items Rel H [] [] := ⟨rfl, fun i x y h _ => by simp at h⟩
theorem Items.mono (h : Items Rel H xs l) (m : ∀ x y, Rel H x y → Rel H' x y) : Items Rel H' xs l := ⟨h.1, fun i x y h1 h2 => m x y (h.2 i x y h1 h2)⟩
theorem Items.snoc (h : Items Rel H xs l) (m : ∀ x y, Rel H x y → Rel H' x y) {x : V} {y : α} (r : Rel H' x y) : Items Rel H' (xs ++ [x]) (l ++ [y]) := by
  refine ⟨by simp [h.1], fun i a b h1 h2 => ?_⟩
  rcases Nat.lt_or_ge i xs.length with q | q
  · rw [List.getElem?_append_left q] at h1
    rw [List.getElem?_append_left (h.1 ▸ q)] at h2
    exact m a b (h.2 i a b h1 h2)
  · rw [List.getElem?_append_right q] at h1
    rw [List.getElem?_append_right (h.1 ▸ q)] at h2
    have e : i - xs.length = i - l.length := by rw [h.1]
    rcases Nat.eq_zero_or_pos (i - xs.length) with z | z
    · rw [z] at h1
      rw [← e, z] at h2
      simp at h1 h2
      subst h1; subst h2
      exact r
    · rw [List.getElem?_eq_none (by simp; omega)] at h1
      cases h1
theorem Items.get (h : Items Rel H xs l) {i : Nat} {y : α} (hy : l[i]? = some y) : ∃ x, xs[i]? = some x ∧ Rel H x y := by
  obtain ⟨hi, _⟩ := List.getElem?_eq_some_iff.mp hy
  have hi2 : i < xs.length := by rw [h.1]; exact hi
  exact ⟨xs[i], List.getElem?_eq_getElem hi2, h.2 i _ y (List.getElem?_eq_getElem hi2) hy⟩
end
/-- a for over a list whose items are told by l -/
theorem for_lstR {α : Type} {Rel : Hp → V → α → Prop} {l : List α} {xs : List V} {K : PySem.W.Frag} {a : Addr} {g : TG} {tb : TS} {D : Ends} {σ : L2.St} {H : Hp} (hlen : xs.length = l.length)
    (Pv : List α → L2.St → Hp → Prop) (h0 : Pv [] σ H) (hG : ∀ pre σ H, Pv pre σ H → SqL K H a xs ∧ ∀ (i : Nat) x y, xs[i]? = some x → l[i]? = some y → Rel H x y)
    (hs : ∀ pre y post x σ H, l = pre ++ y :: post → xs[pre.length]? = some x → Rel H x y → Pv pre σ H → g x σ H fun σ2 H2 => tb { D with nx := Pv (pre ++ [y]), ct := Pv (pre ++ [y]), bk := D.nx } σ2 H2) (hd : ∀ σ H, Pv l σ H → D.nx σ H) :
    ∃ W : Nat → Nat → L2.St → Hp → Prop, (∃ m, W 0 m σ H) ∧ ∀ i m σ H, W i m σ H →
      ((Itl K a).stop i H ∧ D.nx σ H) ∨ ((Itl K a).go i H ∧ ∃ N : L2.St → Hp → Prop, (∀ σ' H', N σ' H' → ∃ m', m' < m ∧ W (i + 1) m' σ' H') ∧ ∀ x H', (Itl K a).yld i H x H' → g x σ H' fun σ2 H2 => tb { D with nx := N, ct := N, bk := D.nx } σ2 H2) := by
  have w := walk_list (K := K) (a := a) (xs := xs)
  refine for_it w (fun i σ H => Pv (l.take i) σ H) (by simpa using h0) (fun i σ H _ p => (hG _ σ H p).1) (fun i x σ H H' hi p y => ?_) (fun σ H p => hd σ H (by simpa [hlen] using p))
  obtain ⟨rfl, hx⟩ := y
  have hi' : i < l.length := hlen ▸ hi
  have hl : l[i]? = some l[i] := by simp [hi']
  obtain ⟨e1, e2⟩ := take_succ_of hl
  have q := hs _ l[i] _ x σ H' e2 (by rw [List.length_take, Nat.min_eq_left (Nat.le_of_lt hi')]; exact hx) ((hG _ σ H' p).2 i x l[i] hx hl) p
  rw [← e1] at q
  exact q
end Sh
namespace Sh
open PySem PySem.Spec PyProof.Rows L2
/-- an if whose test is known -/
theorem st_ifK {c : TT} {t u v : TS} {D : Ends} {σ : L2.St} {H : Hp} (b : Bool) (h : ∀ Q : Bool → Hp → Prop, Q b H → c σ H Q) (k1 : b = true → t { D with nx := v D } σ H) (k2 : b = false → u { D with nx := v D } σ H) : tSeq (tIfS c t u) v D σ H := by
  refine h _ ?_
  cases b with
  | true => exact iteT (k1 rfl)
  | false => exact iteF (k2 rfl)
theorem if_K {c : TT} {t u : TS} {D : Ends} {σ : L2.St} {H : Hp} (b : Bool) (h : ∀ Q : Bool → Hp → Prop, Q b H → c σ H Q) (k1 : b = true → t D σ H) (k2 : b = false → u D σ H) : tIfS c t u D σ H := by
  refine h _ ?_
  cases b with
  | true => exact iteT (k1 rfl)
  | false => exact iteF (k2 rfl)
/-- .. which may lay new objects -/
theorem if_KH {c : TT} {t u : TS} {D : Ends} {σ : L2.St} {H : Hp} (b : Bool) (P : Hp → Prop) (h : ∀ Q : Bool → Hp → Prop, (∀ H', P H' → Q b H') → c σ H Q) (k1 : b = true → ∀ H', P H' → t D σ H') (k2 : b = false → ∀ H', P H' → u D σ H') : tIfS c t u D σ H := by
  refine h _ fun H' p => ?_
  cases b with
  | true => exact iteT (k1 rfl H' p)
  | false => exact iteF (k2 rfl H' p)
theorem st_ifKH {c : TT} {t u v : TS} {D : Ends} {σ : L2.St} {H : Hp} (b : Bool) (P : Hp → Prop) (h : ∀ Q : Bool → Hp → Prop, (∀ H', P H' → Q b H') → c σ H Q) (k1 : b = true → ∀ H', P H' → t { D with nx := v D } σ H') (k2 : b = false → ∀ H', P H' → u { D with nx := v D } σ H') : tSeq (tIfS c t u) v D σ H := by
  refine h _ fun H' p => ?_
  cases b with
  | true => exact iteT (k1 rfl H' p)
  | false => exact iteF (k2 rfl H' p)
theorem q_of {b c : Bool} {Q : Bool → Hp → Prop} {H : Hp} (h : Q b H) (e : c = b) : Q c H := e ▸ h
end Sh
set_option Elab.async false
set_option linter.all false
set_option maxRecDepth 100000
namespace Sh
open PySem PySem.Spec PyProof.Rows L2
def top (i : Nat) : Stmt := PySem.Challenge.pw_shrunkalike_k04_books_made.main.body.getD i (.Pass ⟨0, 0, 0, 0⟩)
abbrev s__wall : Stmt := top 0
abbrev s_WrongThing___init__ : Stmt := inClass (top 3) 0
abbrev s_WrongItem___init__ : Stmt := inClass (top 4) 0
abbrev s_is_listed : Stmt := top 11
abbrev s_is_signs : Stmt := top 12
abbrev s_check_signs : Stmt := top 13
abbrev s_is_text : Stmt := top 14
abbrev s_check_text : Stmt := top 15
abbrev s_text_key : Stmt := top 16
abbrev s_first_rules : Stmt := top 18
abbrev s_longest_left : Stmt := top 19
abbrev s_used_at_end : Stmt := top 20
abbrev s_left_over : Stmt := top 21
abbrev s_overlap_rows : Stmt := top 22
abbrev s_both_results : Stmt := top 23
abbrev s_quarrel_of : Stmt := top 24
abbrev s_end_moves : Stmt := top 25
abbrev s_kept_tail : Stmt := top 26
abbrev s_is_rule : Stmt := top 30
abbrev s_checked_rules : Stmt := top 31
abbrev s_Book___init__ : Stmt := inClass (top 32) 0
abbrev s_Book_quarrel : Stmt := inClass (top 32) 1
abbrev s_Book___len__ : Stmt := inClass (top 32) 2
abbrev s_Book___getitem__ : Stmt := inClass (top 32) 3
abbrev s_Book___iter__ : Stmt := inClass (top 32) 4
abbrev s_Book___eq__ : Stmt := inClass (top 32) 5
abbrev s_Book___call__ : Stmt := inClass (top 32) 6
abbrev s__law_source : Stmt := top 34
abbrev s__law_pick : Stmt := top 35
abbrev s__law_signs : Stmt := top 36
abbrev s__law_text : Stmt := top 37
abbrev s__law_left : Stmt := top 38
abbrev s__law_rule : Stmt := top 39
abbrev s__law_drawn : Stmt := top 40
abbrev s__law_number : Stmt := top 41
abbrev s__law_spoilt : Stmt := top 42
abbrev s_law : Stmt := top 43
theorem sc__wall : FnScope ["k"] ["k"] (defScope s__wall) := ⟨rfl, rfl, rfl, by decide +kernel, rfl, by decide +kernel, by decide +kernel⟩
theorem sc_is_listed : FnScope ["thing"] ["thing"] (defScope s_is_listed) := ⟨rfl, rfl, rfl, by decide +kernel, rfl, by decide +kernel, by decide +kernel⟩
theorem sc_is_signs : FnScope ["thing", "k"] ["thing"] (defScope s_is_signs) := ⟨rfl, rfl, rfl, by decide +kernel, rfl, by decide +kernel, by decide +kernel⟩
theorem sc_check_signs : FnScope ["thing"] ["thing"] (defScope s_check_signs) := ⟨rfl, rfl, rfl, by decide +kernel, rfl, by decide +kernel, by decide +kernel⟩
theorem sc_is_text : FnScope ["signs", "thing", "low", "high", "sign"] ["signs", "thing", "low", "high"] (defScope s_is_text) := ⟨rfl, rfl, rfl, by decide +kernel, rfl, by decide +kernel, by decide +kernel⟩
theorem sc_check_text : FnScope ["signs", "thing"] ["signs", "thing"] (defScope s_check_text) := ⟨rfl, rfl, rfl, by decide +kernel, rfl, by decide +kernel, by decide +kernel⟩
theorem sc_text_key : FnScope ["text"] ["text"] (defScope s_text_key) := ⟨rfl, rfl, rfl, by decide +kernel, rfl, by decide +kernel, by decide +kernel⟩
theorem sc_first_rules : FnScope ["rules", "found", "k", "left", "right"] ["rules"] (defScope s_first_rules) := ⟨rfl, rfl, rfl, by decide +kernel, rfl, by decide +kernel, by decide +kernel⟩
theorem sc_longest_left : FnScope ["rules", "rule"] ["rules"] (defScope s_longest_left) := ⟨rfl, rfl, rfl, by decide +kernel, rfl, by decide +kernel, by decide +kernel⟩
theorem sc_used_at_end : FnScope ["lefts", "longest", "pile", "best", "size", "found"] ["lefts", "longest", "pile"] (defScope s_used_at_end) := ⟨rfl, rfl, rfl, by decide +kernel, rfl, by decide +kernel, by decide +kernel⟩
theorem sc_left_over : FnScope ["lefts", "longest", "text", "pile", "sign", "shorter"] ["lefts", "longest", "text"] (defScope s_left_over) := ⟨rfl, rfl, rfl, by decide +kernel, rfl, by decide +kernel, by decide +kernel⟩
theorem sc_overlap_rows : FnScope ["rules", "found", "one", "left", "other", "right", "place", "shared"] ["rules"] (defScope s_overlap_rows) := ⟨rfl, rfl, rfl, by decide +kernel, rfl, by decide +kernel, by decide +kernel⟩
theorem sc_both_results : FnScope ["rules", "overlap", "text", "one", "place", "other", "first", "second"] ["rules", "overlap"] (defScope s_both_results) := ⟨rfl, rfl, rfl, by decide +kernel, rfl, by decide +kernel, by decide +kernel⟩
theorem sc_quarrel_of : FnScope ["rules", "lefts", "longest", "best", "overlap", "first", "second"] ["rules", "lefts", "longest"] (defScope s_quarrel_of) := ⟨rfl, rfl, rfl, by decide +kernel, rfl, by decide +kernel, by decide +kernel⟩
theorem sc_end_moves : FnScope ["signs", "rules", "lefts", "names", "numbers", "moves", "longest", "row", "sign", "text", "tail", "rule", "left"] ["signs", "rules"] (defScope s_end_moves) := ⟨rfl, rfl, rfl, by decide +kernel, rfl, by decide +kernel, by decide +kernel⟩
theorem sc_kept_tail : FnScope ["lefts", "longest", "text", "size", "tail", "left"] ["lefts", "longest", "text"] (defScope s_kept_tail) := ⟨rfl, rfl, rfl, by decide +kernel, rfl, by decide +kernel, by decide +kernel⟩
theorem sc_is_rule : FnScope ["signs", "thing"] ["signs", "thing"] (defScope s_is_rule) := ⟨rfl, rfl, rfl, by decide +kernel, rfl, by decide +kernel, by decide +kernel⟩
theorem sc_checked_rules : FnScope ["signs", "thing", "rules", "k"] ["signs", "thing"] (defScope s_checked_rules) := ⟨rfl, rfl, rfl, by decide +kernel, rfl, by decide +kernel, by decide +kernel⟩
theorem sc_Book___init__ : FnScope ["self", "signs", "rules"] ["self", "signs", "rules"] (defScope s_Book___init__) := ⟨rfl, rfl, rfl, by decide +kernel, rfl, by decide +kernel, by decide +kernel⟩
theorem sc_Book_quarrel : FnScope ["self"] ["self"] (defScope s_Book_quarrel) := ⟨rfl, rfl, rfl, by decide +kernel, rfl, by decide +kernel, by decide +kernel⟩
theorem sc_Book___len__ : FnScope ["self"] ["self"] (defScope s_Book___len__) := ⟨rfl, rfl, rfl, by decide +kernel, rfl, by decide +kernel, by decide +kernel⟩
theorem sc_Book___getitem__ : FnScope ["self", "number"] ["self", "number"] (defScope s_Book___getitem__) := ⟨rfl, rfl, rfl, by decide +kernel, rfl, by decide +kernel, by decide +kernel⟩
theorem sc_Book___iter__ : FnScope ["self"] ["self"] (defScope s_Book___iter__) := ⟨rfl, rfl, rfl, by decide +kernel, rfl, by decide +kernel, by decide +kernel⟩
theorem sc_Book___eq__ : FnScope ["self", "other"] ["self", "other"] (defScope s_Book___eq__) := ⟨rfl, rfl, rfl, by decide +kernel, rfl, by decide +kernel, by decide +kernel⟩
theorem sc_Book___call__ : FnScope ["self", "text"] ["self", "text"] (defScope s_Book___call__) := ⟨rfl, rfl, rfl, by decide +kernel, rfl, by decide +kernel, by decide +kernel⟩
theorem sc__law_source : FnScope ["_law_script", "_law_place", "_law_cell", "_law_seed", "_law_one", "_law_number_here"] ["_law_script", "_law_place"] (defScope s__law_source) := ⟨rfl, rfl, rfl, by decide +kernel, rfl, by decide +kernel, by decide +kernel⟩
theorem sc__law_pick : FnScope ["_law_source_here", "_law_many", "_law_digit", "_law_mixed"] ["_law_source_here", "_law_many"] (defScope s__law_pick) := ⟨rfl, rfl, rfl, by decide +kernel, rfl, by decide +kernel, by decide +kernel⟩
theorem sc__law_signs : FnScope ["_law_source_here", "_law_menu"] ["_law_source_here"] (defScope s__law_signs) := ⟨rfl, rfl, rfl, by decide +kernel, rfl, by decide +kernel, by decide +kernel⟩
theorem sc__law_text : FnScope ["_law_source_here", "_law_signs_here", "_law_most", "_law_told", "_law_k"] ["_law_source_here", "_law_signs_here", "_law_most"] (defScope s__law_text) := ⟨rfl, rfl, rfl, by decide +kernel, rfl, by decide +kernel, by decide +kernel⟩
theorem sc__law_left : FnScope ["_law_rules", "_law_text_here", "_law_pile", "_law_sign", "_law_fitting", "_law_rule_here"] ["_law_rules", "_law_text_here"] (defScope s__law_left) := ⟨rfl, rfl, rfl, by decide +kernel, rfl, by decide +kernel, by decide +kernel⟩
theorem sc__law_rule : FnScope ["_law_source_here", "_law_signs_here", "_law_longest", "_law_size", "_law_left_here", "_law_k"] ["_law_source_here", "_law_signs_here", "_law_longest"] (defScope s__law_rule) := ⟨rfl, rfl, rfl, by decide +kernel, rfl, by decide +kernel, by decide +kernel⟩
theorem sc__law_drawn : FnScope ["_law_source_here", "_law_signs_here", "_law_rules", "_law_k", "_law_rule_here"] ["_law_source_here", "_law_signs_here"] (defScope s__law_drawn) := ⟨rfl, rfl, rfl, by decide +kernel, rfl, by decide +kernel, by decide +kernel⟩
theorem sc__law_number : FnScope ["_law_signs_here", "_law_rules", "raised"] ["_law_signs_here", "_law_rules"] (defScope s__law_number) := ⟨rfl, rfl, rfl, by decide +kernel, rfl, by decide +kernel, by decide +kernel⟩
theorem sc__law_spoilt : FnScope ["_law_source_here", "_law_signs_here", "_law_rules", "_law_menu", "_law_at", "_law_left_here", "_law_right"] ["_law_source_here", "_law_signs_here", "_law_rules"] (defScope s__law_spoilt) := ⟨rfl, rfl, rfl, by decide +kernel, rfl, by decide +kernel, by decide +kernel⟩
theorem sc_law : FnScope ["_law_script", "_law_source_here", "_law_signs_here", "_law_rules", "_law_given", "_law_book", "_law_same", "_law_more", "_law_turn", "_law_text_here", "_law_thing", "_law_place", "_law_odd", "raised", "_law_many", "_law_letters", "_law_rows", "_law_rule_here", "_law_k"] ["_law_script"] (defScope s_law) := ⟨rfl, rfl, rfl, by decide +kernel, rfl, by decide +kernel, by decide +kernel⟩
structure Txt (K : PySem.W.Frag) (mg : Str → Option Value) : Prop where
  b_len : mg "len" = none
  b_range : mg "range" = none
  b_min : mg "min" = none
  b_max : mg "max" = none
  b_any : mg "any" = none
  b_isinstance : mg "isinstance" = none
  b_abs : mg "abs" = none
  b_int : mg "int" = none
  b_str : mg "str" = none
  b_tuple : mg "tuple" = none
  b_list : mg "list" = none
  b_repr : mg "repr" = none
  b_iter : mg "iter" = none
  b_super : mg "super" = none
  g_LETTERS : ∃ u, mg "LETTERS" = some u ∧ RelV (.str "abcdefghijklmnopqrstuvwxyz") u
  g_LONGEST_TEXT : ∃ u, mg "LONGEST_TEXT" = some u ∧ RelV (.int 200) u
  g_MOST_RULES : ∃ u, mg "MOST_RULES" = some u ∧ RelV (.int 64) u
  g_LONGEST_LEFT : ∃ u, mg "LONGEST_LEFT" = some u ∧ RelV (.int 4) u
  d_is_listed : DefAt K mg "is_listed" s_is_listed ["thing"]
  d_is_signs : DefAt K mg "is_signs" s_is_signs ["thing"]
  d_check_signs : DefAt K mg "check_signs" s_check_signs ["thing"]
  d_is_text : DefAt K mg "is_text" s_is_text ["signs", "thing", "low", "high"]
  d_check_text : DefAt K mg "check_text" s_check_text ["signs", "thing"]
  d_text_key : DefAt K mg "text_key" s_text_key ["text"]
  d_first_rules : DefAt K mg "first_rules" s_first_rules ["rules"]
  d_longest_left : DefAt K mg "longest_left" s_longest_left ["rules"]
  d_used_at_end : DefAt K mg "used_at_end" s_used_at_end ["lefts", "longest", "pile"]
  d_left_over : DefAt K mg "left_over" s_left_over ["lefts", "longest", "text"]
  d_overlap_rows : DefAt K mg "overlap_rows" s_overlap_rows ["rules"]
  d_both_results : DefAt K mg "both_results" s_both_results ["rules", "overlap"]
  d_quarrel_of : DefAt K mg "quarrel_of" s_quarrel_of ["rules", "lefts", "longest"]
  d_end_moves : DefAt K mg "end_moves" s_end_moves ["signs", "rules"]
  d_kept_tail : DefAt K mg "kept_tail" s_kept_tail ["lefts", "longest", "text"]
  d_is_rule : DefAt K mg "is_rule" s_is_rule ["signs", "thing"]
  d_checked_rules : DefAt K mg "checked_rules" s_checked_rules ["signs", "thing"]
  d__law_source : DefAt K mg "_law_source" s__law_source ["_law_script", "_law_place"]
  d__law_pick : DefAt K mg "_law_pick" s__law_pick ["_law_source_here", "_law_many"]
  d__law_signs : DefAt K mg "_law_signs" s__law_signs ["_law_source_here"]
  d__law_text : DefAt K mg "_law_text" s__law_text ["_law_source_here", "_law_signs_here", "_law_most"]
  d__law_left : DefAt K mg "_law_left" s__law_left ["_law_rules", "_law_text_here"]
  d__law_rule : DefAt K mg "_law_rule" s__law_rule ["_law_source_here", "_law_signs_here", "_law_longest"]
  d__law_drawn : DefAt K mg "_law_drawn" s__law_drawn ["_law_source_here", "_law_signs_here"]
  d__law_number : DefAt K mg "_law_number" s__law_number ["_law_signs_here", "_law_rules"]
  d__law_spoilt : DefAt K mg "_law_spoilt" s__law_spoilt ["_law_source_here", "_law_signs_here", "_law_rules"]
end Sh
set_option Elab.async false
set_option linter.all false
set_option maxRecDepth 100000
set_option maxHeartbeats 4000000
namespace Sh
open PySem PySem.Spec PyProof.Rows L2
open SX (S S_inj S_len S_cat)
local macro_rules | `(tactic| walk_at "nx") => `(tactic| repeat (with_reducible first | refine Sh.gn_mk ?_ | refine Sh.nx_mk ?_ | refine Sh.st_nx ?_ | refine Sh.rt_mk ?_ | refine Sh.ct_mk ?_ | refine Sh.bk_mk ?_))
local macro_rules | `(tactic| walk_at "sq") => `(tactic| first | exact SqL.of upd_same | exact SqT.of upd_same | exact SqL.of (by assumption) | exact SqT.of (by assumption) | assumption | exact Or.inl (SqL.of (by assumption)) | exact Or.inr (SqT.of (by assumption)) | exact Or.inl (by assumption) | exact Or.inr (by assumption))
local macro_rules | `(tactic| walk_at "hp") => `(tactic| first | exact upd_same | assumption)
local macro_rules | `(tactic| walk_at "sz") => `(tactic| first | exact Nat.le_of_ble_eq_true rfl | omega)
local macro_rules | `(tactic| walk_at "sd") => `(tactic| first | omega | exact rfl | assumption | (show (0 : Int) < _; omega) | exact And.intro (by omega) (by omega) | exact Or.inl (And.intro (by omega) (by omega)) | exact Or.inr (And.intro (by omega) (by omega)) | omega | exact Sh.sz_S (by omega) | decide)
local macro_rules | `(tactic| walk_at "rd1") => `(tactic| first
  | (with_reducible first | refine Sh.gn_mk ?_ | refine Sh.nx_mk ?_ | refine Sh.st_nx ?_ | refine Sh.rt_mk ?_ | refine Sh.ct_mk ?_ | refine Sh.bk_mk ?_)
  | refine Exists.intro (α := V) _ (And.intro rfl ?_)
  | refine Exists.intro (α := Bool) _ (And.intro rfl ?_)
  | refine Exists.intro (α := Int) _ (And.intro rfl ?_)
  | refine Exists.intro (α := PySem.Str) _ (And.intro rfl ?_)
  | refine Exists.intro (α := Int) _ (Exists.intro (α := Int) _ (And.intro rfl (And.intro rfl ?_)))
  | refine Exists.intro (α := PySem.Str) _ (Exists.intro (α := PySem.Str) _ (And.intro rfl (And.intro rfl ?_)))
  | refine Exists.intro (α := Int) _ (Exists.intro (α := Int) _ (And.intro rfl ?_))
  | refine Or.inl (Exists.intro (α := Int) _ (And.intro rfl ?_))
  | refine Exists.intro _ (Exists.intro _ (Exists.intro _ (Exists.intro _ (And.intro rfl (And.intro rfl (And.intro (by walk_at "sq") (And.intro rfl ?_)))))))
  | refine Exists.intro _ (Exists.intro _ (Exists.intro _ (Exists.intro _ (And.intro rfl (And.intro rfl (And.intro (by walk_at "hp") (And.intro rfl ?_)))))))
  | refine And.intro (by walk_at "sd") ?_
  )
local macro_rules | `(tactic| walk_at "rd") => `(tactic| repeat walk_at "rd1")
local macro_rules | `(tactic| walk_at "lk") => `(tactic| first | exact rfl | (rw [lookup_putF, if_pos rfl]) | (rw [lookup_putF, if_neg (by decide +kernel)]; walk_at "lk"))

section
variable {P : Program} {w : World} {K : PySem.W.Frag} {mg : Str → Option Value} {base : Heap}
/-- _law_pick(source, many): any number from 0 to many - 1; the source changes alone -/
def spPick : Sp := fun vs H Q _ => ∃ (a : Addr) (m : Int), vs = [.ref a, .int m] ∧ Src H a ∧ 0 < m ∧ m < 1000000 ∧ ∀ (r : Int) (H' : Hp), 0 ≤ r → r < m → Src H' a → But a H H' → Q (.int r) H'
theorem c__law_pick (T : Txt K mg) : Cal P w K mg base CX0 1 "_law_pick" spPick := by
  refine Cal.mk0 T.d__law_pick sc__law_pick (fun vs H Q E h => ?_) (fun f cdv A outer s H vs Q E hr h => ?_)
  · obtain ⟨a, m, rfl, _⟩ := h
    rfl
  · obtain ⟨a, m, rfl, ⟨d, sd, c, ha⟩, h0, h1, k⟩ := h
    refine ⟨_, (pss_cons (ps_if (pt_cmpR op_gt (pe_ix ix_list (pv 0) pe_int (fun _ _ => rfl)) pe_int (nomark _))
    (pss_cons (ps_set (i := 2) sc__law_pick.nd rfl (Or.inl rfl) (pe_op op_mod (pe_callTy call_int1 (by rfl) T.b_int (by decide +kernel) (pa_cons (pe_ix ix_list (pv 0) pe_int (fun _ _ => rfl)) pa_nil)) (pv 1)))
    (pss_cons (ps_asg (pe_op op_fdiv (pe_ix ix_list (pv 0) pe_int (fun _ _ => rfl)) (pv 1)) (pg_sub (pv 0) pe_int set_list))
    (pss_one (ps_ret (pv 2)))))
    pss_nil)
  (pss_cons (ps_asg (pe_op op_add (pe_ix ix_list (pv 0) pe_int (fun _ _ => rfl)) pe_int) (pg_sub (pv 0) pe_int set_list))
  (pss_cons (ps_set (i := 3) sc__law_pick.nd rfl (Or.inl rfl) (pe_op op_mod (pe_callTy call_int1 (by rfl) T.b_int (by decide +kernel) (pa_cons (pe_op op_mul (pe_op op_add (pe_ix ix_list (pv 0) pe_int (fun _ _ => rfl)) (pe_op op_mul pe_int (pe_ix ix_list (pv 0) pe_int (fun _ _ => rfl)))) pe_int) pa_nil)) pe_int))
  (pss_cons (ps_set (i := 3) sc__law_pick.nd rfl (Or.inl rfl) (pe_op op_mod (pe_callTy call_int1 (by rfl) T.b_int (by decide +kernel) (pa_cons (pe_op op_add (pe_op op_add (pe_op op_mul (pv 3) (pv 3)) (pe_op op_mul pe_int (pe_ix ix_list (pv 0) pe_int (fun _ _ => rfl)))) (pe_ix ix_list (pv 0) pe_int (fun _ _ => rfl))) pa_nil)) pe_int))
  (pss_cons (ps_set (i := 3) sc__law_pick.nd rfl (Or.inl rfl) (pe_op op_mod (pe_callTy call_int1 (by rfl) T.b_int (by decide +kernel) (pa_cons (pe_op op_add (pe_op op_mul (pv 3) pe_int) pe_int) pa_nil)) pe_int))
  (pss_cons (ps_set (i := 3) sc__law_pick.nd rfl (Or.inl rfl) (pe_op op_mod (pe_callTy call_int1 (by rfl) T.b_int (by decide +kernel) (pa_cons (pe_op op_add (pe_op op_mul (pv 3) (pv 3)) (pv 3)) pa_nil)) pe_int))
  (pss_one (ps_ret (pe_op op_mod (pe_callTy call_int1 (by rfl) T.b_int (by decide +kernel) (pa_cons (pe_op op_fdiv (pv 3) pe_int) pa_nil)) (pv 1)))))))))), ?_⟩
    walk_at "rd"
    refine ite2 (fun c0 => ?_) (fun c0 => ?_)
    · walk_at "rd"
      exact k _ _ (Int.emod_nonneg _ (by omega)) (Int.emod_lt_of_pos _ h0) ⟨_, _, _, upd_same⟩ but_upd
    · walk_at "rd"
      exact k _ _ (Int.emod_nonneg _ (by omega)) (Int.emod_lt_of_pos _ h0) ⟨_, _, _, upd_same⟩ but_upd
/-- _law_source(script, place): a new source -/
def spSource (K : PySem.W.Frag) : Sp := fun vs H Q _ => ∃ (a : Addr) (ns : List Int) (i : Int), vs = [.ref a, .int i] ∧ SqL K H a (ns.map V.int) ∧ (∀ z ∈ ns, Builtin.Int.intBits z ≤ 1048576) ∧ ns.length ≤ 63 ∧ 0 ≤ i ∧ i < 100 ∧
  ∀ (p : Addr) (H' : Hp), H p = none → Same H H' → Src H' p → Q (.ref p) H'
theorem cut_ints (ns : List Int) : ∃ ms : List Int, cutV (ns.map V.int) none (some 4) = ms.map V.int := ⟨_, by unfold cutV; rw [← List.map_drop, ← List.map_take]⟩
theorem c__law_source (T : Txt K mg) : Cal P w K mg base CX0 1 "_law_source" (spSource K) := by
  refine Cal.mk0 T.d__law_source sc__law_source (fun vs H Q E h => ?_) (fun f cdv A outer s H vs Q E hr h => ?_)
  · obtain ⟨a, ns, i, rfl, _⟩ := h
    rfl
  · obtain ⟨a, ns, i, rfl, hS, hb, hl, hi0, hi1, k⟩ := h
    obtain ⟨ms, hms⟩ := cut_ints ns
    refine ⟨_, (pss_cons (ps_set (i := 2) sc__law_source.nd rfl (Or.inl rfl) (pe_ifExp (pt_cmpR op_lt (pv 1) (pe_callB call_len_seq (by rfl) T.b_len (by decide +kernel) (pa_cons (pv 0) pa_nil)) (nomark _)) (pe_ix ix_list (pv 0) (pv 1) (fun _ _ => rfl)) (pe_op op_add (pe_op op_mul pe_int (pv 1)) pe_int)))
  (pss_cons (ps_set (i := 3) sc__law_source.nd rfl (Or.inl rfl) (pe_op op_add (pe_op op_mul pe_int (pv 1)) pe_int))
  (pss_cons (ps_for PassesOwn.never rfl (pi_list (pe_slice sl_list (pv 0) po_none (po_some pe_int))) (pg_name (i := 4) sc__law_source.nd rfl (Or.inl rfl))
    (pss_one (ps_set (i := 3) sc__law_source.nd rfl (Or.inl rfl) (pe_op op_mod (pe_callTy call_int1 (by rfl) T.b_int (by decide +kernel) (pa_cons (pe_op op_add (pe_op op_mul (pv 3) pe_int) (pe_op op_mod (pe_callTy call_int1 (by rfl) T.b_int (by decide +kernel) (pa_cons (pv 4) pa_nil)) pe_int)) pa_nil)) pe_int))))
  (pss_cons (ps_set (i := 3) sc__law_source.nd rfl (Or.inl rfl) (pe_op op_mod (pe_callTy call_int1 (by rfl) T.b_int (by decide +kernel) (pa_cons (pe_op op_add (pe_op op_mul (pv 3) pe_int) (pe_op op_mod (pe_callTy call_int1 (by rfl) T.b_int (by decide +kernel) (pa_cons (pv 2) pa_nil)) pe_int)) pa_nil)) pe_int))
  (pss_cons (ps_set (i := 5) sc__law_source.nd rfl (Or.inl rfl) (pe_callB call_abs (by rfl) T.b_abs (by decide +kernel) (pa_cons (pv 2) pa_nil)))
  (pss_cons (ps_if (pt_cmpR op_lt (pv 5) (pe_op op_pow pe_int pe_int) (nomark _))
    (pss_one (ps_ret (pe_lst (pa_cons pe_int (pa_cons (pv 3) (pa_cons pe_int pa_nil))))))
    pss_nil)
  (pss_cons (ps_if (pt_cmpR op_gt (pe_op op_shr (pv 5) pe_int) pe_int (nomark _))
    (pss_one (ps_set (i := 5) sc__law_source.nd rfl (Or.inl rfl) (pe_op op_sub (pv 5) (pe_op op_shlW (pe_op op_shr (pv 5) pe_int) pe_int))))
    pss_nil)
  (pss_one (ps_ret (pe_lst (pa_cons (pv 5) (pa_cons (pv 3) (pa_cons pe_int pa_nil))))))))))))), ?_⟩
    -- cell
    refine st_asgJ (fun v H' => H' = H ∧ ∃ z, v = V.int z ∧ Builtin.Int.intBits z ≤ 1048576) (fun Q' kQ => ?_) ?_
    · refine ⟨_, rfl, _, rfl, _, _, rfl, .inl hS, _, _, rfl, rfl, _, rfl, ?_⟩
      refine ite2 (fun c0 => ?_) (fun c0 => ?_)
      · have c1 : i < (ns.map V.int).length := of_decide_eq_true c0
        rw [List.length_map] at c1
        have c2 : i.toNat < ns.length := by omega
        refine ⟨_, rfl, _, rfl, _, _, _, .int ns[i.toNat], rfl, rfl, hS, ?_, kQ _ _ ⟨rfl, _, rfl, hb _ (List.getElem_mem c2)⟩⟩
        exact atI_at hi0 (by simp [c2])
      · walk_at "rd"
        refine kQ _ _ ⟨rfl, _, rfl, ?_⟩
        refine Nat.le_trans ((PySem.intBits_le_iff (m := 20)).mpr ?_) (by decide)
        show (7 * i + 5).natAbs < 2 ^ 20
        omega
    · rintro v H' ⟨rfl, cell, rfl, hcell⟩
      walk_at "rd"
      -- script[:4]
      refine ⟨_, _, rfl, hS, fun p hp => ?_⟩
      rw [hms]
      refine ⟨p, rfl, ⟨_, SqL.of upd_same⟩, for_lst (K := K) (a := p) (f := V.int) (l := ms) (fun pre σ H2 => ∃ (sd : Int) (v : Option V), σ = [some (.ref a), some (.int i), some (.int cell), some (.int sd), v, none] ∧ H2 = upd H' p (.lst (ms.map V.int)))
        ⟨_, _, rfl, rfl⟩ (fun pre σ H2 ⟨_, _, _, e⟩ => e ▸ SqL.of upd_same) ?_ ?_⟩
      · rintro pre x post σ H2 e ⟨sd, v, rfl, rfl⟩
        walk_at "rd"
        exact ⟨_, _, rfl, rfl⟩
      · rintro σ H2 ⟨sd, v, rfl, rfl⟩
        walk_at "rd"
        refine ite2 (fun c0 => ?_) (fun c0 => ?_)
        · walk_at "rd"
          refine ⟨by walk_at "sz", fun q hq => ?_⟩
          have s1 : Same H' (upd H' p (.lst (ms.map V.int))) := same_new hp
          exact k q _ (s1.free hq) (s1.trans (same_new hq)) ⟨_, _, _, upd_same⟩
        · walk_at "nx"
          refine st_ifJ (fun σ' H3 => H3 = upd H' p (.lst (ms.map V.int)) ∧ ∃ n sd v, σ' = [some (.ref a), some (.int i), some (.int cell), some (.int sd), v, some (.int n)]) (fun N kN => ?_) ?_
          · walk_at "rd"
            refine ite2 (fun c1 => ?_) (fun c1 => ?_)
            · walk_at "rd"
              have hn : Builtin.Int.intBits (if cell < 0 then -cell else cell) ≤ 1048576 := by
                split
                · exact PySem.intBits_neg_le hcell
                · exact hcell
              refine ⟨?_, ?_⟩
              · have h2 := PySem.intBits_le_of_natAbs (x := (if cell < 0 then -cell else cell) / 2 ^ Int.toNat 2500) (y := if cell < 0 then -cell else cell) (by first | exact Int.natAbs_ediv_le_natAbs _ _ | exact Int.natAbs_div_le_natAbs _ _) hn
                refine ⟨by decide, ?_⟩
                show _ + (2500 : Int) ≤ 134217728
                omega
              · walk_at "rd"
                exact kN _ _ ⟨rfl, _, _, _, rfl⟩
            · walk_at "rd"
              exact kN _ _ ⟨rfl, _, _, _, rfl⟩
          · rintro σ' H3 ⟨rfl, n, sd', v', rfl⟩
            walk_at "rd"
            refine ⟨by walk_at "sz", fun q hq => ?_⟩
            have s1 : Same H' (upd H' p (.lst (ms.map V.int))) := same_new hp
            exact k q _ (s1.free hq) (s1.trans (same_new hq)) ⟨_, _, _, upd_same⟩
end
end Sh
set_option Elab.async false
set_option linter.all false
namespace Sh
open PySem PySem.Spec PyProof.Rows L2
open SX (S S_inj S_len S_cat)
theorem cut_from {t : List Nat} {i : Int} (h : 0 ≤ i) : cutS (S t) (some i) none = S (t.drop i.toNat) := by
  rw [C8.cutS_slice]; exact SX.slice_from h
theorem cut_to {t : List Nat} {i : Int} (h : 0 ≤ i) : cutS (S t) none (some i) = S (t.take i.toNat) := by
  rw [C8.cutS_slice]; exact SX.slice_to h
theorem cut_mid {t : List Nat} {i j : Int} (h : 0 ≤ i) (k : 0 ≤ j) : cutS (S t) (some i) (some j) = S ((t.drop i.toNat).take (j.toNat - i.toNat)) := by
  unfold cutS
  have e : (S t).length = t.length := S_len t
  have h1 : HT.sIx t.length 0 (some i) = min i.toNat t.length := by
    show (if i < 0 then _ else min i.toNat t.length) = _
    rw [if_neg (by omega)]
  have h2 : HT.sIx t.length t.length (some j) = min j.toNat t.length := by
    show (if j < 0 then _ else min j.toNat t.length) = _
    rw [if_neg (by omega)]
  rw [e, h1, h2]
  show S ((t.drop (min i.toNat t.length)).take (min j.toNat t.length - min i.toNat t.length)) = _
  congr 1
  apply List.ext_getElem?
  intro n
  simp only [List.getElem?_take, List.getElem?_drop]
  by_cases hi : i.toNat ≤ t.length
  · rw [Nat.min_eq_left hi]
    by_cases hn : n < j.toNat - i.toNat
    · rw [if_pos hn]
      by_cases hn2 : n < min j.toNat t.length - i.toNat
      · rw [if_pos hn2]
      · rw [if_neg hn2, List.getElem?_eq_none (by omega)]
    · rw [if_neg hn, if_neg (by omega)]
  · have e1 : min i.toNat t.length = t.length := by omega
    rw [e1, List.getElem?_eq_none (l := t) (i := t.length + n) (by omega), List.getElem?_eq_none (l := t) (i := i.toNat + n) (by omega)]
    simp
theorem endswith_S (a b : List Nat) : Txt.endswith (S a) (S b) = b.isSuffixOf a := by
  unfold Txt.endswith
  rw [PySem.StrLaws.subAt_eq, S_len, S_len, Bool.eq_iff_iff, List.isSuffixOf_iff_suffix, List.suffix_iff_eq_drop]
  simp only [Bool.and_eq_true, decide_eq_true_eq, beq_iff_eq]
  constructor
  · rintro ⟨h1, h2⟩
    rw [List.take_of_length_le (by rw [List.length_drop]; omega)] at h2
    exact h2.symm
  · intro h
    have hl := congrArg List.length h
    rw [List.length_drop] at hl
    refine ⟨by omega, ?_⟩
    rw [List.take_of_length_le (by rw [List.length_drop]; omega)]
    exact h.symm
theorem startswith_S (a b : List Nat) : Txt.startswith (S a) (S b) = b.isPrefixOf a := by
  unfold Txt.startswith
  rw [PySem.StrLaws.subAt_eq, S_len, S_len, Bool.eq_iff_iff, List.isPrefixOf_iff_prefix, List.prefix_iff_eq_take]
  simp only [Bool.and_eq_true, decide_eq_true_eq, beq_iff_eq, List.drop_zero]
  constructor
  · rintro ⟨h1, h2⟩
    exact h2.symm
  · intro h
    have hl := congrArg List.length h
    rw [List.length_take] at hl
    exact ⟨by omega, h.symm⟩
theorem join_nil (l : List (List Nat)) : Txt.join (S []) (l.map S) = S l.flatten := by
  rw [SX.join_S]
  congr 1
  induction l with
  | nil => rfl
  | cons x l ih =>
    cases l with
    | nil => simp [TL.joinL]
    | cons y l =>
      rw [List.flatten_cons, ← ih]
      simp [TL.joinL]
theorem flat_one (l : List Nat) : (l.map fun c => [c]).flatten = l := by
  induction l with
  | nil => rfl
  | cons x l ih => rw [List.map_cons, List.flatten_cons, ih]; rfl
end Sh
set_option Elab.async false
set_option linter.all false
set_option maxRecDepth 100000
set_option maxHeartbeats 4000000
namespace Sh
open PySem PySem.Spec PyProof.Rows L2
open SX (S S_inj S_len S_cat)
local macro_rules | `(tactic| walk_at "nx") => `(tactic| repeat (with_reducible first | refine Sh.gn_mk ?_ | refine Sh.nx_mk ?_ | refine Sh.st_nx ?_ | refine Sh.rt_mk ?_ | refine Sh.ct_mk ?_ | refine Sh.bk_mk ?_))
local macro_rules | `(tactic| walk_at "sq") => `(tactic| first | exact SqL.of upd_same | exact SqT.of upd_same | exact SqL.of (by assumption) | exact SqT.of (by assumption) | assumption | exact Or.inl (SqL.of (by assumption)) | exact Or.inr (SqT.of (by assumption)) | exact Or.inl (by assumption) | exact Or.inr (by assumption))
local macro_rules | `(tactic| walk_at "hp") => `(tactic| first | exact upd_same | assumption)
local macro_rules | `(tactic| walk_at "sz") => `(tactic| first | exact Nat.le_of_ble_eq_true rfl | omega)
local macro_rules | `(tactic| walk_at "sd") => `(tactic| first | omega | exact rfl | assumption | (show (0 : Int) < _; omega) | exact And.intro (by omega) (by omega) | exact Or.inl (And.intro (by omega) (by omega)) | exact Or.inr (And.intro (by omega) (by omega)) | omega | exact Sh.sz_S (by omega) | decide)
local macro_rules | `(tactic| walk_at "rd1") => `(tactic| first
  | (with_reducible first | refine Sh.gn_mk ?_ | refine Sh.nx_mk ?_ | refine Sh.st_nx ?_ | refine Sh.rt_mk ?_ | refine Sh.ct_mk ?_ | refine Sh.bk_mk ?_)
  | refine Exists.intro (α := V) _ (And.intro rfl ?_)
  | refine Exists.intro (α := Bool) _ (And.intro rfl ?_)
  | refine Exists.intro (α := Int) _ (And.intro rfl ?_)
  | refine Exists.intro (α := PySem.Str) _ (And.intro rfl ?_)
  | refine Exists.intro (α := Int) _ (Exists.intro (α := Int) _ (And.intro rfl (And.intro rfl ?_)))
  | refine Exists.intro (α := PySem.Str) _ (Exists.intro (α := PySem.Str) _ (And.intro rfl (And.intro rfl ?_)))
  | refine Exists.intro (α := Int) _ (Exists.intro (α := Int) _ (And.intro rfl ?_))
  | refine Or.inl (Exists.intro (α := Int) _ (And.intro rfl ?_))
  | refine Exists.intro _ (Exists.intro _ (Exists.intro _ (Exists.intro _ (And.intro rfl (And.intro rfl (And.intro (by walk_at "sq") (And.intro rfl ?_)))))))
  | refine Exists.intro _ (Exists.intro _ (Exists.intro _ (Exists.intro _ (And.intro rfl (And.intro rfl (And.intro (by walk_at "hp") (And.intro rfl ?_)))))))
  | refine And.intro (by walk_at "sd") ?_
  )
local macro_rules | `(tactic| walk_at "rd") => `(tactic| repeat walk_at "rd1")
local macro_rules | `(tactic| walk_at "lk") => `(tactic| first | exact rfl | (rw [lookup_putF, if_pos rfl]) | (rw [lookup_putF, if_neg (by decide +kernel)]; walk_at "lk"))

section
variable {P : Program} {w : World} {K : PySem.W.Frag} {mg : Str → Option Value} {base : Heap}
/-- the signs that the law draws -/
def sgMenu : List (List Nat) := [[97, 98], [97, 98, 99], [97, 98], [97, 99], [97, 98, 99], [98, 122], [97], [98, 99, 100], [97, 98], [107, 109, 122], [97, 98, 99], [120, 121]]
def spSigns : Sp := fun vs H Q _ => ∃ (a : Addr), vs = [.ref a] ∧ Src H a ∧ ∀ (sg : List Nat) (H' : Hp), sg ∈ sgMenu → Src H' a → But a H H' → Q (.str (S sg)) H'
theorem sgMenu_V : ([V.str "ab", V.str "abc", V.str "ab", V.str "ac", V.str "abc", V.str "bz", V.str "a", V.str "bcd", V.str "ab", V.str "kmz", V.str "abc", V.str "xy"] : List V) = sgMenu.map fun l => V.str (S l) := by decide +kernel
theorem c__law_signs (T : Txt K mg) : Cal P w K mg base CX0 2 "_law_signs" spSigns := by
  have c__law_pick := c__law_pick (P := P) (w := w) (base := base) T
  refine Cal.mk0 T.d__law_signs sc__law_signs (fun vs H Q E h => ?_) (fun f cdv A outer s H vs Q E hr h => ?_)
  · obtain ⟨a, rfl, _⟩ := h
    rfl
  · obtain ⟨a, rfl, hs, k⟩ := h
    refine ⟨_, (pss_cons (ps_set (i := 1) sc__law_signs.nd rfl (Or.inl rfl) (pe_lst (pa_cons pe_str (pa_cons pe_str (pa_cons pe_str (pa_cons pe_str (pa_cons pe_str (pa_cons pe_str (pa_cons pe_str (pa_cons pe_str (pa_cons pe_str (pa_cons pe_str (pa_cons pe_str (pa_cons pe_str pa_nil))))))))))))))
  (pss_one (ps_ret (pe_ix ix_list (pv 1) (pe_c c__law_pick hr (by decide) rfl (pa_cons (pv 0) (pa_cons (pe_callB call_len_seq (by rfl) T.b_len (by decide +kernel) (pa_cons (pv 1) pa_nil)) pa_nil))) (fun _ _ => rfl))))), ?_⟩
    refine ⟨by walk_at "sz", fun p hp => ?_⟩
    rw [sgMenu_V]
    have ns := same_new (o := .lst (sgMenu.map fun l => V.str (S l))) hp
    obtain ⟨d, sd, c, ha⟩ := id hs
    have hs1 : Src (upd H p (.lst (sgMenu.map fun l => V.str (S l)))) a := ⟨d, sd, c, ns _ _ ha⟩
    have npa : p ≠ a := (ne_of_none ha hp).symm
    refine ⟨_, rfl, _, rfl, _, rfl, p, _, rfl, .inl (SqL.of upd_same), ?_⟩
    refine ⟨_, _, rfl, hs1, by decide, by decide, fun r H2 r0 r1 s2 b2 => ?_⟩
    have r1' : r < 12 := r1
    have hr2 : r.toNat < sgMenu.length := by show _ < 12; omega
    refine ⟨p, _, r, .str (S sgMenu[r.toNat]), rfl, rfl, SqL.of (b2 _ _ npa upd_same), atI_at r0 (by rw [List.getElem?_map, List.getElem?_eq_getElem hr2]; rfl), ?_⟩
    exact k _ _ (List.getElem_mem hr2) s2 (But.trans (But.same ns) b2)
/-- a drawn text -/
def spText : Sp := fun vs H Q _ => ∃ (a : Addr) (sg : List Nat) (m : Int), vs = [.ref a, .str (S sg), .int m] ∧ Src H a ∧ 0 < sg.length ∧ sg.length ≤ 1000 ∧ 0 ≤ m ∧ m < 1000 ∧
  ∀ (t : List Nat) (H' : Hp), (t.length : Int) ≤ m → (∀ c ∈ t, c ∈ sg) → Src H' a → But a H H' → Q (.str (S t)) H'
theorem c__law_text (T : Txt K mg) : Cal P w K mg base CX0 2 "_law_text" spText := by
  have c__law_pick := c__law_pick (P := P) (w := w) (base := base) T
  refine Cal.mk0 T.d__law_text sc__law_text (fun vs H Q E h => ?_) (fun f cdv A outer s H vs Q E hr h => ?_)
  · obtain ⟨a, sg, m, rfl, _⟩ := h
    rfl
  · obtain ⟨a, sg, m, rfl, hs, hg0, hg1, hm0, hm1, k⟩ := h
    refine ⟨_, (pss_cons (ps_set (i := 3) sc__law_text.nd rfl (Or.inl rfl) pe_str)
  (pss_cons (ps_for PassesOwn.never rfl (pi_range1 (by rfl) T.b_range (pa_cons (pe_c c__law_pick hr (by decide) rfl (pa_cons (pv 0) (pa_cons (pe_op op_add (pv 2) pe_int) pa_nil))) pa_nil)) (pg_name (i := 4) sc__law_text.nd rfl (Or.inl rfl))
    (pss_one (ps_set (i := 3) sc__law_text.nd rfl (Or.inl rfl) (pe_op op_add_str (pv 3) (pe_ix ix_str (pv 1) (pe_c c__law_pick hr (by decide) rfl (pa_cons (pv 0) (pa_cons (pe_callB call_len_str (by rfl) T.b_len (by decide +kernel) (pa_cons (pv 1) pa_nil)) pa_nil))) (fun _ _ => rfl))))))
  (pss_one (ps_ret (pv 3))))), ?_⟩
    walk_at "rd"
    refine ⟨_, _, rfl, hs, by omega, by omega, fun n H1 n0 n1 s1 b1 => ?_⟩
    refine ⟨_, rfl, by omega, by omega, for_range (lo := 0) (n := n.toNat) (fun i σ H2 => ∃ (t : List Nat) (v : Option V), σ = [some (.ref a), some (.str (S sg)), some (.int m), some (.str (S t)), v] ∧ t.length = i ∧ (∀ c ∈ t, c ∈ sg) ∧ Src H2 a ∧ But a H H2)
      ⟨[], _, rfl, rfl, by simp, s1, b1⟩ ?_ ?_⟩
    · rintro i σ H2 hi ⟨t, v, rfl, ht, hc, s2, b2⟩
      refine ⟨_, rfl, _, rfl, _, rfl, _, rfl, _, rfl, sz_S (by omega), ?_⟩
      refine ⟨_, _, rfl, s2, by rw [S_len]; omega, by rw [S_len]; omega, fun r H3 r0 r1 s3 b3 => ?_⟩
      rw [S_len] at r1
      have hr2 : r.toNat < sg.length := by omega
      refine ⟨_, r, sg[r.toNat], rfl, rfl, sz_S (by omega), atI_at r0 (by show sg[r.toNat]? = _; simp [hr2]), ?_⟩
      refine ⟨_, _, rfl, rfl, by show (S t).length + (S [sg[r.toNat]]).length ≤ _; rw [S_len, S_len]; exact Nat.le_trans (m := 1000000) (by simp; omega) (by decide), ?_⟩
      refine ⟨t ++ [sg[r.toNat]], some (.int (0 + i)), ?_, by simp [ht], ?_, s3, b2.trans b3⟩
      · rw [← S_cat]; rfl
      · intro c hcc
        rcases List.mem_append.mp hcc with q | q
        · exact hc c q
        · rw [List.mem_singleton] at q; rw [q]; exact List.getElem_mem hr2
    · rintro σ H2 ⟨t, v, rfl, ht, hc, s2, b2⟩
      walk_at "rd"
      exact k _ _ (by omega) hc s2 b2
/-- (len(text), text) -/
def spKey : Sp := fun vs H Q _ => ∃ t : List Nat, vs = [.str (S t)] ∧ t.length ≤ 1000000 ∧ ∀ p, H p = none → Q (.ref p) (upd H p (.tup [.int t.length, .str (S t)]))
theorem c_text_key (T : Txt K mg) : Cal P w K mg base CX0 1 "text_key" spKey := by
  refine Cal.mk0 T.d_text_key sc_text_key (fun vs H Q E h => ?_) (fun f cdv A outer s H vs Q E hr h => ?_)
  · obtain ⟨t, rfl, _⟩ := h
    rfl
  · obtain ⟨t, rfl, ht, k⟩ := h
    refine ⟨_, (pss_one (ps_ret (pe_tup (pa_cons (pe_callB call_len_str (by rfl) T.b_len (by decide +kernel) (pa_cons (pv 0) pa_nil)) (pa_cons (pv 0) pa_nil))))), ?_⟩
    refine ⟨_, rfl, _, rfl, sz_S ht, _, rfl, by walk_at "sz", fun p hp => ?_⟩
    have q := k p hp
    rw [← S_len] at q
    exact q
/-- a drawn rule: its left side has 1 to longest signs, its right side none, or one and the left side two or more -/
def RuleOk (sg : List Nat) (m : Nat) (r : List Nat × List Nat) : Prop :=
  1 ≤ r.1.length ∧ r.1.length ≤ m ∧ (∀ c ∈ r.1, c ∈ sg) ∧ (∀ c ∈ r.2, c ∈ sg) ∧ r.2.length ≤ 1 ∧ r.2.length < r.1.length
def rTup (r : List Nat × List Nat) : List V := [.str (S r.1), .str (S r.2)]
def spRule : Sp := fun vs H Q _ => ∃ (a : Addr) (sg : List Nat) (m : Int), vs = [.ref a, .str (S sg), .int m] ∧ Src H a ∧ 0 < sg.length ∧ sg.length ≤ 1000 ∧ 1 ≤ m ∧ m ≤ 4 ∧
  ∀ (r : List Nat × List Nat) (p : Addr) (H' : Hp), RuleOk sg m.toNat r → Src H' a → But a H H' → H p = none → H' p = some (.tup (rTup r)) → Q (.ref p) H'
theorem c__law_rule (T : Txt K mg) : Cal P w K mg base CX0 2 "_law_rule" spRule := by
  have c__law_pick := c__law_pick (P := P) (w := w) (base := base) T
  refine Cal.mk0 T.d__law_rule sc__law_rule (fun vs H Q E h => ?_) (fun f cdv A outer s H vs Q E hr h => ?_)
  · obtain ⟨a, sg, m, rfl, _⟩ := h
    rfl
  · obtain ⟨a, sg, m, rfl, hs, hg0, hg1, hm0, hm1, k⟩ := h
    refine ⟨_, (pss_cons (ps_set (i := 3) sc__law_rule.nd rfl (Or.inl rfl) (pe_op op_add pe_int (pe_c c__law_pick hr (by decide) rfl (pa_cons (pv 0) (pa_cons (pv 2) pa_nil)))))
  (pss_cons (ps_if (PW.pt (pw_and (pt_cmpR op_eq (pv 3) pe_int (nomark _)) (pw_and1 (pt_cmpR op_gt (pe_c c__law_pick hr (by decide) rfl (pa_cons (pv 0) (pa_cons pe_int pa_nil))) pe_int (nomark _)))))
    (pss_one (ps_set (i := 3) sc__law_rule.nd rfl (Or.inl rfl) (pe_callB (call_min2 rfl) (by rfl) T.b_min (by decide +kernel) (pa_cons pe_int (pa_cons (pv 2) pa_nil)))))
    pss_nil)
  (pss_cons (ps_set (i := 4) sc__law_rule.nd rfl (Or.inl rfl) (pe_join pe_str (pe_lc (own := [("_law_k", 5)]) (g := gName 5) (tt := tYes) rfl sc__law_rule.nd (pi_range1 (by rfl) T.b_range (pa_cons (pv 3) pa_nil)) (blkOk_by (N := ["_law_source_here", "_law_signs_here", "_law_longest", "_law_size", "_law_left_here", "_law_k"]) (sc := defScope s__law_rule) (by decide +kernel)) (fun _ _ _ _ _ => (pg_name (i := 5) sc__law_rule.nd rfl (Or.inl rfl))) (fun _ _ _ _ _ => pts_nil) (fun _ _ _ _ _ => (pe_ix ix_str (pv 1) (pe_c c__law_pick hr (by decide) rfl (pa_cons (pv 0) (pa_cons (pe_callB call_len_str (by rfl) T.b_len (by decide +kernel) (pa_cons (pv 1) pa_nil)) pa_nil))) (fun _ _ => rfl))))))
  (pss_cons (ps_if (PW.pt (pw_or (pt_cmpR op_eq (pv 3) pe_int (nomark _)) (pw_or1 (pt_cmpR op_eq (pe_c c__law_pick hr (by decide) rfl (pa_cons (pv 0) (pa_cons pe_int pa_nil))) pe_int (nomark _)))))
    (pss_one (ps_ret (pe_tup (pa_cons (pv 4) (pa_cons pe_str pa_nil)))))
    pss_nil)
  (pss_one (ps_ret (pe_tup (pa_cons (pv 4) (pa_cons (pe_ix ix_str (pv 1) (pe_c c__law_pick hr (by decide) rfl (pa_cons (pv 0) (pa_cons (pe_callB call_len_str (by rfl) T.b_len (by decide +kernel) (pa_cons (pv 1) pa_nil)) pa_nil))) (fun _ _ => rfl)) pa_nil))))))))), ?_⟩
    walk_at "rd"
    refine ⟨_, _, rfl, hs, by omega, by omega, fun n H1 n0 n1 s1 b1 => ?_⟩
    refine ⟨_, _, rfl, rfl, ?_⟩
    walk_at "nx"
    refine st_ifJ (fun σ' H' => ∃ z : Int, 1 ≤ z ∧ z ≤ m ∧ σ' = [some (.ref a), some (.str (S sg)), some (.int m), some (.int z), none, none] ∧ Src H' a ∧ But a H H') (fun N kN => ?_) ?_
    · walk_at "rd"
      refine ite2 (fun c0 => ?_) (fun c0 => ?_)
      · walk_at "rd"
        refine ⟨_, _, rfl, s1, by decide, by decide, fun r H2 r0 r1 s2 b2 => ?_⟩
        walk_at "rd"
        refine ite2 (fun c1 => ?_) (fun c1 => ?_)
        · walk_at "rd"
          refine kN _ _ ⟨_, ?_, ?_, rfl, s2, b1.trans b2⟩
          · split <;> omega
          · split <;> omega
        · walk_at "nx"
          exact kN _ _ ⟨_, by omega, by omega, rfl, s2, b1.trans b2⟩
      · walk_at "nx"
        refine iteF ?_
        walk_at "nx"
        exact kN _ _ ⟨_, by omega, by omega, rfl, s1, b1⟩
    · rintro σ' H2 ⟨z, z0, z1, rfl, s2, b2⟩
      refine ⟨⟨_, rfl⟩, _, rfl, _, rfl, by omega, by omega, fun D hD => lc_range (lo := 0) (n := z.toNat) (fun i H3 => ∃ l : List Nat, l.length = i ∧ (∀ c ∈ l, c ∈ sg) ∧ H3 D = some (.lst (l.map fun c => .str (S [c]))) ∧ Src H3 a ∧ But a H2 H3) ?_ ?_ ?_⟩
      · obtain ⟨d, sd, c, ha⟩ := id s2
        exact ⟨[], rfl, by simp, upd_same, ⟨d, sd, c, same_new hD _ _ ha⟩, But.same (same_new hD)⟩
      · rintro i H3 hi ⟨l, hl, hc, h3, s3, b3⟩
        refine ⟨rfl, ty_T ?_⟩
        walk_at "rd"
        refine ⟨_, _, rfl, s3, by rw [S_len]; omega, by rw [S_len]; omega, fun r H4 r0 r1 s4 b4 => ?_⟩
        rw [S_len] at r1
        have hr2 : r.toNat < sg.length := by omega
        have nDa : D ≠ a := by
          obtain ⟨d, sd, c, ha⟩ := id s2
          exact (ne_of_none ha hD).symm
        refine ⟨_, r, sg[r.toNat], rfl, rfl, sz_S (by omega), atI_at r0 (by show sg[r.toNat]? = _; simp [hr2]), ?_⟩
        have h4 := b4 _ _ nDa h3
        refine ⟨_, h4, by rw [List.length_map, hl]; exact Nat.lt_of_le_of_lt (m := 4) (by omega) (by decide), l ++ [sg[r.toNat]], by simp [hl], ?_, ?_, ?_, ?_⟩
        · intro c hcc
          rcases List.mem_append.mp hcc with q | q
          · exact hc c q
          · rw [List.mem_singleton] at q; rw [q]; exact List.getElem_mem hr2
        · rw [List.map_append]; exact upd_same
        · obtain ⟨d, sd, c, ha⟩ := id s4
          exact ⟨d, sd, c, by rw [upd_ne nDa.symm]; exact ha⟩
        · exact but_mut (b3.trans b4) hD
      · rintro H3 ⟨l, hl, hc, h3, s3, b3⟩
        have hjoin : Txt.join (S []) (l.map fun c => S [c]) = S l := by
          have := join_nil (l.map fun c => [c])
          rw [flat_one, List.map_map] at this
          exact this
        have hsum : ∀ l : List Nat, ((l.map fun c => S [c]).map (·.length)).sum = l.length := by
          intro l
          induction l with
          | nil => rfl
          | cons x l ih => rw [List.map_cons, List.map_cons, List.sum_cons, ih, S_len]; simp [Nat.add_comm]
        refine ⟨_, D, l.map fun c => S [c], rfl, rfl, .inl (SqL.of (by rw [List.map_map]; exact h3)), ?_, ?_⟩
        · show ((l.map fun c => S [c]).map (·.length)).sum + (l.map fun c => S [c]).length * 0 ≤ 16777216
          rw [hsum]
          omega
        · show gName 4 (.str (Txt.join (S []) (l.map fun c => S [c]))) _ _ _
          rw [hjoin]
          have nDa : D ≠ a := by
            obtain ⟨d, sd, c, ha⟩ := id s2
            exact (ne_of_none ha hD).symm
          have hDH : H D = none := b2.none_of nDa hD
          have fin : ∀ (r : List Nat) (H4 : Hp) (p : Addr), (∀ c ∈ r, c ∈ sg) → r.length ≤ 1 → r.length < l.length → Src H4 a → But a H3 H4 → H4 p = none → Q (.ref p) (upd H4 p (.tup (rTup (l, r)))) := by
            intro r H4 p hr0 hr1 hr2 s4 b4 hp
            have npa : p ≠ a := by
              obtain ⟨d, sd, c, ha⟩ := id s4
              exact (ne_of_none ha hp).symm
            refine k (l, r) p _ ⟨by show 1 ≤ l.length; omega, by show l.length ≤ m.toNat; omega, hc, hr0, hr1, hr2⟩ ?_ ?_ ?_ upd_same
            · obtain ⟨d, sd, c, ha⟩ := id s4
              exact ⟨d, sd, c, by rw [upd_ne npa.symm]; exact ha⟩
            · exact ((b2.trans b3).trans b4).trans (But.same (same_new hp))
            · exact ((b2.trans b3).trans b4).none_of npa hp
          walk_at "rd"
          refine ite2 (fun c0 => ?_) (fun c0 => ?_)
          · refine iteT ?_
            walk_at "rd"
            refine ⟨by walk_at "sz", fun p hp => ?_⟩
            exact fin [] H3 p (by simp) (by simp) (by show 0 < l.length; omega) s3 (But.refl a H3) hp
          · have hz : ¬ z = 1 := fun e => c0 (by rw [e]; rfl)
            walk_at "rd"
            refine ⟨_, _, rfl, s3, by decide, by decide, fun r H4 r0 r1 s4 b4 => ?_⟩
            walk_at "rd"
            refine ite2 (fun c1 => ?_) (fun c1 => ?_)
            · walk_at "rd"
              refine ⟨by walk_at "sz", fun p hp => ?_⟩
              exact fin [] H4 p (by simp) (by simp) (by show 0 < l.length; omega) s4 b4 hp
            · walk_at "rd"
              refine ⟨_, _, rfl, s4, by rw [S_len]; omega, by rw [S_len]; omega, fun r2 H5 r20 r21 s5 b5 => ?_⟩
              rw [S_len] at r21
              have hr2 : r2.toNat < sg.length := by omega
              refine ⟨_, r2, sg[r2.toNat], rfl, rfl, sz_S (by omega), atI_at r20 (by show sg[r2.toNat]? = _; simp [hr2]), ?_⟩
              refine ⟨by walk_at "sz", fun p hp => ?_⟩
              exact fin [sg[r2.toNat]] H5 p (by intro c hc; rw [List.mem_singleton] at hc; rw [hc]; exact List.getElem_mem hr2) (by simp) (by show 1 < l.length; omega) s5 (b4.trans b5) hp
end
end Sh
/-! texts, rules, piles, ends: plain Lean -/
namespace Bk
abbrev T := List Nat
abbrev Rule := T × T

def fits (p : T) (r : Rule) : Bool := r.1.isSuffixOf p
def useR (p : T) (r : Rule) : T := p.take (p.length - r.1.length) ++ r.2
def used (R : List Rule) (p : T) : Option T := (R.find? (fits p)).map (useR p)
def drain (R : List Rule) : Nat → T → T
  | 0, p => p
  | n + 1, p => match used R p with
    | none => p
    | some q => drain R n q
def pushS (R : List Rule) (p : T) (c : Nat) : T := drain R (p.length + 1) (p ++ [c])
def left (R : List Rule) (t : T) : T := t.foldl (pushS R) []

/-- every right side is shorter than its left side and has at most one sign -/
def Wf (R : List Rule) : Prop := ∀ r ∈ R, r.2.length < r.1.length ∧ r.2.length ≤ 1

inductive Step (R : List Rule) : T → T → Prop where
  | mk (x y : T) (r : Rule) (h : r ∈ R) : Step R (x ++ r.1 ++ y) (x ++ r.2 ++ y)
inductive Reach (R : List Rule) : T → T → Prop where
  | refl (t : T) : Reach R t t
  | step {a b c : T} : Step R a b → Reach R b c → Reach R a c
def IsEnd (R : List Rule) (t : T) : Prop := ∀ u, ¬ Step R t u

theorem Reach.trans {R : List Rule} {a b c : T} (h : Reach R a b) (k : Reach R b c) : Reach R a c := by
  induction h with
  | refl => exact k
  | step s _ ih => exact .step s (ih k)
theorem Step.ctx {R : List Rule} {a b : T} (x y : T) (h : Step R a b) : Step R (x ++ a ++ y) (x ++ b ++ y) := by
  cases h with
  | mk p q r hr =>
    have := Step.mk (R := R) (x ++ p) (q ++ y) r hr
    simpa [List.append_assoc] using this
theorem Reach.ctx {R : List Rule} {a b : T} (x y : T) (h : Reach R a b) : Reach R (x ++ a ++ y) (x ++ b ++ y) := by
  induction h with
  | refl => exact .refl _
  | step s _ ih => exact .step (s.ctx x y) ih
theorem Step.len {R : List Rule} (w : Wf R) {a b : T} (h : Step R a b) : b.length < a.length := by
  cases h with
  | mk p q r hr => have := (w r hr).1; simp; omega
theorem Reach.len {R : List Rule} (w : Wf R) {a b : T} (h : Reach R a b) : b.length ≤ a.length := by
  induction h with
  | refl => exact Nat.le_refl _
  | step s _ ih => have := s.len w; omega

theorem fits_iff {p : T} {r : Rule} : fits p r = true ↔ ∃ x, p = x ++ r.1 := by
  unfold fits
  rw [List.isSuffixOf_iff_suffix]
  constructor
  · rintro ⟨x, h⟩; exact ⟨x, h.symm⟩
  · rintro ⟨x, h⟩; exact ⟨x, h.symm⟩
theorem useR_app {x : T} {r : Rule} : useR (x ++ r.1) r = x ++ r.2 := by
  unfold useR
  simp
theorem used_some {R : List Rule} {p q : T} (h : used R p = some q) : ∃ x r, r ∈ R ∧ p = x ++ r.1 ∧ q = x ++ r.2 := by
  unfold used at h
  cases e : R.find? (fits p) with
  | none => rw [e] at h; cases h
  | some r =>
    rw [e] at h
    have hr := List.mem_of_find?_eq_some e
    have hf := List.find?_some e
    obtain ⟨x, hx⟩ := fits_iff.mp hf
    subst hx
    simp only [Option.map_some, Option.some.injEq] at h
    rw [useR_app] at h
    exact ⟨x, r, hr, rfl, h.symm⟩
theorem used_none {R : List Rule} {p : T} (h : used R p = none) : ∀ r ∈ R, ∀ x, p ≠ x ++ r.1 := by
  intro r hr x e
  unfold used at h
  rw [Option.map_eq_none_iff, List.find?_eq_none] at h
  exact h r hr (fits_iff.mpr ⟨x, e⟩)
theorem used_step {R : List Rule} {p q : T} (h : used R p = some q) : Step R p q := by
  obtain ⟨x, r, hr, rfl, rfl⟩ := used_some h
  have := Step.mk (R := R) x [] r hr
  simpa using this
theorem drain_reach {R : List Rule} : ∀ (n : Nat) (p : T), Reach R p (drain R n p)
  | 0, p => .refl _
  | n + 1, p => by
    unfold drain
    split
    · exact .refl _
    · next q h => exact .step (used_step h) (drain_reach n q)
theorem drain_none {R : List Rule} (w : Wf R) : ∀ (n : Nat) (p : T), p.length ≤ n → used R (drain R n p) = none
  | 0, p, h => by
    have : p = [] := by cases p with | nil => rfl | cons => simp at h
    subst this
    unfold drain
    cases e : used R [] with
    | none => rfl
    | some q => have := (used_step e).len w; simp at this
  | n + 1, p, h => by
    unfold drain
    split
    · next e => exact e
    · next q e =>
      have := (used_step e).len w
      exact drain_none w n q (by omega)
/-- all but the last sign is an end -/
def Near (R : List Rule) (p : T) : Prop := ∃ x y, p = x ++ y ∧ y.length ≤ 1 ∧ IsEnd R x
theorem isEnd_iff {R : List Rule} {t : T} : IsEnd R t ↔ ∀ r ∈ R, ∀ x y, t ≠ x ++ r.1 ++ y := by
  constructor
  · intro h r hr x y e
    exact h (x ++ r.2 ++ y) (e ▸ Step.mk x y r hr)
  · intro h u s
    cases s with
    | mk x y r hr => exact h r hr x y rfl
theorem IsEnd.pre {R : List Rule} {x y : T} (h : IsEnd R (x ++ y)) : IsEnd R x := by
  rw [isEnd_iff] at h ⊢
  intro r hr a b e
  refine h r hr a (b ++ y) ?_
  rw [e]; simp [List.append_assoc]
theorem IsEnd.infix {R : List Rule} {x y z : T} (h : IsEnd R (x ++ y ++ z)) : IsEnd R y := by
  rw [isEnd_iff] at h ⊢
  intro r hr a b e
  refine h r hr (x ++ a) (b ++ z) ?_
  rw [e]; simp [List.append_assoc]
theorem near_end {R : List Rule} (w : Wf R) {p : T} (h : Near R p) (hu : used R p = none) : IsEnd R p := by
  obtain ⟨x, y, rfl, hy, hx⟩ := h
  rw [isEnd_iff] at hx ⊢
  intro r hr a b e
  rcases List.append_eq_append_iff.mp e with ⟨c, e1, e2⟩ | ⟨c, e1, e2⟩
  · -- a ++ r.1 = x ++ c, y = c ++ b
    cases b with
    | nil => exact used_none hu r hr a (by rw [e]; simp)
    | cons b0 b' =>
      have : c = [] := by
        cases c with
        | nil => rfl
        | cons c0 c' =>
          have q := congrArg List.length e2
          simp at q
          omega
      subst this
      exact hx r hr a [] (by simpa using e1.symm)
  · exact hx r hr a c e1
theorem near_used {R : List Rule} (w : Wf R) {p q : T} (h : Near R p) (hu : used R p = some q) : Near R q := by
  obtain ⟨x, y, rfl, hy, hx⟩ := h
  obtain ⟨a, r, hr, e, rfl⟩ := used_some hu
  refine ⟨a, r.2, rfl, (w r hr).2, ?_⟩
  have hl := (w r hr).1
  rcases List.append_eq_append_iff.mp e with ⟨c, e1, e2⟩ | ⟨c, e1, e2⟩
  · -- a = x ++ c, y = c ++ r.1
    have : c = [] := by
      cases c with
      | nil => rfl
      | cons c0 c' =>
        have q := congrArg List.length e2
        simp at q
        omega
    subst this
    simp at e1
    rw [e1]; exact hx
  · rw [e1] at hx; exact hx.pre
theorem near_drain {R : List Rule} (w : Wf R) : ∀ (n : Nat) (p : T), Near R p → p.length ≤ n → IsEnd R (drain R n p)
  | 0, p, h, hn => by
    have hu := drain_none w 0 p hn
    exact near_end w h hu
  | n + 1, p, h, hn => by
    unfold drain
    split
    · next e => exact near_end w h e
    · next q e =>
      have := (used_step e).len w
      exact near_drain w n q (near_used w h e) (by omega)
theorem push_end {R : List Rule} (w : Wf R) {p : T} {c : Nat} (h : IsEnd R p) : IsEnd R (pushS R p c) :=
  near_drain w _ _ ⟨p, [c], rfl, Nat.le_refl _, h⟩ (by simp)
theorem foldl_end {R : List Rule} (w : Wf R) : ∀ (t p : T), IsEnd R p → IsEnd R (t.foldl (pushS R) p)
  | [], _, h => h
  | c :: t, p, h => foldl_end w t _ (push_end w h)
theorem end_nil {R : List Rule} (w : Wf R) : IsEnd R [] := by
  intro u s
  have := s.len w
  simp at this
theorem left_end {R : List Rule} (w : Wf R) (t : T) : IsEnd R (left R t) := foldl_end w t [] (end_nil w)
theorem foldl_reach {R : List Rule} : ∀ (t p : T), Reach R (p ++ t) (t.foldl (pushS R) p)
  | [], p => by simpa using Reach.refl (R := R) p
  | c :: t, p => by
    have h1 : Reach R (p ++ [c]) (pushS R p c) := drain_reach _ _
    have h2 := h1.ctx [] t
    have h3 := foldl_reach (R := R) t (pushS R p c)
    simp only [List.nil_append, List.append_assoc, List.singleton_append] at h2
    exact h2.trans h3
theorem left_reach {R : List Rule} (t : T) : Reach R t (left R t) := by
  exact foldl_reach (R := R) t []
theorem reach_end {R : List Rule} {a b : T} (h : IsEnd R a) (k : Reach R a b) : b = a := by
  cases k with
  | refl => rfl
  | step s _ => exact absurd s (h _)
theorem left_of_end {R : List Rule} {t : T} (h : IsEnd R t) : left R t = t := reach_end h (left_reach t)

/-! ### overlaps -/
def Join (R : List Rule) (a b : T) : Prop := ∃ c, Reach R a c ∧ Reach R b c
theorem Join.symm {R : List Rule} {a b : T} (h : Join R a b) : Join R b a := by
  obtain ⟨c, h1, h2⟩ := h; exact ⟨c, h2, h1⟩
theorem Join.ctx {R : List Rule} {a b : T} (x y : T) (h : Join R a b) : Join R (x ++ a ++ y) (x ++ b ++ y) := by
  obtain ⟨c, h1, h2⟩ := h; exact ⟨_, h1.ctx x y, h2.ctx x y⟩

/-- the overlap of a with b at a place below the length of a: the text, if they agree -/
def over (a b : T) (k : Nat) : Option T :=
  if (a.drop k).take (min (a.length - k) b.length) = b.take (min (a.length - k) b.length) then some (a ++ b.drop (min (a.length - k) b.length)) else none
/-- both results -/
def res1 (r : Rule) (t : T) : T := r.2 ++ t.drop r.1.length
def res2 (r : Rule) (t : T) (k : Nat) : T := t.take k ++ r.2 ++ t.drop (k + r.1.length)
/-- the overlaps of all pairs of rules, each with equal ends -/
def Meets (R : List Rule) : Prop := ∀ r ∈ R, ∀ q ∈ R, ∀ k, k < r.1.length → ∀ t, over r.1 q.1 k = some t → left R (res1 r t) = left R (res2 q t k)

theorem over_app {p b y a z : T} (h : p ++ b ++ y = a ++ z) (hk : p.length < a.length) :
    ∃ t y', over a b p.length = some t ∧ p ++ b ++ y = t ++ y' ∧ t.drop a.length ++ y' = z ∧ t.drop (p.length + b.length) ++ y' = y ∧ t.take p.length = p := by
  have hlen : (p ++ b ++ y).length = (a ++ z).length := by rw [h]
  simp at hlen
  rw [List.append_assoc] at h
  rcases List.append_eq_append_iff.mp h with ⟨c, e1, e2⟩ | ⟨c, e1, e2⟩
  · -- a = p ++ c, b ++ y = c ++ z
    subst e1
    rcases List.append_eq_append_iff.mp e2 with ⟨d, e3, e4⟩ | ⟨d, e3, e4⟩
    · -- c = b ++ d, y = d ++ z : b within a
      subst e3; subst e4
      refine ⟨p ++ (b ++ d), z, ?_, ?_, ?_, ?_, ?_⟩
      · unfold over
        have : min ((p ++ (b ++ d)).length - p.length) b.length = b.length := by simp
        rw [this]
        simp
      · simp [List.append_assoc]
      · simp
      · rw [← List.append_assoc p b d, ← List.length_append, List.drop_left]
      · simp
    · -- b = c ++ d, z = d ++ y
      subst e3; subst e4
      refine ⟨p ++ c ++ d, y, ?_, ?_, ?_, ?_, ?_⟩
      · unfold over
        have : min ((p ++ c).length - p.length) (c ++ d).length = c.length := by simp
        rw [this]
        simp
      · simp [List.append_assoc]
      · rw [List.drop_left]
      · simp [← Nat.add_assoc]
      · simp [List.append_assoc]
  · -- p = a ++ c
    subst e1
    simp at hk
    omega
theorem local_le {R : List Rule} (M : Meets R) {x1 y1 x2 y2 : T} {r q : Rule} (hr : r ∈ R) (hq : q ∈ R) (e : x1 ++ r.1 ++ y1 = x2 ++ q.1 ++ y2) (hl : x1.length ≤ x2.length) :
    Join R (x1 ++ r.2 ++ y1) (x2 ++ q.2 ++ y2) := by
  have e' : x1 ++ (r.1 ++ y1) = x2 ++ (q.1 ++ y2) := by simpa [List.append_assoc] using e
  obtain ⟨p, hp⟩ : ∃ p, x2 = x1 ++ p := by
    rcases List.append_eq_append_iff.mp e' with ⟨c, e1, _⟩ | ⟨c, e1, _⟩
    · exact ⟨c, e1⟩
    · have : c = [] := by
        have := congrArg List.length e1
        simp at this
        cases c with
        | nil => rfl
        | cons => simp at this; omega
      subst this
      exact ⟨[], by simpa using e1.symm⟩
  subst hp
  have e2 : r.1 ++ y1 = p ++ (q.1 ++ y2) := by
    rw [List.append_assoc] at e'
    exact List.append_cancel_left e'
  by_cases hk : p.length < r.1.length
  · obtain ⟨t, y', ho, _, hz, hy, htk⟩ := over_app (p := p) (b := q.1) (y := y2) (a := r.1) (z := y1) (by rw [e2, List.append_assoc]) hk
    have m := M r hr q hq p.length hk t ho
    have j : Join R (res1 r t) (res2 q t p.length) := ⟨_, left_reach _, m ▸ left_reach _⟩
    have j2 := j.ctx x1 y'
    have a1 : x1 ++ res1 r t ++ y' = x1 ++ r.2 ++ y1 := by
      unfold res1; rw [← hz]; simp [List.append_assoc]
    have a2 : x1 ++ res2 q t p.length ++ y' = x1 ++ p ++ q.2 ++ y2 := by
      unfold res2; rw [← hy, htk]; simp [List.append_assoc]
    rw [a1, a2] at j2
    exact j2
  · -- apart
    obtain ⟨m, hm⟩ : ∃ m, p = r.1 ++ m := by
      rcases List.append_eq_append_iff.mp e2 with ⟨c, e1, _⟩ | ⟨c, e1, _⟩
      · exact ⟨c, e1⟩
      · have : c = [] := by
          have := congrArg List.length e1
          simp at this
          cases c with
          | nil => rfl
          | cons => simp at this; omega
        subst this
        exact ⟨[], by simpa using e1.symm⟩
    subst hm
    have hy1 : y1 = m ++ (q.1 ++ y2) := by
      rw [List.append_assoc] at e2
      exact List.append_cancel_left e2
    subst hy1
    refine ⟨x1 ++ r.2 ++ m ++ q.2 ++ y2, ?_, ?_⟩
    · have := Step.mk (R := R) (x1 ++ r.2 ++ m) y2 q hq
      refine .step ?_ (.refl _)
      simpa [List.append_assoc] using this
    · have := Step.mk (R := R) x1 (m ++ q.2 ++ y2) r hr
      refine .step ?_ (.refl _)
      simpa [List.append_assoc] using this
theorem local_conf {R : List Rule} (M : Meets R) {s a b : T} (h : Step R s a) (k : Step R s b) : Join R a b := by
  generalize hs : s = s' at k
  cases h with
  | mk x1 y1 r hr =>
    cases k with
    | mk x2 y2 q hq =>
      by_cases hl : x1.length ≤ x2.length
      · exact local_le M hr hq hs hl
      · exact (local_le M hq hr hs.symm (by omega)).symm
/-- in a book whose overlaps meet each text has one end -/
theorem one_end {R : List Rule} (w : Wf R) (M : Meets R) : ∀ (n : Nat) (s : T), s.length ≤ n → ∀ a b, Reach R s a → Reach R s b → IsEnd R a → IsEnd R b → a = b
  | n, s, hn, a, b, ha, hb, ea, eb => by
    cases ha with
    | refl => exact (reach_end ea hb).symm
    | step s1 r1 =>
      cases hb with
      | refl => exact absurd s1 (eb _)
      | step s2 r2 =>
        rename_i u v
        cases n with
        | zero => have := s1.len w; omega
        | succ n =>
          have l1 := s1.len w
          have l2 := s2.len w
          obtain ⟨c, c1, c2⟩ := local_conf M s1 s2
          have z1 := one_end w M n u (by omega) a (left R c) r1 (c1.trans (left_reach c)) ea (left_end w c)
          have z2 := one_end w M n v (by omega) b (left R c) r2 (c2.trans (left_reach c)) eb (left_end w c)
          rw [z1, z2]
theorem left_eq {R : List Rule} (w : Wf R) (M : Meets R) {s a : T} (h : Reach R s a) : left R s = left R a :=
  one_end w M s.length s (Nat.le_refl _) _ _ (left_reach s) (h.trans (left_reach a)) (left_end w s) (left_end w a)
/-- pieces may be shrunk apart -/
theorem left_app {R : List Rule} (w : Wf R) (M : Meets R) (x y : T) : left R (x ++ y) = left R (left R x ++ left R y) := by
  refine left_eq w M ?_
  have h1 := (left_reach (R := R) x).ctx [] y
  have h2 := (left_reach (R := R) y).ctx (left R x) []
  simp only [List.nil_append, List.append_nil] at h1 h2
  exact h1.trans h2
theorem left_congr {R : List Rule} (w : Wf R) (M : Meets R) {x x' y y' : T} (h : left R x = left R x') (k : left R y = left R y') : left R (x ++ y) = left R (x' ++ y') := by
  rw [left_app w M x y, left_app w M x' y', h, k]

/-! ### exchanging signs -/
def Swap (R : List Rule) (x y : T) : Prop := left R (x ++ y) = left R (y ++ x)
theorem Swap.app {R : List Rule} (w : Wf R) (M : Meets R) {x y z : T} (h : Swap R x z) (k : Swap R y z) : Swap R (x ++ y) z := by
  unfold Swap at *
  have e1 : left R (x ++ y ++ z) = left R (x ++ z ++ y) := by
    rw [List.append_assoc, List.append_assoc]
    exact left_congr w M rfl k
  have e2 : left R (x ++ z ++ y) = left R (z ++ x ++ y) := left_congr w M h rfl
  rw [e1, e2, List.append_assoc]
theorem Swap.symm {R : List Rule} {x y : T} (h : Swap R x y) : Swap R y x := Eq.symm h
theorem swap_all {R : List Rule} (w : Wf R) (M : Meets R) {s : List Nat} (h : ∀ a ∈ s, ∀ b ∈ s, Swap R [a] [b]) :
    ∀ x y : T, (∀ c ∈ x, c ∈ s) → (∀ c ∈ y, c ∈ s) → Swap R x y := by
  have one : ∀ (a : Nat), a ∈ s → ∀ y : T, (∀ c ∈ y, c ∈ s) → Swap R y [a] := by
    intro a ha y
    induction y with
    | nil => intro _; unfold Swap; simp
    | cons b y ih =>
      intro hy
      exact Swap.app (x := [b]) (y := y) w M (h b (hy b List.mem_cons_self) a ha) (ih fun c hc => hy c (List.mem_cons_of_mem _ hc))
  intro x
  induction x with
  | nil => intro y _ _; unfold Swap; simp
  | cons a x ih =>
    intro y hx hy
    exact Swap.app (x := [a]) (y := x) w M (one a (hx a List.mem_cons_self) y hy).symm (ih y (fun c hc => hx c (List.mem_cons_of_mem _ hc)) hy)
end Bk
/-! the pile of the program: rules by their left sides; plain Lean -/
namespace Bk
def firstAt : List Rule → Nat → T → Option (Nat × T)
  | [], _, _ => none
  | r :: R, k, l => if r.1 = l then some (k, r.2) else firstAt R (k + 1) l
theorem firstAt_app (R Q : List Rule) (k : Nat) (l : T) : firstAt (R ++ Q) k l = match firstAt R k l with
    | some z => some z
    | none => firstAt Q (k + R.length) l := by
  induction R generalizing k with
  | nil => simp [firstAt]
  | cons r R ih =>
    simp only [List.cons_append, firstAt]
    by_cases h : r.1 = l
    · simp [h]
    · simp only [h, if_false]
      rw [ih (k + 1)]
      have : k + 1 + R.length = k + (r :: R).length := by simp; omega
      rw [this]
theorem firstAt_snoc (R : List Rule) (r : Rule) (l : T) : firstAt (R ++ [r]) 0 l = match firstAt R 0 l with
    | some z => some z
    | none => if r.1 = l then some (R.length, r.2) else none := by
  rw [firstAt_app]
  simp [firstAt]
theorem firstAt_snoc_some {R : List Rule} (r : Rule) {l : T} {z : Nat × T} (h : firstAt R 0 l = some z) : firstAt (R ++ [r]) 0 l = some z := by
  rw [firstAt_snoc, h]
theorem firstAt_snoc_none {R : List Rule} (r : Rule) {l : T} (h : firstAt R 0 l = none) : firstAt (R ++ [r]) 0 l = if r.1 = l then some (R.length, r.2) else none := by
  rw [firstAt_snoc, h]
theorem firstAt_none {R : List Rule} {k : Nat} {l : T} : firstAt R k l = none ↔ ∀ r ∈ R, r.1 ≠ l := by
  induction R generalizing k with
  | nil => simp [firstAt]
  | cons r R ih =>
    simp only [firstAt, List.mem_cons, forall_eq_or_imp]
    by_cases h : r.1 = l
    · simp [h]
    · simp [h, ih]
theorem firstAt_some {R : List Rule} {k j : Nat} {l s : T} (h : firstAt R k l = some (j, s)) : k ≤ j ∧ R[j - k]? = some (l, s) ∧ ∀ i, i < j - k → ∀ r, R[i]? = some r → r.1 ≠ l := by
  induction R generalizing k with
  | nil => simp [firstAt] at h
  | cons r R ih =>
    simp only [firstAt] at h
    by_cases hr : r.1 = l
    · rw [if_pos hr] at h
      simp only [Option.some.injEq, Prod.mk.injEq] at h
      obtain ⟨rfl, rfl⟩ := h
      refine ⟨Nat.le_refl _, by simp [← hr], fun i hi => by omega⟩
    · rw [if_neg hr] at h
      obtain ⟨h1, h2, h3⟩ := ih h
      have e : j - k = (j - (k + 1)) + 1 := by omega
      refine ⟨by omega, by rw [e]; simpa using h2, fun i hi q hq => ?_⟩
      cases i with
      | zero => simp at hq; rw [← hq]; exact hr
      | succ i => exact h3 i (by omega) q (by simpa using hq)
/-- the length of the longest left side -/
def lg (R : List Rule) : Nat := (R.map (·.1.length)).foldl max 0
theorem foldl_max_le {l : List Nat} {a : Nat} : a ≤ l.foldl max a ∧ ∀ x ∈ l, x ≤ l.foldl max a := by
  induction l generalizing a with
  | nil => simp
  | cons b l ih =>
    obtain ⟨h1, h2⟩ := ih (a := max a b)
    simp only [List.foldl_cons, List.mem_cons, forall_eq_or_imp]
    exact ⟨Nat.le_trans (Nat.le_max_left _ _) h1, Nat.le_trans (Nat.le_max_right _ _) h1, h2⟩
theorem foldl_max_mem {l : List Nat} {a : Nat} : l.foldl max a = a ∨ l.foldl max a ∈ l := by
  induction l generalizing a with
  | nil => simp
  | cons b l ih =>
    simp only [List.foldl_cons, List.mem_cons]
    rcases ih (a := max a b) with h | h
    · rw [h]
      rcases Nat.le_total a b with q | q
      · right; left; exact Nat.max_eq_right q
      · left; exact Nat.max_eq_left q
    · exact .inr (.inr h)
theorem lg_le {R : List Rule} {r : Rule} (h : r ∈ R) : r.1.length ≤ lg R := foldl_max_le.2 _ (List.mem_map_of_mem h)
theorem lg_eq {R : List Rule} {m : Nat} (h1 : m ∈ 0 :: R.map (·.1.length)) (h2 : ∀ y ∈ 0 :: R.map (·.1.length), y ≤ m) : m = lg R := by
  have a : lg R ≤ m := by
    rcases foldl_max_mem (l := R.map (·.1.length)) (a := 0) with h | h
    · unfold lg; rw [h]; exact Nat.zero_le _
    · exact h2 _ (List.mem_cons_of_mem _ h)
  have b : m ≤ lg R := by
    rcases List.mem_cons.mp h1 with h | h
    · rw [h]; exact Nat.zero_le _
    · exact foldl_max_le.2 _ h
  omega
/-- the best rule of left sides up to i signs: its number, its size, its right side -/
def bestUp (R : List Rule) (t : T) : Nat → Option (Nat × Nat × T)
  | 0 => none
  | i + 1 => match firstAt R 0 (t.drop (t.length - (i + 1))) with
    | none => bestUp R t i
    | some (k, r) => match bestUp R t i with
      | none => some (k, i + 1, r)
      | some b => if k < b.1 then some (k, i + 1, r) else some b
/-- rules with at most i signs that stand at the end -/
def Fit (R : List Rule) (t : T) (i k : Nat) (r : Rule) : Prop := R[k]? = some r ∧ 1 ≤ r.1.length ∧ r.1.length ≤ i ∧ ∃ x, t = x ++ r.1
theorem suffix_drop {t x l : T} (h : t = x ++ l) : t.drop (t.length - l.length) = l := by
  subst h; simp
theorem bestUp_spec (R : List Rule) (t : T) : ∀ i, i ≤ t.length → match bestUp R t i with
    | none => ∀ k r, ¬ Fit R t i k r
    | some (k, s, r) => (∃ l, Fit R t i k (l, r) ∧ l.length = s) ∧ ∀ k' r', Fit R t i k' r' → k ≤ k'
  | 0, _ => by
    simp only [bestUp]
    rintro k r ⟨_, h1, h2, _⟩
    omega
  | i + 1, hi => by
    have ih := bestUp_spec R t i (by omega)
    have wide : ∀ (k : Nat) (r : Rule), Fit R t (i + 1) k r → Fit R t i k r ∨ (r.1.length = i + 1 ∧ R[k]? = some r ∧ r.1 = t.drop (t.length - (i + 1))) := by
      rintro k r ⟨h1, h2, h3, x, hx⟩
      by_cases e : r.1.length = i + 1
      · exact .inr ⟨e, h1, by rw [← e]; exact (suffix_drop hx).symm⟩
      · exact .inl ⟨h1, h2, by omega, x, hx⟩
    have mono : ∀ (k : Nat) (r : Rule), Fit R t i k r → Fit R t (i + 1) k r := fun k r ⟨h1, h2, h3, h4⟩ => ⟨h1, h2, by omega, h4⟩
    simp only [bestUp]
    cases hf : firstAt R 0 (t.drop (t.length - (i + 1))) with
    | none =>
      have hn := firstAt_none.mp hf
      have no : ∀ (k : Nat) (r : Rule), R[k]? = some r → r.1 ≠ t.drop (t.length - (i + 1)) := fun k r h => hn r (List.mem_of_getElem? h)
      cases hb : bestUp R t i with
      | none =>
        rw [hb] at ih
        intro k r h
        rcases wide k r h with q | ⟨_, q1, q2⟩
        · exact ih k r q
        · exact no k r q1 q2
      | some b =>
        obtain ⟨k, s, r⟩ := b
        rw [hb] at ih
        obtain ⟨⟨l, h1, h2⟩, h3⟩ := ih
        refine ⟨⟨l, mono _ _ h1, h2⟩, fun k' r' h => ?_⟩
        rcases wide k' r' h with q | ⟨_, q1, q2⟩
        · exact h3 k' r' q
        · exact absurd q2 (no k' r' q1)
    | some z =>
      obtain ⟨k, r⟩ := z
      obtain ⟨_, f2, f3⟩ := firstAt_some hf
      rw [Nat.sub_zero] at f2 f3
      have hl : (t.drop (t.length - (i + 1))).length = i + 1 := by rw [List.length_drop]; omega
      have new : Fit R t (i + 1) k (t.drop (t.length - (i + 1)), r) := ⟨f2, by simp only; omega, by simp only; omega, t.take (t.length - (i + 1)), by simp⟩
      have least : ∀ (k' : Nat) (r' : Rule), R[k']? = some r' → r'.1 = t.drop (t.length - (i + 1)) → k ≤ k' := fun k' r' h e => by
        rcases Nat.lt_or_ge k' k with q | q
        · exact absurd e (f3 k' q r' h)
        · exact q
      cases hb : bestUp R t i with
      | none =>
        rw [hb] at ih
        refine ⟨⟨_, new, hl⟩, fun k' r' h => ?_⟩
        rcases wide k' r' h with q | ⟨_, q1, q2⟩
        · exact absurd q (ih k' r')
        · exact least k' r' q1 q2
      | some b =>
        obtain ⟨kb, sb, rb⟩ := b
        rw [hb] at ih
        obtain ⟨⟨l, h1, h2⟩, h3⟩ := ih
        simp only
        by_cases hk : k < kb
        · rw [if_pos hk]
          refine ⟨⟨_, new, hl⟩, fun k' r' h => ?_⟩
          rcases wide k' r' h with q | ⟨_, q1, q2⟩
          · have := h3 k' r' q; omega
          · exact least k' r' q1 q2
        · rw [if_neg hk]
          refine ⟨⟨l, mono _ _ h1, h2⟩, fun k' r' h => ?_⟩
          rcases wide k' r' h with q | ⟨_, q1, q2⟩
          · exact h3 k' r' q
          · have := least k' r' q1 q2; omega
theorem find_least {R : List Rule} {p : Rule → Bool} {k : Nat} {r : Rule} (h1 : R[k]? = some r) (h2 : p r = true) (h3 : ∀ k' r', R[k']? = some r' → p r' = true → k ≤ k') : R.find? p = some r := by
  induction R generalizing k with
  | nil => simp at h1
  | cons a R ih =>
    cases k with
    | zero =>
      simp at h1
      subst h1
      simp [h2]
    | succ k =>
      have ha : p a = false := by
        cases e : p a with
        | false => rfl
        | true => have := h3 0 a (by simp) e; omega
      rw [List.find?_cons, ha]
      exact ih (k := k) (by simpa using h1) (fun k' r' q1 q2 => by have := h3 (k' + 1) r' (by simpa using q1) q2; omega)
/-- what the program finds is what the first fitting rule gives -/
theorem used_best {R : List Rule} (w : Wf R) (t : T) : used R t = (bestUp R t (min (lg R) t.length)).map fun b => t.take (t.length - b.2.1) ++ b.2.2 := by
  have sp := bestUp_spec R t (min (lg R) t.length) (by omega)
  have full : ∀ (k : Nat) (r : Rule), R[k]? = some r → fits t r = true → Fit R t (min (lg R) t.length) k r := by
    intro k r h f
    obtain ⟨x, hx⟩ := fits_iff.mp f
    have hm := List.mem_of_getElem? h
    have h1 := (w r hm).1
    have h2 := lg_le hm
    have h3 : r.1.length ≤ t.length := by rw [hx]; simp
    exact ⟨h, by omega, by omega, x, hx⟩
  cases hb : bestUp R t (min (lg R) t.length) with
  | none =>
    rw [hb] at sp
    simp only [Option.map_none]
    unfold used
    rw [Option.map_eq_none_iff, List.find?_eq_none]
    intro r hr f
    obtain ⟨k, hk, rfl⟩ := List.mem_iff_getElem.mp hr
    exact sp k R[k] (full k R[k] (by simp [hk]) f)
  | some b =>
    obtain ⟨k, s, r⟩ := b
    rw [hb] at sp
    obtain ⟨⟨l, ⟨h1, h2, h3, x, hx⟩, hs⟩, h4⟩ := sp
    have hf : R.find? (fits t) = some (l, r) := find_least h1 (fits_iff.mpr ⟨x, hx⟩) (fun k' r' q1 q2 => h4 k' r' (full k' r' q1 q2))
    unfold used
    rw [hf]
    simp only [Option.map_some, useR, hs]
end Bk
-- OWN
set_option Elab.async false
set_option linter.all false
set_option maxRecDepth 100000
set_option maxHeartbeats 4000000
namespace Sh
open PySem PySem.Spec PyProof.Rows L2
open SX (S S_inj S_len S_cat)
open Bk (Rule firstAt lg bestUp used left drain pushS Wf)
local macro_rules | `(tactic| walk_at "nx") => `(tactic| repeat (with_reducible first | refine Sh.gn_mk ?_ | refine Sh.nx_mk ?_ | refine Sh.st_nx ?_ | refine Sh.rt_mk ?_ | refine Sh.ct_mk ?_ | refine Sh.bk_mk ?_))
local macro_rules | `(tactic| walk_at "sq") => `(tactic| first | exact SqL.of upd_same | exact SqT.of upd_same | exact SqL.of (by assumption) | exact SqT.of (by assumption) | assumption | exact Or.inl (SqL.of (by assumption)) | exact Or.inr (SqT.of (by assumption)) | exact Or.inl (by assumption) | exact Or.inr (by assumption))
local macro_rules | `(tactic| walk_at "hp") => `(tactic| first | exact upd_same | assumption)
local macro_rules | `(tactic| walk_at "sz") => `(tactic| first | exact Nat.le_of_ble_eq_true rfl | omega)
local macro_rules | `(tactic| walk_at "sd") => `(tactic| first | omega | exact rfl | assumption | (show (0 : Int) < _; omega) | exact And.intro (by omega) (by omega) | exact Or.inl (And.intro (by omega) (by omega)) | exact Or.inr (And.intro (by omega) (by omega)) | omega | exact Sh.sz_S (by omega) | decide)
local macro_rules | `(tactic| walk_at "rd1") => `(tactic| first
  | (with_reducible first | refine Sh.gn_mk ?_ | refine Sh.nx_mk ?_ | refine Sh.st_nx ?_ | refine Sh.rt_mk ?_ | refine Sh.ct_mk ?_ | refine Sh.bk_mk ?_)
  | refine Exists.intro (α := V) _ (And.intro rfl ?_)
  | refine Exists.intro (α := Bool) _ (And.intro rfl ?_)
  | refine Exists.intro (α := Int) _ (And.intro rfl ?_)
  | refine Exists.intro (α := PySem.Str) _ (And.intro rfl ?_)
  | refine Exists.intro (α := Int) _ (Exists.intro (α := Int) _ (And.intro rfl (And.intro rfl ?_)))
  | refine Exists.intro (α := PySem.Str) _ (Exists.intro (α := PySem.Str) _ (And.intro rfl (And.intro rfl ?_)))
  | refine Exists.intro (α := Int) _ (Exists.intro (α := Int) _ (And.intro rfl ?_))
  | refine Or.inl (Exists.intro (α := Int) _ (And.intro rfl ?_))
  | refine Exists.intro _ (Exists.intro _ (Exists.intro _ (Exists.intro _ (And.intro rfl (And.intro rfl (And.intro (by walk_at "sq") (And.intro rfl ?_)))))))
  | refine Exists.intro _ (Exists.intro _ (Exists.intro _ (Exists.intro _ (And.intro rfl (And.intro rfl (And.intro (by walk_at "hp") (And.intro rfl ?_)))))))
  | refine And.intro (by walk_at "sd") ?_
  )
local macro_rules | `(tactic| walk_at "rd") => `(tactic| repeat walk_at "rd1")
local macro_rules | `(tactic| walk_at "lk") => `(tactic| first | exact rfl | (rw [lookup_putF, if_pos rfl]) | (rw [lookup_putF, if_neg (by decide +kernel)]; walk_at "lk"))

section
variable {P : Program} {w : World} {K : PySem.W.Frag} {mg : Str → Option Value} {base : Heap}
/-! ### kinds of values -/
def tys : List String := ["NoneType", "bool", "int", "str", "list", "tuple", "dict"]
def isaB (n m : String) : Bool := n == m || (n == "bool" && m == "int")
theorem kit_all : ∀ n ∈ tys, ∀ m ∈ ["tuple", "list", "str", "int", "bool"], kitB n m = some (isaB n m) := by decide +kernel
theorem ty_tup {H : Hp} {a : Addr} {xs : List V} (h : SqT K H a xs) : TyX K H (.ref a) (.type "tuple") := by
  rcases h with (h | ⟨o, h⟩) | ⟨o, its, n, hk, hc, _⟩
  · exact .base (.tup h)
  · exact .fTuple h
  · exact .kTuple hk hc
theorem ty_lst {H : Hp} {a : Addr} {xs : List V} (h : SqL K H a xs) : TyX K H (.ref a) (.type "list") := by
  rcases h with (h | ⟨o, h⟩) | ⟨o, its, n, hk, hc, _⟩
  · exact .base (.lst h)
  · exact .base (.frz h)
  · exact .kList hk hc
def spListed (K : PySem.W.Frag) : Sp := fun vs H Q _ => ∃ (v : V) (n : String), vs = [v] ∧ TyX K H v (.type n) ∧ n ∈ tys ∧ Q (.bl (n == "tuple" || n == "list")) H
theorem isaB_tup {n : String} (h : n ∈ tys) : isaB n "tuple" = (n == "tuple") := by
  simp only [tys, List.mem_cons, List.not_mem_nil, or_false] at h
  rcases h with rfl | rfl | rfl | rfl | rfl | rfl | rfl <;> decide
theorem isaB_lst {n : String} (h : n ∈ tys) : isaB n "list" = (n == "list") := by
  simp only [tys, List.mem_cons, List.not_mem_nil, or_false] at h
  rcases h with rfl | rfl | rfl | rfl | rfl | rfl | rfl <;> decide
theorem isaB_str {n : String} (h : n ∈ tys) : isaB n "str" = (n == "str") := by
  simp only [tys, List.mem_cons, List.not_mem_nil, or_false] at h
  rcases h with rfl | rfl | rfl | rfl | rfl | rfl | rfl <;> decide
theorem c_is_listed (T : Txt K mg) : Cal P w K mg base CX0 1 "is_listed" (spListed K) := by
  refine Cal.mk0 T.d_is_listed sc_is_listed (fun vs H Q E h => ?_) (fun f cdv A outer s H vs Q E hr h => ?_)
  · obtain ⟨v, n, rfl, _⟩ := h
    rfl
  · obtain ⟨v, n, rfl, ht, hn, k⟩ := h
    refine ⟨_, (pss_one (ps_ret (pe_or (pe_callB call_isi (by rfl) T.b_isinstance (by decide +kernel) (pa_cons (pv 0) (pa_cons (pe_bltn (v := .ty "tuple") (by rfl) T.b_tuple (by decide +kernel) rfl) pa_nil))) (pe_one (pe_callB call_isi (by rfl) T.b_isinstance (by decide +kernel) (pa_cons (pv 0) (pa_cons (pe_bltn (v := .ty "list") (by rfl) T.b_list (by decide +kernel) rfl) pa_nil))))))), ?_⟩
    walk_at "rd"
    refine ⟨_, _, _, _, _, rfl, .ty _, ht, kit_ty (kit_all _ hn _ (by decide)), _, rfl, ?_⟩
    rw [isaB_tup hn]
    by_cases c : (n == "tuple") = true
    · rw [c] at k ⊢
      exact iteT k
    · rw [Bool.not_eq_true] at c
      rw [c] at k ⊢
      refine iteF ?_
      walk_at "rd"
      refine ⟨_, _, _, _, _, rfl, .ty _, ht, kit_ty (kit_all _ hn _ (by decide)), ?_⟩
      rw [isaB_lst hn]
      exact k
/-! ### signs -/
def letters : List Nat := (Str.ofString "abcdefghijklmnopqrstuvwxyz").cps.toList
def okAt (sg : List Nat) (k : Nat) : Bool := decide (sg.getD k 0 ∈ letters) && (k == 0 || decide ([sg.getD (k - 1) 0] < [sg.getD k 0]))
def isSigns (sg : List Nat) : Bool := decide (1 ≤ sg.length) && decide (sg.length ≤ 8) && (List.range sg.length).all (okAt sg)
theorem menu_signs : ∀ sg ∈ sgMenu, isSigns sg = true := by decide +kernel
theorem menu_len : ∀ sg ∈ sgMenu, 0 < sg.length ∧ sg.length ≤ 3 := by decide +kernel
/-- a value that is no text -/
def NotStr (K : PySem.W.Frag) (H : Hp) (v : V) : Prop := ∃ n, TyX K H v (.type n) ∧ n ∈ tys ∧ n ≠ "str"
/-- is_signs of a text, or of what is none -/
def spIsSigns (K : PySem.W.Frag) : Sp := fun vs H Q _ => (∃ sg : List Nat, vs = [.str (S sg)] ∧ sg.length ≤ 1000000 ∧ Q (.bl (isSigns sg)) H) ∨ ∃ v : V, vs = [v] ∧ NotStr K H v ∧ Q (.bl false) H
theorem getD_some {l : List Nat} {k : Nat} (h : k < l.length) : l[k]? = some (l.getD k 0) := by
  rw [List.getD_eq_getElem?_getD, List.getElem?_eq_getElem h]; rfl
theorem c_is_signs (T : Txt K mg) : Cal P w K mg base CX0 1 "is_signs" (spIsSigns K) := by
  refine Cal.mk0 T.d_is_signs sc_is_signs (fun vs H Q E h => ?_) (fun f cdv A outer s H vs Q E hr h => ?_)
  · rcases h with ⟨sg, rfl, _⟩ | ⟨v, rfl, _⟩ <;> rfl
  · rcases h with ⟨sg, rfl, hl, k⟩ | ⟨v, rfl, ⟨n, ht, hn, hs⟩, k⟩
    rotate_left
    · refine ⟨_, (pss_cons (ps_if (PW.pt (pw_or (pt_not (pt_val (pe_callB call_isi (by rfl) T.b_isinstance (by decide +kernel) (pa_cons (pv 0) (pa_cons (pe_bltn (v := .ty "str") (by rfl) T.b_str (by decide +kernel) rfl) pa_nil))))) (pw_or1 (pt_not (pt_chain op_le op_le pe_int (pe_callB call_len_str (by rfl) T.b_len (by decide +kernel) (pa_cons (pv 0) pa_nil)) pe_int)))))
    (pss_one (ps_ret pe_bl))
    pss_nil)
  (pss_cons (ps_for PassesOwn.never rfl (pi_range1 (by rfl) T.b_range (pa_cons (pe_callB call_len_str (by rfl) T.b_len (by decide +kernel) (pa_cons (pv 0) pa_nil)) pa_nil)) (pg_name (i := 1) sc_is_signs.nd rfl (Or.inl rfl))
    (pss_one (ps_if (PW.pt (pw_or (pt_cmpR op_notIn_sign (pe_ix ix_str (pv 0) (pv 1) (fun _ _ => rfl)) (pe_gK rfl T.g_LETTERS) (by rfl)) (pw_or1 (PW.pt (pw_and (pt_cmpR op_gt (pv 1) pe_int (nomark _)) (pw_and1 (pt_cmpR op_ge_str (pe_ix ix_str (pv 0) (pe_op op_sub (pv 1) pe_int) (fun _ _ => rfl)) (pe_ix ix_str (pv 0) (pv 1) (fun _ _ => rfl)) (nomark _))))))))
      (pss_one (ps_ret pe_bl))
      pss_nil)))
  (pss_one (ps_ret pe_bl)))), ?_⟩
      walk_at "rd"
      refine ⟨_, _, _, _, _, rfl, .ty _, ht, kit_ty (kit_all _ hn _ (by decide)), _, rfl, ?_⟩
      rw [isaB_str hn, show (n == "str") = false from by simp [hs]]
      refine iteT ?_
      walk_at "rd"
      exact k
    refine ⟨_, (pss_cons (ps_if (PW.pt (pw_or (pt_not (pt_val (pe_callB call_isi (by rfl) T.b_isinstance (by decide +kernel) (pa_cons (pv 0) (pa_cons (pe_bltn (v := .ty "str") (by rfl) T.b_str (by decide +kernel) rfl) pa_nil))))) (pw_or1 (pt_not (pt_chain op_le op_le pe_int (pe_callB call_len_str (by rfl) T.b_len (by decide +kernel) (pa_cons (pv 0) pa_nil)) pe_int)))))
    (pss_one (ps_ret pe_bl))
    pss_nil)
  (pss_cons (ps_for PassesOwn.never rfl (pi_range1 (by rfl) T.b_range (pa_cons (pe_callB call_len_str (by rfl) T.b_len (by decide +kernel) (pa_cons (pv 0) pa_nil)) pa_nil)) (pg_name (i := 1) sc_is_signs.nd rfl (Or.inl rfl))
    (pss_one (ps_if (PW.pt (pw_or (pt_cmpR op_notIn_sign (pe_ix ix_str (pv 0) (pv 1) (fun _ _ => rfl)) (pe_gK rfl T.g_LETTERS) (by rfl)) (pw_or1 (PW.pt (pw_and (pt_cmpR op_gt (pv 1) pe_int (nomark _)) (pw_and1 (pt_cmpR op_ge_str (pe_ix ix_str (pv 0) (pe_op op_sub (pv 1) pe_int) (fun _ _ => rfl)) (pe_ix ix_str (pv 0) (pv 1) (fun _ _ => rfl)) (nomark _))))))))
      (pss_one (ps_ret pe_bl))
      pss_nil)))
  (pss_one (ps_ret pe_bl)))), ?_⟩
    walk_at "rd"
    refine ⟨_, _, _, _, _, rfl, .ty _, .base (.str _), kit_ty (r := true) (by decide +kernel), _, rfl, ?_⟩
    refine iteF ?_
    have hSl := S_len sg
    have bad : ∀ b : Bool, isSigns sg = b → Q (.bl b) H := fun b e => e ▸ k
    walk_at "rd"
    refine ite2 (fun c0 => ?_) (fun c0 => ?_)
    · have c0' : (1 : Int) ≤ (S sg).length := of_decide_eq_true c0
      walk_at "rd"
      refine ite2 (fun c1 => ?_) (fun c1 => ?_)
      · walk_at "rd"
        refine bad false ?_
        have c1' : ¬ ((S sg).length : Int) ≤ 8 := by simpa using c1
        have c2 : ¬ sg.length ≤ 8 := by omega
        simp only [isSigns, c2, decide_false, Bool.and_false, Bool.false_and]
      · have c1' : ((S sg).length : Int) ≤ 8 := by simpa using c1
        walk_at "rd"
        refine for_range (lo := 0) (n := (((S sg).length : Int)).toNat) (fun i σ H2 => (∃ v, σ = [some (.str (S sg)), v]) ∧ H2 = H ∧ ∀ j, j < i → okAt sg j = true)
          ⟨⟨_, rfl⟩, rfl, fun j hj => by omega⟩ ?_ ?_
        · rintro i σ H2 hi ⟨⟨v, rfl⟩, rfl, ok⟩
          have hi2 : i < sg.length := by omega
          have e1 : atI sg ((0 : Int) + i) = some (sg.getD i 0) := atI_at (by omega) (by rw [show ((0 : Int) + i).toNat = i by omega]; exact getD_some hi2)
          walk_at "rd"
          refine ⟨_, _, _, rfl, rfl, sz_S hl, e1, ?_⟩
          refine ⟨_, _, rfl, rfl, ?_⟩
          have notOk : okAt sg i = false → isSigns sg = false := fun e => by
            cases hb : isSigns sg with
            | false => rfl
            | true =>
              simp only [isSigns, Bool.and_eq_true, List.all_eq_true] at hb
              rw [hb.2 i (List.mem_range.mpr hi2)] at e
              cases e
          have more : okAt sg i = true → ∀ j, j < i + 1 → okAt sg j = true := fun e j hj => by
            rcases Nat.lt_succ_iff_lt_or_eq.mp hj with q | q
            · exact ok j q
            · rw [q]; exact e
          walk_at "rd"
          refine ite2 (fun d0 => ?_) (fun d0 => ?_)
          · refine iteT ?_
            walk_at "rd"
            refine bad false (notOk ?_)
            have d1 : ¬ sg.getD i 0 ∈ letters := by
              intro hm
              have : decide (sg.getD i 0 ∈ letters) = true := decide_eq_true hm
              rw [show (PySem.Str.cps (Str.ofString "abcdefghijklmnopqrstuvwxyz")).toList = letters from rfl, this] at d0
              cases d0
            simp only [okAt, d1, decide_false, Bool.false_and]
          · have d1 : sg.getD i 0 ∈ letters := by
              by_cases hm : sg.getD i 0 ∈ letters
              · exact hm
              · exact absurd (by rw [show (PySem.Str.cps (Str.ofString "abcdefghijklmnopqrstuvwxyz")).toList = letters from rfl, decide_eq_false hm]; rfl) d0
            walk_at "rd"
            refine ite2 (fun d2 => ?_) (fun d2 => ?_)
            · have d3 : (0 : Int) < 0 + i := of_decide_eq_true d2
              have e2 : atI sg ((0 : Int) + i - 1) = some (sg.getD (i - 1) 0) := atI_at (by omega) (by rw [show ((0 : Int) + i - 1).toNat = i - 1 by omega]; exact getD_some (by omega))
              walk_at "rd"
              refine ⟨_, _, _, rfl, rfl, sz_S hl, e2, ?_⟩
              walk_at "rd"
              refine ⟨_, _, _, rfl, rfl, sz_S hl, e1, ?_⟩
              refine ⟨_, _, rfl, rfl, ?_⟩
              walk_at "rd"
              refine ite2 (fun d4 => ?_) (fun d4 => ?_)
              · walk_at "rd"
                refine bad false (notOk ?_)
                have d5 : decide ([sg.getD (i - 1) 0] < [sg.getD i 0]) = false := by
                  cases hd : decide ([sg.getD (i - 1) 0] < [sg.getD i 0]) with
                  | false => rfl
                  | true =>
                    have d4' : (!decide ([sg.getD (i - 1) 0] < [sg.getD i 0])) = true := d4
                    rw [hd] at d4'; cases d4'
                have d6 : (i == 0) = false := by rw [beq_eq_false_iff_ne]; omega
                simp only [okAt, d5, d6, Bool.or_false, Bool.and_false]
              · walk_at "rd"
                refine ⟨⟨_, rfl⟩, rfl, more ?_⟩
                have d5 : decide ([sg.getD (i - 1) 0] < [sg.getD i 0]) = true := by
                  cases hd : decide ([sg.getD (i - 1) 0] < [sg.getD i 0]) with
                  | true => rfl
                  | false =>
                    refine absurd ?_ d4
                    show (!decide ([sg.getD (i - 1) 0] < [sg.getD i 0])) = true
                    rw [hd]; rfl
                simp only [okAt, d1, d5, decide_true, Bool.or_true, Bool.and_true]
            · have d3 : i = 0 := by
                have : ¬ (0 : Int) < 0 + i := by simpa using d2
                omega
              refine iteF ?_
              walk_at "rd"
              refine ⟨⟨_, rfl⟩, rfl, more ?_⟩
              subst d3
              simp only [okAt, d1, decide_true, Bool.true_and, beq_self_eq_true, Bool.true_or]
        · rintro σ H2 ⟨⟨v, rfl⟩, rfl, ok⟩
          walk_at "rd"
          refine bad true ?_
          have c2 : 1 ≤ sg.length := by omega
          have c3 : sg.length ≤ 8 := by omega
          simp only [isSigns, c2, c3, decide_true, Bool.true_and, List.all_eq_true]
          intro j hj
          exact ok j (by have := List.mem_range.mp hj; omega)
    · have c0' : ¬ (1 : Int) ≤ (S sg).length := by simpa using c0
      walk_at "rd"
      refine iteT ?_
      walk_at "rd"
      refine bad false ?_
      have c2 : ¬ 1 ≤ sg.length := by omega
      simp only [isSigns, c2, decide_false, Bool.false_and]
/-- check_signs: what are signs passes -/
def spCheckSigns : Sp := fun vs H Q _ => ∃ sg : List Nat, vs = [.str (S sg)] ∧ isSigns sg = true ∧ Q .non H
theorem signs_len {sg : List Nat} (h : isSigns sg = true) : 1 ≤ sg.length ∧ sg.length ≤ 8 := by
  simp only [isSigns, Bool.and_eq_true, decide_eq_true_eq] at h
  exact h.1
theorem c_check_signs (T : Txt K mg) : Cal P w K mg base CX0 2 "check_signs" spCheckSigns := by
  have c_is_signs := c_is_signs (P := P) (w := w) (base := base) T
  refine Cal.mk0 T.d_check_signs sc_check_signs (fun vs H Q E h => ?_) (fun f cdv A outer s H vs Q E hr h => ?_)
  · obtain ⟨sg, rfl, _⟩ := h
    rfl
  · obtain ⟨sg, rfl, hs, k⟩ := h
    have hl := signs_len hs
    refine ⟨_, (pss_one (ps_if (pt_not (pt_truth (pe_c c_is_signs hr (by decide) rfl (pa_cons (pv 0) pa_nil)) (by intro _; rfl)))
    (pss_one ps_never)
    pss_nil)), ?_⟩
    walk_at "rd"
    refine .inl ⟨sg, rfl, by omega, ?_⟩
    rw [hs]
    walk_at "rd"
    refine iteF ?_
    walk_at "rd"
    exact k
/-- is_text of a text -/
def isText (sg t : List Nat) (lo hi : Int) : Bool := decide (lo ≤ t.length) && decide ((t.length : Int) ≤ hi) && t.all fun c => decide (c ∈ sg)
def spIsText (K : PySem.W.Frag) : Sp := fun vs H Q _ => (∃ (sg t : List Nat) (lo hi : Int), vs = [.str (S sg), .str (S t), .int lo, .int hi] ∧ t.length ≤ 1000000 ∧ Q (.bl (isText sg t lo hi)) H) ∨ ∃ (u v a b : V), vs = [u, v, a, b] ∧ NotStr K H v ∧ Q (.bl false) H
theorem c_is_text (T : Txt K mg) : Cal P w K mg base CX0 1 "is_text" (spIsText K) := by
  refine Cal.mk0 T.d_is_text sc_is_text (fun vs H Q E h => ?_) (fun f cdv A outer s H vs Q E hr h => ?_)
  · rcases h with ⟨sg, t, lo, hi, rfl, _⟩ | ⟨u, v, a, b, rfl, _⟩ <;> rfl
  · rcases h with ⟨sg, t, lo, hi, rfl, hl, k⟩ | ⟨u, v, a, b, rfl, ⟨n, ht, hn, hs⟩, k⟩
    rotate_left
    · refine ⟨_, (pss_cons (ps_if (PW.pt (pw_or (pt_not (pt_val (pe_callB call_isi (by rfl) T.b_isinstance (by decide +kernel) (pa_cons (pv 1) (pa_cons (pe_bltn (v := .ty "str") (by rfl) T.b_str (by decide +kernel) rfl) pa_nil))))) (pw_or1 (pt_not (pt_chain op_le op_le (pv 2) (pe_callB call_len_str (by rfl) T.b_len (by decide +kernel) (pa_cons (pv 1) pa_nil)) (pv 3))))))
    (pss_one (ps_ret pe_bl))
    pss_nil)
  (pss_cons (ps_for PassesOwn.never rfl (pi_str (pv 1)) (pg_name (i := 4) sc_is_text.nd rfl (Or.inl rfl))
    (pss_one (ps_if (pt_cmpR op_notIn_sign (pv 4) (pv 0) (by rfl))
      (pss_one (ps_ret pe_bl))
      pss_nil)))
  (pss_one (ps_ret pe_bl)))), ?_⟩
      walk_at "rd"
      refine ⟨_, _, _, _, _, rfl, .ty _, ht, kit_ty (kit_all _ hn _ (by decide)), _, rfl, ?_⟩
      rw [isaB_str hn, show (n == "str") = false from by simp [hs]]
      refine iteT ?_
      walk_at "rd"
      exact k
    refine ⟨_, (pss_cons (ps_if (PW.pt (pw_or (pt_not (pt_val (pe_callB call_isi (by rfl) T.b_isinstance (by decide +kernel) (pa_cons (pv 1) (pa_cons (pe_bltn (v := .ty "str") (by rfl) T.b_str (by decide +kernel) rfl) pa_nil))))) (pw_or1 (pt_not (pt_chain op_le op_le (pv 2) (pe_callB call_len_str (by rfl) T.b_len (by decide +kernel) (pa_cons (pv 1) pa_nil)) (pv 3))))))
    (pss_one (ps_ret pe_bl))
    pss_nil)
  (pss_cons (ps_for PassesOwn.never rfl (pi_str (pv 1)) (pg_name (i := 4) sc_is_text.nd rfl (Or.inl rfl))
    (pss_one (ps_if (pt_cmpR op_notIn_sign (pv 4) (pv 0) (by rfl))
      (pss_one (ps_ret pe_bl))
      pss_nil)))
  (pss_one (ps_ret pe_bl)))), ?_⟩
    have hSl := S_len t
    walk_at "rd"
    refine ⟨_, _, _, _, _, rfl, .ty _, .base (.str _), kit_ty (r := true) (by decide +kernel), _, rfl, ?_⟩
    refine iteF ?_
    have bad : ∀ b : Bool, isText sg t lo hi = b → Q (.bl b) H := fun b e => e ▸ k
    walk_at "rd"
    refine ite2 (fun c0 => ?_) (fun c0 => ?_)
    · have c0' : lo ≤ (S t).length := of_decide_eq_true c0
      walk_at "rd"
      refine ite2 (fun c1 => ?_) (fun c1 => ?_)
      · walk_at "rd"
        refine bad false ?_
        have c1' : ¬ ((S t).length : Int) ≤ hi := by simpa using c1
        have c2 : ¬ (t.length : Int) ≤ hi := by omega
        simp only [isText, c2, decide_false, Bool.and_false, Bool.false_and]
      · have c1' : ((S t).length : Int) ≤ hi := by simpa using c1
        walk_at "rd"
        refine for_str (l := t) (fun pre σ H2 => (∃ v, σ = [some (.str (S sg)), some (.str (S t)), some (.int lo), some (.int hi), v]) ∧ H2 = H ∧ ∀ c ∈ pre, c ∈ sg) ⟨⟨_, rfl⟩, rfl, by simp⟩ ?_ ?_
        · rintro pre c post σ H2 e ⟨⟨v, rfl⟩, rfl, ok⟩
          walk_at "rd"
          refine ⟨_, _, rfl, rfl, _, rfl, ?_⟩
          refine ite2 (fun d0 => ?_) (fun d0 => ?_)
          · walk_at "rd"
            refine bad false ?_
            have d1 : c ∉ sg := by
              intro hm
              have d2 : (!decide (c ∈ sg)) = true := d0
              rw [decide_eq_true hm] at d2
              cases d2
            have d2 : (t.all fun c => decide (c ∈ sg)) = false := by
              rw [List.all_eq_false]
              exact ⟨c, by rw [e]; simp, by rw [decide_eq_false d1]; exact Bool.false_ne_true⟩
            simp only [isText, d2, Bool.and_false]
          · walk_at "rd"
            refine ⟨⟨_, rfl⟩, rfl, fun x hx => ?_⟩
            rcases List.mem_append.mp hx with q | q
            · exact ok x q
            · rw [List.mem_singleton] at q
              rw [q]
              by_cases hm : c ∈ sg
              · exact hm
              · refine absurd ?_ d0
                show (!decide (c ∈ sg)) = true
                rw [decide_eq_false hm]; rfl
        · rintro σ H2 ⟨⟨v, rfl⟩, rfl, ok⟩
          walk_at "rd"
          refine bad true ?_
          have c2 : lo ≤ (t.length : Int) := by omega
          have c3 : (t.length : Int) ≤ hi := by omega
          simp only [isText, c2, c3, decide_true, Bool.true_and, List.all_eq_true]
          exact fun c hc => decide_eq_true (ok c hc)
    · have c0' : ¬ lo ≤ (S t).length := by simpa using c0
      walk_at "rd"
      refine iteT ?_
      walk_at "rd"
      refine bad false ?_
      have c2 : ¬ lo ≤ (t.length : Int) := by omega
      simp only [isText, c2, decide_false, Bool.false_and]
def spCheckText : Sp := fun vs H Q _ => ∃ (sg t : List Nat), vs = [.str (S sg), .str (S t)] ∧ t.length ≤ 200 ∧ (∀ c ∈ t, c ∈ sg) ∧ Q .non H
theorem c_check_text (T : Txt K mg) : Cal P w K mg base CX0 2 "check_text" spCheckText := by
  have c_is_text := c_is_text (P := P) (w := w) (base := base) T
  refine Cal.mk0 T.d_check_text sc_check_text (fun vs H Q E h => ?_) (fun f cdv A outer s H vs Q E hr h => ?_)
  · obtain ⟨sg, t, rfl, _⟩ := h
    rfl
  · obtain ⟨sg, t, rfl, hl, hc, k⟩ := h
    refine ⟨_, (pss_one (ps_if (pt_not (pt_truth (pe_c c_is_text hr (by decide) rfl (pa_cons (pv 0) (pa_cons (pv 1) (pa_cons pe_int (pa_cons (pe_gK rfl T.g_LONGEST_TEXT) pa_nil))))) (by intro _; rfl)))
    (pss_one ps_never)
    pss_nil)), ?_⟩
    walk_at "rd"
    refine .inl ⟨sg, t, 0, 200, rfl, by omega, ?_⟩
    have e : isText sg t 0 200 = true := by
      have c2 : (0 : Int) ≤ (t.length : Int) := by omega
      have c3 : (t.length : Int) ≤ 200 := by omega
      simp only [isText, c2, c3, decide_true, Bool.true_and, List.all_eq_true]
      exact fun c h => decide_eq_true (hc c h)
    rw [e]
    walk_at "rd"
    refine iteF ?_
    walk_at "rd"
    exact k
end
end Sh
set_option Elab.async false
set_option linter.all false
set_option maxRecDepth 100000
set_option maxHeartbeats 4000000
namespace Sh
open PySem PySem.Spec PyProof.Rows L2
open SX (S S_inj S_len S_cat)
open Bk (Rule firstAt lg bestUp used left drain pushS Wf)
local macro_rules | `(tactic| walk_at "nx") => `(tactic| repeat (with_reducible first | refine Sh.gn_mk ?_ | refine Sh.nx_mk ?_ | refine Sh.st_nx ?_ | refine Sh.rt_mk ?_ | refine Sh.ct_mk ?_ | refine Sh.bk_mk ?_))
local macro_rules | `(tactic| walk_at "sq") => `(tactic| first | exact SqL.of upd_same | exact SqT.of upd_same | exact SqL.of (by assumption) | exact SqT.of (by assumption) | assumption | exact Or.inl (SqL.of (by assumption)) | exact Or.inr (SqT.of (by assumption)) | exact Or.inl (by assumption) | exact Or.inr (by assumption))
local macro_rules | `(tactic| walk_at "hp") => `(tactic| first | exact upd_same | assumption)
local macro_rules | `(tactic| walk_at "sz") => `(tactic| first | exact Nat.le_of_ble_eq_true rfl | omega)
local macro_rules | `(tactic| walk_at "sd") => `(tactic| first | omega | exact rfl | assumption | (show (0 : Int) < _; omega) | exact And.intro (by omega) (by omega) | exact Or.inl (And.intro (by omega) (by omega)) | exact Or.inr (And.intro (by omega) (by omega)) | omega | exact Sh.sz_S (by omega) | decide)
local macro_rules | `(tactic| walk_at "rd1") => `(tactic| first
  | (with_reducible first | refine Sh.gn_mk ?_ | refine Sh.nx_mk ?_ | refine Sh.st_nx ?_ | refine Sh.rt_mk ?_ | refine Sh.ct_mk ?_ | refine Sh.bk_mk ?_)
  | refine Exists.intro (α := V) _ (And.intro rfl ?_)
  | refine Exists.intro (α := Bool) _ (And.intro rfl ?_)
  | refine Exists.intro (α := Int) _ (And.intro rfl ?_)
  | refine Exists.intro (α := PySem.Str) _ (And.intro rfl ?_)
  | refine Exists.intro (α := Int) _ (Exists.intro (α := Int) _ (And.intro rfl (And.intro rfl ?_)))
  | refine Exists.intro (α := PySem.Str) _ (Exists.intro (α := PySem.Str) _ (And.intro rfl (And.intro rfl ?_)))
  | refine Exists.intro (α := Int) _ (Exists.intro (α := Int) _ (And.intro rfl ?_))
  | refine Or.inl (Exists.intro (α := Int) _ (And.intro rfl ?_))
  | refine Exists.intro _ (Exists.intro _ (Exists.intro _ (Exists.intro _ (And.intro rfl (And.intro rfl (And.intro (by walk_at "sq") (And.intro rfl ?_)))))))
  | refine Exists.intro _ (Exists.intro _ (Exists.intro _ (Exists.intro _ (And.intro rfl (And.intro rfl (And.intro (by walk_at "hp") (And.intro rfl ?_)))))))
  | refine And.intro (by walk_at "sd") ?_
  )
local macro_rules | `(tactic| walk_at "rd") => `(tactic| repeat walk_at "rd1")
local macro_rules | `(tactic| walk_at "lk") => `(tactic| first | exact rfl | (rw [lookup_putF, if_pos rfl]) | (rw [lookup_putF, if_neg (by decide +kernel)]; walk_at "lk"))

section
variable {P : Program} {w : World} {K : PySem.W.Frag} {mg : Str → Option Value} {base : Heap}
/-- a tuple of rules stands at a -/
structure RulesAt (K : PySem.W.Frag) (H : Hp) (a : Addr) (xs : List V) (R : List Rule) : Prop where
  sq : SqT K H a xs
  len : xs.length = R.length
  it : ∀ (i : Nat) x r, xs[i]? = some x → R[i]? = some r → ∃ q, x = .ref q ∧ SqT K H q (rTup r)
theorem RulesAt.keep {H H' : Hp} {a : Addr} {xs : List V} {R : List Rule} (h : RulesAt K H a xs R) (k : Keep H H') : RulesAt K H' a xs R :=
  ⟨k.seq h.sq, h.len, fun i x r h1 h2 => let ⟨q, e, s⟩ := h.it i x r h1 h2; ⟨q, e, k.seq s⟩⟩
theorem RulesAt.same {H H' : Hp} {a : Addr} {xs : List V} {R : List Rule} (h : RulesAt K H a xs R) (k : Same H H') : RulesAt K H' a xs R := h.keep (Keep.same k)
theorem RulesAt.get {H : Hp} {a : Addr} {xs : List V} {R : List Rule} (h : RulesAt K H a xs R) {i : Nat} {r : Rule} (hr : R[i]? = some r) : ∃ q, xs[i]? = some (.ref q) ∧ SqT K H q (rTup r) := by
  obtain ⟨hi, _⟩ := List.getElem?_eq_some_iff.mp hr
  have hi2 : i < xs.length := by rw [h.len]; exact hi
  obtain ⟨q, e, s⟩ := h.it i xs[i] r (List.getElem?_eq_getElem hi2) hr
  exact ⟨q, by rw [List.getElem?_eq_getElem hi2, e], s⟩
/-- the dict of the left sides -/
def LeftsK (H : Hp) (kvs : List (Key × V)) (R : List Rule) : Prop :=
  ∀ l : List Nat, (firstAt R 0 l = none → valV kvs (Sum.inr (S l)) = none) ∧ ∀ k r, firstAt R 0 l = some (k, r) → ∃ q, valV kvs (Sum.inr (S l)) = some (.ref q) ∧ H q = some (.tup [.int (k : Nat), .str (S r)])
theorem LeftsK.same {H H' : Hp} {kvs : List (Key × V)} {R : List Rule} (h : LeftsK H kvs R) (s : Same H H') : LeftsK H' kvs R :=
  fun l => ⟨(h l).1, fun k r e => let ⟨q, e1, e2⟩ := (h l).2 k r e; ⟨q, e1, s _ _ e2⟩⟩
/-- .. stands at p -/
def LeftsAt (H : Hp) (p : Addr) (R : List Rule) : Prop := ∃ kvs, H p = some (.dK kvs) ∧ LeftsK H kvs R
theorem LeftsAt.same {H H' : Hp} {p : Addr} {R : List Rule} (h : LeftsAt H p R) (s : Same H H') : LeftsAt H' p R := let ⟨kvs, e, k⟩ := h; ⟨kvs, s _ _ e, k.same s⟩
theorem LeftsAt.but {H H' : Hp} {p a : Addr} {R : List Rule} (h : LeftsAt H p R) (s : But a H H') (z : Src H a) : LeftsAt H' p R := by
  obtain ⟨kvs, e, k⟩ := h
  obtain ⟨d, sd, c, ha⟩ := z
  refine ⟨kvs, s _ _ (ne_of e ha (by intro q; cases q)) e, fun l => ⟨(k l).1, fun j r e => ?_⟩⟩
  obtain ⟨q, e1, e2⟩ := (k l).2 j r e
  exact ⟨q, e1, s _ _ (ne_of e2 ha (by intro q; cases q)) e2⟩
def spFirst (K : PySem.W.Frag) : Sp := fun vs H Q _ => ∃ (a : Addr) (xs : List V) (R : List Rule), vs = [.ref a] ∧ RulesAt K H a xs R ∧ R.length ≤ 64 ∧ ∀ (p : Addr) (H' : Hp), H p = none → Same H H' → LeftsAt H' p R → Q (.ref p) H'
theorem lefts_snoc {H H' : Hp} {kvs : List (Key × V)} {R : List Rule} {r : Rule} {q : Addr} (h : LeftsK H kvs R) (s : ∀ b o, H b = some o → (∃ ys, o = .tup ys) → H' b = some o) (hn : valV kvs (Sum.inr (S r.1)) = none)
    (hq : H' q = some (.tup [.int (R.length : Nat), .str (S r.2)])) : LeftsK H' (putK kvs (Sum.inr (S r.1)) (.ref q)) (R ++ [r]) := by
  have none_of : firstAt R 0 r.1 = none := by
    cases e : firstAt R 0 r.1 with
    | none => rfl
    | some z =>
      obtain ⟨q, e1, _⟩ := (h r.1).2 z.1 z.2 e
      rw [hn] at e1; cases e1
  intro l
  rw [valV_put]
  by_cases hl : l = r.1
  · subst hl
    rw [Bk.firstAt_snoc_none r none_of]
    simp only [if_true]
    refine ⟨fun e => by simp at e, fun k z e => ?_⟩
    simp only [Option.some.injEq, Prod.mk.injEq] at e
    obtain ⟨rfl, rfl⟩ := e
    exact ⟨q, rfl, hq⟩
  · have hne : ¬ (Sum.inr (S l) : Key) = Sum.inr (S r.1) := fun e => hl (S_inj (Sum.inr.inj e))
    rw [if_neg hne]
    cases e : firstAt R 0 l with
    | none =>
      rw [Bk.firstAt_snoc_none r e, if_neg (Ne.symm hl)]
      exact ⟨fun _ => (h l).1 e, fun k z e => by cases e⟩
    | some z =>
      rw [Bk.firstAt_snoc_some r e]
      refine ⟨fun e => (by cases e), fun k y e' => ?_⟩
      cases e'
      obtain ⟨q', e1, e2⟩ := (h l).2 k y e
      exact ⟨q', e1, s _ _ e2 ⟨_, rfl⟩⟩
theorem lefts_skip {H : Hp} {kvs : List (Key × V)} {R : List Rule} {r : Rule} (h : LeftsK H kvs R) (hn : valV kvs (Sum.inr (S r.1)) ≠ none) : LeftsK H kvs (R ++ [r]) := by
  intro l
  cases e : firstAt R 0 l with
  | some z =>
    rw [Bk.firstAt_snoc_some r e]
    exact ⟨fun e => (by cases e), fun k y e' => by cases e'; exact (h l).2 _ _ e⟩
  | none =>
    have hne : ¬ r.1 = l := fun e' => hn (by rw [e']; exact (h l).1 e)
    rw [Bk.firstAt_snoc_none r e, if_neg hne]
    exact ⟨fun _ => (h l).1 e, fun k z e => by cases e⟩
theorem c_first_rules (T : Txt K mg) : Cal P w K mg base CX0 1 "first_rules" (spFirst K) := by
  refine Cal.mk0 T.d_first_rules sc_first_rules (fun vs H Q E h => ?_) (fun f cdv A outer s H vs Q E hr h => ?_)
  · obtain ⟨a, xs, R, rfl, _⟩ := h
    rfl
  · obtain ⟨a, xs, R, rfl, hR, hl, k⟩ := h
    have hu := hu_of hr
    have hlx := hR.len
    refine ⟨_, (pss_cons (ps_set (i := 1) sc_first_rules.nd rfl (Or.inl rfl) pe_dnewK)
  (pss_cons (ps_for PassesOwn.never rfl (pi_range1 (by rfl) T.b_range (pa_cons (pe_callB call_len_seq (by rfl) T.b_len (by decide +kernel) (pa_cons (pv 0) pa_nil)) pa_nil)) (pg_name (i := 2) sc_first_rules.nd rfl (Or.inl rfl))
    (pss_cons (ps_asg (pe_ix ix_tup (pv 0) (pv 2) (fun _ _ => rfl)) (pg_tup (by rfl) (pgs_cons (pg_name (i := 3) sc_first_rules.nd rfl (Or.inl rfl)) (pgs_cons (pg_name (i := 4) sc_first_rules.nd rfl (Or.inl rfl)) pgs_nil))))
    (pss_one (ps_if (pt_cmp (pc_dnotin hu (pv 3) (pv 1)))
      (pss_one (ps_dput hu (pv 1) (pv 3) (pe_tup (pa_cons (pv 2) (pa_cons (pv 4) pa_nil))) rfl))
      pss_nil))))
  (pss_one (ps_ret (pv 1))))), ?_⟩
    walk_at "rd"
    intro p hp
    have hR1 := hR.same (same_new (o := .dK []) hp)
    refine ⟨_, rfl, a, xs, rfl, .inr hR1.sq, ?_⟩
    walk_at "rd"
    refine for_range (lo := 0) (n := ((xs.length : Int)).toNat) (fun i σ H2 => ∃ (kvs : List (Key × V)) (v2 v3 v4 : Option V), σ = [some (.ref a), some (.ref p), v2, v3, v4] ∧ Same H H2 ∧ H2 p = some (.dK kvs) ∧ kvs.length ≤ i ∧ LeftsK H2 kvs (R.take i))
      ⟨[], _, _, _, rfl, same_new hp, upd_same, Nat.le_refl _, fun l => ⟨fun _ => rfl, fun k r e => by simp [firstAt] at e⟩⟩ ?_ ?_
    · rintro i σ H2 hi ⟨kvs, v2, v3, v4, rfl, s2, hp2, hk, L⟩
      have hi2 : i < R.length := by omega
      have hr2 : R[i]? = some R[i] := by simp [hi2]
      obtain ⟨q, hq, sq⟩ := (hR.same s2).get hr2
      refine ⟨_, rfl, _, rfl, a, xs, _, .ref q, rfl, rfl, (hR.same s2).sq, atI_at (by omega) (by rw [show ((0 : Int) + i).toNat = i by omega]; exact hq), ?_⟩
      refine ⟨q, _, rfl, sq, rfl, _, _, rfl, _, _, rfl, rfl, ?_⟩
      have et : R.take (i + 1) = R.take i ++ [R[i]] := by rw [List.take_succ, hr2]; rfl
      walk_at "rd"
      refine ⟨p, _, rfl, DGet.k (k := Sum.inr (S R[i].1)) hp2, ?_⟩
      walk_at "rd"
      cases hv : valV kvs (Sum.inr (S R[i].1) : Key) with
      | none =>
        refine iteT ?_
        refine ⟨_, rfl, _, rfl, by walk_at "sz", fun q2 hq2 => ?_⟩
        have nq : q2 ≠ p := (ne_of_none hp2 hq2).symm
        refine ⟨_, rfl, _, rfl, p, _, rfl, DPut.k (k := Sum.inr (S R[i].1)) (by rw [upd_ne nq.symm]; exact hp2) (by exact Nat.lt_of_le_of_lt (m := 64) (by omega) (by decide)), ?_⟩
        have s3 : Same H2 (upd H2 q2 (.tup [.int (0 + (i : Int)), .str (S R[i].2)])) := same_new hq2
        refine ⟨_, _, _, _, rfl, same_mut (s2.trans s3) hp, upd_same, ?_, ?_⟩
        · rw [putK_new _ hv]; simp; omega
        · rw [et]
          refine lefts_snoc L (fun b o hb ⟨ys, e⟩ => ?_) hv ?_
          · rw [upd_ne (ne_of hb hp2 (by intro z; rw [e] at z; cases z))]
            exact s3 b o hb
          · rw [upd_ne nq, List.length_take, Nat.min_eq_left (by omega)]
            rw [upd_same]
            simp
      | some z =>
        refine iteF ?_
        walk_at "rd"
        refine ⟨_, _, _, _, rfl, s2, hp2, by omega, ?_⟩
        rw [et]
        exact lefts_skip L (by rw [hv]; simp)
    · rintro σ H2 ⟨kvs, v2, v3, v4, rfl, s2, hp2, hk, L⟩
      walk_at "rd"
      refine k p H2 hp s2 ⟨kvs, hp2, ?_⟩
      rw [List.take_of_length_le (by omega)] at L
      exact L
/-- the longest left side -/
def spLongest (K : PySem.W.Frag) : Sp := fun vs H Q _ => ∃ (a : Addr) (xs : List V) (R : List Rule), vs = [.ref a] ∧ RulesAt K H a xs R ∧ R.length ≤ 64 ∧ (∀ r ∈ R, r.1.length ≤ 1000000) ∧ ∀ (H' : Hp), Same H H' → Q (.int (lg R : Nat)) H'
theorem c_longest_left (T : Txt K mg) : Cal P w K mg base CX0 1 "longest_left" (spLongest K) := by
  refine Cal.mk0 T.d_longest_left sc_longest_left (fun vs H Q E h => ?_) (fun f cdv A outer s H vs Q E hr h => ?_)
  · obtain ⟨a, xs, R, rfl, _⟩ := h
    rfl
  · obtain ⟨a, xs, R, rfl, hR, hl, hz, k⟩ := h
    refine ⟨_, (pss_one (ps_ret (pe_callB (cr_max rfl) (by rfl) T.b_max (by decide +kernel) (pa_cons (pe_op op_cat (pe_lst (pa_cons pe_int pa_nil)) (pe_lc (own := [("rule", 1)]) (g := gName 1) (tt := tYes) rfl sc_longest_left.nd (pi_tup (pv 0)) (blkOk_by (N := ["rules", "rule"]) (sc := defScope s_longest_left) (by decide +kernel)) (fun _ _ _ _ _ => (pg_name (i := 1) sc_longest_left.nd rfl (Or.inl rfl))) (fun _ _ _ _ _ => pts_nil) (fun _ _ _ _ _ => (pe_callB call_len_str (by rfl) T.b_len (by decide +kernel) (pa_cons (pe_ix ix_tupB (pv 1) pe_int (fun _ _ => rfl)) pa_nil))))) pa_nil)))), ?_⟩
    refine ⟨by walk_at "sz", fun p1 hp1 => ?_⟩
    have s1 : Same H (upd H p1 (.lst [.int 0])) := same_new hp1
    refine ⟨_, rfl, a, rfl, ⟨_, (hR.same s1).sq⟩, fun D hD => lc_tupR (K := K) (a := a) (xs := xs) (l := R) (Rel := fun H v r => ∃ q, v = .ref q ∧ SqT K H q (rTup r)) hR.len
      (fun pre H3 => H3 D = some (.lst (pre.map fun r => V.int (r.1.length : Nat))) ∧ Same (upd H p1 (.lst [.int 0])) H3) ⟨upd_same, same_new hD⟩ (fun pre H3 ⟨_, s3⟩ => ⟨(hR.same (s1.trans s3)).sq, (hR.same (s1.trans s3)).it⟩) ?_ ?_⟩
    · rintro pre r post x H3 e hx ⟨q, rfl, sq⟩ ⟨h3, s3⟩
      have hrm : r ∈ R := by rw [e]; simp
      refine ⟨rfl, ty_T ?_⟩
      refine ⟨_, rfl, q, _, 0, .str (S r.1), rfl, rfl, sq, rfl, _, rfl, sz_S (hz r hrm), ?_⟩
      have hpl : pre.length ≤ 64 := by
        have := congrArg List.length e
        simp at this
        omega
      refine ⟨_, h3, by rw [List.length_map]; exact Nat.lt_of_le_of_lt (m := 64) hpl (by decide), ?_, same_mut s3 hD⟩
      rw [List.map_append, S_len]
      exact upd_same
    · rintro H3 ⟨h3, s3⟩
      refine ⟨p1, D, _, _, rfl, rfl, s3 _ _ upd_same, h3, ?_, fun p2 hp2 => ?_⟩
      · rw [List.length_map]; exact Nat.le_trans (m := 65) (by simp; omega) (by decide)
      · refine ⟨p2, (0 :: R.map fun r => r.1.length).map Int.ofNat, rfl, SqL.of ?_, by simp, fun m hm hle => ?_⟩
        · rw [upd_same, List.map_map]
          simp only [List.map_cons, List.map_map]
          rfl
        · obtain ⟨n, hn, rfl⟩ := List.mem_map.mp hm
          have : n = lg R := Bk.lg_eq hn (fun y hy => by
            have := hle (Int.ofNat y) (List.mem_map_of_mem hy)
            exact Int.ofNat_le.mp this)
          rw [this]
          exact k _ ((s1.trans s3).trans (same_new hp2))
/-- used_at_end: the first rule that fits, or None -/
def optS : Option (List Nat) → V
  | none => .non
  | some u => .str (S u)
def spUsed : Sp := fun vs H Q _ => ∃ (p : Addr) (R : List Rule) (t : List Nat), vs = [.ref p, .int (lg R : Nat), .str (S t)] ∧ LeftsAt H p R ∧ Wf R ∧ t.length ≤ 100000 ∧ ∀ (H' : Hp), Same H H' → Q (optS (used R t)) H'
/-- best so far -/
def BestV (H : Hp) : V → Option (Nat × Nat × List Nat) → Prop
  | v, none => v = .non
  | v, some (k, s, r) => ∃ q, v = .ref q ∧ H q = some (.tup [.int (k : Nat), .int (s : Nat), .str (S r)])
theorem BestV.same {H H' : Hp} {v : V} : ∀ {b}, BestV H v b → Same H H' → BestV H' v b
  | none, h, _ => h
  | some (_, _, _), ⟨q, e, h⟩, s => ⟨q, e, s _ _ h⟩
theorem c_used_at_end (T : Txt K mg) : Cal P w K mg base CX0 1 "used_at_end" spUsed := by
  refine Cal.mk0 T.d_used_at_end sc_used_at_end (fun vs H Q E h => ?_) (fun f cdv A outer s H vs Q E hr h => ?_)
  · obtain ⟨p, R, t, rfl, _⟩ := h
    rfl
  · obtain ⟨p, R, t, rfl, ⟨kvs, hp, L⟩, hw, hl, k⟩ := h
    have hu := hu_of hr
    have hSl := S_len t
    refine ⟨_, (pss_cons (ps_set (i := 3) sc_used_at_end.nd rfl (Or.inl rfl) pe_non)
  (pss_cons (ps_for PassesOwn.never rfl (pi_range2 (by rfl) T.b_range (pa_cons pe_int (pa_cons (pe_op op_add (pe_callB (call_min2 rfl) (by rfl) T.b_min (by decide +kernel) (pa_cons (pv 1) (pa_cons (pe_callB call_len_str (by rfl) T.b_len (by decide +kernel) (pa_cons (pv 2) pa_nil)) pa_nil))) pe_int) pa_nil))) (pg_name (i := 4) sc_used_at_end.nd rfl (Or.inl rfl))
    (pss_cons (ps_set (i := 5) sc_used_at_end.nd rfl (Or.inl rfl) (pe_dget1 hu (pv 0) (pe_slice sl_str (pv 2) (po_some (pe_op op_sub (pe_callB call_len_str (by rfl) T.b_len (by decide +kernel) (pa_cons (pv 2) pa_nil)) (pv 4))) po_none) ⟨rfl, rfl, rfl, rfl⟩))
    (pss_one (ps_if (PW.pt (pw_and (pt_cmpR op_notN (pv 5) pe_non (nomark _)) (pw_and1 (PW.pt (pw_or (pt_cmpR op_isN (pv 3) pe_non (nomark _)) (pw_or1 (pt_cmpR op_lt (pe_ix ix_tup (pv 5) pe_int (fun _ _ => rfl)) (pe_ix ix_tup (pv 3) pe_int (fun _ _ => rfl)) (nomark _))))))))
      (pss_one (ps_set (i := 3) sc_used_at_end.nd rfl (Or.inl rfl) (pe_tup (pa_cons (pe_ix ix_tup (pv 5) pe_int (fun _ _ => rfl)) (pa_cons (pv 4) (pa_cons (pe_ix ix_tup (pv 5) pe_int (fun _ _ => rfl)) pa_nil))))))
      pss_nil))))
  (pss_cons (ps_if (pt_cmpR op_isN (pv 3) pe_non (nomark _))
    (pss_one (ps_ret pe_non))
    pss_nil)
  (pss_one (ps_ret (pe_op op_add_str (pe_slice sl_str (pv 2) po_none (po_some (pe_op op_sub (pe_callB call_len_str (by rfl) T.b_len (by decide +kernel) (pa_cons (pv 2) pa_nil)) (pe_ix ix_tup (pv 3) pe_int (fun _ _ => rfl))))) (pe_ix ix_tup (pv 3) pe_int (fun _ _ => rfl)))))))), ?_⟩
    walk_at "rd"
    refine for_range (lo := 1) (n := _) (fun i σ H2 => ∃ (vb : V) (v4 v5 : Option V), σ = [some (.ref p), some (.int (lg R : Nat)), some (.str (S t)), some vb, v4, v5] ∧ Same H H2 ∧ BestV H2 vb (bestUp R t i))
      ⟨_, _, _, rfl, Same.refl H, rfl⟩ ?_ ?_
    · rintro i σ H2 hi ⟨vb, v4, v5, rfl, s2, hb⟩
      have hi2 : i < t.length := by
        split at hi <;> omega
      have hL := L.same s2
      refine ⟨_, rfl, p, rfl, .inl ⟨kvs, .inl (s2 _ _ hp)⟩, ?_⟩
      walk_at "rd"
      rw [cut_from (by omega), hSl, show ((t.length : Int) - (1 + (i : Int))).toNat = t.length - (i + 1) by omega]
      refine ⟨_, DGet.k (k := Sum.inr (S (t.drop (t.length - (i + 1))))) (s2 _ _ hp), ?_⟩
      walk_at "nx"
      cases hf : firstAt R 0 (t.drop (t.length - (i + 1))) with
      | none =>
        rw [(hL _).1 hf]
        have eb : bestUp R t (i + 1) = bestUp R t i := by simp only [bestUp, hf]
        walk_at "rd"
        refine iteF ?_
        walk_at "rd"
        refine iteF ?_
        walk_at "rd"
        exact ⟨_, _, _, rfl, s2, eb ▸ hb⟩
      | some z =>
        obtain ⟨k2, r2⟩ := z
        obtain ⟨q, hq, hqt⟩ := (hL _).2 _ _ hf
        rw [hq]
        have s3 : ∀ q2 o, H2 q2 = none → Same H (upd H2 q2 o) := fun q2 o h => s2.trans (same_new h)
        cases hbb : bestUp R t i with
        | none =>
          rw [hbb] at hb
          have hb' : vb = .non := hb
          subst hb'
          have eb : bestUp R t (i + 1) = some (k2, i + 1, r2) := by simp only [bestUp, hf, hbb]
          walk_at "rd"
          refine ⟨by walk_at "sz", fun q2 hq2 => ?_⟩
          refine ⟨_, _, _, rfl, s3 _ _ hq2, ?_⟩
          rw [eb]
          refine ⟨q2, rfl, ?_⟩
          rw [upd_same]
          show some (HO.tup [V.int (k2 : Nat), V.int (1 + (i : Int)), V.str (S r2)]) = _
          rw [show (1 + (i : Int)) = ((i + 1 : Nat) : Int) by omega]
        | some b =>
          obtain ⟨k3, s3', r3⟩ := b
          rw [hbb] at hb
          obtain ⟨q3, rfl, hq3⟩ := id hb
          walk_at "rd"
          refine ite2 (fun c0 => ?_) (fun c0 => ?_)
          · have c1 : k2 < k3 := by have := of_decide_eq_true c0; omega
            have eb : bestUp R t (i + 1) = some (k2, i + 1, r2) := by simp only [bestUp, hf, hbb, if_pos c1]
            walk_at "rd"
            refine ⟨by walk_at "sz", fun q2 hq2 => ?_⟩
            refine ⟨_, _, _, rfl, s3 _ _ hq2, ?_⟩
            rw [eb]
            refine ⟨q2, rfl, ?_⟩
            rw [upd_same]
            show some (HO.tup [V.int (k2 : Nat), V.int (1 + (i : Int)), V.str (S r2)]) = _
            rw [show (1 + (i : Int)) = ((i + 1 : Nat) : Int) by omega]
          · have c1 : ¬ k2 < k3 := by
              intro h
              exact c0 (decide_eq_true (by omega))
            have eb : bestUp R t (i + 1) = some (k3, s3', r3) := by simp only [bestUp, hf, hbb, if_neg c1]
            walk_at "rd"
            exact ⟨_, _, _, rfl, s2, by rw [eb]; exact hb⟩
    · rintro σ H2 ⟨vb, v4, v5, rfl, s2, hb⟩
      have hn : ((if ((S t).length : Int) < (lg R : Nat) then ((S t).length : Int) else (lg R : Nat)) + 1 - 1).toNat = min (lg R) t.length := by
        split <;> omega
      rw [hn] at hb
      have hU := Bk.used_best hw t
      cases hbb : bestUp R t (min (lg R) t.length) with
      | none =>
        rw [hbb] at hb hU
        have hb' : vb = .non := hb
        subst hb'
        walk_at "rd"
        have q := k H2 s2
        rw [hU] at q
        exact q
      | some b =>
        obtain ⟨k3, s3', r3⟩ := b
        rw [hbb] at hb hU
        obtain ⟨q3, rfl, hq3⟩ := id hb
        walk_at "rd"
        have sp := Bk.bestUp_spec R t (min (lg R) t.length) (by omega)
        rw [hbb] at sp
        obtain ⟨⟨l, ⟨_, _, _, x, hx⟩, hs⟩, _⟩ := sp
        have hst : s3' ≤ t.length := by
          rw [hx, List.length_append]
          show s3' ≤ x.length + l.length
          omega
        have hU2 : used R t = some (t.take (t.length - s3') ++ r3) := hU
        have hlen := (Bk.used_step hU2).len hw
        rw [cut_to (by omega), hSl, show ((t.length : Int) - (s3' : Int)).toNat = t.length - s3' by omega]
        refine ⟨?_, ?_⟩
        · rw [S_len, S_len, ← List.length_append]
          exact Nat.le_trans (m := 100000) (by omega) (by decide)
        · rw [S_cat]
          have q := k H2 s2
          rw [hU2] at q
          exact q
/-- what is left over -/
def spLeft : Sp := fun vs H Q _ => ∃ (p : Addr) (R : List Rule) (t : List Nat), vs = [.ref p, .int (lg R : Nat), .str (S t)] ∧ LeftsAt H p R ∧ Wf R ∧ t.length ≤ 100000 ∧ ∀ (H' : Hp), Same H H' → Q (.str (S (left R t))) H'
theorem left_snoc (R : List Rule) (t : List Nat) (c : Nat) : left R (t ++ [c]) = pushS R (left R t) c := by
  unfold left; rw [List.foldl_append]; rfl
theorem left_len {R : List Rule} (w : Wf R) (t : List Nat) : (left R t).length ≤ t.length := (Bk.left_reach t).len w
theorem c_left_over (T : Txt K mg) : Cal P w K mg base CX0 2 "left_over" spLeft := by
  have c_used_at_end := c_used_at_end (P := P) (w := w) (base := base) T
  refine Cal.mk0 T.d_left_over sc_left_over (fun vs H Q E h => ?_) (fun f cdv A outer s H vs Q E hr h => ?_)
  · obtain ⟨p, R, t, rfl, _⟩ := h
    rfl
  · obtain ⟨p, R, t, rfl, L, hw, hl, k⟩ := h
    refine ⟨_, (pss_cons (ps_set (i := 3) sc_left_over.nd rfl (Or.inl rfl) pe_str)
  (pss_cons (ps_for PassesOwn.never rfl (pi_str (pv 2)) (pg_name (i := 4) sc_left_over.nd rfl (Or.inl rfl))
    (pss_cons (ps_set (i := 3) sc_left_over.nd rfl (Or.inl rfl) (pe_op op_add_str (pv 3) (pv 4)))
    (pss_cons (ps_set (i := 5) sc_left_over.nd rfl (Or.inl rfl) (pe_c c_used_at_end hr (by decide) rfl (pa_cons (pv 0) (pa_cons (pv 1) (pa_cons (pv 3) pa_nil)))))
    (pss_one (ps_while PassesOwn.never (pt_cmpR op_notN (pv 5) pe_non (nomark _))
      (pss_cons (ps_set (i := 3) sc_left_over.nd rfl (Or.inl rfl) (pv 5))
      (pss_one (ps_set (i := 5) sc_left_over.nd rfl (Or.inl rfl) (pe_c c_used_at_end hr (by decide) rfl (pa_cons (pv 0) (pa_cons (pv 1) (pa_cons (pv 3) pa_nil))))))))))))
  (pss_one (ps_ret (pv 3))))), ?_⟩
    walk_at "rd"
    refine for_str (l := t) (fun pre σ H2 => ∃ (v4 v5 : Option V), σ = [some (.ref p), some (.int (lg R : Nat)), some (.str (S t)), some (.str (S (left R pre))), v4, v5] ∧ Same H H2)
      ⟨_, _, rfl, Same.refl H⟩ ?_ ?_
    · rintro pre c post σ H2 e ⟨v4, v5, rfl, s2⟩
      have hpl : pre.length + 1 ≤ t.length := by
        have := congrArg List.length e
        simp at this
        omega
      have hlp := left_len hw pre
      refine ⟨_, rfl, _, rfl, _, _, rfl, rfl, by rw [S_len, S_len]; exact Nat.le_trans (m := 100001) (by simp; omega) (by decide), ?_⟩
      rw [S_cat]
      walk_at "nx"
      refine ⟨_, rfl, _, rfl, _, rfl, p, R, left R pre ++ [c], rfl, L.same s2, hw, by simp; omega, fun H3 s3 => ?_⟩
      walk_at "nx"
      refine ⟨fun m σ H4 => ∃ (q : List Nat) (v4 : Option V), σ = [some (.ref p), some (.int (lg R : Nat)), some (.str (S t)), some (.str (S q)), v4, some (optS (used R q))] ∧ Same H H4 ∧ q.length ≤ m ∧ q.length ≤ 100000 ∧ drain R m q = left R (pre ++ [c]),
        ⟨(left R pre).length + 1, left R pre ++ [c], _, rfl, s2.trans s3, by simp, by simp; omega, (left_snoc R pre c).symm⟩, ?_⟩
      rintro m σ H4 ⟨q, v4, rfl, s4, hm, hq, hd⟩
      cases hu1 : used R q with
      | none =>
        have e1 : drain R m q = q := by
          cases m with
          | zero => rfl
          | succ m => simp only [drain, hu1]
        rw [e1] at hd
        walk_at "rd"
        refine iteF ?_
        walk_at "nx"
        exact ⟨_, _, by rw [hd], s4⟩
      | some u =>
        have hlt := (Bk.used_step hu1).len hw
        cases m with
        | zero => omega
        | succ m =>
          have hd2 : drain R m u = left R (pre ++ [c]) := by
            rw [← hd]; simp only [drain, hu1]
          walk_at "rd"
          refine iteT ⟨_, fun _ _ h => h, ?_⟩
          refine ⟨_, rfl, ?_⟩
          walk_at "nx"
          refine ⟨_, rfl, _, rfl, _, rfl, p, R, u, rfl, L.same s4, hw, by omega, fun H5 s5 => ?_⟩
          walk_at "nx"
          exact ⟨m, Nat.lt_succ_self m, u, _, rfl, s4.trans s5, by omega, by omega, hd2⟩
    · rintro σ H2 ⟨v4, v5, rfl, s2⟩
      walk_at "rd"
      exact k H2 s2
end
end Sh
/-! overlaps as the program lists them; plain Lean -/
namespace Bk
abbrev Ov := T × Nat × Nat × Nat
def ovAt (i : Nat) (l : T) (j : Nat) (r : T) (k : Nat) : Option Ov := if k = 0 ∧ j ≤ i then none else (over l r k).map fun t => (t, i, k, j)
def ovP (i : Nat) (l : T) (j : Nat) (r : T) (n : Nat) : List Ov := (List.range n).filterMap (ovAt i l j r)
def lf (R : List Rule) (i : Nat) : T := (R.getD i ([], [])).1
def ovJ (R : List Rule) (i n : Nat) : List Ov := (List.range n).flatMap fun j => ovP i (lf R i) j (lf R j) (lf R i).length
def ovI (R : List Rule) (n : Nat) : List Ov := (List.range n).flatMap fun i => ovJ R i R.length
def ovs (R : List Rule) : List Ov := ovI R R.length
theorem ovP_succ (i : Nat) (l : T) (j : Nat) (r : T) (n : Nat) : ovP i l j r (n + 1) = ovP i l j r n ++ (ovAt i l j r n).toList := by
  unfold ovP
  rw [List.range_succ, List.filterMap_append]
  cases h : ovAt i l j r n <;> simp [h]
theorem ovJ_succ (R : List Rule) (i n : Nat) : ovJ R i (n + 1) = ovJ R i n ++ ovP i (lf R i) n (lf R n) (lf R i).length := by
  unfold ovJ
  rw [List.range_succ, List.flatMap_append]
  simp
theorem ovI_succ (R : List Rule) (n : Nat) : ovI R (n + 1) = ovI R n ++ ovJ R n R.length := by
  unfold ovI
  rw [List.range_succ, List.flatMap_append]
  simp
theorem lf_get {R : List Rule} {i : Nat} {r : Rule} (h : R[i]? = some r) : lf R i = r.1 := by
  unfold lf
  rw [List.getD_eq_getElem?_getD, h]; rfl
theorem mem_ovs {R : List Rule} {o : Ov} : o ∈ ovs R ↔ ∃ i r j q k t, R[i]? = some r ∧ R[j]? = some q ∧ k < r.1.length ∧ ¬ (k = 0 ∧ j ≤ i) ∧ over r.1 q.1 k = some t ∧ o = (t, i, k, j) := by
  unfold ovs ovI ovJ ovP ovAt
  simp only [List.mem_flatMap, List.mem_range, List.mem_filterMap]
  constructor
  · rintro ⟨i, hi, j, hj, k, hk, h⟩
    have hr : R[i]? = some R[i] := by simp [hi]
    have hq : R[j]? = some R[j] := by simp [hj]
    rw [lf_get hr, lf_get hq] at h
    rw [lf_get hr] at hk
    by_cases c : k = 0 ∧ j ≤ i
    · rw [if_pos c] at h; cases h
    · rw [if_neg c, Option.map_eq_some_iff] at h
      obtain ⟨t, h1, rfl⟩ := h
      exact ⟨i, R[i], j, R[j], k, t, hr, hq, hk, c, h1, rfl⟩
  · rintro ⟨i, r, j, q, k, t, hr, hq, hk, c, h1, rfl⟩
    refine ⟨i, (List.getElem?_eq_some_iff.mp hr).1, j, (List.getElem?_eq_some_iff.mp hq).1, k, by rw [lf_get hr]; exact hk, ?_⟩
    rw [lf_get hr, lf_get hq, if_neg c, h1]; rfl
/-- a text is less than another one -/
def keyLt (a b : T) : Bool := if a.length = b.length then decide (a < b) else decide (a.length < b.length)
/-- an overlap whose results have one end -/
def okOv (R : List Rule) (o : Ov) : Bool := match R[o.2.1]?, R[o.2.2.2]? with
  | some r, some q => decide (left R (res1 r o.1) = left R (res2 q o.1 o.2.2.1))
  | _, _ => true
def qstep (R : List Rule) (best : Option T) (o : Ov) : Option T :=
  if (match best with | none => true | some b => keyLt o.1 b) = true then (if okOv R o = true then best else some o.1) else best
def quarrel (R : List Rule) : Option T := (ovs R).foldl (qstep R) none
theorem qstep_none {R : List Rule} {b : Option T} {o : Ov} (h : qstep R b o = none) : b = none ∧ okOv R o = true := by
  unfold qstep at h
  cases hb : b with
  | none =>
    subst hb
    refine ⟨rfl, ?_⟩
    simp only [if_true] at h
    cases c : okOv R o with
    | true => rfl
    | false => rw [c] at h; simp at h
  | some b' =>
    subst hb
    exfalso
    cases c : okOv R o <;> cases d : keyLt o.1 b' <;> simp [c, d] at h
theorem foldl_q {R : List Rule} : ∀ (l : List Ov) (b : Option T), l.foldl (qstep R) b = none → b = none ∧ ∀ o ∈ l, okOv R o = true
  | [], b, h => ⟨h, by simp⟩
  | o :: l, b, h => by
    obtain ⟨h1, h2⟩ := foldl_q l (qstep R b o) h
    have := qstep_none h1
    exact ⟨this.1, fun o' ho => by
      rcases List.mem_cons.mp ho with rfl | q
      · exact this.2
      · exact h2 o' q⟩
theorem foldl_q' {R : List Rule} : ∀ (l : List Ov), (∀ o ∈ l, okOv R o = true) → l.foldl (qstep R) none = none
  | [], _ => rfl
  | o :: l, h => by
    have : qstep R none o = none := by
      unfold qstep
      simp only [if_true]
      rw [if_pos (h o List.mem_cons_self)]
    rw [List.foldl_cons, this]
    exact foldl_q' l fun o' ho => h o' (List.mem_cons_of_mem _ ho)
theorem quarrel_none {R : List Rule} : quarrel R = none ↔ ∀ o ∈ ovs R, okOv R o = true :=
  ⟨fun h => (foldl_q _ _ h).2, foldl_q' _⟩
theorem over_symm {a b t : T} (h : over a b 0 = some t) : over b a 0 = some t := by
  unfold over at h ⊢
  simp only [List.drop_zero, Nat.sub_zero] at h ⊢
  rw [Nat.min_comm b.length a.length]
  generalize hm : min a.length b.length = m at h ⊢
  by_cases c : a.take m = b.take m
  · rw [if_pos c] at h
    rw [if_pos c.symm, ← h]
    congr 1
    rcases Nat.le_total a.length b.length with q | q
    · have e : m = a.length := by omega
      have e1 : a.drop m = [] := List.drop_eq_nil_of_le (by omega)
      have e2 : a.take m = a := List.take_of_length_le (by omega)
      rw [e1, List.append_nil, ← e2, c, List.take_append_drop]
    · have e1 : b.drop m = [] := List.drop_eq_nil_of_le (by omega)
      have e2 : b.take m = b := List.take_of_length_le (by omega)
      rw [e1, List.append_nil, ← e2, ← c, List.take_append_drop]
  · rw [if_neg c] at h; cases h
/-- a book without quarrel meets -/
theorem meets_of {R : List Rule} (w : Wf R) (h : quarrel R = none) : Meets R := by
  have ok := quarrel_none.mp h
  have use : ∀ (i : Nat) (r : Rule) (j : Nat) (q : Rule) (k : Nat) (t : T), R[i]? = some r → R[j]? = some q → k < r.1.length → ¬ (k = 0 ∧ j ≤ i) → over r.1 q.1 k = some t → left R (res1 r t) = left R (res2 q t k) := by
    intro i r j q k t hr hq hk c ho
    have := ok (t, i, k, j) (mem_ovs.mpr ⟨i, r, j, q, k, t, hr, hq, hk, c, ho, rfl⟩)
    unfold okOv at this
    simp only [hr, hq, decide_eq_true_eq] at this
    exact this
  intro r hr q hq k hk t ho
  obtain ⟨i, hi, rfl⟩ := List.mem_iff_getElem.mp hr
  obtain ⟨j, hj, rfl⟩ := List.mem_iff_getElem.mp hq
  have gi : R[i]? = some R[i] := by simp [hi]
  have gj : R[j]? = some R[j] := by simp [hj]
  by_cases c : k = 0 ∧ j ≤ i
  · obtain ⟨rfl, hji⟩ := c
    -- at place 0 the pair stands the other way round, or it is one rule
    by_cases e : j = i
    · subst e
      unfold over at ho
      simp at ho
      subst ho
      unfold res1 res2
      simp
    · have h1 := over_symm ho
      have hk' : 0 < R[j].1.length := by
        have := (w R[j] hq).1
        omega
      have := use j R[j] i R[i] 0 t gj gi hk' (by omega) h1
      unfold res1 res2 at this ⊢
      simp at this ⊢
      exact this.symm
  · exact use i R[i] j R[j] k t gi gj hk c ho
end Bk
namespace Bk
theorem ovP_len (i : Nat) (l : T) (j : Nat) (r : T) (n : Nat) : (ovP i l j r n).length ≤ n := by
  unfold ovP
  exact Nat.le_trans (List.length_filterMap_le _ _) (by simp)
theorem ovJ_len (R : List Rule) (i n : Nat) : (ovJ R i n).length ≤ n * (lf R i).length := by
  induction n with
  | zero => simp [ovJ]
  | succ n ih =>
    rw [ovJ_succ, List.length_append, Nat.succ_mul]
    have := ovP_len i (lf R i) n (lf R n) (lf R i).length
    omega
theorem ovI_len {R : List Rule} {m : Nat} (h : ∀ i, (lf R i).length ≤ m) (n : Nat) : (ovI R n).length ≤ n * (R.length * m) := by
  induction n with
  | zero => simp [ovI]
  | succ n ih =>
    rw [ovI_succ, List.length_append, Nat.succ_mul]
    have h1 := ovJ_len R n R.length
    have h2 : R.length * (lf R n).length ≤ R.length * m := Nat.mul_le_mul_left _ (h n)
    omega
theorem lf_le {R : List Rule} {m : Nat} (h : ∀ r ∈ R, r.1.length ≤ m) (i : Nat) : (lf R i).length ≤ m := by
  unfold lf
  rw [List.getD_eq_getElem?_getD]
  cases e : R[i]? with
  | none => simp
  | some r => exact h r (List.mem_of_getElem? e)
end Bk
set_option Elab.async false
set_option linter.all false
set_option maxRecDepth 100000
namespace Sh
open PySem PySem.Spec PyProof.Rows L2
/-! ### t < u of tuples of ints and texts -/
def sameK : V → V → Bool
  | .int _, .int _ => true
  | .str _, .str _ => true
  | _, _ => false
def sameKs : List V → List V → Bool
  | x :: xs, y :: ys => sameK x y && sameKs xs ys
  | _, _ => true
def vLt : V → V → Bool
  | .int i, .int j => decide (i < j)
  | .str a, .str b => decide (a.cps.toList < b.cps.toList)
  | _, _ => false
def tupLt : List V → List V → Bool
  | [], [] => false
  | [], _ :: _ => true
  | _ :: _, [] => false
  | x :: xs, y :: ys => if x = y then tupLt xs ys else vLt x y
theorem lexAt_tup : ∀ (xs ys : List V) (e r : Nat → Bool) (k : Nat), sameKs xs ys = true →
    (∀ j x y, xs[j]? = some x → ys[j]? = some y → e (k + j) = decide (x = y)) → (∀ j x y, xs[j]? = some x → ys[j]? = some y → r (k + j) = vLt x y) →
    Ob.lexAt e r (decide (xs.length < ys.length)) k (min xs.length ys.length) = tupLt xs ys
  | [], [], e, r, k, _, _, _ => rfl
  | [], _ :: _, e, r, k, _, _, _ => by
    show Ob.lexAt e r (decide (0 < _ + 1)) k 0 = true
    rw [Ob.lexAt_zero]
    exact decide_eq_true (by omega)
  | _ :: _, [], e, r, k, _, _, _ => by
    show Ob.lexAt e r (decide (_ + 1 < 0)) k 0 = false
    rw [Ob.lexAt_zero]
    exact decide_eq_false (by omega)
  | x :: xs, y :: ys, e, r, k, hs, he, hr => by
    have e0 := he 0 x y rfl rfl
    have r0 := hr 0 x y rfl rfl
    rw [Nat.add_zero] at e0 r0
    have hs2 : sameKs xs ys = true := by
      have : (sameK x y && sameKs xs ys) = true := hs
      rw [Bool.and_eq_true] at this
      exact this.2
    have ih := lexAt_tup xs ys e r (k + 1) hs2 (fun j a b h1 h2 => by have := he (j + 1) a b (by simpa using h1) (by simpa using h2); rw [← this]; congr 1; omega)
      (fun j a b h1 h2 => by have := hr (j + 1) a b (by simpa using h1) (by simpa using h2); rw [← this]; congr 1; omega)
    have em : min (x :: xs).length (y :: ys).length = min xs.length ys.length + 1 := by simp only [List.length_cons]; omega
    have el : decide ((x :: xs).length < (y :: ys).length) = decide (xs.length < ys.length) := by
      simp only [List.length_cons]
      exact decide_eq_decide.mpr (by omega)
    rw [em, el, Ob.lexAt_succ, e0, r0, ih]
    show _ = if x = y then tupLt xs ys else vLt x y
    by_cases h : x = y
    · rw [if_pos h, if_pos (decide_eq_true h)]
    · rw [if_neg h, if_neg (by simpa using h)]
theorem sameKs_get : ∀ {xs ys : List V}, sameKs xs ys = true → ∀ {j : Nat} {x y : V}, xs[j]? = some x → ys[j]? = some y → sameK x y = true
  | [], _, _, j, _, _, h, _ => by simp at h
  | _ :: _, [], _, j, _, _, _, h => by simp at h
  | x :: xs, y :: ys, hs, j, a, b, h1, h2 => by
    have hs' : (sameK x y && sameKs xs ys) = true := hs
    rw [Bool.and_eq_true] at hs'
    cases j with
    | zero => simp at h1 h2; subst h1; subst h2; exact hs'.1
    | succ j => exact sameKs_get hs'.2 (by simpa using h1) (by simpa using h2)
def rLtTM (K : PySem.W.Frag) : R2 := fun x y H Q => ∃ a b xs ys, x = .ref a ∧ y = .ref b ∧ SqT K H a xs ∧ SqT K H b ys ∧ sameKs xs ys = true ∧ Q (.bl (tupLt xs ys)) H
theorem op_ltTM {X : Cx} (hu : X.A.units + 64 < cLine) : OpR X (compareOp .Lt) (rLtTM X.K) := by
  intro pins s σ H x y v u Q I rx ry h
  obtain ⟨a, b, xs, ys, rfl, rfl, ha, hb, hk, q⟩ := h
  cases rx
  cases ry
  obtain ⟨its, r1, p1, _⟩ := I.tuple ha
  obtain ⟨its2, r2, p2, _⟩ := I.tuple hb
  have l1 : its.toArray.size = xs.length := by rw [List.size_toArray]; exact r1.length.symm
  have l2 : its2.toArray.size = ys.length := by rw [List.size_toArray]; exact r2.length.symm
  have get : ∀ (j : Nat) (h1 : j < its.toArray.size) (h2 : j < its2.toArray.size), ∃ x y, xs[j]? = some x ∧ ys[j]? = some y ∧ RelV x its.toArray[j] ∧ RelV y its2.toArray[j] ∧ sameK x y = true := by
    intro j h1 h2
    have g1 : j < xs.length := l1 ▸ h1
    have g2 : j < ys.length := l2 ▸ h2
    obtain ⟨u1, e1, q1⟩ := r1.get (List.getElem?_eq_getElem g1)
    obtain ⟨u2, e2, q2⟩ := r2.get (List.getElem?_eq_getElem g2)
    have f1 : its.toArray[j] = u1 := by
      have : its[j]? = some its[j] := List.getElem?_eq_getElem (by simpa using h1)
      rw [this] at e1
      simpa using Option.some.inj e1
    have f2 : its2.toArray[j] = u2 := by
      have : its2[j]? = some its2[j] := List.getElem?_eq_getElem (by simpa using h2)
      rw [this] at e2
      simpa using Option.some.inj e2
    exact ⟨xs[j], ys[j], List.getElem?_eq_getElem g1, List.getElem?_eq_getElem g2, f1 ▸ q1, f2 ▸ q2, sameKs_get hk (List.getElem?_eq_getElem g1) (List.getElem?_eq_getElem g2)⟩
  let e : Nat → Bool := fun j => match xs[j]?, ys[j]? with
    | some x, some y => decide (x = y)
    | _, _ => false
  let r : Nat → Bool := fun j => match xs[j]?, ys[j]? with
    | some x, some y => vLt x y
    | _, _ => false
  have key := Ob.RcOp.tuples_lt (A := X.A) (s := s) (e := e) (r := r) p1 p2 (by omega) (fun j h1 h2 => ?_) (fun j h1 h2 _ => ?_)
  · rw [l1, l2, lexAt_tup xs ys e r 0 hk (fun j x y h1 h2 => by rw [Nat.zero_add]; simp only [e, h1, h2]) (fun j x y h1 h2 => by rw [Nat.zero_add]; simp only [r, h1, h2])] at key
    exact key X.prog X.w X.xe _ ⟨.bl (tupLt xs ys), H, I, rfl, q⟩
  · obtain ⟨x, y, g1, g2, q1, q2, hk2⟩ := get j h1 h2
    have he : e j = decide (x = y) := by simp only [e, g1, g2]
    rw [he]
    cases x <;> cases y <;> first | cases hk2 | skip
    · obtain ⟨t1, z1⟩ := q1
      obtain ⟨t2, z2⟩ := q2
      rw [z1, z2]
      have := SeqAt.EqAt.int_int (A := X.A.in1) (s := s)
      rename_i i k
      have w1 := this i t1 k t2
      have w2 : (i == k) = decide (V.int i = V.int k) := by
        by_cases hh : i = k
        · subst hh; simp
        · rw [decide_eq_false (fun z => hh (V.int.inj z))]; exact beq_eq_false_iff_ne.mpr hh
      rw [w2] at w1
      exact w1
    · obtain ⟨t1, z1⟩ := q1
      obtain ⟨t2, z2⟩ := q2
      rw [z1, z2]
      have := SeqAt.EqAt.str_str (A := X.A.in1) (s := s)
      rename_i i k
      have w1 := this i t1 k t2
      have w2 : (i == k) = decide (V.str i = V.str k) := by
        by_cases hh : i = k
        · subst hh; simp
        · rw [decide_eq_false (fun z => hh (V.str.inj z))]; exact beq_eq_false_iff_ne.mpr hh
      rw [w2] at w1
      exact w1
  · obtain ⟨x, y, g1, g2, q1, q2, hk2⟩ := get j h1 h2
    have he : r j = vLt x y := by simp only [r, g1, g2]
    rw [he]
    cases x <;> cases y <;> first | cases hk2 | skip
    · obtain ⟨t1, z1⟩ := q1
      obtain ⟨t2, z2⟩ := q2
      rw [z1, z2]
      exact Ob.RcOp.lt_int _ _ _ _
    · obtain ⟨t1, z1⟩ := q1
      obtain ⟨t2, z2⟩ := q2
      rw [z1, z2]
      exact fun _ _ _ _ h => PyProof.Rows.lt_str h
/-! ### repr of data of None, bools, ints, texts and tuples -/
theorem call_reprD {X : Cx} (hg : X.A.guards = some []) (hu : X.A.units + 64 < cLine) :
    CallR X (.builtin "repr") (fun xs H Q => ∃ v d, xs = [v] ∧ Dp X.K H v d ∧ d.showable = true ∧ d.hasDict = false ∧ d.depth ≤ 60 ∧ d.shown.length ≤ sizeLine ∧ Q (.str d.shown) H) := by
  intro pins s σ H xs us Q I r h
  obtain ⟨v, d, rfl, hd, h1, h2, h3, h4, q⟩ := h
  cases r with
  | cons rv rn =>
    cases rn
    rename_i u
    obtain ⟨as, hr⟩ := Dp.reads I d v u hd rv
    have big : ∀ a : Addr, u = .ref a → wpAny (model X.prog X.w) X.A (call (.builtin "repr") [u]) (EP X pins σ Q) X.xe s := fun a e => by
      subst e
      exact PySem.repr_of_reads' hr h1 (fun z => by rw [h2] at z; cases z) hg (by omega) (fun _ _ e => e) (fun h' w tk k => ⟨.str d.shown, H, I.kept k, ⟨_, rfl⟩, q⟩) h4
    cases hd with
    | non =>
      cases (show u = Value.none from rv)
      exact PySem.P.repr_of_none ⟨.str _, H, I.tok _, ⟨_, rfl⟩, q⟩
    | bl b =>
      cases (show u = Value.bool b from rv)
      refine PySem.P.repr_of_bool ⟨.str _, H, I.tok _, ⟨_, rfl⟩, q⟩
    | int i =>
      obtain ⟨t, e⟩ := (show ∃ t, u = Value.int i t from rv)
      subst e
      have h1' : i.natAbs.log2 < 1920 := by simpa [PyData.showable] using h1
      exact PySem.P.repr_of_int h1' ⟨.str _, H, I.tok _, ⟨_, rfl⟩, q⟩
    | str x =>
      obtain ⟨t, e⟩ := (show ∃ t, u = Value.str x t from rv)
      subst e
      exact PySem.P.repr_of_str ⟨.str _, H, I.tok _, ⟨_, rfl⟩, q⟩ h4
    | lst hs ha => exact big _ rv
    | tup hs ha => exact big _ rv
end Sh
set_option Elab.async false
set_option linter.all false
set_option maxRecDepth 100000
set_option maxHeartbeats 2000000
namespace Sh
open PySem PySem.Spec PyProof.Rows
section
variable {prog : Program} {w : World} {A : Around} {E : Value → Shared → Prop} {s : Shared} {K : PySem.W.Frag} {x C f : Addr} {ox : Obj} {odd : Option Obj}
theorem truthy_own {Q : Bool → Shared → Prop} (X : K.In s.heap) (I : PySem.W.InstAt s.heap x ox C odd) (hs : PySem.W.findIn K (.ref C) "__bool__" = some (some (.ref f))) (hf : PySem.W.isFn K (.ref f) = true)
    (h : wpAny (model prog w) A (call (.ref f) [.ref x]) (fun r s₁ => ∃ b, r = Value.bool b ∧ Q b s₁) E s) : wpAny (model prog w) A (truthy (.ref x)) Q E s := by
  unfold truthy
  first
    | refine wpAny_bind (m := callSpecial? (.ref x) (Str.ofString "__bool__")) (PySem.W.special_fn X I hs (beq_iff_eq.mp hf) (wpAny_mono h (fun r s' hr => ?_) fun _ _ y => y))
    | refine wpAny_bind (wpAny_pure (wpAny_bind (m := callSpecial? (.ref x) (Str.ofString "__bool__")) (PySem.W.special_fn X I hs (beq_iff_eq.mp hf) (wpAny_mono h (fun r s' hr => ?_) fun _ _ y => y))))
  obtain ⟨b, rfl, hq⟩ := hr
  first
    | exact wpAny_pure hq
    | exact wpAny_bind (wpAny_pure hq)
theorem meets_bool_own : MeetsIn prog w (Builtin.«bool.__new__» ⟨[.type "bool", .ref x], []⟩) (fun A R s => K.In s.heap ∧ PySem.W.InstAt s.heap x ox C odd ∧ PySem.W.findIn K (.ref C) "__bool__" = some (some (.ref f)) ∧ PySem.W.isFn K (.ref f) = true ∧
    wpAny (model prog w) A.in1 (call (.ref f) [.ref x]) (fun r s₁ => ∃ b, r = Value.bool b ∧ R (.ok (.ret (.bool b))) s₁) (fun e s' => R (.error e) s') s) :=
  MeetsIn.of_wp fun A R s hs => by
    obtain ⟨X, I, h1, h2, h⟩ := hs
    have f1 := F.conv_sub_bool
    have key : ∀ Q : Bool → Shared → Prop, (∀ b s₁, R (.ok (.ret (.bool b))) s₁ → Q b s₁) → wpAny (model prog w) A.in1 (truthy (.ref x)) Q (fun e s' => R (.error e) s') s := fun Q hq =>
      truthy_own X I h1 h2 (wpAny_mono h (fun r s₁ ⟨b, e, k⟩ => ⟨b, e, hq b s₁ k⟩) fun _ _ z => z)
    obtain ⟨hp, g, d, tk, os⟩ := s
    repeat (any_goals (first | assumption | (with_reducible refine key _ fun b s₁ k => ?_) | wp_step))
    all_goals first | exact ⟨_, rfl, by assumption⟩ | skip
theorem call_bool_own {Q : Value → Shared → Prop} (X : K.In s.heap) (I : PySem.W.InstAt s.heap x ox C odd) (hs : PySem.W.findIn K (.ref C) "__bool__" = some (some (.ref f))) (hf : PySem.W.isFn K (.ref f) = true)
    (h : wpAny (model prog w) A.in1.in1 (call (.ref f) [.ref x]) (fun r s₁ => ∃ b, r = Value.bool b ∧ Q r s₁) E s) : wpAny (model prog w) A (call (.type "bool") [.ref x]) Q E s := by
  refine callType_newIn F.called_bool F.newNe_bool (F.typeCall_bool_1 _) (F.newCall_bool_1 _) (fun obj => F.args_object_init_2 obj _) F.entry_bool_new (meets_bool_own (K := K) (C := C) (f := f) (ox := ox) (odd := odd)) ⟨X, I, hs, hf, ?_⟩
  refine wpAny_mono h (fun r s₁ ⟨b, e, k⟩ => ⟨b, e, ?_⟩) fun _ _ z => z
  subst e
  exact ⟨rfl, k⟩
end
end Sh
namespace Sh
open PySem PySem.Spec PyProof.Rows L2
section
variable {X : Cx} {CX : CXT} {C g : Addr} {n : Nat} {sp : Sp} {E : XK}
theorem fnR_of {P : Program} {w : World} {K : PySem.W.Frag} {mg : Str → Option Value} {base : Heap} {k : Nat} {f : Addr} {fd : FuncData} {ps : List Str} (F : FnOk P w K mg base CX k f fd ps sp) (b : Binds K fd ps []) : FnR P w K mg base CX k f sp := by
  intro A outer s H us vs Q E hr e0 r h
  have hl := F.len _ _ _ _ h
  have KX : K.In s.heap := e0.mod.kin.keeps fun b o e => (e0.bs b o e).1
  have hul : (us ++ []).length = ps.length := by rw [List.append_nil, ← r.length]; exact hl
  have hb := b s us KX hul
  rw [List.append_nil] at hb
  exact F.run A outer s H ⟨us, []⟩ us vs Q E hr e0 hb r h
/-- the callee runs below the running body -/
theorem run_in {pins : List (Addr × Obj)} {σ : L2.St} {H : Hp} {s : Shared} {A : Around} {Q : VK} {us : List Value} {ws : List V} (F : FnR X.prog X.w X.K X.mg X.base CX n g sp) (hr : Room n A) (e0 : Env0 X.prog X.w X.K X.mg X.base A X.stack s H) (hx : Passes CX X E)
    (I : Inv X pins σ H s) (r : Vals ws us) (h : sp ws H Q E) : wpAny (model X.prog X.w) A (call (.ref g) us) (EP X pins σ Q) X.xe s := by
  refine wpAny_call (codeAny_mono (F A X.stack s H us ws Q E hr e0 r h) fun r s' hq => ?_)
  cases r with
  | error e => exact hx pins σ H s e s' I hq
  | ok fl =>
    cases fl with
    | ret u => exact I.after hq
    | next => exact False.elim hq
    | brk => exact False.elim hq
    | cont => exact False.elim hq
/-- bool(x), x an instance of the class at C with an own __bool__ -/
def rBoolO (C : Addr) (sp : Sp) (E : XK) : List V → Hp → VK → Prop := fun xs H Q => ∃ a dx fs, xs = [V.ref a] ∧ H a = some (.ins C dx fs) ∧ sp [.ref a] H (fun z H' => ∃ b, z = .bl b ∧ Q z H') E
theorem call_boolO (hs : PySem.W.findIn X.K (.ref C) "__bool__" = some (some (.ref g))) (hf : PySem.W.isFn X.K (.ref g) = true) (F : FnR X.prog X.w X.K X.mg X.base CX n g sp) (hr : Room (n + 2) X.A) (hx : Passes CX X E) : CallR X (.type "bool") (rBoolO C sp E) := by
  intro pins s σ H xs us Q I r h
  obtain ⟨a, dx, fs, rfl, ha, q⟩ := h
  obtain rfl := Vals.ref1 r
  obtain ⟨ox, od, J, _⟩ := StX.insC_at (C := C) I (.inr ⟨dx, fs, ha⟩)
  have hr2 : Room n X.A.in1.in1 := (show Room (n + 1) X.A.in1 from Room.in1 hr).in1
  refine call_bool_own I.kIn J hs hf (wpAny_mono (run_in (us := [.ref a]) (ws := [.ref a]) F hr2 I.env0.in1.in1 hx I (.cons rfl .nil) q) (fun v s' z => ?_) fun _ _ x => x)
  obtain ⟨z', H', I', rz, b, eb, qz⟩ := z
  subst eb
  cases (show v = Value.bool b from rz)
  exact ⟨b, rfl, .bl b, H', I', rfl, qz⟩
end
end Sh
set_option Elab.async false
set_option linter.all false
set_option maxRecDepth 100000
set_option maxHeartbeats 4000000
namespace Sh
open PySem PySem.Spec PyProof.Rows L2
open SX (S S_inj S_len S_cat)
open Bk (Rule firstAt lg bestUp used left drain pushS Wf Ov ovAt ovP ovJ ovI ovs lf over res1 res2 okOv qstep quarrel keyLt)
local macro_rules | `(tactic| walk_at "nx") => `(tactic| repeat (with_reducible first | refine Sh.gn_mk ?_ | refine Sh.nx_mk ?_ | refine Sh.st_nx ?_ | refine Sh.rt_mk ?_ | refine Sh.ct_mk ?_ | refine Sh.bk_mk ?_))
local macro_rules | `(tactic| walk_at "sq") => `(tactic| first | exact SqL.of upd_same | exact SqT.of upd_same | exact SqL.of (by assumption) | exact SqT.of (by assumption) | assumption | exact Or.inl (SqL.of (by assumption)) | exact Or.inr (SqT.of (by assumption)) | exact Or.inl (by assumption) | exact Or.inr (by assumption))
local macro_rules | `(tactic| walk_at "hp") => `(tactic| first | exact upd_same | assumption)
local macro_rules | `(tactic| walk_at "sz") => `(tactic| first | exact Nat.le_of_ble_eq_true rfl | omega)
local macro_rules | `(tactic| walk_at "sd") => `(tactic| first | omega | exact rfl | assumption | (show (0 : Int) < _; omega) | exact And.intro (by omega) (by omega) | exact Or.inl (And.intro (by omega) (by omega)) | exact Or.inr (And.intro (by omega) (by omega)) | omega | exact Sh.sz_S (by omega) | decide)
local macro_rules | `(tactic| walk_at "rd1") => `(tactic| first
  | (with_reducible first | refine Sh.gn_mk ?_ | refine Sh.nx_mk ?_ | refine Sh.st_nx ?_ | refine Sh.rt_mk ?_ | refine Sh.ct_mk ?_ | refine Sh.bk_mk ?_)
  | refine Exists.intro (α := V) _ (And.intro rfl ?_)
  | refine Exists.intro (α := Bool) _ (And.intro rfl ?_)
  | refine Exists.intro (α := Int) _ (And.intro rfl ?_)
  | refine Exists.intro (α := PySem.Str) _ (And.intro rfl ?_)
  | refine Exists.intro (α := Int) _ (Exists.intro (α := Int) _ (And.intro rfl (And.intro rfl ?_)))
  | refine Exists.intro (α := PySem.Str) _ (Exists.intro (α := PySem.Str) _ (And.intro rfl (And.intro rfl ?_)))
  | refine Exists.intro (α := Int) _ (Exists.intro (α := Int) _ (And.intro rfl ?_))
  | refine Or.inl (Exists.intro (α := Int) _ (And.intro rfl ?_))
  | refine Exists.intro _ (Exists.intro _ (Exists.intro _ (Exists.intro _ (And.intro rfl (And.intro rfl (And.intro (by walk_at "sq") (And.intro rfl ?_)))))))
  | refine Exists.intro _ (Exists.intro _ (Exists.intro _ (Exists.intro _ (And.intro rfl (And.intro rfl (And.intro (by walk_at "hp") (And.intro rfl ?_)))))))
  | refine And.intro (by walk_at "sd") ?_
  )
local macro_rules | `(tactic| walk_at "rd") => `(tactic| repeat walk_at "rd1")
local macro_rules | `(tactic| walk_at "lk") => `(tactic| first | exact rfl | (rw [lookup_putF, if_pos rfl]) | (rw [lookup_putF, if_neg (by decide +kernel)]; walk_at "lk"))

section
variable {P : Program} {w : World} {K : PySem.W.Frag} {mg : Str → Option Value} {base : Heap}
def ovTup (o : Ov) : List V := [.str (S o.1), .int (o.2.1 : Nat), .int (o.2.2.1 : Nat), .int (o.2.2.2 : Nat)]
def OvV (H : Hp) (v : V) (o : Ov) : Prop := ∃ q, v = .ref q ∧ H q = some (.tup (ovTup o))
theorem OvV.same {H H' : Hp} {v : V} {o : Ov} (s : Same H H') (h : OvV H v o) : OvV H' v o := let ⟨q, e, h⟩ := h; ⟨q, e, s _ _ h⟩
theorem OvV.mut {H : Hp} {v : V} {o : Ov} {p : Addr} {xs ys : List V} (hp : H p = some (.lst xs)) (h : OvV H v o) : OvV (upd H p (.lst ys)) v o := by
  obtain ⟨q, e, h⟩ := h
  exact ⟨q, e, by rw [upd_ne (ne_of h hp (by intro z; cases z))]; exact h⟩
def spRows (K : PySem.W.Frag) : Sp := fun vs H Q _ => ∃ (a : Addr) (xs : List V) (R : List Rule), vs = [.ref a] ∧ RulesAt K H a xs R ∧ R.length ≤ 64 ∧ (∀ r ∈ R, r.1.length ≤ 4) ∧
  ∀ (p : Addr) (ys : List V) (H' : Hp), H p = none → Same H H' → H' p = some (.lst ys) → Items OvV H' ys (ovs R) → Q (.ref p) H'
theorem c_overlap_rows (T : Txt K mg) : Cal P w K mg base CX0 1 "overlap_rows" (spRows K) := by
  refine Cal.mk0 T.d_overlap_rows sc_overlap_rows (fun vs H Q E h => ?_) (fun f cdv A outer s H vs Q E hr h => ?_)
  · obtain ⟨a, xs, R, rfl, _⟩ := h
    rfl
  · obtain ⟨a, xs, R, rfl, hR, hl, h4, k⟩ := h
    have hlx := hR.len
    refine ⟨_, (pss_cons (ps_set (i := 1) sc_overlap_rows.nd rfl (Or.inl rfl) (pe_lst pa_nil))
  (pss_cons (ps_for PassesOwn.never rfl (pi_range1 (by rfl) T.b_range (pa_cons (pe_callB call_len_seq (by rfl) T.b_len (by decide +kernel) (pa_cons (pv 0) pa_nil)) pa_nil)) (pg_name (i := 2) sc_overlap_rows.nd rfl (Or.inl rfl))
    (pss_cons (ps_set (i := 3) sc_overlap_rows.nd rfl (Or.inl rfl) (pe_ix ix_tup (pe_ix ix_tup (pv 0) (pv 2) (fun _ _ => rfl)) pe_int (fun _ _ => rfl)))
    (pss_one (ps_for PassesOwn.never rfl (pi_range1 (by rfl) T.b_range (pa_cons (pe_callB call_len_seq (by rfl) T.b_len (by decide +kernel) (pa_cons (pv 0) pa_nil)) pa_nil)) (pg_name (i := 4) sc_overlap_rows.nd rfl (Or.inl rfl))
      (pss_cons (ps_set (i := 5) sc_overlap_rows.nd rfl (Or.inl rfl) (pe_ix ix_tup (pe_ix ix_tup (pv 0) (pv 4) (fun _ _ => rfl)) pe_int (fun _ _ => rfl)))
      (pss_one (ps_for PassesOwn.never rfl (pi_range1 (by rfl) T.b_range (pa_cons (pe_callB call_len_str (by rfl) T.b_len (by decide +kernel) (pa_cons (pv 3) pa_nil)) pa_nil)) (pg_name (i := 6) sc_overlap_rows.nd rfl (Or.inl rfl))
        (pss_cons (ps_if (PW.pt (pw_and (pt_cmpR op_eq (pv 6) pe_int (nomark _)) (pw_and1 (pt_cmpR op_ge (pv 2) (pv 4) (nomark _)))))
          (pss_one ps_continue)
          pss_nil)
        (pss_cons (ps_set (i := 7) sc_overlap_rows.nd rfl (Or.inl rfl) (pe_callB (call_min2 rfl) (by rfl) T.b_min (by decide +kernel) (pa_cons (pe_op op_sub (pe_callB call_len_str (by rfl) T.b_len (by decide +kernel) (pa_cons (pv 3) pa_nil)) (pv 6)) (pa_cons (pe_callB call_len_str (by rfl) T.b_len (by decide +kernel) (pa_cons (pv 5) pa_nil)) pa_nil))))
        (pss_one (ps_if (pt_cmpR op_eq (pe_slice sl_str (pv 3) (po_some (pv 6)) (po_some (pe_op op_add (pv 6) (pv 7)))) (pe_slice sl_str (pv 5) po_none (po_some (pv 7))) (nomark _))
          (pss_one (ps_expr (pe_bm PySem.F.plainAttrs_list PySem.F.slot_list_append PySem.F.type_list_append mt_append (pv 1) (pa_cons (pe_tup (pa_cons (pe_op op_add_str (pv 3) (pe_slice sl_str (pv 5) (po_some (pv 7)) po_none)) (pa_cons (pv 2) (pa_cons (pv 6) (pa_cons (pv 4) pa_nil))))) pa_nil))))
          pss_nil)))))))))))
  (pss_one (ps_ret (pv 1))))), ?_⟩
    refine ⟨by walk_at "sz", fun p hp => ?_⟩
    have s1 : Same H (upd H p (.lst [])) := same_new hp
    refine ⟨_, rfl, a, xs, rfl, .inr (hR.same s1).sq, ?_⟩
    walk_at "rd"
    refine for_range (lo := 0) (n := ((xs.length : Int)).toNat) (fun i σ H2 => ∃ (ys : List V) (v2 v3 v4 v5 v6 v7 : Option V), σ = [some (.ref a), some (.ref p), v2, v3, v4, v5, v6, v7] ∧ Same H H2 ∧ H2 p = some (.lst ys) ∧ Items OvV H2 ys (ovI R i))
      ⟨[], _, _, _, _, _, _, rfl, s1, upd_same, Items.nil⟩ ?_ ?_
    · rintro i σ H2 hi ⟨ys, v2, v3, v4, v5, v6, v7, rfl, s2, hp2, it2⟩
      rw [Int.zero_add]
      have hi2 : i < R.length := by omega
      have hr2 : R[i]? = some R[i] := by simp [hi2]
      have hli : lf R i = R[i].1 := Bk.lf_get hr2
      obtain ⟨q, hq, sq⟩ := (hR.same s2).get hr2
      refine ⟨_, rfl, _, rfl, a, xs, _, .ref q, rfl, rfl, (hR.same s2).sq, atI_nat hq, q, _, 0, .str (S R[i].1), rfl, rfl, sq, rfl, ?_⟩
      walk_at "nx"
      refine ⟨_, rfl, a, xs, rfl, .inr (hR.same s2).sq, ?_⟩
      walk_at "rd"
      refine for_range (lo := 0) (n := ((xs.length : Int)).toNat) (fun j σ H3 => ∃ (ys : List V) (v4 v5 v6 v7 : Option V), σ = [some (.ref a), some (.ref p), some (.int (i : Nat)), some (.str (S R[i].1)), v4, v5, v6, v7] ∧ Same H H3 ∧ H3 p = some (.lst ys) ∧ Items OvV H3 ys (ovI R i ++ Bk.ovJ R i j))
        ⟨ys, _, _, _, _, rfl, s2, hp2, by simpa [ovJ] using it2⟩ ?_ ?_
      · rintro j σ H3 hj ⟨ys, v4, v5, v6, v7, rfl, s3, hp3, it3⟩
        rw [Int.zero_add]
        have hj2 : j < R.length := by omega
        have hr3 : R[j]? = some R[j] := by simp [hj2]
        have hlj : lf R j = R[j].1 := Bk.lf_get hr3
        obtain ⟨q3, hq3, sq3⟩ := (hR.same s3).get hr3
        have l4 : R[i].1.length ≤ 4 := h4 _ (List.getElem_mem hi2)
        have l4j : R[j].1.length ≤ 4 := h4 _ (List.getElem_mem hj2)
        refine ⟨_, rfl, _, rfl, a, xs, _, .ref q3, rfl, rfl, (hR.same s3).sq, atI_nat hq3, q3, _, 0, .str (S R[j].1), rfl, rfl, sq3, rfl, ?_⟩
        walk_at "nx"
        have hSl := S_len R[i].1
        have hSlj := S_len R[j].1
        walk_at "rd"
        refine for_range (lo := 0) (n := (((S R[i].1).length : Int)).toNat) (fun k σ H4 => ∃ (ys : List V) (v6 v7 : Option V), σ = [some (.ref a), some (.ref p), some (.int (i : Nat)), some (.str (S R[i].1)), some (.int (j : Nat)), some (.str (S R[j].1)), v6, v7] ∧ Same H H4 ∧ H4 p = some (.lst ys) ∧ Items OvV H4 ys (ovI R i ++ ovJ R i j ++ ovP i R[i].1 j R[j].1 k))
          ⟨ys, _, _, rfl, s3, hp3, by simpa [ovP] using it3⟩ ?_ ?_
        · rintro k4 σ H4 hk ⟨ys, v6, v7, rfl, s4, hp4, it4⟩
          rw [Int.zero_add]
          have hk2 : k4 < R[i].1.length := by omega
          have hz5 : ys.length < sizeLine := by
            have z1 := Bk.ovI_len (Bk.lf_le h4) i
            have z2 := Bk.ovJ_len R i j
            have z3 := Bk.ovP_len i R[i].1 j R[j].1 k4
            have z4 : i * (R.length * 4) ≤ 64 * (64 * 4) := Nat.mul_le_mul (by omega) (Nat.mul_le_mul (by omega) (by omega))
            have z5 : j * (lf R i).length ≤ 64 * 4 := Nat.mul_le_mul (by omega) (Bk.lf_le h4 i)
            have z6 := it4.1
            rw [List.length_append, List.length_append] at z6
            exact Nat.lt_of_le_of_lt (m := 100000) (by omega) (by decide)
          walk_at "nx"
          refine st_ifK (decide (k4 = 0 ∧ j ≤ i)) (fun Q' hQ => ?_) (fun hb => ?_) (fun hb => ?_)
          · walk_at "rd"
            refine ite2 (fun c => ?_) (fun c => ?_)
            · have c1 : k4 = 0 := by have := V.int.inj (of_decide_eq_true c); omega
              walk_at "rd"
              exact q_of hQ (decide_eq_decide.mpr (by omega))
            · have c1 : ¬ k4 = 0 := by
                intro e
                subst e
                exact c rfl
              exact q_of hQ (decide_eq_false (by omega)).symm
          · have hb' := of_decide_eq_true hb
            refine ⟨ys, _, _, rfl, s4, hp4, ?_⟩
            rw [Bk.ovP_succ, show ovAt i R[i].1 j R[j].1 k4 = none from if_pos hb']
            simpa using it4
          · have hb' := of_decide_eq_false hb
            walk_at "nx"
            have hmin : (if ((S R[j].1).length : Int) < (S R[i].1).length - (k4 : Int) then ((S R[j].1).length : Int) else (S R[i].1).length - (k4 : Int)) = ((min (R[i].1.length - k4) R[j].1.length : Nat) : Int) := by
              split <;> omega
            refine ⟨_, rfl, _, rfl, by walk_at "sd", _, rfl, _, _, rfl, rfl, _, rfl, _, rfl, by walk_at "sd", _, _, rfl, ?_⟩
            rw [hmin]
            generalize hm : min (R[i].1.length - k4) R[j].1.length = m
            walk_at "rd"
            rw [cut_mid (by omega) (by omega), cut_to (by omega)]
            rw [show ((k4 : Nat) : Int).toNat = k4 by omega, show (((k4 : Nat) : Int) + (m : Nat)).toNat - k4 = m by omega, show ((m : Nat) : Int).toNat = m by omega]
            by_cases hc : (R[i].1.drop k4).take m = R[j].1.take m
            · have ho : ovAt i R[i].1 j R[j].1 k4 = some (R[i].1 ++ R[j].1.drop m, i, k4, j) := by
                unfold ovAt over
                rw [if_neg hb', hm, if_pos hc]; rfl
              rw [show decide (V.str (S ((R[i].1.drop k4).take m)) = V.str (S (R[j].1.take m))) = true from decide_eq_true (by rw [hc])]
              refine iteT ?_
              refine ⟨_, rfl, .inl ⟨rfl, _, SqL.of hp4⟩, ?_⟩
              walk_at "rd"
              rw [cut_from (by omega), show ((m : Nat) : Int).toNat = m by omega]
              refine ⟨by rw [S_len, S_len]; exact Nat.le_trans (m := 8) (by simp; omega) (by decide), ?_⟩
              rw [S_cat]
              walk_at "rd"
              refine ⟨by walk_at "sz", fun q9 hq9 => ?_⟩
              have s5 : Same H4 (upd H4 q9 (.tup (ovTup (R[i].1 ++ R[j].1.drop m, i, k4, j)))) := same_new hq9
              refine ⟨p, _, _, rfl, rfl, s5 _ _ hp4, hz5, ?_⟩
              refine ⟨_, _, _, rfl, same_mut (s4.trans s5) hp, upd_same, ?_⟩
              rw [Bk.ovP_succ, ho, ← List.append_assoc]
              exact it4.snoc (fun x y r => (r.same s5).mut (s5 _ _ hp4)) ⟨q9, rfl, by rw [upd_ne (ne_of_none hp4 hq9).symm]; exact upd_same⟩
            · have ho : ovAt i R[i].1 j R[j].1 k4 = none := by
                unfold ovAt over
                rw [if_neg hb', hm, if_neg hc]; rfl
              rw [show decide (V.str (S ((R[i].1.drop k4).take m)) = V.str (S (R[j].1.take m))) = false from decide_eq_false (fun e => hc (S_inj (V.str.inj e)))]
              refine iteF ?_
              walk_at "rd"
              refine ⟨ys, _, _, rfl, s4, hp4, ?_⟩
              rw [Bk.ovP_succ, ho]
              simpa using it4
        · rintro σ H4 ⟨ys, v6, v7, rfl, s4, hp4, it4⟩
          walk_at "nx"
          refine ⟨ys, _, _, _, _, rfl, s4, hp4, ?_⟩
          rw [Bk.ovJ_succ, hli, hlj, ← List.append_assoc]
          rw [show (((S R[i].1).length : Int)).toNat = R[i].1.length by omega] at it4
          exact it4
      · rintro σ H3 ⟨ys, v4, v5, v6, v7, rfl, s3, hp3, it3⟩
        walk_at "nx"
        refine ⟨ys, _, _, _, _, _, _, rfl, s3, hp3, ?_⟩
        rw [Bk.ovI_succ]
        rw [show ((xs.length : Int)).toNat = R.length by omega] at it3
        exact it3
    · rintro σ H2 ⟨ys, v2, v3, v4, v5, v6, v7, rfl, s2, hp2, it2⟩
      walk_at "rd"
      rw [show ((xs.length : Int)).toNat = R.length by omega] at it2
      exact k p ys H2 hp s2 hp2 it2
end
end Sh
set_option Elab.async false
set_option linter.all false
set_option maxRecDepth 100000
set_option maxHeartbeats 4000000
namespace Sh
open PySem PySem.Spec PyProof.Rows L2
open SX (S S_inj S_len S_cat)
open Bk (Rule firstAt lg bestUp used left drain pushS Wf Ov ovAt ovP ovJ ovI ovs lf over res1 res2 okOv qstep quarrel keyLt)
local macro_rules | `(tactic| walk_at "nx") => `(tactic| repeat (with_reducible first | refine Sh.gn_mk ?_ | refine Sh.nx_mk ?_ | refine Sh.st_nx ?_ | refine Sh.rt_mk ?_ | refine Sh.ct_mk ?_ | refine Sh.bk_mk ?_))
local macro_rules | `(tactic| walk_at "sq") => `(tactic| first | exact SqL.of upd_same | exact SqT.of upd_same | exact SqL.of (by assumption) | exact SqT.of (by assumption) | assumption | exact Or.inl (SqL.of (by assumption)) | exact Or.inr (SqT.of (by assumption)) | exact Or.inl (by assumption) | exact Or.inr (by assumption))
local macro_rules | `(tactic| walk_at "hp") => `(tactic| first | exact upd_same | assumption)
local macro_rules | `(tactic| walk_at "sz") => `(tactic| first | exact Nat.le_of_ble_eq_true rfl | omega)
local macro_rules | `(tactic| walk_at "sd") => `(tactic| first | omega | exact rfl | assumption | (show (0 : Int) < _; omega) | exact And.intro (by omega) (by omega) | exact Or.inl (And.intro (by omega) (by omega)) | exact Or.inr (And.intro (by omega) (by omega)) | omega | exact Sh.sz_S (by omega) | decide)
local macro_rules | `(tactic| walk_at "rd1") => `(tactic| first
  | (with_reducible first | refine Sh.gn_mk ?_ | refine Sh.nx_mk ?_ | refine Sh.st_nx ?_ | refine Sh.rt_mk ?_ | refine Sh.ct_mk ?_ | refine Sh.bk_mk ?_)
  | refine Exists.intro (α := V) _ (And.intro rfl ?_)
  | refine Exists.intro (α := Bool) _ (And.intro rfl ?_)
  | refine Exists.intro (α := Int) _ (And.intro rfl ?_)
  | refine Exists.intro (α := PySem.Str) _ (And.intro rfl ?_)
  | refine Exists.intro (α := Int) _ (Exists.intro (α := Int) _ (And.intro rfl (And.intro rfl ?_)))
  | refine Exists.intro (α := PySem.Str) _ (Exists.intro (α := PySem.Str) _ (And.intro rfl (And.intro rfl ?_)))
  | refine Exists.intro (α := Int) _ (Exists.intro (α := Int) _ (And.intro rfl ?_))
  | refine Or.inl (Exists.intro (α := Int) _ (And.intro rfl ?_))
  | refine Exists.intro _ (Exists.intro _ (Exists.intro _ (Exists.intro _ (And.intro rfl (And.intro rfl (And.intro (by walk_at "sq") (And.intro rfl ?_)))))))
  | refine Exists.intro _ (Exists.intro _ (Exists.intro _ (Exists.intro _ (And.intro rfl (And.intro rfl (And.intro (by walk_at "hp") (And.intro rfl ?_)))))))
  | refine And.intro (by walk_at "sd") ?_
  )
local macro_rules | `(tactic| walk_at "rd") => `(tactic| repeat walk_at "rd1")
local macro_rules | `(tactic| walk_at "lk") => `(tactic| first | exact rfl | (rw [lookup_putF, if_pos rfl]) | (rw [lookup_putF, if_neg (by decide +kernel)]; walk_at "lk"))

section
variable {P : Program} {w : World} {K : PySem.W.Frag} {mg : Str → Option Value} {base : Heap}
def spBoth (K : PySem.W.Frag) : Sp := fun vs H Q _ => ∃ (a : Addr) (xs : List V) (R : List Rule) (q : Addr) (t : List Nat) (i k j : Nat) (r1 r2 : Rule), vs = [.ref a, .ref q] ∧ RulesAt K H a xs R ∧ R.length ≤ 64 ∧ (∀ r ∈ R, r.1.length ≤ 4 ∧ r.2.length ≤ 1) ∧
  H q = some (.tup (ovTup (t, i, k, j))) ∧ R[i]? = some r1 ∧ R[j]? = some r2 ∧ t.length ≤ 100 ∧
  ∀ (p : Addr) (H' : Hp), H p = none → Same H H' → H' p = some (.tup [.str (S (res1 r1 t)), .str (S (res2 r2 t k))]) → Q (.ref p) H'
theorem c_both_results (T : Txt K mg) : Cal P w K mg base CX0 1 "both_results" (spBoth K) := by
  refine Cal.mk0 T.d_both_results sc_both_results (fun vs H Q E h => ?_) (fun f cdv A outer s H vs Q E hr h => ?_)
  · obtain ⟨a, xs, R, q, t, i, k, j, r1, r2, rfl, _⟩ := h
    rfl
  · obtain ⟨a, xs, R, q, t, i, k, j, r1, r2, rfl, hR, hl, h4, hq, hi, hj, ht, kk⟩ := h
    have hlx := hR.len
    obtain ⟨q1, hx1, sq1⟩ := hR.get hi
    obtain ⟨q2, hx2, sq2⟩ := hR.get hj
    have hlt1 := h4 _ (List.mem_of_getElem? hi)
    have hlt2 := h4 _ (List.mem_of_getElem? hj)
    refine ⟨_, (pss_cons (ps_asg (pv 1) (pg_tup (by rfl) (pgs_cons (pg_name (i := 2) sc_both_results.nd rfl (Or.inl rfl)) (pgs_cons (pg_name (i := 3) sc_both_results.nd rfl (Or.inl rfl)) (pgs_cons (pg_name (i := 4) sc_both_results.nd rfl (Or.inl rfl)) (pgs_cons (pg_name (i := 5) sc_both_results.nd rfl (Or.inl rfl)) pgs_nil))))))
  (pss_cons (ps_set (i := 6) sc_both_results.nd rfl (Or.inl rfl) (pe_op op_add_str (pe_ix ix_tup (pe_ix ix_tup (pv 0) (pv 3) (fun _ _ => rfl)) pe_int (fun _ _ => rfl)) (pe_slice sl_str (pv 2) (po_some (pe_callB call_len_str (by rfl) T.b_len (by decide +kernel) (pa_cons (pe_ix ix_tup (pe_ix ix_tup (pv 0) (pv 3) (fun _ _ => rfl)) pe_int (fun _ _ => rfl)) pa_nil))) po_none)))
  (pss_cons (ps_set (i := 7) sc_both_results.nd rfl (Or.inl rfl) (pe_op op_add_str (pe_op op_add_str (pe_slice sl_str (pv 2) po_none (po_some (pv 4))) (pe_ix ix_tup (pe_ix ix_tup (pv 0) (pv 5) (fun _ _ => rfl)) pe_int (fun _ _ => rfl))) (pe_slice sl_str (pv 2) (po_some (pe_op op_add (pv 4) (pe_callB call_len_str (by rfl) T.b_len (by decide +kernel) (pa_cons (pe_ix ix_tup (pe_ix ix_tup (pv 0) (pv 5) (fun _ _ => rfl)) pe_int (fun _ _ => rfl)) pa_nil)))) po_none)))
  (pss_one (ps_ret (pe_tup (pa_cons (pv 6) (pa_cons (pv 7) pa_nil)))))))), ?_⟩
    walk_at "rd"
    refine ⟨q, _, rfl, SqT.of hq, rfl, _, _, rfl, _, _, rfl, _, _, rfl, _, _, rfl, rfl, ?_⟩
    walk_at "rd"
    refine ⟨a, xs, _, .ref q1, rfl, rfl, hR.sq, atI_nat hx1, q1, _, 1, .str (S r1.2), rfl, rfl, sq1, rfl, ?_⟩
    refine ⟨_, rfl, _, rfl, _, rfl, ?_⟩
    refine ⟨a, xs, _, .ref q1, rfl, rfl, hR.sq, atI_nat hx1, ?_⟩
    refine ⟨q1, _, 0, .str (S r1.1), rfl, rfl, sq1, rfl, ?_⟩
    refine ⟨_, rfl, sz_S (by omega), _, rfl, _, rfl, sz_S (t := t) (by omega), ?_⟩
    walk_at "nx"
    refine ⟨_, _, rfl, rfl, ?_, ?_⟩
    · rw [cut_from (by omega), S_len, S_len]
      exact Nat.le_trans (m := 101) (by simp; omega) (by decide)
    rw [cut_from (by omega), S_cat, S_len, show ((r1.1.length : Nat) : Int).toNat = r1.1.length by omega]
    walk_at "rd"
    refine ⟨sz_S (t := t) (by omega), ?_⟩
    refine ⟨_, rfl, _, rfl, ?_⟩
    refine ⟨a, xs, _, .ref q2, rfl, rfl, hR.sq, atI_nat hx2, q2, _, 1, .str (S r2.2), rfl, rfl, sq2, rfl, ?_⟩
    rw [cut_to (by omega)]
    refine ⟨_, _, rfl, rfl, ?_, ?_⟩
    · rw [S_len, S_len]
      exact Nat.le_trans (m := 101) (by simp; omega) (by decide)
    rw [S_cat]
    refine ⟨_, rfl, _, rfl, _, rfl, _, rfl, ?_⟩
    refine ⟨a, xs, _, .ref q2, rfl, rfl, hR.sq, atI_nat hx2, q2, _, 0, .str (S r2.1), rfl, rfl, sq2, rfl, ?_⟩
    refine ⟨_, rfl, sz_S (by omega), _, _, rfl, rfl, ?_⟩
    refine ⟨_, rfl, _, rfl, sz_S (t := t) (by omega), ?_⟩
    rw [cut_from (by rw [S_len]; omega)]
    refine ⟨_, _, rfl, rfl, ?_, ?_⟩
    · rw [S_len, S_len]
      exact Nat.le_trans (m := 301) (by simp; omega) (by decide)
    rw [S_cat]
    walk_at "rd"
    refine ⟨by walk_at "sz", fun p hp => ?_⟩
    refine kk p _ hp (same_new hp) ?_
    rw [upd_same, S_len]
    rw [show (((k : Nat) : Int)).toNat = k by omega, show (((k : Nat) : Int) + (r2.1.length : Nat)).toNat = k + r2.1.length by omega]
    rfl
theorem key_lt (t u : List Nat) : tupLt [.int (t.length : Nat), .str (S t)] [.int (u.length : Nat), .str (S u)] = keyLt t u := by
  unfold keyLt
  show (if V.int (t.length : Nat) = V.int (u.length : Nat) then (if V.str (S t) = V.str (S u) then false else decide ((S t).cps.toList < (S u).cps.toList)) else decide ((t.length : Int) < (u.length : Int))) = _
  by_cases h : t.length = u.length
  · rw [if_pos (by rw [h]), if_pos h]
    by_cases e : t = u
    · subst e
      rw [if_pos rfl]
      exact (decide_eq_false (fun z => List.lt_irrefl (α := Nat) t z)).symm
    · rw [if_neg (fun z => e (S_inj (V.str.inj z)))]
  · rw [if_neg (fun z => h (by have := V.int.inj z; omega)), if_neg h]
    exact decide_eq_decide.mpr (by omega)
theorem ovs_len {R : List Rule} (h4 : ∀ r ∈ R, r.1.length ≤ 4) {o : Ov} (h : o ∈ ovs R) : o.1.length ≤ 8 := by
  obtain ⟨i, r, j, q, k, t, hr, hq, hk, c, ho, rfl⟩ := Bk.mem_ovs.mp h
  unfold over at ho
  have h1 := h4 _ (List.mem_of_getElem? hr)
  have h2 := h4 _ (List.mem_of_getElem? hq)
  split at ho
  · cases ho
    simp
    omega
  · cases ho
def qlt : Option (List Nat) → List Nat → Bool
  | none, _ => true
  | some b, t => keyLt t b
theorem qstep_eq (R : List Rule) (b : Option (List Nat)) (o : Ov) : qstep R b o = if qlt b o.1 = true then (if okOv R o = true then b else some o.1) else b := by
  unfold qstep
  cases b <;> rfl
theorem qstep_or (R : List Rule) (b : Option (List Nat)) (o : Ov) : qstep R b o = b ∨ qstep R b o = some o.1 := by
  unfold qstep
  cases b <;> (repeat' split) <;> first | exact .inl rfl | exact .inr rfl
theorem qfold_mem {R : List Rule} : ∀ (l : List Ov) (b : Option (List Nat)) {u : List Nat}, l.foldl (qstep R) b = some u → b = some u ∨ ∃ o ∈ l, o.1 = u
  | [], b, u, h => .inl h
  | o :: l, b, u, h => by
    rcases qfold_mem l _ h with q | ⟨o', m, e⟩
    · rcases qstep_or R b o with z | z
      · rw [z] at q; exact .inl q
      · rw [z] at q; exact .inr ⟨o, List.mem_cons_self, Option.some.inj q⟩
    · exact .inr ⟨o', List.mem_cons_of_mem _ m, e⟩
theorem ov_inv {R : List Rule} {t : List Nat} {i k j : Nat} (h : (t, i, k, j) ∈ ovs R) : ∃ r q, R[i]? = some r ∧ R[j]? = some q := by
  obtain ⟨i', r, j', q, k', t', hr, hq, hk, c, ho, e⟩ := Bk.mem_ovs.mp h
  cases e
  exact ⟨r, q, hr, hq⟩
def spQuarrel (K : PySem.W.Frag) : Sp := fun vs H Q _ => ∃ (a p : Addr) (xs : List V) (R : List Rule), vs = [.ref a, .ref p, .int (lg R : Nat)] ∧ RulesAt K H a xs R ∧ LeftsAt H p R ∧ Wf R ∧ R.length ≤ 64 ∧ (∀ r ∈ R, r.1.length ≤ 4 ∧ r.2.length ≤ 1) ∧
  ∀ (H' : Hp), Same H H' → Q (optS (quarrel R)) H'
theorem c_quarrel_of (T : Txt K mg) : Cal P w K mg base CX0 3 "quarrel_of" (spQuarrel K) := by
  have c_overlap_rows := c_overlap_rows (P := P) (w := w) (base := base) T
  have c_both_results := c_both_results (P := P) (w := w) (base := base) T
  have c_text_key := c_text_key (P := P) (w := w) (base := base) T
  have c_left_over := c_left_over (P := P) (w := w) (base := base) T
  refine Cal.mk0 T.d_quarrel_of sc_quarrel_of (fun vs H Q E h => ?_) (fun f cdv A outer s H vs Q E hr h => ?_)
  · obtain ⟨a, p, xs, R, rfl, _⟩ := h
    rfl
  · obtain ⟨a, p, xs, R, rfl, hR, hL, hw, hl, h4, kk⟩ := h
    have h4' : ∀ r ∈ R, r.1.length ≤ 4 := fun r m => (h4 r m).1
    refine ⟨_, (pss_cons (ps_set (i := 3) sc_quarrel_of.nd rfl (Or.inl rfl) pe_non)
  (pss_cons (ps_for PassesOwn.never rfl (pi_list (pe_c c_overlap_rows hr (by decide) rfl (pa_cons (pv 0) pa_nil))) (pg_name (i := 4) sc_quarrel_of.nd rfl (Or.inl rfl))
    (pss_one (ps_if (PW.pt (pw_or (pt_cmpR op_isN (pv 3) pe_non (nomark _)) (pw_or1 (pt_cmpR (op_ltTM hr.units) (pe_c c_text_key hr (by decide) rfl (pa_cons (pe_ix ix_tup (pv 4) pe_int (fun _ _ => rfl)) pa_nil)) (pe_c c_text_key hr (by decide) rfl (pa_cons (pv 3) pa_nil)) (nomark _)))))
      (pss_cons (ps_asg (pe_c c_both_results hr (by decide) rfl (pa_cons (pv 0) (pa_cons (pv 4) pa_nil))) (pg_tup (by rfl) (pgs_cons (pg_name (i := 5) sc_quarrel_of.nd rfl (Or.inl rfl)) (pgs_cons (pg_name (i := 6) sc_quarrel_of.nd rfl (Or.inl rfl)) pgs_nil))))
      (pss_one (ps_if (pt_cmpR op_ne (pe_c c_left_over hr (by decide) rfl (pa_cons (pv 1) (pa_cons (pv 2) (pa_cons (pv 5) pa_nil)))) (pe_c c_left_over hr (by decide) rfl (pa_cons (pv 1) (pa_cons (pv 2) (pa_cons (pv 6) pa_nil)))) (nomark _))
        (pss_one (ps_set (i := 3) sc_quarrel_of.nd rfl (Or.inl rfl) (pe_ix ix_tup (pv 4) pe_int (fun _ _ => rfl))))
        pss_nil)))
      pss_nil)))
  (pss_one (ps_ret (pv 3))))), ?_⟩
    walk_at "rd"
    refine ⟨a, xs, R, rfl, hR, hl, h4', fun p1 ys H1 hp1 s1 hq1 it1 => ?_⟩
    walk_at "nx"
    refine ⟨p1, rfl, ⟨_, SqL.of hq1⟩, ?_⟩
    refine for_lstR (K := K) (a := p1) (xs := ys) (l := ovs R) (Rel := OvV) it1.1 (fun pre σ H2 => ∃ (v4 v5 v6 : Option V), σ = [some (.ref a), some (.ref p), some (.int (lg R : Nat)), some (optS (pre.foldl (qstep R) none)), v4, v5, v6] ∧ Same H1 H2)
      ⟨_, _, _, rfl, Same.refl H1⟩ (fun pre σ H2 ⟨_, _, _, _, s2⟩ => ⟨SqL.of (s2 _ _ hq1), fun i x y h1 h2 => (it1.2 i x y h1 h2).same s2⟩) ?_ ?_
    · rintro pre o post x σ H2 e hx ⟨q, rfl, hq⟩ ⟨v4, v5, v6, rfl, s2⟩
      have ho : o ∈ ovs R := by rw [e]; simp
      have s02 := s1.trans s2
      have hto' := ovs_len h4' ho
      obtain ⟨t, i, k, j⟩ := o
      have hto : t.length ≤ 8 := hto'
      walk_at "nx"
      generalize hb : pre.foldl (qstep R) none = b
      have qt : SqT K H2 q [.str (S t), .int (i : Nat), .int (k : Nat), .int (j : Nat)] := SqT.of hq
      have e2 : (pre ++ [(t, i, k, j)]).foldl (qstep R) none = qstep R b (t, i, k, j) := by rw [List.foldl_append, hb]; rfl
      rw [e2]
      refine if_KH (qlt b t) (fun H' => Same H2 H') (fun Q' hQ => ?_) (fun hb1 H3 s3 => ?_) (fun hb1 H3 s3 => ?_)
      · cases b with
        | none =>
          walk_at "rd"
          exact hQ _ (Same.refl _)
        | some u =>
          have hu8 : u.length ≤ 8 := by
            rcases qfold_mem _ _ hb with z | ⟨o, m, rfl⟩
            · cases z
            · exact ovs_len h4' (by rw [e]; exact List.mem_append_left _ m)
          walk_at "rd"
          refine ⟨t, rfl, by omega, fun p3 hp3 => ?_⟩
          have s3 : Same H2 (upd H2 p3 (.tup [.int (t.length : Nat), .str (S t)])) := same_new hp3
          walk_at "rd"
          refine ⟨u, rfl, by omega, fun p4 hp4 => ?_⟩
          have s4 := s3.trans (same_new (o := .tup [.int (u.length : Nat), .str (S u)]) hp4)
          refine ⟨p3, p4, _, _, rfl, rfl, SqT.of (same_new hp4 _ _ upd_same), SqT.of upd_same, rfl, _, rfl, ?_⟩
          exact q_of (hQ _ s4) (key_lt t u)
      · obtain ⟨r1, r2, hr1, hr2⟩ := ov_inv ho
        walk_at "nx"
        refine ⟨_, rfl, _, rfl, a, xs, R, q, t, i, k, j, r1, r2, rfl, hR.same (s02.trans s3), hl, h4, s3 _ _ hq, hr1, hr2, by omega, fun p3 H4 hp3 s4 hq3 => ?_⟩
        walk_at "nx"
        refine ⟨p3, _, rfl, SqT.of hq3, rfl, _, _, rfl, _, _, rfl, rfl, ?_⟩
        walk_at "nx"
        have s24 := s3.trans s4
        have hL4 := hL.same (s02.trans s24)
        have l1 := (h4 _ (List.mem_of_getElem? hr1)).2
        have l2 := (h4 _ (List.mem_of_getElem? hr2)).2
        have hk : okOv R (t, i, k, j) = decide (left R (res1 r1 t) = left R (res2 r2 t k)) := by
          unfold okOv
          rw [hr1, hr2]
        have hq2 : qstep R b (t, i, k, j) = if okOv R (t, i, k, j) = true then b else some t := by
          rw [qstep_eq]
          exact if_pos hb1
        refine if_KH (!okOv R (t, i, k, j)) (fun H' => Same H4 H') (fun Q' hQ => ?_) (fun hb2 H5 s5 => ?_) (fun hb2 H5 s5 => ?_)
        · walk_at "nx"
          refine ⟨_, rfl, _, rfl, _, rfl, p, R, res1 r1 t, rfl, hL4, hw, by unfold res1; simp; omega, fun H5 s5 => ?_⟩
          refine ⟨_, rfl, _, rfl, _, rfl, p, R, res2 r2 t k, rfl, hL4.same s5, hw, by unfold res2; simp; omega, fun H6 s6 => ?_⟩
          refine ⟨rfl, _, rfl, q_of (hQ _ (s5.trans s6)) ?_⟩
          rw [hk]
          by_cases ee : left R (res1 r1 t) = left R (res2 r2 t k)
          · rw [decide_eq_true ee, decide_eq_true (by rw [ee])]
          · rw [decide_eq_false ee, decide_eq_false (fun z => ee (S_inj (V.str.inj z)))]
        · have hok : okOv R (t, i, k, j) = false := by simpa using hb2
          walk_at "nx"
          refine ⟨_, rfl, q, _, _, _, rfl, rfl, SqT.of ((s24.trans s5) _ _ hq), rfl, ?_⟩
          walk_at "nx"
          rw [hq2, hok]
          exact ⟨_, _, _, rfl, s2.trans (s24.trans s5)⟩
        · have hok : okOv R (t, i, k, j) = true := by simpa using hb2
          walk_at "nx"
          rw [hq2, hok]
          exact ⟨_, _, _, rfl, s2.trans (s24.trans s5)⟩
      · walk_at "nx"
        have hq2 : qstep R b (t, i, k, j) = b := by
          rw [qstep_eq]
          exact if_neg (by show ¬ qlt b t = true; rw [hb1]; decide)
        rw [hq2]
        exact ⟨_, _, _, rfl, s2.trans s3⟩
    · rintro σ H2 ⟨v4, v5, v6, rfl, s2⟩
      walk_at "rd"
      exact kk H2 (s1.trans s2)
end
end Sh
set_option Elab.async false
set_option linter.all false
set_option maxRecDepth 100000
set_option maxHeartbeats 4000000
namespace Sh
open PySem PySem.Spec PyProof.Rows L2
open SX (S S_inj S_len S_cat)
open Bk (Rule firstAt lg bestUp used left drain pushS Wf)
/-- a comprehension over a list whose items are told by l -/
theorem lc_lstF {α : Type} {f : α → V} {l : List α} {K : PySem.W.Frag} {a : Addr} {g : TG} {tt : TT} {te : TE} {vs : List Nat} {σ : L2.St} {H1 : Hp} {D : Addr} {Qd : Hp → Prop}
    (Pv : List α → Hp → Prop) (h0 : Pv [] (upd H1 D (.lst []))) (hG : ∀ pre H, Pv pre H → SqL K H a (l.map f))
    (hs : ∀ pre y post H, l = pre ++ y :: post → Pv pre H → g (f y) (wipe σ vs) H fun σ2 H2 => wipe σ2 vs = wipe σ vs ∧ tt σ2 H2 fun b H3 =>
      if b = true then te σ2 H3 fun y' H4 => ∃ acc, H4 D = some (.lst acc) ∧ acc.length < sizeLine ∧ Pv (pre ++ [y]) (upd H4 D (.lst (acc ++ [y']))) else Pv (pre ++ [y]) H3) (hd : ∀ H, Pv l H → Qd H) :
    ∃ W : Nat → Nat → Hp → Prop, (∃ m, W 0 m (upd H1 D (.lst []))) ∧ ∀ i m H, W i m H →
      ((Itl K a).stop i H ∧ Qd H) ∨ ((Itl K a).go i H ∧ ∃ Nx : Hp → Prop, (∀ H', Nx H' → ∃ m', m' < m ∧ W (i + 1) m' H') ∧ ∀ x H', (Itl K a).yld i H x H' → g x (wipe σ vs) H' fun σ2 H2 => wipe σ2 vs = wipe σ vs ∧ tt σ2 H2 fun b H3 =>
        if b = true then te σ2 H3 fun y H4 => ∃ acc, H4 D = some (.lst acc) ∧ acc.length < sizeLine ∧ Nx (upd H4 D (.lst (acc ++ [y]))) else Nx H3) := by
  have w := walk_list (K := K) (a := a) (xs := l.map f)
  refine lc_it w (fun i H => Pv (l.take i) H) (by simpa using h0) (fun i H _ p => hG _ H p) (fun i x H H' hi p y => ?_) (fun H p => hd H (by simpa using p))
  obtain ⟨rfl, hx⟩ := y
  have hi' : i < l.length := by simpa using hi
  have hl : l[i]? = some l[i] := by simp [hi']
  obtain ⟨e1, e2⟩ := take_succ_of hl
  have hx2 : x = f l[i] := by
    rw [List.getElem?_map, hl] at hx
    exact (Option.some.inj hx).symm
  subst hx2
  have q := hs _ l[i] _ H' e2 p
  rw [← e1] at q
  exact q
local macro_rules | `(tactic| walk_at "nx") => `(tactic| repeat (with_reducible first | refine Sh.gn_mk ?_ | refine Sh.nx_mk ?_ | refine Sh.st_nx ?_ | refine Sh.rt_mk ?_ | refine Sh.ct_mk ?_ | refine Sh.bk_mk ?_))
local macro_rules | `(tactic| walk_at "sq") => `(tactic| first | exact SqL.of upd_same | exact SqT.of upd_same | exact SqL.of (by assumption) | exact SqT.of (by assumption) | assumption | exact Or.inl (SqL.of (by assumption)) | exact Or.inr (SqT.of (by assumption)) | exact Or.inl (by assumption) | exact Or.inr (by assumption))
local macro_rules | `(tactic| walk_at "hp") => `(tactic| first | exact upd_same | assumption)
local macro_rules | `(tactic| walk_at "sz") => `(tactic| first | exact Nat.le_of_ble_eq_true rfl | omega)
local macro_rules | `(tactic| walk_at "sd") => `(tactic| first | omega | exact rfl | assumption | (show (0 : Int) < _; omega) | exact And.intro (by omega) (by omega) | exact Or.inl (And.intro (by omega) (by omega)) | exact Or.inr (And.intro (by omega) (by omega)) | omega | exact Sh.sz_S (by omega) | decide)
local macro_rules | `(tactic| walk_at "rd1") => `(tactic| first
  | (with_reducible first | refine Sh.gn_mk ?_ | refine Sh.nx_mk ?_ | refine Sh.st_nx ?_ | refine Sh.rt_mk ?_ | refine Sh.ct_mk ?_ | refine Sh.bk_mk ?_)
  | refine Exists.intro (α := V) _ (And.intro rfl ?_)
  | refine Exists.intro (α := Bool) _ (And.intro rfl ?_)
  | refine Exists.intro (α := Int) _ (And.intro rfl ?_)
  | refine Exists.intro (α := PySem.Str) _ (And.intro rfl ?_)
  | refine Exists.intro (α := Int) _ (Exists.intro (α := Int) _ (And.intro rfl (And.intro rfl ?_)))
  | refine Exists.intro (α := PySem.Str) _ (Exists.intro (α := PySem.Str) _ (And.intro rfl (And.intro rfl ?_)))
  | refine Exists.intro (α := Int) _ (Exists.intro (α := Int) _ (And.intro rfl ?_))
  | refine Or.inl (Exists.intro (α := Int) _ (And.intro rfl ?_))
  | refine Exists.intro _ (Exists.intro _ (Exists.intro _ (Exists.intro _ (And.intro rfl (And.intro rfl (And.intro (by walk_at "sq") (And.intro rfl ?_)))))))
  | refine Exists.intro _ (Exists.intro _ (Exists.intro _ (Exists.intro _ (And.intro rfl (And.intro rfl (And.intro (by walk_at "hp") (And.intro rfl ?_)))))))
  | refine And.intro (by walk_at "sd") ?_
  )
local macro_rules | `(tactic| walk_at "rd") => `(tactic| repeat walk_at "rd1")
local macro_rules | `(tactic| walk_at "lk") => `(tactic| first | exact rfl | (rw [lookup_putF, if_pos rfl]) | (rw [lookup_putF, if_neg (by decide +kernel)]; walk_at "lk"))

section
variable {P : Program} {w : World} {K : PySem.W.Frag} {mg : Str → Option Value} {base : Heap}
abbrev vS (t : List Nat) : V := .str (S t)
/-- the begins of the left sides -/
def Beg (ls : List (List Nat)) (u : List Nat) : Prop := u = [] ∨ ∃ l ∈ ls, ∃ n, n < l.length ∧ u = l.take n
def spKept (K : PySem.W.Frag) : Sp := fun vs H Q _ => ∃ (p : Addr) (ls : List (List Nat)) (m : Nat) (t : List Nat), vs = [.ref p, .int (m : Nat), .str (S t)] ∧ H p = some (.lst (ls.map vS)) ∧ ls.length ≤ 64 ∧ (∀ l ∈ ls, l.length ≤ 4) ∧ m ≤ 4 ∧ t.length ≤ 100 ∧
  ∀ (u : List Nat) (H' : Hp), Beg ls u → Same H H' → Q (.str (S u)) H'
theorem c_kept_tail (T : Txt K mg) : Cal P w K mg base CX0 1 "kept_tail" (spKept K) := by
  refine Cal.mk0 T.d_kept_tail sc_kept_tail (fun vs H Q E h => ?_) (fun f cdv A outer s H vs Q E hr h => ?_)
  · obtain ⟨p, ls, m, t, rfl, _⟩ := h
    rfl
  · obtain ⟨p, ls, m, t, rfl, hp, hl, h4, hm, ht, kk⟩ := h
    have hSl := S_len t
    refine ⟨_, (pss_cons (ps_for PassesOwn.never rfl (pi_range3 (by rfl) T.b_range (pa_cons (pe_callB (call_min2 rfl) (by rfl) T.b_min (by decide +kernel) (pa_cons (pe_op op_sub (pv 1) pe_int) (pa_cons (pe_callB call_len_str (by rfl) T.b_len (by decide +kernel) (pa_cons (pv 2) pa_nil)) pa_nil))) (pa_cons pe_int (pa_cons (pe_un un_neg pe_int) pa_nil)))) (pg_name (i := 3) sc_kept_tail.nd rfl (Or.inr rfl))
    (pss_cons (ps_set (i := 4) sc_kept_tail.nd rfl (Or.inr rfl) (pe_slice sl_str (pv 2) (po_some (pe_op op_sub (pe_callB call_len_str (by rfl) T.b_len (by decide +kernel) (pa_cons (pv 2) pa_nil)) (pv 3))) po_none))
    (pss_one (ps_if (pt_val (pe_callB (cr_any rfl) (by rfl) T.b_any (by decide +kernel) (pa_cons (pe_lc (own := [("left", 5)]) (g := gName 5) (tt := tYes) rfl sc_kept_tail.nd (pi_list (pv 0)) (blkOk_by (N := ["lefts", "longest", "text", "size", "tail", "left"]) (sc := defScope s_kept_tail) (by decide +kernel)) (fun _ _ _ _ _ => (pg_name (i := 5) sc_kept_tail.nd rfl (Or.inl rfl))) (fun _ _ _ _ _ => pts_nil) (fun _ _ _ _ _ => (pe_and (pe_m1 PySem.F.slot_str_startswith PySem.F.type_str_startswith mt_startswith (pv 5) (pv 4)) (pe_one (pe_cmpR op_gt (pe_callB call_len_str (by rfl) T.b_len (by decide +kernel) (pa_cons (pv 5) pa_nil)) (pv 3) (nomark _)))))) pa_nil)))
      (pss_one (ps_ret (pv 4)))
      pss_nil))))
  (pss_one (ps_ret pe_str))), ?_⟩
    walk_at "rd"
    refine ⟨_, _, _, _, rfl, RgC.neg (by split <;> omega) (by split <;> omega) (by omega) (by omega), ?_⟩
    refine for_rangeC (n := _) (fun i σ H2 => ∃ (v3 v4 v5 : Option V), σ = [some (.ref p), some (.int (m : Nat)), some (.str (S t)), v3, v4, v5] ∧ Same H H2)
      ⟨_, _, _, rfl, Same.refl H⟩ ?_ ?_
    · rintro i σ H2 hi ⟨v3, v4, v5, rfl, s2⟩
      obtain ⟨d, hd, hd1, hd2, hd3⟩ : ∃ d : Nat, (if ((S t).length : Int) < (m : Int) - 1 then ((S t).length : Int) else (m : Int) - 1) + (i : Nat) * (-1) = (d : Int) ∧ 1 ≤ d ∧ d ≤ t.length ∧ d < m := by
        refine ⟨((if ((S t).length : Int) < (m : Int) - 1 then ((S t).length : Int) else (m : Int) - 1) + (i : Nat) * (-1)).toNat, ?_, ?_, ?_, ?_⟩ <;> split at hi <;> split <;> omega
      rw [hd]
      walk_at "nx"
      refine ⟨_, rfl, _, rfl, _, rfl, sz_S (t := t) (by omega), _, rfl, _, _, rfl, rfl, _, rfl, _, rfl, sz_S (t := t) (by omega), ?_⟩
      rw [cut_from (by omega), hSl, show ((t.length : Int) - (d : Int)).toNat = t.length - d by omega]
      generalize hu : t.drop (t.length - d) = u
      have hul : u.length = d := by rw [← hu]; simp; omega
      walk_at "nx"
      refine if_KH (ls.any fun l => u.isPrefixOf l && decide (d < l.length)) (fun H' => Same H2 H') (fun Q' hQ => ?_) (fun hb H3 s3 => ?_) (fun hb H3 s3 => ?_)
      · walk_at "nx"
        refine ⟨_, rfl, p, rfl, ⟨_, SqL.of (s2 _ _ hp)⟩, fun D hD => lc_lstF (K := K) (a := p) (f := vS) (l := ls) (fun pre H3 => H3 D = some (.lst ((pre.map fun l => (u.isPrefixOf l && decide (d < l.length))).map V.bl)) ∧ Same H2 H3)
          ⟨upd_same, same_new hD⟩ (fun pre H3 ⟨_, s3⟩ => SqL.of (s3 _ _ (s2 _ _ hp))) ?_ ?_⟩
        · rintro pre l post H3 e ⟨h3, s3⟩
          refine ⟨rfl, ty_T ?_⟩
          have hll := h4 l (by rw [e]; simp)
          have hpl : pre.length ≤ 64 := by
            have := congrArg List.length e
            simp at this
            omega
          refine ev_J (fun v H' => v = .bl (u.isPrefixOf l && decide (d < l.length)) ∧ H' = H3) (fun Q'' hQ2 => ?_) ?_
          · refine ⟨_, rfl, ⟨_, rfl⟩, _, rfl, _, _, rfl, rfl, _, rfl, ?_⟩
            rw [startswith_S]
            cases hc : u.isPrefixOf l with
            | false => exact iteF (hQ2 _ _ ⟨by rw [hc]; rfl, rfl⟩)
            | true =>
              refine iteT ⟨_, rfl, _, rfl, sz_S (t := l) (by omega), _, rfl, _, _, rfl, rfl, ?_⟩
              refine hQ2 _ _ ⟨?_, rfl⟩
              rw [S_len, hc, Bool.true_and]
              exact congrArg V.bl (decide_eq_decide.mpr (by omega))
          · rintro v H' ⟨rfl, rfl⟩
            refine ⟨_, h3, by rw [List.length_map, List.length_map]; exact Nat.lt_of_le_of_lt (m := 64) hpl (by decide), ?_, same_mut s3 hD⟩
            rw [List.map_append, List.map_append]
            exact upd_same
        · rintro H3 ⟨h3, s3⟩
          refine ⟨D, _, rfl, SqL.of h3, _, rfl, ?_⟩
          refine q_of (hQ _ s3) ?_
          rw [List.any_map]
          rfl
      · obtain ⟨l, hl1, hl2⟩ := List.any_eq_true.mp hb
        rw [Bool.and_eq_true] at hl2
        have hpre := List.prefix_iff_eq_take.mp (List.isPrefixOf_iff_prefix.mp hl2.1)
        walk_at "rd"
        exact kk u H3 (.inr ⟨l, hl1, d, of_decide_eq_true hl2.2, by rw [← hul]; exact hpre⟩) (s2.trans s3)
      · walk_at "nx"
        exact ⟨_, _, _, rfl, s2.trans s3⟩
    · rintro σ H2 ⟨v3, v4, v5, rfl, s2⟩
      walk_at "rd"
      exact kk [] H2 (.inl rfl) s2
end
end Sh
set_option Elab.async false
set_option linter.all false
set_option maxRecDepth 100000
set_option maxHeartbeats 4000000
namespace Sh
open PySem PySem.Spec PyProof.Rows L2
open SX (S S_inj S_len S_cat)
open Bk (Rule firstAt lg bestUp used left drain pushS Wf)
local macro_rules | `(tactic| walk_at "nx") => `(tactic| repeat (with_reducible first | refine Sh.gn_mk ?_ | refine Sh.nx_mk ?_ | refine Sh.st_nx ?_ | refine Sh.rt_mk ?_ | refine Sh.ct_mk ?_ | refine Sh.bk_mk ?_))
local macro_rules | `(tactic| walk_at "sq") => `(tactic| first | exact SqL.of upd_same | exact SqT.of upd_same | exact SqL.of (by assumption) | exact SqT.of (by assumption) | assumption | exact Or.inl (SqL.of (by assumption)) | exact Or.inr (SqT.of (by assumption)) | exact Or.inl (by assumption) | exact Or.inr (by assumption))
local macro_rules | `(tactic| walk_at "hp") => `(tactic| first | exact upd_same | assumption)
local macro_rules | `(tactic| walk_at "sz") => `(tactic| first | exact Nat.le_of_ble_eq_true rfl | omega)
local macro_rules | `(tactic| walk_at "sd") => `(tactic| first | omega | exact rfl | assumption | (show (0 : Int) < _; omega) | exact And.intro (by omega) (by omega) | exact Or.inl (And.intro (by omega) (by omega)) | exact Or.inr (And.intro (by omega) (by omega)) | omega | exact Sh.sz_S (by omega) | decide)
local macro_rules | `(tactic| walk_at "rd1") => `(tactic| first
  | (with_reducible first | refine Sh.gn_mk ?_ | refine Sh.nx_mk ?_ | refine Sh.st_nx ?_ | refine Sh.rt_mk ?_ | refine Sh.ct_mk ?_ | refine Sh.bk_mk ?_)
  | refine Exists.intro (α := V) _ (And.intro rfl ?_)
  | refine Exists.intro (α := Bool) _ (And.intro rfl ?_)
  | refine Exists.intro (α := Int) _ (And.intro rfl ?_)
  | refine Exists.intro (α := PySem.Str) _ (And.intro rfl ?_)
  | refine Exists.intro (α := Int) _ (Exists.intro (α := Int) _ (And.intro rfl (And.intro rfl ?_)))
  | refine Exists.intro (α := PySem.Str) _ (Exists.intro (α := PySem.Str) _ (And.intro rfl (And.intro rfl ?_)))
  | refine Exists.intro (α := Int) _ (Exists.intro (α := Int) _ (And.intro rfl ?_))
  | refine Or.inl (Exists.intro (α := Int) _ (And.intro rfl ?_))
  | refine Exists.intro _ (Exists.intro _ (Exists.intro _ (Exists.intro _ (And.intro rfl (And.intro rfl (And.intro (by walk_at "sq") (And.intro rfl ?_)))))))
  | refine Exists.intro _ (Exists.intro _ (Exists.intro _ (Exists.intro _ (And.intro rfl (And.intro rfl (And.intro (by walk_at "hp") (And.intro rfl ?_)))))))
  | refine And.intro (by walk_at "sd") ?_
  )
local macro_rules | `(tactic| walk_at "rd") => `(tactic| repeat walk_at "rd1")
local macro_rules | `(tactic| walk_at "lk") => `(tactic| first | exact rfl | (rw [lookup_putF, if_pos rfl]) | (rw [lookup_putF, if_neg (by decide +kernel)]; walk_at "lk"))

section
variable {P : Program} {w : World} {K : PySem.W.Frag} {mg : Str → Option Value} {base : Heap}
/-- the names numbered so far -/
structure NumV (ls ns : List (List Nat)) (kvs : List (Key × V)) : Prop where
  nod : ns.Nodup
  beg : ∀ u ∈ ns, Beg ls u
  len : kvs.length ≤ ns.length
  new : ∀ u, u ∉ ns → valV kvs (Sum.inr (S u)) = none
  val : ∀ u ∈ ns, ∃ i : Int, valV kvs (Sum.inr (S u)) = some (.int i)
theorem beg_len {ls ns : List (List Nat)} (h : ns.Nodup) (b : ∀ u ∈ ns, Beg ls u) (h4 : ∀ l ∈ ls, l.length ≤ 4) : ns.length ≤ 1 + ls.length * 4 := by
  have e : ∀ ls : List (List Nat), (∀ l ∈ ls, l.length ≤ 4) → (ls.flatMap fun l => (List.range l.length).map l.take).length ≤ ls.length * 4 := by
    intro ls
    induction ls with
    | nil => intro _; simp
    | cons l ls ih =>
      intro h
      rw [List.flatMap_cons, List.length_append, List.length_map, List.length_range, List.length_cons]
      have := ih fun x m => h x (List.mem_cons_of_mem _ m)
      have := h l List.mem_cons_self
      omega
  have s : ns ⊆ [] :: (ls.flatMap fun l => (List.range l.length).map l.take) := by
    intro u hu
    rcases b u hu with rfl | ⟨l, hl, n, hn, rfl⟩
    · exact List.mem_cons_self
    · exact List.mem_cons_of_mem _ (List.mem_flatMap.mpr ⟨l, hl, List.mem_map.mpr ⟨n, List.mem_range.mpr hn, rfl⟩⟩)
  have := List.Nodup.length_le_of_subset h s
  have := e ls h4
  simp only [List.length_cons] at *
  omega
theorem Beg.len {ls : List (List Nat)} (h4 : ∀ l ∈ ls, l.length ≤ 4) {u : List Nat} (h : Beg ls u) : u.length ≤ 4 := by
  rcases h with rfl | ⟨l, hl, n, hn, rfl⟩
  · simp
  · have := h4 l hl
    simp
    omega
theorem NumV.more {ls ns : List (List Nat)} {kvs : List (Key × V)} (h : NumV ls ns kvs) {u : List Nat} (b : Beg ls u) (n : u ∉ ns) (i : Int) : NumV ls (ns ++ [u]) (putK kvs (Sum.inr (S u)) (.int i)) := by
  refine ⟨?_, ?_, ?_, ?_, ?_⟩
  · rw [List.nodup_append]
    refine ⟨h.nod, by simp, fun a ha b hb => ?_⟩
    have : b = u := by simpa using hb
    subst this
    intro e
    exact n (e ▸ ha)
  · intro v hv
    rcases List.mem_append.mp hv with q | q
    · exact h.beg v q
    · have : v = u := by simpa using q
      exact this ▸ b
  · rw [putK_new _ (h.new u n)]
    have := h.len
    simp
    omega
  · intro v hv
    have h1 : v ∉ ns := fun z => hv (List.mem_append_left _ z)
    have h2 : v ≠ u := fun z => hv (by rw [z]; simp)
    rw [valV_put, if_neg (fun e => h2 (S_inj (Sum.inr.inj e)))]
    exact h.new v h1
  · intro v hv
    rw [valV_put]
    by_cases e : v = u
    · rw [if_pos (by rw [e])]
      exact ⟨i, rfl⟩
    · rw [if_neg (fun z => e (S_inj (Sum.inr.inj z)))]
      rcases List.mem_append.mp hv with q | q
      · exact h.val v q
      · exact absurd (by simpa using q) e
theorem NumV.start (ls : List (List Nat)) : NumV ls [[]] (mergeK [] [((Sum.inr (S []) : Key), .int 0)]) := by
  have e : NumV ls [] [] := ⟨List.nodup_nil, fun u h => (by cases h), Nat.le_refl _, fun u h => rfl, fun u h => (by cases h)⟩
  exact e.more (.inl rfl) (by simp) 0
theorem lg_le4 {R : List Rule} {m : Nat} (h : ∀ r ∈ R, r.1.length ≤ m) : lg R ≤ m := by
  unfold lg
  rcases Bk.foldl_max_mem (l := R.map (·.1.length)) (a := 0) with q | q
  · rw [q]; omega
  · obtain ⟨r, hr, e⟩ := List.mem_map.mp q
    rw [← e]
    exact h r hr
theorem putK_leS (c : List (Key × V)) (k : Key) (x : V) : (putK c k x).length ≤ c.length + 1 := by
  unfold putK
  split <;> simp
structure MInv (H : Hp) (pD pN pM pV : Addr) (ls ns : List (List Nat)) (kvs : List (Key × V)) (ms : List V) : Prop where
  d : H pD = some (.lst (ls.map vS))
  n : H pN = some (.lst (ns.map vS))
  m : H pM = some (.dK kvs)
  v : H pV = some (.lst ms)
theorem MInv.same {H H' : Hp} {pD pN pM pV : Addr} {ls ns : List (List Nat)} {kvs : List (Key × V)} {ms : List V} (h : MInv H pD pN pM pV ls ns kvs ms) (s : Same H H') : MInv H' pD pN pM pV ls ns kvs ms :=
  ⟨s _ _ h.d, s _ _ h.n, s _ _ h.m, s _ _ h.v⟩
def spMoves (K : PySem.W.Frag) : Sp := fun vs H Q _ => ∃ (a : Addr) (xs : List V) (R : List Rule) (sg : List Nat), vs = [.str (S sg), .ref a] ∧ RulesAt K H a xs R ∧ R.length ≤ 64 ∧ (∀ r ∈ R, r.1.length ≤ 4) ∧ sg.length ≤ 26 ∧
  ∀ (p : Addr) (H' : Hp), Same H H' → Q (.ref p) H'
theorem c_end_moves (T : Txt K mg) : Cal P w K mg base CX0 2 "end_moves" (spMoves K) := by
  have c_longest_left := c_longest_left (P := P) (w := w) (base := base) T
  have c_kept_tail := c_kept_tail (P := P) (w := w) (base := base) T
  refine Cal.mk0 T.d_end_moves sc_end_moves (fun vs H Q E h => ?_) (fun f cdv A outer s H vs Q E hr h => ?_)
  · obtain ⟨a, xs, R, sg, rfl, _⟩ := h
    rfl
  · obtain ⟨a, xs, R, sg, rfl, hR, hl, h4, hsg, kk⟩ := h
    have hu := hu_of hr
    have hSl := S_len sg
    refine ⟨_, (pss_cons (ps_setLc (i := 2) (own := [("rule", 11)]) (g := gName 11) (tt := tYes) (by rfl) sc_end_moves.nd rfl rfl (sw_true rfl rfl rfl (by decide +kernel)) (pi_tup (pv 1)) (blkOk_by (N := ["signs", "rules", "lefts", "names", "numbers", "moves", "longest", "row", "sign", "text", "tail", "rule", "left"]) (sc := defScope s_end_moves) (by decide +kernel)) (fun _ _ _ _ _ => (pg_name (i := 11) sc_end_moves.nd rfl (Or.inl rfl))) (fun _ _ _ _ _ => pts_nil) (fun _ _ _ _ _ => (pe_ix ix_tupB (pv 11) pe_int (fun _ _ => rfl))))
  (pss_cons (ps_set (i := 3) sc_end_moves.nd rfl (Or.inl rfl) (pe_lst (pa_cons pe_str pa_nil)))
  (pss_cons (ps_set (i := 4) sc_end_moves.nd rfl (Or.inl rfl) (pe_disp (pps_cons pe_str pe_int pps_nil) (by rfl) (by rfl) (fun z => by cases z) (by decide)))
  (pss_cons (ps_set (i := 5) sc_end_moves.nd rfl (Or.inl rfl) (pe_lst pa_nil))
  (pss_cons (ps_set (i := 6) sc_end_moves.nd rfl (Or.inl rfl) (pe_c c_longest_left hr (by decide) rfl (pa_cons (pv 1) pa_nil)))
  (pss_cons (ps_while PassesOwn.never (pt_cmpR op_lt (pe_callB call_len_seq (by rfl) T.b_len (by decide +kernel) (pa_cons (pv 5) pa_nil)) (pe_callB call_len_seq (by rfl) T.b_len (by decide +kernel) (pa_cons (pv 3) pa_nil)) (nomark _))
    (pss_cons (ps_set (i := 7) sc_end_moves.nd rfl (Or.inl rfl) pe_dnewK)
    (pss_cons (ps_for PassesOwn.never rfl (pi_str (pv 0)) (pg_name (i := 8) sc_end_moves.nd rfl (Or.inl rfl))
      (pss_cons (ps_set (i := 9) sc_end_moves.nd rfl (Or.inr rfl) (pe_op op_add_str (pe_ix ix_list (pv 3) (pe_callB call_len_seq (by rfl) T.b_len (by decide +kernel) (pa_cons (pv 5) pa_nil)) (fun _ _ => rfl)) (pv 8)))
      (pss_one (ps_if (pt_not (pt_val (pe_callB (cr_any rfl) (by rfl) T.b_any (by decide +kernel) (pa_cons (pe_lc (own := [("left", 12)]) (g := gName 12) (tt := tYes) rfl sc_end_moves.nd (pi_list (pv 2)) (blkOk_by (N := ["signs", "rules", "lefts", "names", "numbers", "moves", "longest", "row", "sign", "text", "tail", "rule", "left"]) (sc := defScope s_end_moves) (by decide +kernel)) (fun _ _ _ _ _ => (pg_name (i := 12) sc_end_moves.nd rfl (Or.inl rfl))) (fun _ _ _ _ _ => pts_nil) (fun _ _ _ _ _ => (pe_m1 PySem.F.slot_str_endswith PySem.F.type_str_endswith mt_endswith (pv 9) (pv 12)))) pa_nil))))
        (pss_cons (ps_set (i := 10) sc_end_moves.nd rfl (Or.inl rfl) (pe_c c_kept_tail hr (by decide) rfl (pa_cons (pv 2) (pa_cons (pv 6) (pa_cons (pv 9) pa_nil)))))
        (pss_cons (ps_if (pt_cmp (pc_dnotin hu (pv 10) (pv 4)))
          (pss_cons (ps_dput hu (pv 4) (pv 10) (pe_callB call_len_seq (by rfl) T.b_len (by decide +kernel) (pa_cons (pv 3) pa_nil)) rfl)
          (pss_one (ps_expr (pe_bm PySem.F.plainAttrs_list PySem.F.slot_list_append PySem.F.type_list_append mt_append (pv 3) (pa_cons (pv 10) pa_nil)))))
          pss_nil)
        (pss_one (ps_dput hu (pv 7) (pv 8) (pe_dget hu (pv 4) (pv 10) (fun _ _ => rfl)) rfl))))
        pss_nil))))
    (pss_one (ps_expr (pe_bm PySem.F.plainAttrs_list PySem.F.slot_list_append PySem.F.type_list_append mt_append (pv 5) (pa_cons (pv 7) pa_nil)))))))
  (pss_one (ps_ret (pv 5))))))))), ?_⟩
    walk_at "rd"
    have h4' : ∀ l ∈ R.map (·.1), l.length ≤ 4 := by
      intro l hl
      obtain ⟨r, hr, rfl⟩ := List.mem_map.mp hl
      exact h4 r hr
    refine ⟨a, rfl, ⟨_, hR.sq⟩, fun pD hpD => lc_tupR (K := K) (a := a) (xs := xs) (l := R) (Rel := fun H v r => ∃ q, v = .ref q ∧ SqT K H q (rTup r)) hR.len
      (fun pre H3 => H3 pD = some (.lst ((pre.map (·.1)).map vS)) ∧ Same H H3) ⟨upd_same, same_new hpD⟩ (fun pre H3 ⟨_, s3⟩ => ⟨(hR.same s3).sq, (hR.same s3).it⟩) ?_ ?_⟩
    · rintro pre r post x H3 e hx ⟨q, rfl, sq⟩ ⟨h3, s3⟩
      refine ⟨rfl, ty_T ?_⟩
      have hpl : pre.length ≤ 64 := by
        have := congrArg List.length e
        simp at this
        omega
      refine ⟨_, rfl, q, _, 0, .str (S r.1), rfl, rfl, sq, rfl, _, h3, by rw [List.length_map, List.length_map]; exact Nat.lt_of_le_of_lt (m := 64) hpl (by decide), ?_, same_mut s3 hpD⟩
      rw [List.map_append, List.map_append]
      exact upd_same
    · rintro H1 ⟨hD1, s1⟩
      walk_at "nx"
      refine ⟨by walk_at "sz", fun pN hpN => ?_⟩
      have hDN : pD ≠ pN := ne_of_none hD1 hpN
      have s2 := same_new (o := .lst [.str (Str.ofString "")]) hpN
      walk_at "nx"
      intro pM hpM
      have s3 := s2.trans (same_new (o := .dK []) hpM)
      refine ⟨upd_same, [((Sum.inr (S []) : Key), .int 0)], rfl, by decide, ?_⟩
      generalize hN2 : upd H1 pN (.lst [.str (Str.ofString "")]) = HN at hpM s2 s3 ⊢
      have hn2 : HN pN = some (.lst ([[]].map vS)) := by rw [← hN2]; exact upd_same
      have s4 : Same HN (upd (upd HN pM (.dK [])) pM (.dK (mergeK [] [((Sum.inr (S []) : Key), .int 0)]))) := same_mut (same_new hpM) hpM
      generalize hM2 : upd (upd HN pM (.dK [])) pM (.dK (mergeK [] [((Sum.inr (S []) : Key), .int 0)])) = HM at s4 ⊢
      have hm2 : HM pM = some (.dK (mergeK [] [((Sum.inr (S []) : Key), .int 0)])) := by rw [← hM2]; exact upd_same
      walk_at "nx"
      refine ⟨by walk_at "sz", fun pV hpV => ?_⟩
      have hn3 := s4 _ _ hn2
      have hd3 := s4 _ _ (s2 _ _ hD1)
      have hNV : pN ≠ pV := ne_of_none hn3 hpV
      have hDV : pD ≠ pV := ne_of_none hd3 hpV
      have s5 := same_new (o := .lst []) hpV
      have s05 : Same H (upd HM pV (.lst [])) := ((s1.trans s2).trans s4).trans s5
      have M0 : MInv (upd HM pV (.lst [])) pD pN pM pV (R.map (·.1)) [[]] (mergeK [] [((Sum.inr (S []) : Key), .int 0)]) [] :=
        ⟨s5 _ _ hd3, s5 _ _ hn3, s5 _ _ hm2, upd_same⟩
      have hpN0 : H pN = none := by
        cases e : H pN with
        | none => rfl
        | some o => rw [s1 _ _ e] at hpN; cases hpN
      have hpM0 : H pM = none := by
        cases e : H pM with
        | none => rfl
        | some o => rw [s2 _ _ (s1 _ _ e)] at hpM; cases hpM
      have hpV0 : H pV = none := by
        cases e : H pV with
        | none => rfl
        | some o => rw [s4 _ _ (s2 _ _ (s1 _ _ e))] at hpV; cases hpV
      generalize upd HM pV (.lst []) = H5 at s05 M0 ⊢
      walk_at "nx"
      refine ⟨_, rfl, a, xs, R, rfl, hR.same s05, hl, fun r hr => Nat.le_trans (h4 r hr) (by decide), fun H6 s6 => ?_⟩
      have hlg := lg_le4 h4
      walk_at "nx"
      refine ⟨fun m σ Hn => ∃ (ns : List (List Nat)) (kvs : List (Key × V)) (ms : List V) (v7 v8 v9 v10 v11 v12 : Option V), σ = [some (.str (S sg)), some (.ref a), some (.ref pD), some (.ref pN), some (.ref pM), some (.ref pV), some (.int (lg R : Nat)), v7, v8, v9, v10, v11, v12] ∧
        Same H Hn ∧ MInv Hn pD pN pM pV (R.map (·.1)) ns kvs ms ∧ NumV (R.map (·.1)) ns kvs ∧ 300 - ms.length ≤ m,
        ⟨300, [[]], _, [], _, _, _, _, _, _, rfl, s05.trans s6, M0.same s6, NumV.start _, by simp⟩, ?_⟩
      rintro m σ H7 ⟨ns, kvs, ms, v7, v8, v9, v10, v11, v12, rfl, s7, M, N, hm⟩
      have hns : ns.length ≤ 257 := by
        have := beg_len N.nod N.beg h4'
        rw [List.length_map] at this
        omega
      walk_at "rd"
      refine ⟨pV, ms, rfl, .inl (SqL.of M.v), _, rfl, pN, _, rfl, .inl (SqL.of M.n), _, _, rfl, rfl, ?_⟩
      rw [List.length_map]
      refine ⟨_, rfl, ?_⟩
      by_cases hc : ms.length < ns.length
      · rw [decide_eq_true (show ((ms.length : Nat) : Int) < (ns.length : Nat) by omega)]
        refine iteT ⟨_, fun _ _ h => h, ?_⟩
        walk_at "nx"
        intro pW hpW
        have hVW : pV ≠ pW := ne_of_none M.v hpW
        have hNW : pN ≠ pW := ne_of_none M.n hpW
        have hDW : pD ≠ pW := ne_of_none M.d hpW
        have hMW : pM ≠ pW := ne_of_none M.m hpW
        have s8 := same_new (o := .dK []) hpW
        have hpW0 : H pW = none := by
          cases e : H pW with
          | none => rfl
          | some o => rw [s7 _ _ e] at hpW; cases hpW
        have M8 := M.same s8
        have s78 := s7.trans s8
        have hW8 : (upd H7 pW (.dK [])) pW = some (.dK []) := upd_same
        generalize upd H7 pW (.dK []) = H8 at s78 M8 hW8 ⊢
        walk_at "rd"
        refine for_str (l := sg) (fun pre σ Hn => ∃ (ns : List (List Nat)) (kvs kw : List (Key × V)) (v8 v9 v10 v11 v12 : Option V), σ = [some (.str (S sg)), some (.ref a), some (.ref pD), some (.ref pN), some (.ref pM), some (.ref pV), some (.int (lg R : Nat)), some (.ref pW), v8, v9, v10, v11, v12] ∧
          Same H Hn ∧ MInv Hn pD pN pM pV (R.map (·.1)) ns kvs ms ∧ NumV (R.map (·.1)) ns kvs ∧ ms.length < ns.length ∧ Hn pW = some (.dK kw) ∧ kw.length ≤ pre.length)
          ⟨ns, kvs, [], _, _, _, _, _, rfl, s78, M8, N, hc, hW8, Nat.le_refl _⟩ ?_ ?_
        · rintro pre c post σ H9 e ⟨ns, kvs, kw, v8, v9, v10, v11, v12, rfl, s9, M, N, hc, hW, hkw⟩
          have hpl : pre.length + 1 ≤ sg.length := by
            have := congrArg List.length e
            simp at this
            omega
          have hns : ns.length ≤ 257 := by
            have := beg_len N.nod N.beg h4'
            rw [List.length_map] at this
            omega
          have hg : ns[ms.length]? = some ns[ms.length] := by simp [hc]
          generalize ns[ms.length] = nm at hg
          have hnm := (N.beg nm (List.mem_of_getElem? hg)).len h4'
          have hgv : (ns.map vS)[ms.length]? = some (vS nm) := by rw [List.getElem?_map, hg]; rfl
          walk_at "nx"
          refine ⟨_, rfl, _, rfl, pV, ms, rfl, .inl (SqL.of M.v), pN, _, _, vS nm, rfl, rfl, SqL.of M.n, atI_nat hgv, ?_⟩
          refine ⟨_, rfl, _, _, rfl, rfl, by rw [S_len, S_len]; exact Nat.le_trans (m := 5) (by simp; omega) (by decide), ?_⟩
          rw [S_cat]
          walk_at "nx"
          generalize hu : nm ++ [c] = tx
          have htl : tx.length ≤ 5 := by rw [← hu]; simp; omega
          refine if_KH (!((R.map (·.1)).any fun l => l.isSuffixOf tx)) (fun H' => Same H9 H') (fun Q' hQ => ?_) (fun hb H10 s10 => ?_) (fun hb H10 s10 => ?_)
          · walk_at "nx"
            refine ⟨_, rfl, pD, rfl, ⟨_, SqL.of M.d⟩, fun D hD => lc_lstF (K := K) (a := pD) (f := vS) (l := R.map (·.1)) (fun pre H3 => H3 D = some (.lst ((pre.map fun l => l.isSuffixOf tx).map V.bl)) ∧ Same H9 H3)
              ⟨upd_same, same_new hD⟩ (fun pre H3 ⟨_, s3⟩ => SqL.of (s3 _ _ M.d)) ?_ ?_⟩
            · rintro pre l post H3 e ⟨h3, s3⟩
              refine ⟨rfl, ty_T ?_⟩
              have hpl : pre.length ≤ 64 := by
                have := congrArg List.length e
                simp at this
                omega
              refine ⟨_, rfl, ⟨_, rfl⟩, _, rfl, _, _, rfl, rfl, ?_⟩
              rw [endswith_S]
              refine ⟨_, h3, by rw [List.length_map, List.length_map]; exact Nat.lt_of_le_of_lt (m := 64) hpl (by decide), ?_, same_mut s3 hD⟩
              rw [List.map_append, List.map_append]
              exact upd_same
            · rintro H3 ⟨h3, s3⟩
              refine ⟨D, _, rfl, SqL.of h3, _, rfl, ?_⟩
              refine q_of (hQ _ s3) ?_
              rw [List.any_map]
              rfl
          · walk_at "nx"
            have M10 := M.same s10
            refine ⟨_, rfl, _, rfl, _, rfl, pD, R.map (·.1), lg R, tx, rfl, M10.d, by simpa using hl, h4', hlg, by omega, fun u H11 hu11 s11 => ?_⟩
            have M11 := M10.same s11
            have s11' := s10.trans s11
            walk_at "nx"
            refine st_ifJ (fun σ Hn => ∃ (ns : List (List Nat)) (kvs : List (Key × V)) (v12 : Option V), σ = [some (.str (S sg)), some (.ref a), some (.ref pD), some (.ref pN), some (.ref pM), some (.ref pV), some (.int (lg R : Nat)), some (.ref pW), some (.str (S [c])), some (.str (S tx)), some (.str (S u)), v11, v12] ∧
              Same H Hn ∧ MInv Hn pD pN pM pV (R.map (·.1)) ns kvs ms ∧ NumV (R.map (·.1)) ns kvs ∧ ms.length < ns.length ∧ Hn pW = some (.dK kw) ∧ u ∈ ns) (fun N' hN' => ?_) ?_
            · walk_at "rd"
              refine ⟨pM, _, rfl, DGet.k (k := Sum.inr (S u)) M11.m, _, rfl, ?_⟩
              by_cases hun : u ∈ ns
              · obtain ⟨i9, hi9⟩ := N.val u hun
                rw [hi9]
                refine iteF ?_
                walk_at "nx"
                exact hN' _ _ ⟨ns, kvs, _, rfl, s9.trans s11', M11, N, hc, s11' _ _ hW, hun⟩
              · rw [N.new u hun]
                refine iteT ?_
                have hkz : kvs.length < sizeLine := Nat.lt_of_lt_of_le (m := 258) (by have := N.len; omega) (by decide)
                refine ⟨_, rfl, pN, _, rfl, .inl (SqL.of M11.n), _, rfl, _, rfl, pM, _, rfl, DPut.k (k := Sum.inr (S u)) M11.m hkz, ?_⟩
                have hMN : pM ≠ pN := ne_of M11.m M11.n (by intro z; cases z)
                have hMD : pM ≠ pD := ne_of M11.m M11.d (by intro z; cases z)
                have hMV : pM ≠ pV := ne_of M11.m M11.v (by intro z; cases z)
                walk_at "nx"
                have hn12 : ∀ o, (upd H11 pM o) pN = some (.lst (ns.map vS)) := fun o => by rw [upd_ne hMN.symm]; exact M11.n
                refine ⟨_, rfl, .inl ⟨rfl, _, SqL.of (hn12 _)⟩, _, rfl, pN, _, _, rfl, rfl, hn12 _, by rw [List.length_map]; exact Nat.lt_of_lt_of_le (m := 258) (by omega) (by decide), ?_⟩
                refine hN' _ _ ⟨ns ++ [u], _, _, rfl, same_mut (same_mut (s9.trans s11') hpM0) hpN0, ⟨?_, ?_, ?_, ?_⟩, N.more hu11 hun (((ns.map vS).length : Nat) : Int), by simp; omega, ?_, by simp⟩
                · rw [upd_ne hDN, upd_ne hMD.symm]; exact M11.d
                · rw [List.map_append]; exact upd_same
                · rw [upd_ne hMN]; exact upd_same
                · rw [upd_ne hNV.symm, upd_ne hMV.symm]; exact M11.v
                · rw [upd_ne hNW.symm, upd_ne hMW.symm]; exact s11' _ _ hW
            · rintro σ H12 ⟨ns, kvs, v12, rfl, s12, M, N, hc, hW, hun⟩
              walk_at "rd"
              obtain ⟨i9, hi9⟩ := N.val u hun
              refine ⟨pM, _, rfl, by rw [← hi9]; exact DGet.k (k := Sum.inr (S u)) M.m, _, rfl, _, rfl, pW, _, rfl, DPut.k (k := Sum.inr (S [c])) hW (Nat.lt_of_lt_of_le (m := 100) (by omega) (by decide)), ?_⟩
              refine ⟨ns, kvs, _, _, _, _, _, _, rfl, same_mut s12 hpW0, ⟨?_, ?_, ?_, ?_⟩, N, hc, upd_same, ?_⟩
              · rw [upd_ne hDW]; exact M.d
              · rw [upd_ne hNW]; exact M.n
              · rw [upd_ne hMW]; exact M.m
              · rw [upd_ne hVW]; exact M.v
              · have := putK_leS kw (Sum.inr (S [c])) (V.int i9)
                simp
                omega
          · walk_at "nx"
            exact ⟨ns, kvs, kw, _, _, _, _, _, rfl, s9.trans s10, M.same s10, N, hc, s10 _ _ hW, by simp; omega⟩
        · rintro σ H9 ⟨ns, kvs, kw, v8, v9, v10, v11, v12, rfl, s9, M, N, hc, hW, hkw⟩
          have hns : ns.length ≤ 257 := by
            have := beg_len N.nod N.beg h4'
            rw [List.length_map] at this
            omega
          walk_at "nx"
          refine ⟨_, rfl, .inl ⟨rfl, _, SqL.of M.v⟩, _, rfl, pV, ms, _, rfl, rfl, M.v, Nat.lt_of_lt_of_le (m := 257) (by omega) (by decide), ?_⟩
          refine ⟨m - 1, ?_, ns, kvs, ms ++ [.ref pW], _, _, _, _, _, _, rfl, same_mut s9 hpV0, ⟨?_, ?_, ?_, upd_same⟩, N, by simp; omega⟩
          · omega
          · rw [upd_ne hDV]; exact M.d
          · rw [upd_ne hNV]; exact M.n
          · rw [upd_ne (ne_of M.m M.v (by intro z; cases z))]; exact M.m
      · rw [decide_eq_false (show ¬ ((ms.length : Nat) : Int) < (ns.length : Nat) by omega)]
        refine iteF ?_
        walk_at "rd"
        exact kk pV H7 s7
end
end Sh
set_option Elab.async false
set_option linter.all false
set_option maxRecDepth 100000
set_option maxHeartbeats 2000000
namespace Sh
open PySem PySem.Spec PyProof.Rows L2
/-- a class of the text -/
structure ClassAt (K : PySem.W.Frag) (mg : Str → Option Value) (x : Str) (C : Addr) : Prop where
  cl : Cls K C
  mgC : mg x = some (.ref C)
  makes : PySem.W.makesIn K C = true
  kp : PySem.W.keepIn K (.ref C) = true
/-- a method of the class at C -/
structure MethAt (K : PySem.W.Frag) (C : Addr) (m q : Str) (st : Stmt) (ps : List Str) : Prop where
  ex : ∃ (f : Addr) (fd : FuncData), L2.Fun K m q st f fd ∧ Binds K fd ps [] ∧ PySem.W.findIn K (.ref C) m = some (some (.ref f)) ∧ PySem.W.isFn K (.ref f) = true ∧ PySem.W.fnIn K f = true
structure MetC (P : Program) (w : World) (K : PySem.W.Frag) (mg : Str → Option Value) (base : Heap) (k : Nat) (C : Addr) (m : Str) (sp : Sp) : Prop where
  ex : ∃ (f : Addr) (fd : FuncData) (ps : List Str), FnOk P w K mg base CX0 k f fd ps sp ∧ Binds K fd ps [] ∧ PySem.W.findIn K (.ref C) m = some (some (.ref f)) ∧ PySem.W.isFn K (.ref f) = true ∧ PySem.W.fnIn K f = true
section
variable {P : Program} {w : World} {K : PySem.W.Frag} {mg : Str → Option Value} {base : Heap}
theorem MetC.mk0 {m q : Str} {C : Addr} {st : Stmt} {N ps : List Str} {k : Nat} {sp : Sp} (D : MethAt K C m q st ps) (S : FnScope N ps (defScope st)) (len : ∀ vs H Q E, sp vs H Q E → vs.length = ps.length)
    (hbody : ∀ (f : Addr) (cdv : Value) (A : Around) (outer : List Env) (s : Shared) (H : Hp) (vs : List V) (Q : VK) (E : XK), Room k (A.deeper (envOfC q (defScope st) s.heap.objs.size f cdv)) → sp vs H Q E →
      ∃ t, PSs (cxOf CX0 P w K mg base N q (defScope st) f cdv A outer s H E).nox (defBody st) t ∧ t { nx := fun _ H' => Q .non H', rt := Q } (start N vs) H) : MetC P w K mg base (k + 1) C m sp := by
  obtain ⟨f, fd, F, b, i, n, o⟩ := D.ex
  exact ⟨f, fd, ps, F.ok S len (hbody f), b, i, n, o⟩
end
section
variable {X : Cx} {k j : Nat} {x m : Str} {C : Addr} {sp : Sp} {p pos : Pos} {e fe : Expr} {es : List Expr} {t : TA} {tf : TE}
/-- C(e, ..) -/
theorem pe_mkC (c : ClassAt X.K X.mg x C) (d : MetC X.prog X.w X.K X.mg X.base k C "__init__" sp) (hr : Room j X.A) (hk : k + 1 ≤ j) (hg : Gl X x) (ha : PA X (e :: es) t)
    (hdb : (x == ("__debug__" : Str)) = false := by decide) (he : starEach (e :: es) X.env = (false, eval e X.env) :: starEach es X.env := by rfl) (hpl : (backTo pos (starEach es X.env)).any (·.1) = false := by rfl) :
    PE X (.Call (.Name x p) (e :: es) [] pos) (tMake C sp [] E0 t) := by
  obtain ⟨f, fd, ps, F, b, i, n, o⟩ := d.ex
  exact pe_make ⟨c.makes, i, n, c.kp⟩ F (hr.mono hk) hg c.mgC b .nil pass0 ha hdb he hpl
/-- o(e, ..), o an instance -/
theorem pe_instC (hf : PE X fe tf) (d : MetC X.prog X.w X.K X.mg X.base k C "__call__" sp) (hr : Room j X.A) (hk : k ≤ j) (ha : PA X (e :: es) t)
    (ht : eval (.Call fe (e :: es) [] pos) X.env = (do callWith pos (← eval fe X.env) [] (backTo pos (starEach (e :: es) X.env)) (backToKw pos (keywordEach [] X.env))) := by rfl)
    (he : starEach (e :: es) X.env = (false, eval e X.env) :: starEach es X.env := by rfl) (hpl : (backTo pos (starEach es X.env)).any (·.1) = false := by rfl) : PE X (.Call fe (e :: es) [] pos) (StX.tCallO X C sp E0 tf t) := by
  obtain ⟨f, fd, ps, F, b, i, n, o⟩ := d.ex
  exact StX.pe_callO hf ⟨i, n, o⟩ (fnR_of F b) (hr.mono hk) pass0 ha ht he hpl
/-- bool(o) -/
theorem call_boolC (d : MetC X.prog X.w X.K X.mg X.base k C "__bool__" sp) (hr : Room j X.A) (hk : k + 2 ≤ j) : CallR X (.type "bool") (rBoolO C sp E0) := by
  obtain ⟨f, fd, ps, F, b, i, n, o⟩ := d.ex
  exact call_boolO i n (fnR_of F b) (hr.mono hk) pass0
end
theorem putF_le (f : Str) (v : V) : ∀ fs : List (Str × V), (putF f v fs).length ≤ fs.length + 1
  | [] => Nat.le_refl _
  | (g, x) :: r => by
    show (if g = f then (g, v) :: r else (g, x) :: putF f v r).length ≤ _
    have := putF_le f v r
    split <;> simp <;> omega
theorem Keep.butI {H H' : Hp} {a C dx : Addr} {fs : List (Str × V)} (s : But a H H') (z : H a = some (.ins C dx fs)) : Keep H H' := fun b xs h => by
  rcases h with h | ⟨o, h⟩
  · exact .inl (s _ _ (ne_of h z (by intro q; cases q)) h)
  · exact .inr ⟨o, s _ _ (ne_of h z (by intro q; cases q)) h⟩
end Sh
set_option Elab.async false
set_option linter.all false
set_option maxRecDepth 100000
set_option maxHeartbeats 2000000
namespace Sh
open PySem PySem.Spec PyProof.Rows L2
section
variable {X : Cx} {C : Addr} {k j : Nat} {sp : Sp} {a : Expr} {ta : TE} {pos : Pos}
/-- not o, o an instance of the class at C with an own __bool__ -/
def tNotI (C : Addr) (sp : Sp) (ta : TE) : TE := fun σ H Q => ta σ H fun x H1 => ∃ p dx fs, x = .ref p ∧ H1 p = some (.ins C dx fs) ∧ sp [.ref p] H1 (fun z H2 => ∃ b, z = .bl b ∧ Q (.bl (!b)) H2) E0
theorem pe_notI (d : MetC X.prog X.w X.K X.mg X.base k C "__bool__" sp) (hr : Room j X.A) (hk : k ≤ j) (ha : PE X a ta) : PE X (.UnaryOp .Not a pos) (tNotI C sp ta) := by
  obtain ⟨f, fd, ps, F, b, i, n, o⟩ := d.ex
  refine ⟨fun pins s σ H Q I h => ?_⟩
  refine UnaryOp_ (thn (ha.run pins s σ H _ I h) fun v s1 ⟨x, H1, I1, r1, p, dx, fs, ex, hH, q⟩ => ?_)
  subst ex
  obtain rfl : v = .ref p := r1
  obtain ⟨ox, od, J, _⟩ := StX.insC_at (C := C) I1 (.inr ⟨dx, fs, hH⟩)
  refine not_of (truthy_own I1.kIn J i n (wpAny_mono (run_in (us := [.ref p]) (ws := [.ref p]) (fnR_of F b) (hr.mono hk) I1.env0 pass0 I1 (.cons rfl .nil) q) (fun v s' z => ?_) fun _ _ x => x))
  obtain ⟨z', H', I', rz, c, ec, qz⟩ := z
  subst ec
  obtain rfl : v = .bool c := rz
  exact ⟨c, rfl, .bl (!c), H', I', rfl, qz⟩
end
end Sh
set_option Elab.async false
set_option linter.all false
set_option maxRecDepth 100000
set_option maxHeartbeats 2000000
namespace Sh
open PySem PySem.Spec PyProof.Rows L2
section
variable {X : Cx} {k j : Nat} {C : Addr} {sp : Sp} {pos : Pos} {e fe : Expr} {es : List Expr} {t : TA} {tf : TE}
/-- o(e, ..), o an instance with fields: a reading that does not name the frame (for comprehensions) -/
def tInst (C : Addr) (sp : Sp) (tf : TE) (t : TA) : TE := fun σ H Q => tf σ H fun y H1 => ∃ a, y = V.ref a ∧ t σ H1 fun zs H2 => (∃ dx fs, H2 a = some (.ins C dx fs)) ∧ sp (V.ref a :: zs) H2 Q E0
theorem pe_instP (hf : PE X fe tf) (d : MetC X.prog X.w X.K X.mg X.base k C "__call__" sp) (hr : Room j X.A) (hk : k ≤ j) (ha : PA X (e :: es) t)
    (h1 : eval (.Call fe (e :: es) [] pos) X.env = (do callWith pos (← eval fe X.env) [] (backTo pos (starEach (e :: es) X.env)) (backToKw pos (keywordEach [] X.env))) := by rfl)
    (h2 : starEach (e :: es) X.env = (false, eval e X.env) :: starEach es X.env := by rfl) (h3 : (backTo pos (starEach es X.env)).any (·.1) = false := by rfl) : PE X (.Call fe (e :: es) [] pos) (tInst C sp tf t) := by
  obtain ⟨f, fd, ps, F, b, i, n, o⟩ := d.ex
  constructor
  intro pins s σ H Q I h
  refine Call_ (thn (hf.run pins s σ H _ I h) ?_) h1
  rintro u s1 ⟨_, H1, I1, ry, a, rfl, q⟩
  obtain rfl : u = .ref a := ry
  refine StX.callO_with (thn (ha.run pos pins s1 σ H1 _ I1 q) ?_) h2 h3
  rintro us s2 ⟨zs, H2, I2, rz, isC, q2⟩
  obtain ⟨ox, od, J, dat⟩ := StX.insC_at (C := C) I2 (.inr isC)
  exact ⟨⟨C, ox, od, J, dat⟩, StX.run_callO ⟨i, n, o⟩ (fnR_of F b) (hr.mono hk) pass0 I2 (.inr isC) rz q2⟩
end
end Sh
set_option Elab.async false
set_option linter.all false
set_option maxRecDepth 100000
set_option maxHeartbeats 2000000
/-! sorted of tuples of ints and texts, of any length, without and with a key def -/
namespace Sh
open PySem PySem.Spec PyProof.Rows L2
/-! ### a total order -/
def cd : V → List Int
  | .int i => [0, i]
  | .str s => 1 :: s.cps.toList.map Int.ofNat
  | _ => [2]
def cLt (a b : List V) : Bool := decide (a.map cd < b.map cd)
theorem ofNat_lt (a b : List Nat) : (a.map Int.ofNat < b.map Int.ofNat) ↔ a < b := by
  induction a generalizing b with
  | nil => cases b <;> simp
  | cons x a ih =>
    cases b with
    | nil => simp
    | cons y b =>
      rw [List.map_cons, List.map_cons, List.cons_lt_cons_iff, List.cons_lt_cons_iff, ih]
      constructor
      · rintro (h | ⟨h, k⟩)
        · exact .inl (Int.ofNat_lt.mp h)
        · exact .inr ⟨Int.ofNat.inj h, k⟩
      · rintro (h | ⟨h, k⟩)
        · exact .inl (Int.ofNat_lt.mpr h)
        · exact .inr ⟨congrArg Int.ofNat h, k⟩
theorem cd_lt {x y : V} (h : sameK x y = true) : vLt x y = decide (cd x < cd y) := by
  cases x <;> cases y <;> first | cases h | skip
  · rename_i i j
    show decide (i < j) = decide ([0, i] < [0, j])
    refine decide_eq_decide.mpr ?_
    simp [List.cons_lt_cons_iff]
  · rename_i a b
    show decide (a.cps.toList < b.cps.toList) = decide ((1 : Int) :: a.cps.toList.map Int.ofNat < 1 :: b.cps.toList.map Int.ofNat)
    refine decide_eq_decide.mpr ?_
    rw [List.cons_lt_cons_iff, ofNat_lt]
    simp
theorem cd_eq {x y : V} (h : sameK x y = true) : (x = y) ↔ (cd x = cd y) := by
  cases x <;> cases y <;> first | cases h | skip
  · rename_i i j
    simp [cd]
  · rename_i a b
    refine ⟨fun e => by rw [e], fun e => ?_⟩
    have e' : a.cps.toList.map Int.ofNat = b.cps.toList.map Int.ofNat := (List.cons.inj e).2
    have inj : Function.Injective Int.ofNat := fun a b h => Int.ofNat.inj h
    have e2 : a.cps.toList = b.cps.toList := by
      have := congrArg (List.map Int.toNat) e'
      simpa [List.map_map, Function.comp_def] using this
    have e3 : a.cps = b.cps := Array.toList_inj.mp e2
    cases a; cases b
    simp only at e3
    rw [e3]
theorem tup_cLt : ∀ {a b : List V}, sameKs a b = true → tupLt a b = cLt a b
  | [], [], _ => by simp [tupLt, cLt]
  | [], _ :: _, _ => by simp [tupLt, cLt]
  | _ :: _, [], _ => by simp [tupLt, cLt]
  | x :: xs, y :: ys, h => by
    have h' : (sameK x y && sameKs xs ys) = true := h
    rw [Bool.and_eq_true] at h'
    have ih := tup_cLt h'.2
    unfold tupLt cLt
    by_cases e : x = y
    · subst e
      rw [if_pos rfl, ih]
      unfold cLt
      refine decide_eq_decide.mpr ?_
      rw [List.map_cons, List.map_cons, List.cons_lt_cons_iff]
      constructor
      · exact fun k => .inr ⟨rfl, k⟩
      · rintro (k | ⟨_, k⟩)
        · exact absurd k (List.lt_irrefl _)
        · exact k
    · rw [if_neg e, cd_lt h'.1]
      refine decide_eq_decide.mpr ?_
      rw [List.map_cons, List.map_cons, List.cons_lt_cons_iff]
      constructor
      · exact fun k => .inl k
      · rintro (k | ⟨k, _⟩)
        · exact k
        · exact absurd ((cd_eq h'.1).mpr k) e
theorem swo_cLt {α : Type} (k : α → List V) : SrtO.Swo fun u v => cLt (k u) (k v) := by
  refine ⟨fun x y h => ?_, fun x y z h1 h2 => ?_⟩
  · have a := of_decide_eq_true h
    exact decide_eq_false fun b => List.lt_irrefl _ (List.lt_trans a b)
  · have a := of_decide_eq_false h1
    have b := of_decide_eq_false h2
    refine decide_eq_false fun c => ?_
    rcases Classical.em ((k y).map cd < (k x).map cd) with q | q
    · exact a q
    · -- x ≤ y, y ≤ z, z < x
      rcases Classical.em ((k x).map cd < (k y).map cd) with p | p
      · exact b (List.lt_trans c p)
      · have e : (k x).map cd = (k y).map cd := by
          have h1 : (k x).map cd ≤ (k y).map cd := List.not_lt.mp q
          have h2 : (k y).map cd ≤ (k x).map cd := List.not_lt.mp p
          exact List.le_antisymm h1 h2
        rw [e] at c
        exact b c
/-! ### tuples in a heap -/
def TupV (h : Heap) (v : Value) (ks : List V) : Prop := ∃ (a : Addr) (o : Obj) (its : List Value) (n : Nat), v = .ref a ∧ h.get? a = some o ∧ o.cls = .type "tuple" ∧ o.data = .seq its.toArray n ∧ Vals ks its
theorem TupV.keeps {h h' : Heap} {v : Value} {ks : List V} (x : TupV h v ks) (k : ∀ b o, h.get? b = some o → o.cls = .type "tuple" → h'.get? b = some o) : TupV h' v ks := by
  obtain ⟨a, o, its, n, e, ho, hc, hd, r⟩ := x
  exact ⟨a, o, its, n, e, k _ _ ho hc, hc, hd, r⟩
inductive First : String → V → Prop
  | int (i : Int) : First "int" (.int i)
  | str (s : Str) : First "str" (.str s)
def Head (T : String) (ks : List V) : Prop := ∃ x r, ks = x :: r ∧ First T x
section
variable {prog : Program} {w : World} {A : Around} {s : Shared} {E : Value → Shared → Prop} {Q : Bool → Shared → Prop}
theorem oneLt_str' (c : Bool) {p q : Str} {t u : Tok} (h : Q (decide (p.cps.toList < q.cps.toList)) s) : wpAny (model prog w) A (oneLt' c (.str p t) (.str q u)) Q E s := by
  cases c with
  | true => exact oneLt_str h
  | false => exact PySem.W.kat_one _ _ (PyProof.Rows.lt_str (Q := PySem.W.BoolBack Q) h)
theorem lex_mixed {b fin : Bool} : ∀ {ks ms : List V} {xs ys : List Value} (i : Nat), Vals ks xs → Vals ms ys → sameKs ks ms = true → fin = decide (ks.length < ms.length) → Q (tupLt ks ms) s → PySem.W.KatLex prog w A b fin Q (xs.zip ys) i s
  | [], [], _, _, i, .nil, .nil, _, e, h => by
    subst e
    exact PySem.W.kat_nil h
  | [], y :: ms, _, _, i, .nil, .cons _ _, _, e, h => by
    refine PySem.W.kat_nil ?_
    rw [e, show decide (([] : List V).length < (y :: ms).length) = true from decide_eq_true (by simp)]
    exact h
  | x :: ks, [], _, _, i, .cons _ _, .nil, _, e, h => by
    refine PySem.W.kat_nil ?_
    rw [e, show decide ((x :: ks).length < ([] : List V).length) = false from decide_eq_false (by simp)]
    exact h
  | x :: ks, y :: ms, _, _, i, .cons rx rxs, .cons ry rys, hs, e, h => by
    have h' : (sameK x y && sameKs ks ms) = true := hs
    rw [Bool.and_eq_true] at h'
    have e' : fin = decide (ks.length < ms.length) := by
      rw [e]
      exact decide_eq_decide.mpr (by simp)
    have hq : Q (if x = y then tupLt ks ms else vLt x y) s := h
    cases x <;> cases y <;> first | cases h'.1 | skip
    · rename_i i1 i2
      obtain ⟨t1, rfl⟩ := rx
      obtain ⟨t2, rfl⟩ := ry
      refine PySem.W.kat_cons (SeqAt.EqAt.int_int i1 t1 i2 t2 prog w _ _ ?_)
      by_cases c : i1 = i2
      · subst c
        rw [if_pos rfl] at hq
        rw [beq_self_eq_true]
        exact PySem.W.kat_yes (lex_mixed (i + 1) rxs rys h'.2 e' hq)
      · rw [if_neg (fun z => c (V.int.inj z))] at hq
        rw [show (i1 == i2) = false from beq_eq_false_iff_ne.mpr c]
        exact PySem.W.kat_no (TS.oneLt_ints _ hq)
    · rename_i s1 s2
      obtain ⟨t1, rfl⟩ := rx
      obtain ⟨t2, rfl⟩ := ry
      refine PySem.W.kat_cons (SeqAt.EqAt.str_str s1 t1 s2 t2 prog w _ _ ?_)
      by_cases c : s1 = s2
      · subst c
        rw [if_pos rfl] at hq
        rw [beq_self_eq_true]
        exact PySem.W.kat_yes (lex_mixed (i + 1) rxs rys h'.2 e' hq)
      · rw [if_neg (fun z => c (V.str.inj z))] at hq
        rw [show (s1 == s2) = false from beq_eq_false_iff_ne.mpr c]
        exact PySem.W.kat_no (oneLt_str' _ hq)
theorem tup_cmp {b : Bool} {vs : List Value} {k : Value → List V} (hp : ∀ v ∈ vs, TupV s.heap v (k v)) (hs : ∀ v ∈ vs, ∀ u ∈ vs, sameKs (k v) (k u) = true) : SrtO.Cmp prog w A s (tuples' b) (fun p => p.1 ∈ vs) (SrtO.lt2 fun v u => cLt (k v) (k u)) := by
  intro p q hm hm'
  show wpAny (model prog w) A (keyLt' (tuples' b) p.1 q.1) (fun r s' => s' = s ∧ r = cLt (k p.1) (k q.1)) (fun _ _ => False) s
  rw [← tup_cLt (hs _ hm _ hm')]
  have h2 := hs _ hm _ hm'
  obtain ⟨a, o, its, n, e, ho, hc, hd, r⟩ := hp _ hm
  obtain ⟨a', o', its', n', e', ho', hc', hd', r'⟩ := hp _ hm'
  generalize k p.1 = kp at r h2 ⊢
  generalize k q.1 = kq at r' h2 ⊢
  rw [e, e']
  refine PySem.W.kat_lt ho hd ho' hd' ?_
  refine lex_mixed (Q := fun b s' => s' = s ∧ b = tupLt kp kq) 0 r r' h2 ?_ ⟨rfl, rfl⟩
  rw [List.size_toArray, List.size_toArray, r.length, r'.length]
theorem tups_first {h : Heap} {T : String} {k : Value → List V} : ∀ (vs : List Value), (∀ v ∈ vs, TupV h v (k v)) → (∀ v ∈ vs, Head T (k v)) → ∃ fs, PySem.W.KatTups h vs fs ∧ fs.length = vs.length ∧ ∀ f ∈ fs, ∃ x, First T x ∧ RelV x f
  | [], _, _ => ⟨[], PySem.W.KatTups.nil, rfl, fun f hf => by simp at hf⟩
  | v :: vs, h1, h2 => by
    obtain ⟨fs, g1, g2, g3⟩ := tups_first vs (fun u hu => h1 u (List.mem_cons_of_mem _ hu)) (fun u hu => h2 u (List.mem_cons_of_mem _ hu))
    obtain ⟨a, o, its, n, e, ho, hc, hd, r⟩ := h1 v List.mem_cons_self
    obtain ⟨x, rr, ek, fx⟩ := h2 v List.mem_cons_self
    rw [ek] at r
    cases r with
    | cons rx rest =>
      rename_i u us
      refine ⟨u :: fs, ?_, by simp [g2], fun f hf => ?_⟩
      · rw [e]
        exact PySem.W.KatTups.cons ho hc hd (by simp) g1
      · rcases List.mem_cons.mp hf with q | q
        · rw [q]; exact ⟨x, fx, rx⟩
        · exact g3 f q
theorem tup_kind {T : String} {vs : List Value} {k : Value → List V} {Q : SortKind → Shared → Prop} (h0 : 0 < vs.length) (hp : ∀ v ∈ vs, TupV s.heap v (k v)) (ht : ∀ v ∈ vs, Head T (k v)) (hq : Q (tuples' (Value.type T != Value.type "tuple")) s) : wpAny (model prog w) A (keyKind' vs.toArray) Q E s := by
  obtain ⟨fs, g1, g2, g3⟩ := tups_first vs hp ht
  refine PySem.W.kat_kind (T := .type T) g1 (by omega) (fun f hm => ?_) (by
    have : T = "int" ∨ T = "str" := by
      cases fs with
      | nil => simp at g2; omega
      | cons f fs =>
        obtain ⟨x, fx, _⟩ := g3 f List.mem_cons_self
        cases fx
        · exact .inl rfl
        · exact .inr rfl
    rcases this with rfl | rfl <;> rfl) hq
  obtain ⟨x, fx, rx⟩ := g3 f hm
  cases fx with
  | int i => obtain ⟨t, rfl⟩ := rx; exact PySem.W.Looks.of_pure rfl
  | str z => obtain ⟨t, rfl⟩ := rx; exact PySem.W.Looks.of_pure rfl
end
/-! ### rows that stand beside each other -/
theorem paired_perm {α β : Type} {R : α → β → Prop} {l l' : List α} (p : l'.Perm l) : ∀ {m : List β}, Paired R l m → ∃ m', m'.Perm m ∧ Paired R l' m' := by
  induction p with
  | nil => intro m h; exact ⟨m, List.Perm.refl _, h⟩
  | cons x _ ih =>
    intro m h
    cases h with
    | cons r t =>
      obtain ⟨m', p', h'⟩ := ih t
      exact ⟨_ :: m', p'.cons _, .cons r h'⟩
  | swap x y l =>
    intro m h
    cases h with
    | cons r t =>
      cases t with
      | cons r2 t2 => exact ⟨_, List.Perm.swap _ _ _, .cons r2 (.cons r t2)⟩
  | trans _ _ ih1 ih2 =>
    intro m h
    obtain ⟨m1, p1, h1⟩ := ih2 h
    obtain ⟨m2, p2, h2⟩ := ih1 h1
    exact ⟨m2, p2.trans p1, h2⟩
end Sh
set_option Elab.async false
set_option linter.all false
set_option maxRecDepth 100000
set_option maxHeartbeats 2000000
namespace Sh
open PySem PySem.Spec PyProof.Rows L2
theorem paired_pairwise {α β : Type} {R : α → β → Prop} {P : α → α → Prop} {P' : β → β → Prop} (h : ∀ a a' b b', R a b → R a' b' → P a a' → P' b b') : ∀ {l : List α} {m : List β}, Paired R l m → l.Pairwise P → m.Pairwise P'
  | _, _, .nil, _ => List.Pairwise.nil
  | _, _, .cons r t, p => by
    obtain ⟨p1, p2⟩ := List.pairwise_cons.mp p
    refine List.pairwise_cons.mpr ⟨fun b' hb => ?_, paired_pairwise h t p2⟩
    have key : ∀ {l : List α} {m : List β}, Paired R l m → ∀ b ∈ m, ∃ a ∈ l, R a b := by
      intro l m hp
      induction hp with
      | nil => intro b hb; cases hb
      | cons r t ih =>
        intro b hb
        rcases List.mem_cons.mp hb with e | hb
        · subst e; exact ⟨_, List.mem_cons_self, r⟩
        · obtain ⟨a, ha, hr⟩ := ih b hb
          exact ⟨a, List.mem_cons_of_mem _ ha, hr⟩
    obtain ⟨a', ha, ra⟩ := key t b' hb
    exact h _ _ _ _ r ra (p1 a' ha)
theorem paired_mem {α β : Type} {R : α → β → Prop} {l : List α} {m : List β} (h : Paired R l m) : ∀ a ∈ l, ∃ b ∈ m, R a b := by
  induction h with
  | nil => intro b hb; cases hb
  | cons r t ih =>
    intro b hb
    rcases List.mem_cons.mp hb with e | hb
    · subst e; exact ⟨_, List.mem_cons_self, r⟩
    · obtain ⟨a, ha, hr⟩ := ih b hb
      exact ⟨a, List.mem_cons_of_mem _ ha, hr⟩
theorem paired_imp {α β : Type} {R S : α → β → Prop} {l : List α} {m : List β} (h : Paired R l m) (k : ∀ a b, R a b → S a b) : Paired S l m := by
  induction h with
  | nil => exact .nil
  | cons r t ih => exact .cons (k _ _ r) ih
theorem paired_snoc {α β : Type} {R : α → β → Prop} {l : List α} {m : List β} (h : Paired R l m) {a : α} {b : β} (r : R a b) : Paired R (l ++ [a]) (m ++ [b]) := by
  induction h with
  | nil => exact .cons r .nil
  | cons r0 t ih => exact .cons r0 ih
theorem paired_at {α β : Type} {R : α → β → Prop} : ∀ {l : List α} {m : List β}, l.length = m.length → (∀ (i : Nat) a b, l[i]? = some a → m[i]? = some b → R a b) → Paired R l m
  | [], [], _, _ => .nil
  | [], _ :: _, h, _ => by simp at h
  | _ :: _, [], h, _ => by simp at h
  | a :: l, b :: m, h, k => .cons (k 0 a b rfl rfl) (paired_at (by simpa using h) fun i x y h1 h2 => k (i + 1) x y (by simpa using h1) (by simpa using h2))
theorem paired_get {α β : Type} {R : α → β → Prop} {l : List α} {m : List β} (h : Paired R l m) : l.length = m.length ∧ ∀ (i : Nat) a b, l[i]? = some a → m[i]? = some b → R a b := by
  induction h with
  | nil => exact ⟨rfl, fun i a b e => by simp at e⟩
  | cons r t ih =>
    refine ⟨by simp [ih.1], fun i a b h1 h2 => ?_⟩
    cases i with
    | zero => simp at h1 h2; subst h1; subst h2; exact r
    | succ i => exact ih.2 i a b (by simpa using h1) (by simpa using h2)
/-- what stands at a value -/
def kvH (H : Hp) : Value → List V
  | .ref q => match H q with
    | some (.tup ks) => ks
    | _ => []
  | _ => []
theorem kvH_at {H : Hp} {q : Addr} {ks : List V} (h : H q = some (.tup ks)) : kvH H (.ref q) = ks := by
  unfold kvH
  simp only [h]
/-- a tuple of y's stands at v -/
def TupAt {α : Type} (g : α → List V) (H : Hp) (v : V) (y : α) : Prop := ∃ q, v = .ref q ∧ H q = some (.tup (g y))
theorem TupAt.sm {α : Type} {g : α → List V} {H H' : Hp} {v : V} {y : α} (h : TupAt g H v y) (s : Same H H') : TupAt g H' v y := let ⟨q, e, k⟩ := h; ⟨q, e, s _ _ k⟩
section
variable {X : Cx}
theorem Inv.tupV {pins : List (Addr × Obj)} {σ : L2.St} {H : Hp} {s : Shared} (I : Inv X pins σ H s) {q : Addr} {ks : List V} (h : H q = some (.tup ks)) : TupV s.heap (.ref q) ks := by
  obtain ⟨_, its, r, o, ho, hc, n, hd⟩ := I.hok q _ h
  exact ⟨q, o, its, n, rfl, ho, hc, hd, r⟩
def rSortM (K : PySem.W.Frag) : List V → Hp → VK → Prop := fun vs H Q => ∃ (α : Type) (g : α → List V) (T : String) (a : Addr) (xs : List V) (l : List α), vs = [.ref a] ∧ SqL K H a xs ∧ Items (TupAt g) H xs l ∧ (∀ y ∈ l, Head T (g y)) ∧ (∀ y ∈ l, ∀ z ∈ l, sameKs (g y) (g z) = true) ∧
  ∀ (l' : List α) (ys : List V) (p : Addr) (H' : Hp), l'.Perm l → l'.Pairwise (fun y z => cLt (g z) (g y) = false) → H p = none → Same H H' → H' p = some (.lst ys) → Items (TupAt g) H' ys l' → Q (.ref p) H'
theorem cr_sortM : CallR X (.builtin "sorted") (rSortM X.K) := by
  intro pins s σ H vs us Q I r h
  obtain ⟨α, g, T, a, xs, l, rfl, hs, it, ht, hsk, q⟩ := h
  obtain ⟨its, rv, hl, hz⟩ := I.list hs
  obtain ⟨u, rfl, ru⟩ := vals1 r
  obtain rfl : u = Value.ref a := ru
  have pr : Paired (fun u y => ∃ q, u = Value.ref q ∧ H q = some (.tup (g y))) its l := by
    refine paired_at (by rw [← rv.length, it.1]) fun i u y h1 h2 => ?_
    obtain ⟨x, hx, q', e, hq⟩ := it.get h2
    obtain ⟨u', hu, ru⟩ := rv.get hx
    rw [hu] at h1
    cases h1
    subst e
    obtain rfl : u = Value.ref q' := ru
    exact ⟨q', rfl, hq⟩
  have hk : ∀ v ∈ its, ∃ y ∈ l, kvH H v = g y ∧ TupV s.heap v (kvH H v) := by
    intro v hv
    obtain ⟨y, hy, q', e, hq⟩ := paired_mem pr v hv
    subst e
    refine ⟨y, hy, kvH_at hq, ?_⟩
    rw [kvH_at hq]
    exact Inv.tupV I hq
  have hsame : ∀ v ∈ its, ∀ u ∈ its, sameKs (kvH H v) (kvH H u) = true := by
    intro v hv u hu
    obtain ⟨y, hy, e1, _⟩ := hk v hv
    obtain ⟨z, hz', e2, _⟩ := hk u hu
    rw [e1, e2]
    exact hsk y hy z hz'
  refine SrtO.sorted_ord (swo_cLt (kvH H)) hl.isList (by rw [← rv.length]; exact hz) (fun h2 h₁ a' ha kk => ?_) fun out h1 h2 => ?_
  · intro h' keep
    have hp' : ∀ v ∈ its, TupV h' v (kvH H v) := fun v hv => by
      obtain ⟨_, _, _, tv⟩ := hk v hv
      exact tv.keeps fun b o e _ => keep b o (kk b o e).1 (kk b o e).2
    refine ⟨tuples' (Value.type T != Value.type "tuple"), fun Q' E' hq => ?_, tup_cmp (s := { s with heap := h' }) hp' hsame⟩
    refine tup_kind (s := { s with heap := h' }) (T := T) (k := kvH H) (by omega) hp' (fun v hv => ?_) hq
    obtain ⟨y, hy, e, _⟩ := hk v hv
    rw [e]
    exact ht y hy
  · obtain ⟨l', pl, pr'⟩ := paired_perm h2.perm pr
    have h3 : ∀ u ∈ out, ∃ a, u = Value.ref a := fun u hu => by
      obtain ⟨y, _, q', e, _⟩ := paired_mem pr' u hu
      exact ⟨q', e⟩
    obtain ⟨ep, he'⟩ := PyProof.Rows.sortedAll_at s.heap its out.toArray
    have hp : H (s.heap.objs.size + 1) = none := I.hok.fresh (Nat.le_succ _)
    have hlen : (out.map backV).length ≤ sizeLine := by
      rw [List.length_map, h2.perm.length_eq, ← rv.length]
      exact hz
    refine ⟨.ref (s.heap.objs.size + 1), upd H (s.heap.objs.size + 1) (.lst (out.map backV)), I.laid (t' := s.toks) (fun _ _ => PyProof.Rows.sortedAll_old) (Nat.le_succ _) ⟨hlen, out, ep, vals_back h3, he'⟩, rfl, ?_⟩
    refine q l' _ _ _ pl ?_ hp (same_new hp) upd_same ?_
    · refine paired_pairwise (R := fun u y => ∃ q, u = Value.ref q ∧ H q = some (.tup (g y))) ?_ pr' h1
      rintro u u' y y' ⟨q1, rfl, e1⟩ ⟨q2, rfl, e2⟩ h
      have h' : cLt (kvH H (.ref q2)) (kvH H (.ref q1)) = false := h
      rw [kvH_at e1, kvH_at e2] at h'
      exact h'
    · obtain ⟨e1, e2⟩ := paired_get pr'
      refine ⟨by rw [List.length_map]; exact e1, fun i x y hx hy => ?_⟩
      rw [List.getElem?_map] at hx
      cases hu : out[i]? with
      | none => rw [hu] at hx; cases hx
      | some u =>
        rw [hu] at hx
        obtain ⟨q', rfl, hq⟩ := e2 i u y hu hy
        cases hx
        exact ⟨q', rfl, same_new hp _ _ hq⟩
end
/-! ### with a key def -/
section
variable {X : Cx} {pins : List (Addr × Obj)} {σ : L2.St} {H : Hp} {s : Shared} {a g : Addr} {n N : Nat} {sp : Sp} {α : Type} {f : α → V} {gk : α → List V} {l : List α} {vs : List Value} {T : String} {P : PySem.Fin → Shared → Prop}
theorem list_sort_keyX (I : Inv X pins σ H s) (F : FnR X.prog X.w X.K X.mg X.base CX0 n g sp) (hr : Room n X.A.in1.in1)
    (ho : s.heap.get? a = some (seqObj "list" vs.toArray N)) (fpa : FpOk X pins H a) (rv : Vals (l.map f) vs) (hz : l.length ≤ sizeLine)
    (hk : ∀ y ∈ l, ∀ H1, Same H H1 → ∀ Q' : VK, (∀ q H2, Same H1 H2 → H2 q = some (.tup (gk y)) → Q' (.ref q) H2) → sp [f y] H1 Q' E0)
    (ht : ∀ y ∈ l, Head T (gk y)) (hs : ∀ y ∈ l, ∀ z ∈ l, sameKs (gk y) (gk z) = true)
    (h : ∀ (l' : List α) (s' : Shared) (H' : Hp), l'.Perm l → l'.Pairwise (fun y z => cLt (gk z) (gk y) = false) → Inv X pins σ H' s' → Same H H' → H' a = some (.lst (l'.map f)) → P (.done (.ret .none)) s') :
    wpAny (model X.prog X.w) X.A.in1.in1 (ksk_tree a (.ref g) false) P X.xe s := by
  have hlen : vs.length = l.length := by rw [← rv.length, List.length_map]
  obtain ⟨hn, hL, hfs, hex, hcell, hpin⟩ := id fpa
  have ha : a < s.heap.objs.size := Heap.lt_size ho
  have s1 := Heap.SameBut.update s.heap a (Obj.mapSeq fun _ => (#[] : Array Value))
  obtain ⟨e1, ho1⟩ : ∃ e1, (s.heap.update a (Obj.mapSeq fun _ => (#[] : Array Value))).get? a = some (seqObj "list" #[] e1) := ⟨_, get?_update_seq ho fun _ => #[]⟩
  unfold ksk_tree
  refine wpAny_bind (listItems_at ho rfl ?_)
  refine wpAny_bind (listUpdate_at ho rfl ?_ (by rw [List.size_toArray, hlen]; exact hz) (Nat.zero_le _))
  refine wpAny_bind (seqEpoch_at ho1 rfl ?_)
  refine wpAny_bind (wpAny_newTuple ?_ (by show vs.length ≤ _; rw [hlen]; exact hz))
  refine wpAny_bind (wpAny_newList ?_ (Nat.zero_le _))
  refine wpAny_holding ?_
  have J1 : Inv X pins σ H { s with heap := s.heap.update a (Obj.mapSeq fun _ => (#[] : Array Value)), toks := s.toks } := I.turned (fun b o hb e => (s1.2 b hb).trans e) hn hL hex hcell hpin
  have z1 : (s.heap.update a (Obj.mapSeq fun _ => (#[] : Array Value))).objs.size = s.heap.objs.size := Heap.size_update _ _ _
  show wpAny _ _ (ksk_rest a (.ref g) false vs.toArray e1 (.ref (((s.heap.update a (Obj.mapSeq fun _ => (#[] : Array Value))).push (seqObj "tuple" vs.toArray 0)).objs.size))) P X.xe { s with heap := ((s.heap.update a (Obj.mapSeq fun _ => (#[] : Array Value))).push (seqObj "tuple" vs.toArray 0)).push (seqObj "list" #[] 0) }
  generalize s.heap.update a (Obj.mapSeq fun _ => (#[] : Array Value)) = h1 at J1 ho1 z1 ⊢
  have z2 : (h1.push (seqObj "tuple" vs.toArray 0)).objs.size = h1.objs.size + 1 := size_push' _ _
  have J2 : Inv X pins σ (upd H (h1.push (seqObj "tuple" vs.toArray 0)).objs.size (.lst [])) { s with heap := (h1.push (seqObj "tuple" vs.toArray 0)).push (seqObj "list" #[] 0), toks := s.toks } :=
    J1.laid (fun b o e => Heap.get?_push_of_some _ (Heap.get?_push_of_some _ e)) (by rw [z2]; exact Nat.le_succ _) ⟨Nat.zero_le _, [], 0, .nil, Heap.get?_push_size _ rfl⟩
  have hk0 : H (h1.push (seqObj "tuple" vs.toArray 0)).objs.size = none := J1.hok.fresh (by rw [z2]; exact Nat.le_succ _)
  have hne : a ≠ (h1.push (seqObj "tuple" vs.toArray 0)).objs.size := by rw [z2, z1]; exact Nat.ne_of_lt (Nat.lt_succ_of_lt ha)
  have J3 : Inv X (pins ++ [(a, seqObj "list" #[] e1)]) σ (upd H (h1.push (seqObj "tuple" vs.toArray 0)).objs.size (.lst [])) { s with heap := (h1.push (seqObj "tuple" vs.toArray 0)).push (seqObj "list" #[] 0), toks := s.toks } :=
    J2.pins_of fun p hp => (List.mem_append.mp hp).elim (fun z => J2.pin p (List.mem_append_right _ z)) fun z => by
      rw [List.mem_singleton.mp z]
      exact ⟨Heap.get?_push_of_some _ (Heap.get?_push_of_some _ ho1), by rw [upd_ne hne]; exact hn, hL, hfs, fun v e => by cases e⟩
  generalize (h1.push (seqObj "tuple" vs.toArray 0)).objs.size = kS at J2 J3 hk0 hne ⊢
  generalize hs0 : ({ s with heap := (h1.push (seqObj "tuple" vs.toArray 0)).push (seqObj "list" #[] 0) } : Shared) = s0 at J3 ⊢
  clear hs0 J2 z2 J1 z1 ho1 h1
  unfold ksk_rest
  refine wpAny_bind (wpAny_rule ?_)
  first
    | rw [List.forIn_toArray]
    | (rw [← Array.forIn_toList]; simp only [List.toList_toArray])
    | rw [← Array.forIn_toList]
  refine wpAny_bind (ksk_fold (fun i s' => ∃ H' ys, Inv X (pins ++ [(a, seqObj "list" #[] e1)]) σ H' s' ∧ Same H H' ∧ H' kS = some (.lst ys) ∧ Paired (fun v y => ∃ q, v = V.ref q ∧ H' q = some (.tup (gk y))) ys (l.take i)) vs 0 s0
    ⟨_, [], J3, same_new hk0, upd_same, .nil⟩ ?step ?done)
  case step =>
    rintro j x s' hx ⟨H', ys, J, sm, hkS, pr⟩
    simp only [Nat.zero_add] at pr ⊢
    have hj : j < vs.length := (List.getElem?_eq_some_iff.mp hx).1
    have hjl : j < l.length := by omega
    have hy : l[j]? = some l[j] := List.getElem?_eq_getElem hjl
    have hym : l[j] ∈ l := List.getElem_mem hjl
    have rx : RelV (f l[j]) x := by
      obtain ⟨u, hu, ru⟩ := rv.get (i := j) (x := f l[j]) (by rw [List.getElem?_map, hy]; rfl)
      rw [hx] at hu
      cases hu
      exact ru
    have yl : ys.length = j := by
      have := Paired.length pr
      rw [List.length_take] at this
      omega
    refine wpAny_bind (wpAny_attempt (wpAny_mono (run_in (X := X.wish fun _ _ => False) (us := [x]) (ws := [f l[j]]) (Q := fun v H2 => ∃ q, v = .ref q ∧ Same H' H2 ∧ H2 q = some (.tup (gk l[j]))) F hr (J.wish _).env0.in1.in1 pass0 (J.wish _) (.cons rx .nil)
      (hk _ hym H' sm _ fun q H2 sm2 hq => ⟨q, rfl, sm2, hq⟩)) (fun v s'' he => ?_) fun _ _ hF => hF.elim))
    obtain ⟨v', H2, J', rv', q, rfl, sm2, hq⟩ := he
    obtain rfl : v = .ref q := rv'
    have J2 := J'.unwish
    have hkS2 := sm2 _ _ hkS
    obtain ⟨hzz, its, n2, rvi, hli, hget⟩ := J2.lstM hkS2
    try dsimp only
    have s2 := Heap.SameBut.update s''.heap kS (Obj.mapSeq (·.push (Value.ref q)))
    obtain ⟨c2, hc2⟩ : ∃ c2, (s''.heap.update kS (Obj.mapSeq (·.push (Value.ref q)))).get? kS = some (seqObj "list" (its.toArray.push (Value.ref q)) c2) := ⟨_, get?_update_seq hget (·.push (Value.ref q))⟩
    refine wpAny_bind (listUpdate_at hget rfl ?_ (by rw [List.size_toArray, ← hli]; exact hzz) (by rw [Array.size_push, List.size_toArray, ← hli]; omega))
    have et : l.take (j + 1) = l.take j ++ [l[j]] := by rw [List.take_succ, hy]; rfl
    refine wpAny_pure ⟨rfl, upd H2 kS (.lst (ys ++ [.ref q])), ys ++ [.ref q], ?_, same_mut (sm.trans sm2) hk0, upd_same, ?_⟩
    · refine J2.write (t' := s''.toks) (by rw [hkS2]; trivial) (.inl rfl) (fun b u hb e => (s2.2 b hb).trans e) ⟨_, hc2⟩ ⟨by rw [List.length_append, yl]; show j + 1 ≤ _; omega, its ++ [.ref q], c2, ?_, ?_⟩
      · exact paired_snoc rvi (show RelV (.ref q) (.ref q) from rfl)
      · rw [hc2, List.push_toArray]
    · rw [et]
      have up : ∀ q0 ks, H2 q0 = some (.tup ks) → upd H2 kS (.lst (ys ++ [.ref q])) q0 = some (.tup ks) := fun q0 ks e => by
        rw [upd_ne (ne_of e hkS2 (by intro z; cases z))]
        exact e
      exact paired_snoc (paired_imp pr fun v y ⟨q0, e, hq0⟩ => ⟨q0, e, up q0 _ (sm2 _ _ hq0)⟩) ⟨q, rfl, up q _ hq⟩
  case done =>
    rintro s' ⟨H', ys, J, sm, hkS, pr⟩
    rw [show l.take (0 + vs.length) = l from List.take_of_length_le (by omega)] at pr
    obtain ⟨hzz, its, n2, rvi, hli, hget⟩ := J.lstM hkS
    have pa := J.pin (a, seqObj "list" #[] e1) (List.mem_append_right _ (List.mem_append_right _ (List.mem_singleton.mpr rfl)))
    have hH'a : H' a = none := pa.2.1
    have hga : s'.heap.get? a = some (seqObj "list" #[] e1) := pa.1
    try dsimp only
    refine wpAny_bind (listItems_at hget rfl ?_)
    have hil : its.length = l.length := by rw [← hli, Paired.length pr]
    -- the keys
    have pk : Paired (fun u y => ∃ q, u = Value.ref q ∧ H' q = some (.tup (gk y))) its l := by
      obtain ⟨e1, e2⟩ := paired_get pr
      refine paired_at hil fun i u y h1 h2 => ?_
      have hi : i < ys.length := by
        have := (List.getElem?_eq_some_iff.mp h2).1
        omega
      obtain ⟨u', hu, ru⟩ := rvi.get (List.getElem?_eq_getElem hi)
      rw [h1] at hu
      cases hu
      obtain ⟨q, e, hq⟩ := e2 i _ y (List.getElem?_eq_getElem hi) h2
      rw [e] at ru
      exact ⟨q, ru, hq⟩
    have hkk : ∀ v ∈ its, ∃ y ∈ l, kvH H' v = gk y ∧ TupV s'.heap v (kvH H' v) := by
      intro v hv
      obtain ⟨y, hy, q', e, hq⟩ := paired_mem pk v hv
      subst e
      refine ⟨y, hy, kvH_at hq, ?_⟩
      rw [kvH_at hq]
      exact Inv.tupV J hq
    have hsame : ∀ v ∈ its, ∀ u ∈ its, sameKs (kvH H' v) (kvH H' u) = true := by
      intro v hv u hu
      obtain ⟨y, hy, e1, _⟩ := hkk v hv
      obtain ⟨z, hz', e2, _⟩ := hkk u hu
      rw [e1, e2]
      exact hs y hy z hz'
    have p2 : Paired (fun (p : Value × Value) y => kvH H' p.1 = gk y ∧ RelV (f y) p.2) (its.zip vs) l := by
      obtain ⟨_, e2⟩ := paired_get pk
      refine paired_at (by rw [List.length_zip]; omega) fun i p y h1 h2 => ?_
      rw [List.getElem?_zip_eq_some] at h1
      obtain ⟨q, e, hq⟩ := e2 i _ y h1.1 h2
      obtain ⟨u, hu, ru⟩ := rv.get (i := i) (x := f y) (by rw [List.getElem?_map, h2]; rfl)
      rw [h1.2] at hu
      cases hu
      refine ⟨?_, ru⟩
      rw [e]
      exact kvH_at hq
    have tail : ∀ st : SortSt, SrtO.Srtd (SrtO.lt2 fun v u => cLt (kvH H' v) (kvH H' u)) (arrOf st).toList → (arrOf st).toList.Perm (its.zip vs) → failedOf st = none → wpAny (model X.prog X.w) X.A.in1.in1 (ksk_tail a false e1 (.ref kS) st) P X.xe s' := by
      intro st hso hpe hfl
      obtain ⟨l', pl, pr'⟩ := paired_perm hpe p2
      have hkne : a ≠ kS := fun z => by rw [← z, hH'a] at hkS; cases hkS
      have s2 := Heap.SameBut.update s'.heap kS (Obj.mapSeq fun _ => (#[] : Array Value))
      obtain ⟨c2, hc2⟩ : ∃ c2, (s'.heap.update kS (Obj.mapSeq fun _ => (#[] : Array Value))).get? kS = some (seqObj "list" #[] c2) := ⟨_, get?_update_seq hget fun _ => #[]⟩
      have hga2 : (s'.heap.update kS (Obj.mapSeq fun _ => (#[] : Array Value))).get? a = some (seqObj "list" #[] e1) := (s2.2 a hkne).trans hga
      have K1 : Inv X (pins ++ [(a, seqObj "list" #[] e1)]) σ (upd H' kS (.lst [])) { s' with heap := s'.heap.update kS (Obj.mapSeq fun _ => (#[] : Array Value)), toks := s'.toks } :=
        J.write (by rw [hkS]; trivial) (.inl rfl) (fun b u hb e => (s2.2 b hb).trans e) ⟨_, hc2⟩ ⟨Nat.zero_le _, [], c2, .nil, hc2⟩
      unfold ksk_tail
      try dsimp only
      refine wpAny_bind (listUpdate_at hget rfl ?_ (by rw [List.size_toArray, ← hli]; exact hzz) (Nat.zero_le _))
      refine wpAny_bind (wpAny_letGo ?_)
      refine wpAny_bind (seqEpoch_at hga2 rfl ?_)
      have hsz : ((arrOf st).map (·.2)).size ≤ sizeLine := by
        have := hpe.length_eq
        rw [Array.length_toList, List.length_zip] at this
        rw [Array.size_map, this]
        omega
      simp only [Bool.false_eq_true, if_false]
      refine wpAny_bind (listUpdate_at hga2 rfl ?_ (Nat.zero_le _) (by omega))
      rw [hfl]
      simp only [bne_self_eq_false, Bool.false_eq_true, if_false]
      generalize hh2 : s'.heap.update kS (Obj.mapSeq fun _ => (#[] : Array Value)) = h2 at K1 hga2 ⊢
      have s3 := Heap.SameBut.update h2 a (Obj.mapSeq fun _ => (arrOf st).map (·.2))
      obtain ⟨c3, hc3⟩ : ∃ c3, (h2.update a (Obj.mapSeq fun _ => (arrOf st).map (·.2))).get? a = some (seqObj "list" ((arrOf st).map (·.2)) c3) := ⟨_, get?_update_seq hga2 fun _ => (arrOf st).map (·.2)⟩
      have hupa : upd H' kS (.lst []) a = none := by rw [upd_ne hkne]; exact hH'a
      have hvals : Vals (l'.map f) (((arrOf st).map (·.2)).toList) := by
        rw [Array.toList_map]
        have key : ∀ {ps : List (Value × Value)} {m : List α}, Paired (fun (p : Value × Value) y => kvH H' p.1 = gk y ∧ RelV (f y) p.2) ps m → Vals (m.map f) (ps.map (·.2)) := by
          intro ps m hp
          induction hp with
          | nil => exact .nil
          | cons r t ih => exact .cons r.2 ih
        exact key pr'
      have K3 : Inv X pins σ (upd (upd H' kS (.lst [])) a (.lst (l'.map f))) { s' with heap := h2.update a (Obj.mapSeq fun _ => (arrOf st).map (·.2)), toks := s'.toks } := by
        refine Inv.take (s := { s' with heap := h2, toks := s'.toks }) (Inv.unpinned K1) (fun b ob hb e => (s3.2 b hb).trans e) ⟨hupa, hL, hfs, hex, hcell, hpin⟩ ⟨?_, _, c3, hvals, ?_⟩
        · rw [List.length_map, pl.length_eq]; exact hz
        · rw [hc3, Array.toArray_toList]
      refine wpAny_pure (h l' _ _ pl ?_ K3 ?_ upd_same)
      · refine paired_pairwise (R := fun (p : Value × Value) y => kvH H' p.1 = gk y ∧ RelV (f y) p.2) ?_ pr' hso
        rintro p p' y y' ⟨k1, _⟩ ⟨k2, _⟩ hlt
        have hlt' : cLt (kvH H' p'.1) (kvH H' p.1) = false := hlt
        rw [k1, k2] at hlt'
        exact hlt'
      · exact fun b o e => by
          rw [upd_ne (ne_of_none e hn)]
          exact same_mut sm hk0 b o e
    have hzip : (its.toArray.zip vs.toArray).toList = its.zip vs := by simp
    unfold ksk_end
    try dsimp only
    simp only [Bool.false_eq_true, if_false]
    by_cases h2 : vs.toArray.size < 2
    · rw [if_pos h2, if_pos h2]
      refine wpAny_bind (wpAny_pure ?_)
      rw [StateT.run_pure]
      refine wpAny_bind (wpAny_pure ?_)
      try dsimp only
      rw [List.size_toArray] at h2
      refine tail (SortSt.mk' general' (its.toArray.zip vs.toArray) #[] 7 none) ?_ (by show (its.toArray.zip vs.toArray).toList.Perm _; rw [hzip]) rfl
      show SrtO.Srtd _ (its.toArray.zip vs.toArray).toList
      rw [hzip]
      have hl2 : (its.zip vs).length < 2 := by rw [List.length_zip]; omega
      match its.zip vs, hl2 with
      | [], _ => exact List.Pairwise.nil
      | [v], _ => exact List.pairwise_singleton _ _
      | _ :: _ :: l, h => exact absurd h (by simp)
    · rw [if_neg h2, if_neg h2]
      rw [List.size_toArray] at h2
      refine wpAny_bind (tup_kind (T := T) (vs := its) (k := kvH H') (by omega) (fun v hv => (hkk v hv).choose_spec.2.2) (fun v hv => ?_) ?_)
      · obtain ⟨y, hy, e, _⟩ := hkk v hv
        rw [e]
        exact ht y hy
      refine wpAny_bind (wpAny_mono (SrtO.wpS_sortO (st0 := SortSt.mk' (tuples' (Value.type T != Value.type "tuple")) (its.toArray.zip vs.toArray) #[] 7 none)
        (Q := fun _ st' => SrtO.Srtd (SrtO.lt2 fun v u => cLt (kvH H' v) (kvH H' u)) (arrOf st').toList ∧ (arrOf st').toList.Perm (its.zip vs) ∧ failedOf st' = none) (SrtO.swo2 (swo_cLt (kvH H'))) (tup_cmp (s := s') (fun v hv => (hkk v hv).choose_spec.2.2) hsame) rfl
        (fun p hp => ?_) rfl rfl fun st' a1 a2 a3 => ⟨a1, ?_, a3⟩) ?_ fun _ _ e => e)
      · have hp' : p ∈ (its.toArray.zip vs.toArray).toList := hp
        rw [hzip] at hp'
        exact (List.of_mem_zip (a := p.1) (b := p.2) hp').1
      · have := a2.perm
        have e : (arrOf (SortSt.mk' (tuples' (Value.type T != Value.type "tuple")) (its.toArray.zip vs.toArray) #[] 7 none)).toList = its.zip vs := hzip
        rw [e] at this
        exact this
      · rintro ⟨⟨⟩, st'⟩ s2 ⟨rfl, hp1, hp2, hf⟩
        try dsimp only
        exact tail st' hp1 hp2 hf
end
end Sh
set_option Elab.async false
set_option linter.all false
set_option maxRecDepth 100000
set_option maxHeartbeats 2000000
namespace Sh
open PySem PySem.Spec PyProof.Rows L2
/-- a list of these, or a dict whose keys they are -/
def KSrc (K : PySem.W.Frag) (H : Hp) (v : V) (xs : List V) : Prop := ∃ a, v = .ref a ∧ (SqL K H a xs ∨ ∃ kvs : List (Key × V), Rd H a (.dK kvs) ∧ xs = kvs.map fun p => kV p.1)
def rSortK (K : PySem.W.Frag) (sp : Sp) : List V → Hp → VK → Prop := fun vs H Q => ∃ (α : Type) (f : α → V) (gk : α → List V) (T : String) (l : List α) (v : V), vs = [v] ∧ KSrc K H v (l.map f) ∧
  (∀ y ∈ l, ∀ H1, Same H H1 → ∀ Q' : VK, (∀ q H2, Same H1 H2 → H2 q = some (.tup (gk y)) → Q' (.ref q) H2) → sp [f y] H1 Q' E0) ∧
  (∀ y ∈ l, Head T (gk y)) ∧ (∀ y ∈ l, ∀ z ∈ l, sameKs (gk y) (gk z) = true) ∧
  ∀ (l' : List α) (p : Addr) (H' : Hp), l'.Perm l → l'.Pairwise (fun y z => cLt (gk z) (gk y) = false) → H p = none → Same H H' → H' p = some (.lst (l'.map f)) → Q (.ref p) H'
section
variable {X : Cx} {n : Nat} {g : Addr} {sp : Sp}
theorem cr_sortKey (F : FnR X.prog X.w X.K X.mg X.base CX0 n g sp) (hr : Room (n + 2) X.A) (hc : X.calm = true) : CallRK X (.builtin "sorted") [Str.ofString "key"] (fun vs zs H Q => zs = [.ref g] ∧ rSortK X.K sp vs H Q) := by
  intro pins s σ H vs zs us ws Q I r rz h
  obtain ⟨rfl, α, f, gk, T, l, v, rfl, ⟨a, rfl, src⟩, hk, ht, hs, q⟩ := h
  obtain ⟨w1, rfl, e1⟩ := vals1 rz
  obtain rfl : w1 = Value.ref g := e1
  obtain ⟨u, rfl, ru⟩ := vals1 r
  obtain rfl : u = Value.ref a := ru
  have hr2 : Room n X.A.in1.in1 := (show Room (n + 1) X.A.in1 from Room.in1 hr).in1
  refine call_function_entry_kw kind_sorted plain_sorted entry_sorted (ksk_s1 _ _) ?_
  unfold Builtin.«sorted»
  refine wpAny_bind (m := checkCount "sorted" 1 1 _) (wpAny_pure ?_)
  have col : ∀ R : List Value → Shared → Prop, (∀ h' tk us, (∀ b o, s.heap.get? b = some o → h'.get? b = some o) → Vals (l.map f) us → l.length ≤ sizeLine → R us { s with heap := h', toks := tk }) → wpAny (model X.prog X.w) X.A.in1 (collect (.ref a)) R X.xe s := by
    intro R hR
    rcases src with hL | ⟨kvs, hD, ek⟩
    · obtain ⟨its, rv, hl, hz⟩ := I.list hL
      refine collect_list hl.isList (hR _ s.toks its (fun b o e => ?_) rv (by rw [List.length_map] at hz; exact hz)) (by rw [← rv.length]; exact hz)
      have hlt : b < s.heap.objs.size := Heap.lt_size e
      rw [Heap.get?_update_ne _ _ _ _ (Nat.ne_of_lt hlt)]
      exact Heap.get?_push_of_some _ e
    · obtain ⟨z, lo, vs, rel, dd⟩ := dk_rd I.hok hD
      obtain ⟨ep, hat⟩ := dd.dictAt
      have hl : kvs.length = vs.length := Paired.length rel
      refine PySem.W.kdu_collect (A := X.A.in1) (PySem.W.kdl_dict (knd := mixKind X.prog X.w) (kvs := vs) (ep := ep) lo) (I.ok.hd hc) hat (by rw [← hl]; exact z) fun h' tk acc hk hacc => ?_
      have ll : l.length = kvs.length := by
        have := congrArg List.length ek
        rw [List.length_map, List.length_map] at this
        exact this
      refine hR h' tk acc.toList hk ?_ (by rw [ll]; exact z)
      rw [ek]
      have el : acc.toList.length = acc.size := by simp
      refine vals_of_at (by rw [List.length_map, el, hacc.1, hl]) fun j x w h1 h2 => ?_
      obtain ⟨k, y, hky, hi⟩ := hacc.2 j w (by rw [← Array.getElem?_toList]; exact h2)
      have e1 : (kvs.map (·.1))[j]? = some k := by
        rw [KV.keys rel, List.getElem?_map, hky] <;> rfl
      have e2 : (kvs.map fun kv => kV kv.1)[j]? = some (kV k) := by
        have e3 : (kvs.map fun kv => kV kv.1) = (kvs.map (·.1)).map kV := by rw [List.map_map] <;> rfl
        rw [e3, List.getElem?_map, e1] <;> rfl
      rw [e2] at h1
      cases h1
      exact keyIs_rel hi
  refine wpAny_bind (col _ fun h' tk us hkp rv hz => ?_)
  have hul : us.length = l.length := by rw [← rv.length, List.length_map]
  refine wpAny_bind (wpAny_newList ?_ (by rw [hul]; exact hz))
  have I1 : Inv X pins σ H { s with heap := h', toks := tk } := I.kept hkp
  have hoL : (h'.push (seqObj "list" us.toArray 0)).get? h'.objs.size = some (seqObj "list" us.toArray 0) := Heap.get?_push_size _ rfl
  have hfr : H h'.objs.size = none := I1.hok.fresh (Nat.le_refl _)
  have fp : FpOk X pins H h'.objs.size := I1.fpOk (Nat.le_refl _) hfr
  have I2 : Inv X pins σ H { s with heap := h'.push (seqObj "list" us.toArray 0), toks := tk } := I1.kept fun b o e => Heap.get?_push_of_some _ e
  show wpAny _ _ _ _ _ { s with heap := h'.push (seqObj "list" us.toArray 0), toks := tk }
  refine wpAny_bind (wpAny_holding (wpAny_call_entry_kw slot_list_sort ⟨_, hoL, rfl⟩ entry_list_sort ?body (ksk_l1 _ _)))
  case body =>
    show wpAny (model X.prog X.w) X.A.in1.in1 (Builtin.«list.sort» ⟨[.ref h'.objs.size], [(Str.ofString "key", .ref g)]⟩) _ _ _
    rw [ksk_t1]
    refine list_sort_keyX I2 F hr2 hoL fp rv hz hk ht hs fun l' s' H' pl po J sm hp => ⟨_, rfl, ?_⟩
    exact wpAny_pure ⟨_, rfl, .ref h'.objs.size, H', J, rfl, q l' _ H' pl po hfr sm hp⟩
end
section
variable {X : Cx} {k j : Nat} {x : Str} {sp : Sp} {p p2 pos kpos : Pos} {e : Expr} {t : TA}
def tSortK (K : PySem.W.Frag) (sp : Sp) (t : TA) : TE := fun σ H Q => t σ H fun vs H1 => rSortK K sp vs H1 Q
/-- sorted(e, key=f), f a def of the text -/
theorem pe_sortK (c : Cal X.prog X.w X.K X.mg X.base CX0 k x sp) (hr : Room j X.A) (hk : k + 2 ≤ j) (hc : X.calm = true) (hg : Gl X "sorted") (hm : X.mg "sorted" = none) (hgx : Gl X x) (ha : PA X [e] t)
    (hdb : (x == ("__debug__" : Str)) = false := by decide)
    (he : backTo pos (starEach [e] X.env) = (false, eval e X.env) :: backTo pos (starEach [] X.env) := by rfl) (hpl : (backTo pos (starEach [e] X.env)).any (·.1) = false := by rfl) :
    PE X (.Call (.Name "sorted" p) [e] [⟨some (Str.ofString "key"), .Name x p2, kpos⟩] pos) (tSortK X.K sp t) := by
  obtain ⟨f, fd, ps, F, hmx, kp, b⟩ := c.ex
  have P0 := pe_callBK (p := p) (pos := pos) (cr_sortKey (fnR_of F b) (hr.mono hk) hc) hg hm (by rfl) ha (pk_cons (kpos := kpos) (nm := some (Str.ofString "key")) (pe_glob (pos := p2) (v := .ref f) hgx hmx rfl hdb) pk_nil) (by decide) (by decide) he hpl
  refine ⟨fun pins s σ H Q I h => P0.run pins s σ H Q I ?_⟩
  have e9 : (fun (vs : List V) (H1 : Hp) => ([V.ref f] : List V) = [.ref f] ∧ rSortK X.K sp vs H1 Q) = fun vs H1 => rSortK X.K sp vs H1 Q := by
    funext vs H1
    exact propext ⟨fun h => h.2, fun h => ⟨rfl, h⟩⟩
  show t σ H fun vs H1 => ([V.ref f] : List V) = [.ref f] ∧ rSortK X.K sp vs H1 Q
  rw [e9]
  exact h
end
/-! ### == by an own __eq__ -/
section
variable {X : Cx} {C : Addr} {k j : Nat} {sp : Sp}
def rEqI (C : Addr) (sp : Sp) : R2 := fun x y H Q => ∃ a dx fs b dy gs, x = .ref a ∧ y = .ref b ∧ H a = some (.ins C dx fs) ∧ H b = some (.ins C dy gs) ∧ sp [.ref a, .ref b] H (fun v H' => ∃ c, v = .bl c ∧ Q v H') E0
theorem op_eqI (d : MetC X.prog X.w X.K X.mg X.base k C "__eq__" sp) (hr : Room j X.A) (hk : k ≤ j) : OpR X (compareOp .Eq) (rEqI C sp) := by
  obtain ⟨f, fd, ps, F, b, hs, hf, ho⟩ := d.ex
  intro pins s σ H x y v u Q I rx ry h
  obtain ⟨a, dx, fs, a2, dy, gs, rfl, rfl, ha, hb, q⟩ := h
  obtain rfl : v = Value.ref a := rx
  obtain rfl : u = Value.ref a2 := ry
  obtain ⟨ox, od, J, _⟩ := StX.insC_at (C := C) I (.inr ⟨dx, fs, ha⟩)
  obtain ⟨ox', od', J', _⟩ := StX.insC_at (C := C) I (.inr ⟨dy, gs, hb⟩)
  obtain ⟨m, hF⟩ := I.fr
  show wpAny (model X.prog X.w) X.A (richCompare .Eq (.ref a) (.ref a2)) (EP X pins σ Q) X.xe s
  refine PySem.W.cmp_K (op := .Eq) (tb := .ref C) (hr.mono hk).units0 hF I.ok.mod.kin J J'.type (by simp [PySem.W.notFirst]) hs hf ?_
  refine wpAny_mono (run_in (us := [.ref a, .ref a2]) (ws := [.ref a, .ref a2]) (fnR_of F b) (hr.mono hk) I.env0 pass0 I (.cons rfl (.cons rfl .nil)) q) (fun v s' z => ?_) fun _ _ x => x
  obtain ⟨z', H', I', rz, c, ec, qz⟩ := z
  subst ec
  obtain rfl : v = .bool c := rz
  exact ⟨.bl c, H', I', rfl, qz⟩
end
end Sh
set_option Elab.async false
set_option linter.all false
set_option maxRecDepth 100000
set_option maxHeartbeats 2000000
namespace Sh
open PySem PySem.Spec PyProof.Rows L2
/-! ### a property of a class of the text -/
structure PropAt (K : PySem.W.Frag) (C : Addr) (f q : Str) (st : Stmt) : Prop where
  ex : ∃ (p g : Addr) (fd : FuncData), PropOf K C f p g ∧ L2.Fun K f q st g fd ∧ Binds K fd ["self"] []
structure PropC (P : Program) (w : World) (K : PySem.W.Frag) (mg : Str → Option Value) (base : Heap) (k : Nat) (C : Addr) (f : Str) (sp : Sp) : Prop where
  ex : ∃ (p g : Addr) (fd : FuncData) (ps : List Str), PropOf K C f p g ∧ FnOk P w K mg base CX0 k g fd ps sp ∧ Binds K fd ps []
section
variable {P : Program} {w : World} {K : PySem.W.Frag} {mg : Str → Option Value} {base : Heap}
theorem PropC.mk0 {f q : Str} {C : Addr} {st : Stmt} {N : List Str} {k : Nat} {sp : Sp} (D : PropAt K C f q st) (S : FnScope N ["self"] (defScope st)) (len : ∀ vs H Q E, sp vs H Q E → vs.length = 1)
    (hbody : ∀ (f : Addr) (cdv : Value) (A : Around) (outer : List Env) (s : Shared) (H : Hp) (vs : List V) (Q : VK) (E : XK), Room k (A.deeper (envOfC q (defScope st) s.heap.objs.size f cdv)) → sp vs H Q E →
      ∃ t, PSs (cxOf CX0 P w K mg base N q (defScope st) f cdv A outer s H E).nox (defBody st) t ∧ t { nx := fun _ H' => Q .non H', rt := Q } (start N vs) H) : PropC P w K mg base (k + 1) C f sp := by
  obtain ⟨p, g, fd, hp, F, b⟩ := D.ex
  exact ⟨p, g, fd, ["self"], hp, F.ok S len (hbody g), b⟩
end
section
variable {X : Cx} {k j : Nat} {f : Str} {C : Addr} {sp : Sp} {pos : Pos} {e : Expr} {ta : TE}
/-- o.f, f a property -/
theorem pe_propC (ho : PE X e ta) (c : Cls X.K C) (d : PropC X.prog X.w X.K X.mg X.base k C f sp) (hr : Room j X.A) (hk : k + 1 ≤ j) (hab : attributeBase e f X.env (eval e X.env) = eval e X.env := by rfl) :
    PE X (.Attribute e f pos) (tProp C sp [] E0 ta) := by
  obtain ⟨p, g, fd, ps, hp, F, b⟩ := d.ex
  exact pe_prop ho c hp F (hr.mono hk) b .nil pass0 hab
end
section
variable {X : Cx} {C : Addr} {k j : Nat} {sp : Sp} {a : Expr} {ta : TE}
/-- o as a test, o an instance of the class at C with an own __bool__ -/
def tTestI (C : Addr) (sp : Sp) (ta : TE) : TT := fun σ H Q => ta σ H fun x H1 => ∃ p dx fs, x = .ref p ∧ H1 p = some (.ins C dx fs) ∧ sp [.ref p] H1 (fun z H2 => ∃ b, z = .bl b ∧ Q b H2) E0
theorem pt_inst (d : MetC X.prog X.w X.K X.mg X.base k C "__bool__" sp) (hr : Room j X.A) (hk : k ≤ j) (ha : PE X a ta) (he : ∀ whole, isTrue a X.env whole = (do let v ← whole; standAt a.pos; holding [v] (truthy v))) : PT X a (tTestI C sp ta) := by
  obtain ⟨f, fd, ps, F, b, i, n, o⟩ := d.ex
  refine ⟨fun pins s σ H Q I h => ?_⟩
  refine isTrue_plain (thn (ha.run pins s σ H _ I h) fun v s1 ⟨x, H1, I1, r1, p, dx, fs, ex, hH, q⟩ => ?_) (he _)
  subst ex
  obtain rfl : v = .ref p := r1
  obtain ⟨ox, od, J, _⟩ := StX.insC_at (C := C) I1 (.inr ⟨dx, fs, hH⟩)
  refine truthy_own I1.kIn J i n (wpAny_mono (run_in (us := [.ref p]) (ws := [.ref p]) (fnR_of F b) (hr.mono hk) I1.env0 pass0 I1 (.cons rfl .nil) q) (fun v s' z => ?_) fun _ _ x => x)
  obtain ⟨z', H', I', rz, c, ec, qz⟩ := z
  subst ec
  obtain rfl : v = .bool c := rz
  exact ⟨c, rfl, H', I', qz⟩
end
/-! ### what walks over the keys of a dict -/
theorem lc_keys {d : Addr} {o : Obj} {kvs : List (Key × V)} {g : TG} {tt : TT} {te : TE} {vs : List Nat} {σ : L2.St} {H1 : Hp} {D : Addr} {Qd : Hp → Prop}
    (Pv : List Key → Hp → Prop) (h0 : Pv [] (upd H1 D (.lst []))) (hG : ∀ pre H, Pv pre H → H d = some (.frz o (.dK kvs)))
    (hs : ∀ pre k post H, kvs.map (·.1) = pre ++ k :: post → Pv pre H → g (kV k) (wipe σ vs) H fun σ2 H2 => wipe σ2 vs = wipe σ vs ∧ tt σ2 H2 fun b H3 =>
      if b = true then te σ2 H3 fun y' H4 => ∃ acc, H4 D = some (.lst acc) ∧ acc.length < sizeLine ∧ Pv (pre ++ [k]) (upd H4 D (.lst (acc ++ [y']))) else Pv (pre ++ [k]) H3) (hd : ∀ H, Pv (kvs.map (·.1)) H → Qd H) :
    ∃ W : Nat → Nat → Hp → Prop, (∃ m, W 0 m (upd H1 D (.lst []))) ∧ ∀ i m H, W i m H →
      ((Itk d o kvs).stop i H ∧ Qd H) ∨ ((Itk d o kvs).go i H ∧ ∃ Nx : Hp → Prop, (∀ H', Nx H' → ∃ m', m' < m ∧ W (i + 1) m' H') ∧ ∀ x H', (Itk d o kvs).yld i H x H' → g x (wipe σ vs) H' fun σ2 H2 => wipe σ2 vs = wipe σ vs ∧ tt σ2 H2 fun b H3 =>
        if b = true then te σ2 H3 fun y H4 => ∃ acc, H4 D = some (.lst acc) ∧ acc.length < sizeLine ∧ Nx (upd H4 D (.lst (acc ++ [y]))) else Nx H3) := by
  have w := walk_keys (d := d) (o := o) (kvs := kvs)
  refine lc_it w (fun i H => Pv ((kvs.map (·.1)).take i) H) (by simpa using h0) (fun i H _ p => hG _ H p) (fun i x H H' hi p y => ?_) (fun H p => hd H (by rw [List.take_of_length_le (by simp)] at p; exact p))
  obtain ⟨rfl, k, v, hk, rfl⟩ := y
  have hl : (kvs.map (·.1))[i]? = some k := by rw [List.getElem?_map, hk]; rfl
  obtain ⟨e1, e2⟩ := take_succ_of hl
  have q := hs _ k _ H' e2 p
  rw [← e1] at q
  exact q
/-- a dict comprehension over a tuple whose items are told by l -/
theorem dc_tupR {α : Type} {Rel : Hp → V → α → Prop} {l : List α} {xs : List V} {K : PySem.W.Frag} {a : Addr} {g : TG} {tt : TT} {tk tv : TE} {vs : List Nat} {σ : L2.St} {H1 : Hp} {D : Addr} {Qd : Hp → Prop} (hlen : xs.length = l.length)
    (Pv : List α → Hp → Prop) (h0 : Pv [] (upd H1 D (.dK []))) (hG : ∀ pre H, Pv pre H → SqT K H a xs ∧ ∀ (i : Nat) x y, xs[i]? = some x → l[i]? = some y → Rel H x y)
    (hs : ∀ pre y post x H, l = pre ++ y :: post → xs[pre.length]? = some x → Rel H x y → Pv pre H → g x (wipe σ vs) H fun σ2 H2 => wipe σ2 vs = wipe σ vs ∧ tt σ2 H2 fun b H3 =>
      if b = true then tk σ2 H3 fun y1 H4 => tv σ2 H4 fun z H5 => ∃ kvs k, y1 = kV k ∧ H5 D = some (.dK kvs) ∧ kvs.length < sizeLine ∧ Pv (pre ++ [y]) (upd H5 D (.dK (putK kvs k z))) else Pv (pre ++ [y]) H3) (hd : ∀ H, Pv l H → Qd H) :
    ∃ W : Nat → Nat → Hp → Prop, (∃ m, W 0 m (upd H1 D (.dK []))) ∧ ∀ i m H, W i m H →
      ((Itt K a).stop i H ∧ Qd H) ∨ ((Itt K a).go i H ∧ ∃ Nx : Hp → Prop, (∀ H', Nx H' → ∃ m', m' < m ∧ W (i + 1) m' H') ∧ ∀ x H', (Itt K a).yld i H x H' → g x (wipe σ vs) H' fun σ2 H2 => wipe σ2 vs = wipe σ vs ∧ tt σ2 H2 fun b H3 =>
        if b = true then tk σ2 H3 fun y H4 => tv σ2 H4 fun z H5 => ∃ kvs k, y = kV k ∧ H5 D = some (.dK kvs) ∧ kvs.length < sizeLine ∧ Nx (upd H5 D (.dK (putK kvs k z))) else Nx H3) := by
  refine dc_tup (K := K) (a := a) (xs := xs) (fun i H => Pv (l.take i) H) (by simpa using h0) (fun i H _ p => (hG _ H p).1) (fun i x H hx p => ?_) (fun H p => hd H (by rw [hlen, List.take_length] at p; exact p))
  have hi' : i < l.length := by
    have := (List.getElem?_eq_some_iff.mp hx).1
    omega
  have hl : l[i]? = some l[i] := by simp [hi']
  obtain ⟨e1, e2⟩ := take_succ_of hl
  have q := hs _ l[i] _ x H e2 (by rw [List.length_take, Nat.min_eq_left (Nat.le_of_lt hi')]; exact hx) ((hG _ H p).2 i x l[i] hx hl) p
  rw [← e1] at q
  exact q
end Sh
set_option Elab.async false
set_option linter.all false
set_option maxRecDepth 100000
namespace Sh
open PySem PySem.Spec PyProof.Rows L2
structure TxtC (K : PySem.W.Frag) (mg : Str → Option Value) (CB : Addr) : Prop extends Txt K mg where
  k_Book : ClassAt K mg "Book" CB
  m_Book___init__ : MethAt K CB "__init__" "Book.__init__" s_Book___init__ ["self", "signs", "rules"]
  m_Book___len__ : MethAt K CB "__len__" "Book.__len__" s_Book___len__ ["self"]
  m_Book___getitem__ : MethAt K CB "__getitem__" "Book.__getitem__" s_Book___getitem__ ["self", "number"]
  m_Book___iter__ : MethAt K CB "__iter__" "Book.__iter__" s_Book___iter__ ["self"]
  m_Book___eq__ : MethAt K CB "__eq__" "Book.__eq__" s_Book___eq__ ["self", "other"]
  m_Book___call__ : MethAt K CB "__call__" "Book.__call__" s_Book___call__ ["self", "text"]
  i_Book : C8.InsC K CB
  n_Book_signs : NoAttr K CB "signs"
  n_Book_rules : NoAttr K CB "rules"
  n_Book__lefts : NoAttr K CB "_lefts"
  n_Book__longest : NoAttr K CB "_longest"
  n_Book__quarrel : NoAttr K CB "_quarrel"
  n_Book__moves : NoAttr K CB "_moves"
  kb_tuple : PySem.W.kitOne K (.type "tuple") (.ref CB) = some false
  nb_tuple : PySem.W.notFirst K CB (.type "tuple") = true
end Sh
set_option Elab.async false
set_option linter.all false
set_option maxRecDepth 100000
set_option maxHeartbeats 2000000
/-! The law's own call, known to be the outermost one: no repr runs around it (guards = some []), which FnOk does not tell. -/
namespace Sh
open PySem PySem.Spec PyProof.Rows L2
section
variable {P : Program} {w : World} {K : PySem.W.Frag} {mg mb : Str → Option Value}
/-- one def run at one place B: what fn_of says for every place -/
theorem run_at {base : Heap} {j : Nat} {g : Addr} {q : Str} {st : Stmt} {fd : FuncData} {N ps : List Str} {B : Around} {out : List Env} {s0 : Shared} {H0 : Hp} {ar : Args} {us : List Value} {zs : List V} {R : VK} {X0 : XK}
    (F : L2.Fun K q q st g fd) (S : FnScope N ps (defScope st)) (hl : zs.length = ps.length) (room : Room (j + 1) B) (en : Env0 P w K mg base B out s0 H0) (bi : BindsTo s0 fd ar (ps.zip us)) (rv : Vals zs us)
    (body : ∀ cdv : Value, Room j (B.deeper (envOfC q (defScope st) s0.heap.objs.size g cdv)) →
      ∃ t, PSs (cxOf CX0 P w K mg base N q (defScope st) g cdv B out s0 H0 X0).nox (defBody st) t ∧ t { nx := fun _ H' => R .non H', rt := R } (start N zs) H0) :
    codeAny (model P w) B (.call (.ref g) ar) (CR CX0 out P w H0 s0 R X0) s0 := by
  obtain ⟨oc, od, kV, doc, pm, an, cdv, ct, osl, rfl, look, code⟩ := F.ex
  have inK : K.In s0.heap := en.mod.kin.keeps fun b o z => (en.bs b o z).1
  have noL : s0.heap.NoLimit := en.mod.nolimit.keeps fun b o z => (en.bs b o z).1
  refine codeAny_call_function room.depth (inK _ _ look) rfl S.co S.gen rfl (PySem.W.codeRec_of inK code) (bi _ _ _ _ ?_)
  refine wpAny_newFunctionEnv_cells S.kind ?_ fun env same s2 at2 => ?_
  · rintro ⟨n, v⟩ mem
    exact (S.par n (List.of_mem_zip mem).1).imp id fun z => ⟨z, PySem.W.cellsFrom_some _ _ _ (.inl z)⟩
  · subst same
    refine ⟨noL.keeps at2.toInCall.keep, codeAny_func ?_⟩
    obtain ⟨t, run, val⟩ := body cdv (room.deeper _)
    have I0 := inv_start (CX := CX0) (E := X0) S room.hd en hl rv at2
    refine wpAny_mono (run.nox.run [] s2 _ H0 _ I0 val) (fun fl s3 out3 => ?_) fun e s3 z => z
    match fl, out3 with
    | .ret u, ⟨v, _, H3, J, r3, z⟩ => exact ⟨v, H3, J.os, J.bare, J.base, J.hok, r3, z⟩
    | .next, ⟨_, H3, J, z⟩ => exact ⟨.non, H3, J.os, J.bare, J.base, J.hok, rfl, z⟩
    | .brk, ⟨_, _, _, z⟩ => exact z.elim
    | .cont, ⟨_, _, _, z⟩ => exact z.elim
/-- at most the script is tracked, as an object that keeps -/
def OnlyA (a : Addr) (ls : List V) (vs : List Value) (H : Hp) : Prop := ∀ b u, H b = some u → b = a ∧ u = .frz { cls := .type "list", data := .seq vs.toArray } (.lst ls)
theorem law_in {k : Nat} {fa a : Addr} {x p1 : Str} {st : Stmt} {fd : FuncData} {N : List Str} {s1 : Shared} {vs : List Value} {zs : List Int}
    (kin : K.In s1.heap) (glob : s1.heap.Ns mainGlobals mg) (bltn : s1.heap.Ns builtinsNs mb) (bboot : ∀ y : Str, y ≠ "__name__" → mb y = bootBuiltins y) (noL : s1.heap.NoLimit) (noG : s1.gens = #[])
    (scr : s1.heap.get? a = some { cls := .type "list", data := .seq vs.toArray }) (isI : IntsAre vs zs) (small : zs.length ≤ sizeLine) (room : Room (k + 1) callerA)
    (F : L2.Fun K x x st fa fd) (S : FnScope N [p1] (defScope st)) (bi : ∀ (s : Shared) (u : Value), BindsTo s fd ⟨[u], []⟩ [(p1, u)])
    (body : ∀ (base : Heap) (H : Hp) (cdv : Value), Room k (callerA.deeper (envOfC x (defScope st) s1.heap.objs.size fa cdv)) → SqL K H a (zs.map V.int) →
      ∃ t, PSs (cxOf CX0 P w K mg base N x (defScope st) fa cdv callerA [] s1 H fun _ _ _ => False).nox (defBody st) t ∧ t { nx := fun _ _ => V.non = V.bl true, rt := fun v _ => v = .bl true } (start N [.ref a]) H) :
    codeAny (model P w) callerA (.call (.ref fa) ⟨[.ref a], []⟩) (fun r s' => r = .ok (.ret (.bool true)) ∧ OldK s1.heap s'.heap ∧ s'.os = s1.os ∧ AllBare s'.gens) s1 := by
  have isV := vals_ints isI
  have sameL := isI.length
  have main : ∀ H : Hp, OnlyA a (zs.map V.int) vs H → SqL K H a (zs.map V.int) → HOk P w H s1.heap → (K.lookup a ≠ none → H a = none) →
      codeAny (model P w) callerA (.call (.ref fa) ⟨[.ref a], []⟩) (fun r s' => r = .ok (.ret (.bool true)) ∧ OldK s1.heap s'.heap ∧ s'.os = s1.os ∧ AllBare s'.gens) s1 := by
    intro H lone sq good apart
    -- what is not the script is not tracked
    have free : ∀ {b : Addr}, b ≠ a → H b = none := fun {b} n => by
      cases z : H b with
      | none => rfl
      | some u => exact absurd (lone b u z).1 n
    have nsF : ∀ {b : Addr} {m : Str → Option Value}, s1.heap.Ns b m → (hidT s1.heap H).Ns b m := by
      rintro b m ⟨o, es, ep, z, dat, rest⟩
      refine ⟨o, es, ep, hidT_get z (free ?_), dat, rest⟩
      rintro rfl
      rw [scr] at z
      cases z
      cases (show Data.seq vs.toArray _ = Data.dict es ep from dat)
    have kinF : K.In (hidT s1.heap H) := fun b o z => by
      by_cases n : b = a
      · subst n
        exact hidT_get (kin _ _ z) (apart (by rw [z]; simp))
      · exact hidT_get (kin b o z) (free n)
    obtain ⟨mc, c1, c2⟩ := noL
    have en : Env0 P w K mg (hidT s1.heap H) callerA [] s1 H := by
      refine ⟨rfl, ⟨kinF, nsF glob, ⟨mb, nsF bltn, bboot⟩, ⟨mc, nsF c1, c2⟩⟩, fun b o z => of_hidT z, Nat.le_of_eq (hidT_size _ _), trivial, fun b z => ?_, good, .of_eq noG⟩
      cases z
    refine codeAny_mono (run_at (R := fun v _ => v = .bl true) (zs := [.ref a]) (us := [.ref a]) F S rfl room en (bi s1 (.ref a)) (.cons rfl .nil) fun cdv r => body _ H cdv r sq) fun res s2 h => ?_
    match res, h with
    | .error e, h => exact (show False from h).elim
    | .ok .next, h => exact (show False from h).elim
    | .ok .brk, h => exact (show False from h).elim
    | .ok .cont, h => exact (show False from h).elim
    | .ok (.ret u), ⟨v, H2, os, bare, un, good2, rv, ev⟩ =>
      obtain rfl : v = .bl true := ev
      obtain rfl : u = Value.bool true := rv
      refine ⟨rfl, OldK.of_keep fun b o z => ?_, os, bare⟩
      cases q : H b with
      | none => exact un.keep b o z q (fun m => by cases m) (by simp)
      | some u =>
        obtain ⟨rfl, rfl⟩ := lone b u q
        have g1 := (good _ _ q).1
        rw [z] at g1
        cases g1
        exact (good2 _ _ (un.frzs _ _ _ q)).1
  by_cases own : K.lookup a = none
  · refine main (fun b => if b = a then some (.frz { cls := .type "list", data := .seq vs.toArray } (.lst (zs.map V.int))) else none) ?_ (.inl (.inr ⟨_, if_pos rfl⟩)) ?_ fun n => absurd own n
    · intro b u z
      by_cases n : b = a
      · exact ⟨n, (Option.some.inj ((if_pos n).symm.trans z)).symm⟩
      · cases (if_neg n).symm.trans z
    · intro b u z
      by_cases n : b = a
      · subst n
        cases (if_pos rfl).symm.trans z
        exact ⟨scr, by rw [List.length_map]; exact small, vs, _, isV, scr⟩
      · cases (if_neg n).symm.trans z
  · obtain ⟨o, z⟩ := Option.ne_none_iff_exists'.mp own
    have same := kin a o z
    rw [scr] at same
    cases same
    exact main (fun _ => none) (fun _ _ z => by cases z) (.inr ⟨_, vs.toArray, _, z, rfl, rfl, rfl, by rw [List.size_toArray, sameL]; exact small, by simpa using isV⟩) (fun _ _ z => by cases z) fun _ => rfl
end
/-- the law's claim from its body, walked where no repr runs around it -/
theorem walk_law {l : PySem.W.OpenLaw} {n k : Nat} {q : Program} {loose : List Str} {XP : (Str → Option Value) → Heap → Prop} {YP : World → Heap → Prop} {d : DefRec} {K : Params → PySem.W.Frag} {x p1 : Str} {st : Stmt} {N : List Str}
    (hn : l.most = some n) (hn2 : n ≤ sizeLine) (hdf : d.params.defaults = []) (room : Room (k + 1) callerA) (S : FnScope N [p1] (defScope st))
    (hY : ∀ (w : World) (h : Heap), YP w h → (K w.params).In h)
    (F : ∀ (w : World) (mg : Str → Option Value) (fa : Addr) (h : Heap), (K w.params).In h → h.Ns mainGlobals mg → mg d.name = some (.ref fa) →
      ∃ fd : FuncData, L2.Fun (K w.params) x x st fa fd ∧ (∀ (s : Shared) (u : Value), BindsTo s fd ⟨[u], []⟩ [(p1, u)]) ∧
        ∀ (s1 : Shared) (a : Addr) (zs : List Int) (base : Heap) (H : Hp) (cdv : Value), zs.length ≤ n → (∀ z ∈ zs, Builtin.Int.intBits z ≤ 1048576) → Room k (callerA.deeper (envOfC x (defScope st) s1.heap.objs.size fa cdv)) → SqL (K w.params) H a (zs.map V.int) →
          ∃ t, PSs (cxOf CX0 l.prog w (K w.params) mg base N x (defScope st) fa cdv callerA [] s1 H fun _ _ _ => False).nox (defBody st) t ∧ t { nx := fun _ _ => V.non = V.bl true, rt := fun v _ => v = .bl true } (start N [.ref a]) H) :
    PySem.W.WalkO q loose XP YP l.row.toRowW d [] (fun f vs => PySem.call f vs) := by
  refine Att.attach_callB hn hdf fun w s0 s1 mg mb fa o pm cd doc a vs zs G Y ho hd hcd hmg hobj isI len bits noG => ?_
  have kin := hY w _ Y
  obtain ⟨fd, Fn, bi, body⟩ := F w mg fa _ kin G.T.g hmg
  exact law_in kin G.T.g G.T.b G.T.builtins G.T.nolimit noG hobj isI (Nat.le_trans len hn2) room Fn S bi fun base H cdv r sq => body s1 a zs base H cdv len bits r sq
end Sh
set_option Elab.async false
set_option linter.all false
set_option maxRecDepth 100000
namespace Sh
open PySem PySem.Spec PyProof.Rows L2
section
variable {K : PySem.W.Frag} {h : Heap} {mg : Str → Option Value}
/-- a constant that the top has written -/
theorem con_mk {x : Str} {u : Value} {v : V} (X : K.In h) (Y : h.Ns mainGlobals mg) (a : PySem.W.nsIn K mainGlobals x = some (some u)) (r : RelV v u) : ∃ u, mg x = some u ∧ RelV v u := ⟨u, PySem.W.mg_of X Y a, r⟩
/-- a def -/
theorem def_mk {x : Str} {st : Stmt} {ps : List Str} {f : Addr} {oc kv dc pm cd ct : Value} {od an : Option Addr} {sl : Array (Option Value)} (X : K.In h) (Y : h.Ns mainGlobals mg) (a : PySem.W.nsIn K mainGlobals x = some (some (.ref f)))
    (l : K.lookup f = some ⟨oc, od, .func (PySem.W.fnOf x x (defArgs st) (defBody st) (defScope st) .none kv dc pm an cd ct), sl⟩) (c : PySem.W.codeIn K cd x = true) (k : PySem.W.keepIn K (.ref f) = true)
    (b : ∀ (kV doc pm : Value) (an : Option Addr) (cdv ct : Value) (us : List Value), us.length = ps.length → bindArgs (PySem.W.fnOf x x (defArgs st) (defBody st) (defScope st) .none kV doc pm an cdv ct) ⟨us, []⟩ = pure (ps.zip us)) : DefAt K mg x st ps := by
  have F := fun_mk (st := st) l c k
  exact ⟨f, _, F, PySem.W.mg_of X Y a, F.binds b⟩
/-- a method -/
theorem meth_mk {C : Addr} {m q : Str} {st : Stmt} {ps : List Str} {f : Addr} {oc kv dc pm cd ct : Value} {od an : Option Addr} {sl : Array (Option Value)}
    (l : K.lookup f = some ⟨oc, od, .func (PySem.W.fnOf m q (defArgs st) (defBody st) (defScope st) .none kv dc pm an cd ct), sl⟩) (c : PySem.W.codeIn K cd q = true) (k : PySem.W.keepIn K (.ref f) = true)
    (i : PySem.W.findIn K (.ref C) m = some (some (.ref f))) (n : PySem.W.isFn K (.ref f) = true) (o : PySem.W.fnIn K f = true)
    (b : ∀ (kV doc pm : Value) (an : Option Addr) (cdv ct : Value) (us : List Value), us.length = ps.length → bindArgs (PySem.W.fnOf m q (defArgs st) (defBody st) (defScope st) .none kV doc pm an cdv ct) ⟨us, []⟩ = pure (ps.zip us)) : MethAt K C m q st ps := by
  have F := fun_mk (st := st) l c k
  exact ⟨f, _, F, F.binds b, i, n, o⟩
/-- the law's def -/
theorem law_mk {x p1 : Str} {st : Stmt} {fa f : Addr} {oc kv dc pm cd ct : Value} {od an : Option Addr} {sl : Array (Option Value)} (X : K.In h) (Y : h.Ns mainGlobals mg) (g : mg x = some (.ref fa)) (a : PySem.W.nsIn K mainGlobals x = some (some (.ref f)))
    (l : K.lookup f = some ⟨oc, od, .func (PySem.W.fnOf x x (defArgs st) (defBody st) (defScope st) .none kv dc pm an cd ct), sl⟩) (c : PySem.W.codeIn K cd x = true) (k : PySem.W.keepIn K (.ref f) = true)
    (b : ∀ (kV doc pm : Value) (an : Option Addr) (cdv ct : Value) (s : Shared) (u : Value), BindsTo s (PySem.W.fnOf x x (defArgs st) (defBody st) (defScope st) .none kV doc pm an cdv ct) ⟨[u], []⟩ [(p1, u)]) :
    ∃ fd : FuncData, L2.Fun K x x st fa fd ∧ ∀ (s : Shared) (u : Value), BindsTo s fd ⟨[u], []⟩ [(p1, u)] := by
  cases g.symm.trans (PySem.W.mg_of X Y a)
  exact ⟨_, fun_mk l c k, b _ _ _ _ _ _⟩
end
end Sh
set_option Elab.async false
set_option linter.all false
set_option maxRecDepth 100000
namespace Sh
open PySem PySem.Spec PyProof.Rows L2
section
variable {K : PySem.W.Frag} {h : Heap} {mg : Str → Option Value}
theorem kit_self {C : Addr} : PySem.W.kitOne K (.ref C) (.ref C) = some true := if_pos (by simp)
/-- a property -/
theorem prop_mk {C p : Addr} {m q : Str} {st : Stmt} {f : Addr} {oc kv dc pm cd ct : Value} {od an : Option Addr} {sl : Array (Option Value)} {rest : List Value}
    (l : K.lookup f = some ⟨oc, od, .func (PySem.W.fnOf m q (defArgs st) (defBody st) (defScope st) .none kv dc pm an cd ct), sl⟩) (c : PySem.W.codeIn K cd q = true) (k : PySem.W.keepIn K (.ref f) = true)
    (i : PySem.W.findIn K (.ref C) m = some (some (.ref p))) (g : PySem.W.specialIn K (.ref p) "__get__" = some (some (.builtin "property.__get__"))) (t : PySem.W.takesIn K (.ref p) = some true) (r : PySem.W.recIn K p "property" = some (.ref f :: rest))
    (b : ∀ (kV doc pm : Value) (an : Option Addr) (cdv ct : Value) (us : List Value), us.length = 1 → bindArgs (PySem.W.fnOf m q (defArgs st) (defBody st) (defScope st) .none kV doc pm an cdv ct) ⟨us, []⟩ = pure ([("self" : Str)].zip us)) : PropAt K C m q st := by
  have F := fun_mk (st := st) l c k
  exact ⟨p, f, _, ⟨i, g, t, rest, r⟩, F, F.binds b⟩
end
end Sh
set_option Elab.async false
set_option linter.all false
set_option maxRecDepth 100000
set_option maxHeartbeats 4000000
/-! an own exception's __init__ that begins with super().__init__(e), over ValueError -/
namespace Sh
open PySem PySem.Spec PyProof.Rows L2 NdefX
/-- of the class at C: its super().__init__ as seen from D is ValueError's -/
structure SupC (K : PySem.W.Frag) (C D : Addr) : Prop where
  sub : PySem.W.mroIn K C (.ref D) = some true
  sup : PySem.W.ks_superIn K C D "__init__" = some (some (.builtin "ValueError.__init__"))
  ve : PySem.W.subIn K (.ref C) (.type "ValueError") = some true
/-- the def at f, its class cell at cc (the class at D), its code's file -/
structure SupF (P : Program) (K : PySem.W.Frag) (mg : Str → Option Value) (q : Str) (st : Stmt) (ps : List Str) (D f : Addr) (fd : FuncData) : Prop where
  ex : ∃ (cc cda : Addr) (oc kv doc pm ct : Value) (od an : Option Addr) (osl : Array (Option Value)), fd = PySem.W.fnX "__init__" q (defArgs st) (defBody st) (defScope st) [("__class__", cc)] .none kv doc pm an (.ref cda) ct ∧
    K.lookup f = some ⟨oc, od, .func fd, osl⟩ ∧ PySem.W.codeIn K (.ref cda) q = true ∧
    (∃ (cl : Value) (cld : Option Addr) (csl : Array (Option Value)), K.lookup cc = some ⟨cl, cld, .cell (some (.ref D)), csl⟩) ∧
    (∃ (cl : Value) (cld : Option Addr) (vs : Array Value) (csl : Array (Option Value)) (file : Str) (tf : Tok), K.lookup cda = some ⟨cl, cld, .fields vs, csl⟩ ∧ vs[2]? = some (.str file tf) ∧ ((P.main.file : Str) == file) = true)
  top : (P.main.scope.names.lookup ("super" : Str)).isSome = false
  mgs : mg "super" = none
  hD : ∃ cd, PySem.W.clsIn K D = some cd
  op : PySem.W.nsIn K cStatics "thirdparty.any" = some none
  hp : ∃ ar : Arg, ((defArgs st).posonlyargs ++ (defArgs st).args).head? = some ar ∧ ar.arg = "self"
  hks : (defScope st).names.lookup ("super" : Str) = some .globalImplicit
section
variable {CX : CXT} {P : Program} {w : World} {K : PySem.W.Frag} {mg : Str → Option Value} {base : Heap} {N ps : List Str} {k : Nat} {f cda cc D : Addr} {q : Str} {st : Stmt} {fd : FuncData} {sp : Sp}
theorem look1 {cc c : Addr} {y : Str} (h : List.lookup y [(("__class__" : Str), cc)] = some c) : y = "__class__" ∧ c = cc := by
  by_cases e : y = "__class__"
  · subst e
    simp [List.lookup] at h
    exact ⟨rfl, h.symm⟩
  · have e' : (y == ("__class__" : Str)) = false := by simpa using e
    simp [List.lookup, e'] at h
theorem cells1 {A : Around} {outer : List Env} {s : Shared} {H : Hp} {cl : Value} {cld : Option Addr} {csl : Array (Option Value)} {v : Option Value} (e0 : Env0 P w K mg base A outer s H) (hc : K.lookup cc = some ⟨cl, cld, .cell v, csl⟩) : CellsAt [("__class__", cc)] ["__class__"] [none] s.heap H := by
  have hb := e0.bs _ _ (e0.mod.kin _ _ hc)
  refine ⟨rfl, fun y c h => ?_, fun x y c h1 h2 => (look1 h1).1.trans (look1 h2).1.symm, fun i y h => ?_⟩
  · obtain ⟨_, rfl⟩ := look1 h
    exact ⟨hb.2, v, _, hb.1, rfl⟩
  · match i, h with
    | 0, h =>
      cases h
      exact ⟨cc, by simp [List.lookup], fun v e => by cases e⟩
    | _ + 1, h => cases h
/-- the statement super().__init__(e, ..) -/
theorem sup_run {X : Cx} {σ : L2.St} {H : Hp} {s : Shared} {body : List Stmt} {q : Str} {scope : Scope} {L f cda cc D a C : Addr} {fd : FuncData} {oc : Value} {od : Option Addr} {osl : Array (Option Value)} {ar : Arg} {p0 p1 p2 p3 p4 : Pos} {e : Expr} {es : List Expr} {ta : TA} {G : Hp → Prop}
    {cl cl2 : Value} {cld cld2 : Option Addr} {csl csl2 : Array (Option Value)} {fvs : Array Value} {file : Str} {tf : Tok}
    (I : Inv X [] σ H s) (henv : X.env = PySem.W.ksEnv q scope L f (.ref cda) cc) (hk : scope.kind = .function) (hks : scope.names.lookup ("super" : Str) = some .globalImplicit) (hkc : scope.names.lookup ("__class__" : Str) = some .free) (hka : scope.names.lookup ("self" : Str) = some .local)
    (lk : X.K.lookup f = some ⟨oc, od, .func fd, osl⟩) (hp : (fd.params.posonlyargs ++ fd.params.args).head? = some ar) (har : ar.arg = "self") (hcc : X.K.lookup cc = some ⟨cl, cld, .cell (some (.ref D)), csl⟩)
    (hcda : X.K.lookup cda = some ⟨cl2, cld2, .fields fvs, csl2⟩) (hvs : fvs[2]? = some (.str file tf)) (hfile : ((X.prog.main.file : Str) == file) = true) (htop : (X.prog.main.scope.names.lookup ("super" : Str)).isSome = false) (hmg : X.mg "super" = none) (hop : PySem.W.nsIn X.K cStatics "thirdparty.any" = some none)
    (hN : X.N[0]? = some ("self" : Str)) (hσ : σ[0]? = some (some (.ref a))) {cdD : ClassData} (hD : PySem.W.clsIn X.K D = some cdD) (T : OexC X.K C) (SC : SupC X.K C D) (ea : H a = some (exo a C none)) (ha : PA X (e :: es) ta)
    (he : starEach (e :: es) X.env = (false, eval e X.env) :: starEach es X.env) (hpl : ∀ pos, (backTo pos (starEach es X.env)).any (·.1) = false)
    {pl : Sem Bool} (hev : eval (.Call (.Attribute (.Call (.Name "super" p0) [] [] p1) "__init__" p2) (e :: es) [] p3) X.env = (do
      let ov ← attributeBase (.Call (.Name "super" p0) [] [] p1) "__init__" X.env (eval (.Call (.Name "super" p0) [] [] p1) X.env)
      standAt p2.atName
      let (f, first) ← holding [ov] (getMethod ov "__init__" pl)
      callWith p3 f first (backTo p3 (starEach (e :: es) X.env)) []))
    (hq : ta σ H fun us H1 => us.length ≤ 1000 ∧ H1 a = some (exo a C none) ∧ G H1) :
    _root_.PySem.wpAt (model X.prog X.w) X.A (.func body X.env) (exec (.Expr (.Call (.Attribute (.Call (.Name "super" p0) [] [] p1) "__init__" p2) (e :: es) [] p3) p4) X.env) (fun fl s' => fl = .next ∧ ∃ H1, Inv X [] σ H1 s' ∧ G H1) X.xe s := by
  have KX := I.kIn
  refine ks_wpAt_Expr_any (ks_wpAt_MethodCall (pl := pl) ?_ hev) (by unfold interactive; rw [I.ok.kind]; rfl)
  obtain ⟨oD, hD1, hD2⟩ : ∃ oD, s.heap.get? D = some oD ∧ oD.data = .cls cdD := by
    unfold PySem.W.clsIn at hD
    split at hD
    · rename_i c d cd' sl ho
      cases hD
      exact ⟨_, KX _ _ ho, rfl⟩
    · cases hD
  have k1 : X.env.kindOf "super" = some .globalImplicit := by rw [henv]; exact hks
  have k2 : X.env.kindOf "__class__" = some .free := by rw [henv]; exact hkc
  have k3 : X.env.kindOf "self" = some .local := by rw [henv]; exact hka
  refine ks_wpAt_super_base (f := f) (cc := cda) k1 k2 (by decide) (by rw [henv]) (KX _ _ lk) rfl hp (by rw [henv]) (KX _ _ hcda) rfl hvs hfile htop ?_
  obtain ⟨mb, g1, g2⟩ := I.mod.blt
  refine PySem.W.ks_loadName_global I.ok.kind k1 (Calls.loadGlobal_builtin (by rw [I.ok.glob]; exact I.mod.glob.keeps I.bk) hmg (by rw [I.ok.blt]; exact g1.keeps I.bk) ((g2 _ (by decide)).trans (by first | boot_by_name | rfl | kernel_rfl)) ⟨rfl, ?_⟩)
  refine wpAny_loadName_free I.ok.kind k2 (by rw [henv]; simp [List.lookup]) ⟨_, KX _ _ hcc, rfl⟩ ?_
  obtain ⟨m, hn, hl⟩ := I.loc
  obtain ⟨u, ru, lo⟩ := hl 0 _ _ hN hσ (.inl (by rw [henv]; exact hka))
  obtain rfl : u = Value.ref a := ru
  have hm : m "self" = some (.ref a) := by
    rcases lo with ⟨_, hm⟩ | ⟨hk | hk, _⟩
    · exact hm
    · rw [k3] at hk; cases hk
    · rw [k3] at hk; cases hk
  rw [har]
  refine wpAny_loadName_local I.ok.kind k3 hn hm ?_
  refine ks_wpAny_isType_cls hD1 hD2 ⟨rfl, ?_⟩
  obtain ⟨t1, hx⟩ := exo_at I.hok ea
  have IA : PySem.W.InstAt s.heap a { cls := .ref C, dict := none, data := .fields #[.ref t1, .none, .none, .none, .bool false, .none] } C none := ⟨hx, rfl, rfl, trivial⟩
  obtain ⟨cdC, hcC⟩ : ∃ cd, PySem.W.clsIn X.K C = some cd := by
    obtain ⟨nm, q, N, bs, bm, sn, sub, ab, col, dd, k0, k1, k2, k3, k5, hC, hbm⟩ := T.cls
    exact ⟨_, by unfold PySem.W.clsIn; rw [hC] <;> rfl⟩
  have hsup := SC.sup
  unfold PySem.W.ks_superIn at hsup
  rw [hcC, Option.bind_some] at hsup
  have hsz : s.heap.objs.size ≤ s.heap.objs.size := Nat.le_refl _
  obtain ⟨hh, g, d, t, os⟩ := s
  refine ks_wpAny_call_super hD1 hD2 hx rfl (fun c z => by cases z) (PySem.W.looks_mroIn KX SC.sub) (fun h' hso k => ?_)
  have I1 : Inv X [] σ H ⟨h', g, d, t, os⟩ := I.kept (t' := t) k
  have X1 : X.K.In h' := I1.kIn
  have hx1 := k _ _ hx
  have IA1 : PySem.W.InstAt h' a { cls := .ref C, dict := none, data := .fields #[.ref t1, .none, .none, .none, .bool false, .none] } C none := ⟨hx1, rfl, rfl, trivial⟩
  refine PySem.W.kxs_getMethod PySem.W.kxs_ValueError hso (PySem.W.looks_opaque X1 hop) (l₀ := cdC.mro) (fun A Q E s k q => wpAny_bind ((PySem.W.looks_clsIn X1 hcC) A _ E s k (wpAny_pure q))) rfl X1 hsup (IA1.type.andThen (PySem.W.looks_subIn X1 SC.ve)) (PySem.W.ks_ne X1 IA1 hcC) (by decide) ?_
  have I2 : Inv X [] σ H ⟨h'.push (PySem.W.kxs_mw "ValueError.__init__" a), g, d, t + 1, os⟩ := I1.kept (t' := t + 1) fun b o e => Heap.get?_push_of_some _ e
  have fp : FpOk X [] H h'.objs.size := I1.fpOk (Nat.le_refl _) (I1.hok.fresh (Nat.le_refl _))
  have I3 : Inv X [(h'.objs.size, PySem.W.kxs_mw "ValueError.__init__" a)] σ H ⟨h'.push (PySem.W.kxs_mw "ValueError.__init__" a), g, d, t + 1, os⟩ := I2.pins_of fun p hp => by
    rw [List.mem_singleton.mp hp]
    exact ⟨Heap.get?_push_size _ rfl, fp.1, fp.2.1, fp.2.2.1, fun v z => by cases z⟩
  show wpAny _ _ (callWith p3 (.ref h'.objs.size) [] (backTo p3 (starEach (e :: es) X.env)) []) _ _ _
  refine PySem.W.kxs_callWith (i := "ValueError.__init__") (x := a) (by rw [he]; show (false || (backTo p3 (starEach es X.env)).any (·.1)) = false; rw [hpl]; rfl) ?_
  have hs := ha.run p3 _ _ σ H _ I3 hq
  rw [he] at hs ⊢
  refine PySem.Calls.evalArgs_plain (thn hs fun us s1 ⟨vs, H1, J, r1, hl, ea1, hG⟩ => ?_)
  have hu : s1.heap.get? h'.objs.size = some (PySem.W.kxs_mw "ValueError.__init__" a) := (J.pin _ (List.mem_append_right _ List.mem_cons_self)).1
  refine ⟨hu, ?_⟩
  show wpAny _ _ (call (.ref h'.objs.size) us) _ _ _
  obtain ⟨nm, qn, N, bs, bm, sn, sub, ab, col, dd, k0, k1', k2', k3', k5, hC, hbm⟩ := T.cls
  obtain ⟨t2, he2⟩ := exo_at J.hok ea1
  have hlen : us.length ≤ sizeLine := by
    rw [← r1.length, sizeLine_eq]
    omega
  have hC2 := J.kIn _ _ hC
  obtain ⟨hp2, gn2, dr2, tk2, os2⟩ := s1
  refine wpAny_call (codeAny_of_tree ?_)
  show wpAny _ X.A.in1 (callAny (.ref h'.objs.size) ⟨us, []⟩) _ _ _
  simp only [callAny]
  refine wpAny_bind (wpAny_load hu ?_)
  simp only [PySem.W.kxs_mw, show (Value.type "method-wrapper" == Value.type "method" || Value.type "method-wrapper" == Value.type "builtin_function_or_method" || Value.type "method-wrapper" == Value.type "method-wrapper") = true by decide, if_true]
  refine PySem.W.KFB.if_so (by decide) ?_
  refine wpAny_bind (PySem.W.check_bound_init F.excBase_ValueError.toExcCallFacts hC2 he2 rfl ?_)
  refine wpAny_bind (wpAny_pure (wpAny_pure ?_))
  refine ⟨plainId_quiet F.excBase_ValueError.init.plain _, codeAny_builtin F.excBase_ValueError.initEntry ?_⟩
  refine PySem.W.exc_init_tree (cls := .ref C) (t0 := t2) (dv := none) (c2 := .none) (c3 := .none) (b4 := .bool false) he2 hlen ?_
  intro h3 k3 e3 t3
  have J2 := J.write (t' := tk2) (x := a) (e := a) (o := exo a C none) (by rw [ea1]; exact True.intro) (.inl rfl) k3 ⟨_, e3⟩ (exo_ok e3)
  have eu : upd H1 a (exo a C none) = H1 := by
    funext b
    by_cases hb : b = a
    · rw [hb, upd_same, ea1]
    · rw [upd_ne hb]
  rw [eu] at J2
  exact ⟨trivial, H1, J2.pins_of (fun p hp => absurd hp (by simp)), hG⟩
theorem fn_sup {p0 p1 p2 p3 p4 : Pos} {es : List Expr} {e : Expr} {rest : List Stmt} (F : SupF P K mg q st ps D f fd) (S : NScope N ps ["__class__"] (defScope st))
    (hself : ps.head? = some "self") (hst : defBody st = .Expr (.Call (.Attribute (.Call (.Name "super" p0) [] [] p1) "__init__" p2) (e :: es) [] p3) p4 :: rest)
    (len : ∀ vs H Q E, sp vs H Q E → vs.length = ps.length)
    (hbody : ∀ (cc cda : Addr) (A : Around) (outer : List Env) (s : Shared) (H : Hp) (vs : List V) (Q : VK) (E : XK), Room k (A.deeper (PySem.W.ksEnv q (defScope st) s.heap.objs.size f (.ref cda) cc)) → sp vs H Q E →
      ∃ ta t pl, PA (ncx CX P w K mg base N ⟨"__init__", q, defArgs st, defBody st, defScope st, [("__class__", cc)], cda⟩ f A outer s H E) (e :: es) ta ∧ PSs (ncx CX P w K mg base N ⟨"__init__", q, defArgs st, defBody st, defScope st, [("__class__", cc)], cda⟩ f A outer s H E) rest t ∧ starEach (e :: es) (PySem.W.ksEnv q (defScope st) s.heap.objs.size f (.ref cda) cc) = (false, eval e (PySem.W.ksEnv q (defScope st) s.heap.objs.size f (.ref cda) cc)) :: starEach es (PySem.W.ksEnv q (defScope st) s.heap.objs.size f (.ref cda) cc) ∧ (∀ pos, (backTo pos (starEach es (PySem.W.ksEnv q (defScope st) s.heap.objs.size f (.ref cda) cc))).any (·.1) = false) ∧
        eval (.Call (.Attribute (.Call (.Name "super" p0) [] [] p1) "__init__" p2) (e :: es) [] p3) (PySem.W.ksEnv q (defScope st) s.heap.objs.size f (.ref cda) cc) = (do
          let ov ← attributeBase (.Call (.Name "super" p0) [] [] p1) "__init__" (PySem.W.ksEnv q (defScope st) s.heap.objs.size f (.ref cda) cc) (eval (.Call (.Name "super" p0) [] [] p1) (PySem.W.ksEnv q (defScope st) s.heap.objs.size f (.ref cda) cc))
          standAt p2.atName
          let (g0, first) ← holding [ov] (getMethod ov "__init__" pl)
          callWith p3 g0 first (backTo p3 (starEach (e :: es) (PySem.W.ksEnv q (defScope st) s.heap.objs.size f (.ref cda) cc))) []) ∧
        ∃ (a C : Addr) (ws : List V), vs = .ref a :: ws ∧ OexC K C ∧ SupC K C D ∧ H a = some (exo a C none) ∧
        ta (startF N vs [none]) H (fun us H1 => us.length ≤ 1000 ∧ H1 a = some (exo a C none) ∧ t { nx := fun _ H' => Q .non H', rt := Q } (startF N vs [none]) H1)) :
    FnOk P w K mg base CX (k + 1) f fd ps sp := by
  obtain ⟨cc, cda, oc, kv, doc, pm, ct, od, an, osl, rfl, lk, hcd, ⟨cl, cld, csl, hcc⟩, ⟨cl2, cld2, fvs, csl2, file, tf, hcda, hvs, hfile⟩⟩ := F.ex
  refine ⟨len, fun A outer s H args us vs Q E hr e0 hb r hsp => ?_⟩
  have hl := len _ _ _ _ hsp
  have KX : K.In s.heap := e0.mod.kin.keeps fun b o e => (e0.bs b o e).1
  have lim : s.heap.NoLimit := e0.mod.nolimit.keeps fun b o e => (e0.bs b o e).1
  refine ks_codeAny_call_defAt (binds := ps.zip us) (body := defBody st) hr.depth (KX _ _ lk) rfl lim (PySem.W.codeRec_of KX hcd) rfl hb S.nocell (fun ⟨n, v⟩ hy => S.par n (List.of_mem_zip hy).1) (fun h₁ hns kp => ?_) S.co S.gen S.kind
  have I0 : Inv (ncx CX P w K mg base N ⟨"__init__", q, defArgs st, defBody st, defScope st, [("__class__", cc)], cda⟩ f A outer s H E) [] (startF N vs [none]) H { s with heap := h₁, toks := s.toks + (ps.zip us).length } := inv_startN S hr.hd e0 hl r (cells1 e0 hcc) hns kp
  obtain ⟨ta, t, pl, hpa, hps, he, hpl, hev, a, C, ws, rfl, T, SC, ea, hta⟩ := hbody cc cda A outer s H vs Q E (hr.deeper _) hsp
  obtain ⟨cdD, hD⟩ := F.hD
  obtain ⟨ar, har1, har2⟩ := F.hp
  obtain ⟨ps', rfl⟩ : ∃ ps', ps = ("self" : Str) :: ps' := by
    cases ps with
    | nil => cases hself
    | cons x xs => cases hself; exact ⟨xs, rfl⟩
  have hN0 : N[0]? = some ("self" : Str) := by
    have := congrArg (fun l => l[0]?) S.pre
    simpa using this
  have key : _root_.PySem.wpAt (model P w) (A.deeper (PySem.W.ksEnv q (defScope st) s.heap.objs.size f (.ref cda) cc)) (.func (defBody st) (PySem.W.ksEnv q (defScope st) s.heap.objs.size f (.ref cda) cc)) (execs (.Expr (.Call (.Attribute (.Call (.Name "super" p0) [] [] p1) "__init__" p2) (e :: es) [] p3) p4 :: rest) (PySem.W.ksEnv q (defScope st) s.heap.objs.size f (.ref cda) cc))
      (SP (ncx CX P w K mg base N ⟨"__init__", q, defArgs st, defBody st, defScope st, [("__class__", cc)], cda⟩ f A outer s H E) [] { nx := fun _ H' => Q .non H', rt := Q })
      (ncx CX P w K mg base N ⟨"__init__", q, defArgs st, defBody st, defScope st, [("__class__", cc)], cda⟩ f A outer s H E).xe { s with heap := h₁, toks := s.toks + ((("self" : Str) :: ps').zip us).length } := by
    refine ks_wpAt_execs_cons (ks_wpAt_mono (sup_run (G := fun H1 => t { nx := fun _ H' => Q .non H', rt := Q } (startF N (.ref a :: ws) [none]) H1) I0 rfl S.kind F.hks (S.frk _ List.mem_cons_self) (S.par _ List.mem_cons_self) lk har1 har2 hcc hcda hvs hfile F.top F.mgs F.op hN0 rfl hD T SC ea hpa he hpl hev hta) (fun fl s' ⟨e1, H1, J, hG⟩ => ?_) fun _ _ z => z)
    subst e1
    exact wpAt_of_wpAny (hps.run [] s' _ H1 _ J hG)
  rw [← hst] at key
  refine ks_wpAt_mono key (fun fl s' hs => ?_) fun _ _ z => z
  have fin : ∀ {σ' : L2.St} {H' : Hp} {v : V} {u : Value}, Inv (ncx CX P w K mg base N ⟨"__init__", q, defArgs st, defBody st, defScope st, [("__class__", cc)], cda⟩ f A outer s H E) [] σ' H' s' → L2.RelV v u → Q v H' → CE outer P w H s Q u s' :=
    fun {σ' H' v u} J rv q => ⟨v, H', J.os, J.bare, J.base, J.hok, rv, q⟩
  cases fl with
  | ret u =>
    obtain ⟨v, σ', H', J, rv, q⟩ := hs
    exact fin J rv q
  | next =>
    obtain ⟨σ', H', J, q⟩ := hs
    exact fin (v := V.non) (u := Value.none) J rfl q
  | brk =>
    obtain ⟨_, _, _, q⟩ := hs
    exact False.elim q
  | cont =>
    obtain ⟨_, _, _, q⟩ := hs
    exact False.elim q
end
end Sh
set_option Elab.async false
set_option linter.all false
set_option maxRecDepth 100000
/-! own exceptions over ValueError: made, raised, told by defs that may raise -/
namespace Sh
open PySem PySem.Spec PyProof.Rows L2 NdefX
/-- an exception class of the text: its __init__ (own or an ancestor's, written in the class at D) at f -/
structure ExcAt (K : PySem.W.Frag) (mg : Str → Option Value) (x : Str) (C f D : Addr) : Prop where
  oex : OexC K C
  mgC : mg x = some (.ref C)
  iC : PySem.W.findIn K (.ref C) "__init__" = some (some (.ref f))
  tI : PySem.W.typeIn K (.ref f) = some (.type "function")
  sup : SupC K C D
  xf : XfC K C
/-- its __init__ stands in the text -/
structure XInit (P : Program) (K : PySem.W.Frag) (mg : Str → Option Value) (q : Str) (st : Stmt) (ps : List Str) (D f : Addr) : Prop where
  ex : ∃ fd, SupF P K mg q st ps D f fd ∧ Binds K fd ps []
/-- __init__(self, thing): super().__init__(..), then self.fld = thing -/
def spX1 (K : PySem.W.Frag) (D : Addr) (fld : Str) (ok : V → Prop) : Sp := fun vs H Q _ => ∃ (a C : Addr) (v : V), vs = [.ref a, v] ∧ OexC K C ∧ SupC K C D ∧ PySem.W.findIn K (.ref C) fld = some none ∧ H a = some (exo a C none) ∧ ok v ∧
  ∀ dx, H dx = none → dx ≠ a → Q .non (upd (upd H dx (exd dx [(fld, v)])) a (exo a C (some dx)))
theorem mk1 {K : PySem.W.Frag} {mg : Str → Option Value} {x fld : Str} {C f D : Addr} {ok : V → Prop} {v : V} {H1 : Hp} {Q : XK} {E : XK} (T : ExcAt K mg x C f D) (hno : PySem.W.findIn K (.ref C) fld = some none) (hv : ok v) (k : ∀ d, H1 d = none → Q (.ref C) (some d) (upd H1 d (.xd [(fld, v)]))) :
    [v].length ≤ 1000 ∧ ∀ a, H1 a = none → spX1 K D fld ok (.ref a :: ([v] ++ [])) (upd H1 a (exo a C none)) (fun u H2 => u = .non ∧ ∃ (d : Addr) (fs : List (Str × V)), H2 a = some (exo a C (some d)) ∧ H2 d = some (exd d fs) ∧ H1 d = none ∧ Q (.ref C) (some d) (upd (del H2 a) d (.xd fs))) E := by
  refine ⟨by simp, fun a ha => ⟨a, C, v, rfl, T.oex, T.sup, hno, upd_same, hv, fun dx h1 h2 => ⟨rfl, dx, [(fld, v)], upd_same, ?_, ?_, ?_⟩⟩⟩
  · rw [upd_ne h2, upd_same]
  · rw [upd_ne h2] at h1; exact h1
  · rw [upd_ne h2] at h1
    have e : upd (del (upd (upd (upd H1 a (exo a C none)) dx (exd dx [(fld, v)])) a (exo a C (some dx))) a) dx (.xd [(fld, v)]) = upd H1 dx (.xd [(fld, v)]) := by
      funext b
      by_cases hb : b = dx
      · rw [hb, upd_same, upd_same]
      · rw [upd_ne hb, upd_ne hb]
        by_cases hba : b = a
        · rw [hba, del_same, ha]
        · rw [del_ne hba, upd_ne hba, upd_ne hb, upd_ne hba]
    rw [e]
    exact k dx h1
/-- such an __init__ keeps its promise -/
structure XiOk (P : Program) (w : World) (K : PySem.W.Frag) (mg : Str → Option Value) (base : Heap) (k : Nat) (f : Addr) (sp : Sp) : Prop where
  ex : ∃ (fd : FuncData) (ps : List Str), FnOk P w K mg base CX0 k f fd ps sp ∧ Binds K fd ps []
/-! ### a def that may raise -/
section
variable {P : Program} {w : World} {K : PySem.W.Frag} {mg : Str → Option Value} {base : Heap}
theorem Cal.mkX {x : Str} {st : Stmt} {N ps : List Str} {k : Nat} {sp : Sp} (D : DefAt K mg x st ps) (S : FnScope N ps (defScope st)) (len : ∀ vs H Q E, sp vs H Q E → vs.length = ps.length)
    (hbody : ∀ (f : Addr) (cdv : Value) (A : Around) (outer : List Env) (s : Shared) (H : Hp) (vs : List V) (Q : VK) (E : XK), Room k (A.deeper (envOfC x (defScope st) s.heap.objs.size f cdv)) → sp vs H Q E →
      ∃ t, PSs (cxOf (L2.CX P w) P w K mg base N x (defScope st) f cdv A outer s H E) (defBody st) t ∧ t { nx := fun _ H' => Q .non H', rt := Q } (start N vs) H) : Cal P w K mg base (L2.CX P w) (k + 1) x sp := by
  obtain ⟨f, fd, F, m, b⟩ := D.ex
  exact ⟨f, fd, ps, F.okX S len (fun cdv A outer s H vs Q E hr h => hbody f cdv A outer s H vs Q E hr h), m, F.kp, b⟩
end
section
variable {X : Cx} {k j : Nat} {x : Str} {sp : Sp} {p pos : Pos} {e : Expr} {es : List Expr} {t : TA} {W : WX}
/-- f(e, ..), f a def that may raise; what it raises is wished by W -/
theorem pe_cX (c : Cal X.prog X.w X.K X.mg X.base (L2.CX X.prog X.w) k x sp) (hr : Room j X.A) (hk : k ≤ j) (tk : Takes X W) (hg : Gl X x) (ha : PA X (e :: es) t)
    (hdb : (x == ("__debug__" : Str)) = false := by decide) (he : starEach (e :: es) X.env = (false, eval e X.env) :: starEach es X.env := by rfl) (hpl : (backTo pos (starEach es X.env)).any (·.1) = false := by rfl) :
    PE X (.Call (.Name x p) (e :: es) [] pos) (tCallS sp (WE W) t) := by
  obtain ⟨f, fd, ps, F, hm, kp, b⟩ := c.ex
  exact pe_callS F (hr.mono hk) hg hm kp b (fun σ => passAt tk σ) ha hdb he hpl
/-- the same where it does not raise -/
theorem pe_cXn (c : Cal X.prog X.w X.K X.mg X.base (L2.CX X.prog X.w) k x sp) (hr : Room j X.A) (hk : k ≤ j) (hg : Gl X x) (ha : PA X (e :: es) t)
    (hdb : (x == ("__debug__" : Str)) = false := by decide) (he : starEach (e :: es) X.env = (false, eval e X.env) :: starEach es X.env := by rfl) (hpl : (backTo pos (starEach es X.env)).any (·.1) = false := by rfl) :
    PE X (.Call (.Name x p) (e :: es) [] pos) (tCall sp [] E0 t) := by
  obtain ⟨f, fd, ps, F, hm, kp, b⟩ := c.ex
  exact pe_call F (hr.mono hk) hg hm kp b .nil passL ha hdb he hpl
/-- raise C(e) -/
theorem ps_raiseX {C D f : Addr} {pos2 : Pos} (T : ExcAt X.K X.mg x C f D) (F : XiOk X.prog X.w X.K X.mg X.base k f sp) (hr : Room j X.A) (hk : k + 1 ≤ j) (hc : X.calm = true) (tk : Takes X W) (hg : Gl X x) (ha : PA X (e :: es) t)
    (hdb : (x == ("__debug__" : Str)) = false := by decide) (he : starEach (e :: es) X.env = (false, eval e X.env) :: starEach es X.env := by rfl) (hpl : (backTo pos (starEach es X.env)).any (·.1) = false := by rfl) :
    PS X (.Raise (some (.Call (.Name x p) (e :: es) [] pos)) none pos2) (fun _ σ H => tMkO C sp [] t σ H fun cls d H' => W cls d σ H') := by
  obtain ⟨fd, ps, F, b⟩ := F.ex
  exact ps_raise hc tk (pmk_oex (ds := []) (dvs := []) T.oex T.iC T.tI F (hr.mono hk) b .nil (fun _ _ _ _ _ _ _ z => z.elim) hg T.mgC ha hdb he hpl)
/-- repr of a text -/
theorem call_repr_str : CallR X (.builtin "repr") (fun xs H Q => ∃ z, xs = [.str z] ∧ (reprText z).length ≤ sizeLine ∧ Q (.str (reprText z)) H) := by
  intro pins s σ H xs us Q I r h
  obtain ⟨z, rfl, hz, q⟩ := h
  obtain ⟨u, rfl, t, rfl⟩ := vals1 r
  exact PySem.P.repr_of_str ⟨.str _, H, I.tok _, ⟨_, rfl⟩, q⟩ hz
end
end Sh
set_option Elab.async false
set_option linter.all false
set_option maxRecDepth 100000
set_option maxHeartbeats 2000000
/-! try with several clauses «except C as n» -/
namespace Sh
open PySem PySem.Spec PyProof.Rows L2
abbrev ClA := Value × Nat × (Addr → Value → Option Addr → TS)
def outA (D : Ends) (i : Nat) : Ends := { nx := fun σ' H' => D.nx (σ'.set i none) H', rt := D.rt, bk := fun σ' H' => D.bk (σ'.set i none) H', ct := fun σ' H' => D.ct (σ'.set i none) H' }
/-- what the clauses wish of an exception of the body -/
def wAsN (K : PySem.W.Frag) (Wo : WX) (D : Ends) : List ClA → WX
  | [] => Wo
  | p :: r => fun cls d σ H => ∃ b, PySem.W.exmOne K cls p.1 = some b ∧ (b = true → ∀ a, H a = none → p.2.2 a cls d (outA D p.2.1) (σ.set p.2.1 (some (.ref a))) H) ∧ (b = false → wAsN K Wo D r cls d σ H)
inductive HdsA (X : Cx) : List ExceptHandler → List ClA → Prop
  | nil : HdsA X [] []
  | cons {x n : Str} {c : Value} {i : Nat} {ts : Addr → Value → Option Addr → TS} {b0 : Stmt} {su : List Stmt} {np pos' : Pos} {hds : List ExceptHandler} {l : List ClA} (hi : X.N[i]? = some n) (hl : X.env.kindOf n = some .local) (hc : Names X x c)
      (hsu : ∀ (a : Addr) (oe : Obj) (cls : Value) (d : Option Addr) (pn : List (Addr × Obj)), Zc cls d oe → (∃ vs, oe.data = .fields vs) → PSs (X.suite a ((a, oe) :: pn)) (b0 :: su) (ts a cls d)) (r : HdsA X hds l) :
      HdsA X (.ExceptHandler (some (.Name x np)) (some n) (b0 :: su) pos' :: hds) ((c, i, ts) :: l)
section
variable {X : Cx} {body : List Stmt} {h0 : ExceptHandler} {hds : List ExceptHandler} {l : List ClA} {pos : Pos} {tb : WX → TS} {Wo : WX}
theorem ps_try_asN (hs : X.stack = X.env :: X.outer) (hf : X.env.frame = some X.env.locals) (hN : X.N.Nodup) (tk : Takes X Wo)
    (hb : ∀ (W : WX) (pn : List (Addr × Obj)) (xe : Value → Shared → Prop), Takes (X.tr pn xe) W → PassesOwn (model X.prog X.w) X.A X.env xe → PSs (X.tr pn xe) body (tb W))
    (hh : HdsA X (h0 :: hds) l) : PS X (.Try body (h0 :: hds) [] [] pos) (fun D σ H => tb (wAsN X.K Wo D l) D σ H) := by
  refine ⟨fun pins s σ H D I hgo => ?_⟩
  have okX := I.ok
  have frX : X.A.frames = some (X.env :: X.outer) := okX.frames.trans (congrArg some hs)
  refine wpAny_Try_except (wpAny_mono ((hb (wAsN X.K Wo D l) (X.pn ++ pins) (fun e s₁ => wpAny (model X.prog X.w) X.A (noteFrame e X.env) (fun _ s₂ => wpAny (model X.prog X.w) X.A (setFlight e none) (fun _ s₃ =>
    wpAny (model X.prog X.w) X.A (handleBy e X.env (h0 :: hds)) (SP X pins D) X.xe s₃) X.xe s₂) X.xe s₁) (fun u s' air => ?_) PassesOwn.looking).run [] s σ H D (I.toTry _) hgo) (fun fl s1 done => ?_) fun _ _ he => he)
  · obtain ⟨a, B, sI, pn0, σ1, H1, cls, d, rfl, J0, nb, up, sky, na, os, ag, wish⟩ := air
    have J : Inv X pins σ1 H1 sI := J0.ofTry okX
    show wpAny (model X.prog X.w) X.A (noteFrame (.ref a) X.env) _ _ _
    refine Sky.land Zc.steady frX hf (hs ▸ sky) fun g3 fl3 up3 => ?_
    have J3 : Inv X pins σ1 H1 { s' with heap := g3 } := J.landed nb fl3.1 (up.trans up3) os ag
    obtain ⟨oe3, vs3, at3, z3, d3⟩ := fl3.there
    have offF : a ∉ frs (X.env :: X.outer) := fun hm => by
      obtain ⟨_, o', e', isF⟩ := fl3.2.2.1.mem hm
      cases at3.symm.trans e'
      exact isF _ d3
    have offL : a ≠ X.env.locals := fun z => offF (List.mem_filterMap.mpr ⟨X.env, List.mem_cons_self, hf.trans (congrArg some z.symm)⟩)
    have offO : a ∉ X.fs := fun hm => let ⟨e, he, q⟩ := List.mem_filterMap.mp hm; offF (List.mem_filterMap.mpr ⟨e, List.mem_cons_of_mem _ he, q⟩)
    have S3 := J3.suite at3 d3 na offL offO
    have steps : ∀ {hs' : List ExceptHandler} {l' : List ClA}, HdsA X hs' l' → wAsN X.K Wo D l' cls d σ1 H1 → wpAny (model X.prog X.w) X.A (handleBy (.ref a) X.env hs') (SP X pins D) X.xe { s' with heap := g3 } := by
      intro hs' l' hk
      induction hk with
      | nil =>
        intro wo
        refine wpAny_handleBy_nil ?_
        obtain ⟨_, _, _, oe, vs, Tb, oT, ts', he, _, hd, h1, _⟩ := id fl3
        unfold PySem.passOn
        refine wpAny_bind (wpAny_field he hd h1 ?_)
        rw [if_neg (show ¬ ((Value.ref Tb == Value.none) = true) from by simp)]
        have away : wpAny (model X.prog X.w) X.A (setFlight (.ref a) X.env.frame) (fun _ s4 => wpAny (model X.prog X.w) X.A (throw (.ref a) : Sem Flow) (SP X pins D) X.xe s4) X.xe { s' with heap := g3 } := by
          rw [hf]
          exact HandSPX.setFlight_upZ fl3 fun h4 hh4 up4 => wpAny_throw (tk _ _ ⟨a, B, sI, pins, σ1, H1, cls, d, rfl, J, nb, (up.trans up3).trans up4, .inr (.inr (hs ▸ hh4)), na, os, ag, wo⟩)
        first
          | exact wpAny_bind (wpAny_pure (wpAny_bind away))
          | exact wpAny_bind away
      | @cons x n c i ts b0 su np pos' hd2 l2 hi hl hc hsu r ih =>
        intro wo
        obtain ⟨b, hb1, hy, hn⟩ := wo
        refine wpAny_handleBy_cons (codeAny_handlers_test ?_) (fun q => by cases q)
        have LTy : PySem.W.Looks (model X.prog X.w) g3 (typeOf (.ref a)) cls := fun _ _ _ s k q => wpAny_typeOf_ref (k _ _ at3) (by rw [z3.1]; exact q)
        have LMa := PySem.W.exm_one (M := model X.prog X.w) J3.kIn LTy hb1
        have named : ∀ {Q : Value → Shared → Prop} {E : Value → Shared → Prop}, Q c { s' with heap := g3 } → wpAny (model X.prog X.w) (X.A.mark (some (.ref a))) (eval (.Name x np) X.env) Q E { s' with heap := g3 } := fun {Q E} q => by
          obtain ⟨hg, hdb, hm | ⟨hm, hv, hnn⟩⟩ := hc
          · exact ld_glob (X := X.suite a ((a, oe3) :: (X.pn ++ pins))) S3 hg hm q hdb
          · exact ld_blt (X := X.suite a ((a, oe3) :: (X.pn ++ pins))) S3 hg hm hv q hnn hdb
        refine named (LMa.here ?_)
        cases b with
        | false => exact ih (hn rfl)
        | true =>
          refine codeAny_handlers_suite_as (HandSPX.lands_againZ fl3 fun g4 fl4 up4 => ?_)
          have J4 : Inv X pins σ1 H1 { s' with heap := g4 } := J.landed nb fl4.1 ((up.trans up3).trans up4) os ag
          obtain ⟨oe4, vs4, at4, z4, d4⟩ := fl4.there
          have S4 := J4.suite at4 d4 na offL offO
          refine store_ok (X := X.suite a ((a, oe4) :: (X.pn ++ pins))) (v := .ref a) S4 hN hi (.inl hl) rfl (fun s5 S5 => ?_) (.inr hl)
          refine wpAny_mono ((hsu a oe4 cls d (X.pn ++ pins) z4 ⟨_, d4⟩).run [] s5 _ H1 _ S5 (hy rfl a na)) (fun fl s6 end6 => ?_) (fun _ _ z => z.elim)
          have shut : ∀ {σ6 : L2.St} {H6 : Hp} {Q : Shared → Prop}, Inv (X.suite a ((a, oe4) :: (X.pn ++ pins))) [] σ6 H6 s6 → (∀ s7, Inv X pins (σ6.set i none) H6 s7 → Q s7) →
              wpAny (model X.prog X.w) X.A (do bindName X.env n .none; unbindBehindTheSuite X.env n pos') (fun _ s7 => Q s7) X.xe s6 := fun {σ6 H6 Q} S6 hq => gone_ok (S6.unsuite okX) hN hi hl hq
          cases fl with
          | next => exact let ⟨_, _, S6, q6⟩ := end6; shut S6 fun s7 J7 => ⟨_, _, J7, q6⟩
          | brk => exact let ⟨_, _, S6, q6⟩ := end6; shut S6 fun s7 J7 => ⟨_, _, J7, q6⟩
          | cont => exact let ⟨_, _, S6, q6⟩ := end6; shut S6 fun s7 J7 => ⟨_, _, J7, q6⟩
          | ret u => exact let ⟨_, _, _, S6, r6, q6⟩ := end6; shut S6 fun s7 J7 => ⟨_, _, _, J7, r6, q6⟩
    exact steps hh wish
  · cases fl with
    | next => exact let ⟨σ', H', J', q⟩ := done; wpAny_execs_nil ⟨σ', H', J'.ofTry okX, q⟩
    | brk => exact let ⟨σ', H', J', q⟩ := done; ⟨σ', H', J'.ofTry okX, q⟩
    | cont => exact let ⟨σ', H', J', q⟩ := done; ⟨σ', H', J'.ofTry okX, q⟩
    | ret u => exact let ⟨v, σ', H', J', r, q⟩ := done; ⟨v, σ', H', J'.ofTry okX, r, q⟩
end
end Sh
set_option Elab.async false
set_option linter.all false
set_option maxRecDepth 100000
/-! what leaves a def that raises; a try within a loop -/
namespace Sh
open PySem PySem.Spec PyProof.Rows L2
/-- an exception with one field is let out -/
def Thrown (E : XK) (H : Hp) (X : Addr) (fld : Str) (v : V) : Prop := ∀ d, H d = none → E (.ref X) (some d) (upd H d (.xd [(fld, v)]))
theorem lk1 {f : Str} {v : V} : List.lookup f [(f, v)] = some v := by simp [List.lookup]
/-- the reading of a try, as a word of its own (within a loop) -/
def tTry (tb : WX → TS) (K : PySem.W.Frag) (Wo : WX) (l : List ClA) : TS := fun D σ H => tb (wAsN K Wo D l) D σ H
theorem ps_tryT {X : Cx} {body : List Stmt} {h0 : ExceptHandler} {hds : List ExceptHandler} {l : List ClA} {pos : Pos} {tb : WX → TS} {Wo : WX} (hs : X.stack = X.env :: X.outer) (hf : X.env.frame = some X.env.locals) (hN : X.N.Nodup) (tk : Takes X Wo)
    (hb : ∀ (W : WX) (pn : List (Addr × Obj)) (xe : Value → Shared → Prop), Takes (X.tr pn xe) W → PassesOwn (model X.prog X.w) X.A X.env xe → PSs (X.tr pn xe) body (tb W))
    (hh : HdsA X (h0 :: hds) l) : PS X (.Try body (h0 :: hds) [] [] pos) (tTry tb X.K Wo l) := ps_try_asN hs hf hN tk hb hh
/-- fields of an exception with two: self.f = a, self.g = b -/
def spX2 (K : PySem.W.Frag) (D : Addr) (f g : Str) (ok : V → V → Prop) : Sp := fun vs H Q _ => ∃ (a C : Addr) (u v : V), vs = [.ref a, u, v] ∧ OexC K C ∧ SupC K C D ∧ PySem.W.findIn K (.ref C) f = some none ∧ PySem.W.findIn K (.ref C) g = some none ∧ H a = some (exo a C none) ∧ ok u v ∧
  ∀ (dx : Addr) (H' : Hp), H dx = none → dx ≠ a → H' a = some (exo a C (some dx)) → H' dx = some (exd dx [(g, v), (f, u)]) → (∀ b, b ≠ a → b ≠ dx → H' b = H b) → Q .non H'
theorem mk2 {K : PySem.W.Frag} {mg : Str → Option Value} {x f g : Str} {C fI D : Addr} {ok : V → V → Prop} {u v : V} {H1 : Hp} {Q : XK} {E : XK} (T : ExcAt K mg x C fI D) (hf : PySem.W.findIn K (.ref C) f = some none) (hg : PySem.W.findIn K (.ref C) g = some none) (hv : ok u v)
    (k : ∀ d, H1 d = none → Q (.ref C) (some d) (upd H1 d (.xd [(g, v), (f, u)]))) :
    [u, v].length ≤ 1000 ∧ ∀ a, H1 a = none → spX2 K D f g ok (.ref a :: ([u, v] ++ [])) (upd H1 a (exo a C none)) (fun z H2 => z = .non ∧ ∃ (d : Addr) (fs : List (Str × V)), H2 a = some (exo a C (some d)) ∧ H2 d = some (exd d fs) ∧ H1 d = none ∧ Q (.ref C) (some d) (upd (del H2 a) d (.xd fs))) E := by
  refine ⟨by simp, fun a ha => ⟨a, C, u, v, rfl, T.oex, T.sup, hf, hg, upd_same, hv, fun dx H' h1 h2 e1 e2 e3 => ?_⟩⟩
  rw [upd_ne h2] at h1
  refine ⟨rfl, dx, _, e1, e2, h1, ?_⟩
  have e : upd (del H' a) dx (.xd [(g, v), (f, u)]) = upd H1 dx (.xd [(g, v), (f, u)]) := by
    funext b
    by_cases hb : b = dx
    · rw [hb, upd_same, upd_same]
    · rw [upd_ne hb, upd_ne hb]
      by_cases hba : b = a
      · rw [hba, del_same, ha]
      · rw [del_ne hba, e3 b hba hb, upd_ne hba]
  rw [e]
  exact k dx h1
end Sh
set_option Elab.async false
set_option linter.all false
set_option maxRecDepth 100000
/-! isinstance of a caught error of an own class that has fields -/
namespace Sh
open PySem PySem.Spec PyProof.Rows L2
/-- isinstance(e, c): e the caught exception at a, of the class D, its fields at d -/
def rIsX (K : PySem.W.Frag) (D a : Addr) (cls : Value) (d : Option Addr) : List V → Hp → VK → Prop := fun xs H Q => cls = .ref D ∧ ∃ (c : V) (cv : Value) (b : Bool) (dd : Addr) (fs : List (Str × V)), xs = [.ref a, c] ∧ d = some dd ∧ H dd = some (.xd fs) ∧ (∀ u, RelV c u → u = cv) ∧ PySem.W.kitOne K (.ref D) cv = some b ∧ Q (.bl b) H
theorem inst_cls {K : PySem.W.Frag} {D : Addr} (h : PySem.W.hasDictIn K D = true) : (PySem.W.clsIn K D).isSome = true := by
  obtain ⟨cd, hc, _⟩ := PySem.W.any_some h
  rw [hc]; rfl
theorem call_isX {X : Cx} {a D : Addr} {cls : Value} {d : Option Addr} {oe : Obj} {pn : List (Addr × Obj)} (C : ExcC X.K D) (hz : Zc cls d oe) (hf : ∃ vs, oe.data = .fields vs) : CallR (X.suite a ((a, oe) :: pn)) (.builtin "isinstance") (rIsX X.K D a cls d) := by
  intro pins s σ H xs us Q I r h
  obtain ⟨ec, c, cv, b, dd, fs, rfl, ed, hd, hcv, e, q⟩ := h
  subst ec ed
  obtain ⟨t, rfl, rt⟩ : ∃ t, us = [Value.ref a, t] ∧ RelV c t := by
    cases r with
    | cons rx rr =>
      cases rr with
      | cons rt rr => cases rr; cases rx; exact ⟨_, rfl, rt⟩
  obtain rfl := hcv t rt
  obtain ⟨ha, _⟩ := I.pin (a, oe) (List.mem_append_left _ List.mem_cons_self)
  obtain ⟨vs, hv⟩ := hf
  obtain ⟨mA, hns, _⟩ := (show ObjOk X.prog X.w H s.heap dd (.xd fs) from I.hok dd _ hd)
  obtain ⟨od, ho, _⟩ := lookIn_ns hns
  have J : PySem.W.InstAt s.heap a oe D (some od) := ⟨ha, hz.1, by unfold PySem.W.notCls; rw [hv] <;> rfl, by rw [hz.2]; exact ho⟩
  exact PySem.W.kia_one (PySem.W.kitx_exc (inst_cls C.hd) C.hg C.hk C.hs C.ha C.hn C.ht C.hm) I.kIn J e (fun z => nomatch z) fun tk => ⟨.bl b, H, I.kept (t' := tk) fun _ _ z => z, rfl, q⟩
/-- repr in an except suite -/
theorem call_reprDs {X : Cx} {a : Addr} {pn : List (Addr × Obj)} (hg : X.A.guards = some []) (hu : X.A.units + 64 < cLine) :
    CallR (X.suite a pn) (.builtin "repr") (fun xs H Q => ∃ v d, xs = [v] ∧ Dp X.K H v d ∧ d.showable = true ∧ d.hasDict = false ∧ d.depth ≤ 60 ∧ d.shown.length ≤ sizeLine ∧ Q (.str d.shown) H) :=
  call_reprD (X := X.suite a pn) hg hu
/-- a class asked of its own heir -/
theorem kit_true {K : PySem.W.Frag} {D C : Addr} (hd : PySem.W.hasDictIn K C = true) (ty : PySem.W.typeIn K (.ref C) = some (.type "type")) (h : PySem.W.subIn K (.ref D) (.ref C) = some true) : PySem.W.kitOne K (.ref D) (.ref C) = some true := by
  unfold PySem.W.kitOne
  split
  · rfl
  · unfold PySem.W.kitCls
    dsimp only
    rw [if_pos (by rw [inst_cls hd, ty]; rfl)]
    exact h
/-- a class asked of one that it does not come from -/
theorem kit_false {K : PySem.W.Frag} {D C : Addr} (hd : PySem.W.hasDictIn K C = true) (ty : PySem.W.typeIn K (.ref C) = some (.type "type")) (hs : PySem.W.subIn K (.ref C) (.ref C) = some true) (h : PySem.W.subIn K (.ref D) (.ref C) = some false) : PySem.W.kitOne K (.ref D) (.ref C) = some false := by
  unfold PySem.W.kitOne
  split
  · rename_i z
    have e := beq_iff_eq.mp z
    cases e
    rw [hs] at h
    cases h
  · unfold PySem.W.kitCls
    dsimp only
    rw [if_pos (by rw [inst_cls hd, ty]; rfl)]
    exact h
/-- what str tells of a small number, a text, or nothing -/
inductive StrV : V → Str → Prop
  | int {i : Int} (h : i.natAbs.log2 < 1920) : StrV (.int i) (toString i)
  | str (z : Str) : StrV (.str z) z
  | non : StrV .non "None"
theorem call_str_any {X : Cx} : CallR X (.type "str") (fun xs H Q => ∃ v z, xs = [v] ∧ StrV v z ∧ Q (.str z) H) := by
  intro pins s σ H xs us Q I r h
  obtain ⟨v, z, rfl, hv, q⟩ := h
  cases hv with
  | int hi => exact call_str_int pins s σ H _ us Q I r ⟨_, rfl, hi, q⟩
  | str z => exact SkE.call_str_str pins s σ H _ us Q I r ⟨_, rfl, q⟩
  | non =>
    obtain ⟨u, rfl, ru⟩ := vals1 r
    obtain rfl : u = Value.none := ru
    exact PySem.P.str_of_none ⟨.str "None", H, I.tok _, ⟨_, rfl⟩, q⟩
end Sh
set_option Elab.async false
set_option linter.all false
set_option maxRecDepth 100000
namespace Sh
open PySem PySem.Spec PyProof.Rows L2
theorem nsc_WrongItem : NdefX.NScope ["self", "place", "__class__"] ["self", "place"] ["__class__"] (defScope s_WrongItem___init__) := NdefX.nscope_by (by decide +kernel)
theorem nsc_WrongThing : NdefX.NScope ["self", "thing", "__class__"] ["self", "thing"] ["__class__"] (defScope s_WrongThing___init__) := NdefX.nscope_by (by decide +kernel)
structure TxtX (P : Program) (K : PySem.W.Frag) (mg : Str → Option Value) (CB XR FE DI XS FT DT XT SE : Addr) : Prop extends TxtC K mg CB where
  e_BadRule : ExcAt K mg "BadRule" XR FE DI
  q_WrongItem : XInit P K mg "WrongItem.__init__" s_WrongItem___init__ ["self", "place"] DI FE
  nf_BadRule_place : PySem.W.findIn K (.ref XR) "place" = some none
  e_BadSigns : ExcAt K mg "BadSigns" XS FT DT
  q_WrongThing : XInit P K mg "WrongThing.__init__" s_WrongThing___init__ ["self", "thing"] DT FT
  nf_BadSigns_thing : PySem.W.findIn K (.ref XS) "thing" = some none
  e_BadText : ExcAt K mg "BadText" XT FT DT
  nf_BadText_thing : PySem.W.findIn K (.ref XT) "thing" = some none
  mm_BadRule_BadRule : PySem.W.exmOne K (.ref XR) (.ref XR) = some true
  mm_BadSigns_BadSigns : PySem.W.exmOne K (.ref XS) (.ref XS) = some true
  mm_BadText_BadText : PySem.W.exmOne K (.ref XT) (.ref XT) = some true
  c_BadRule : ExcC K XR
  c_BadText : ExcC K XT
  gc_WrongItem : mg "WrongItem" = some (.ref DI)
  gc_ShrunkError : mg "ShrunkError" = some (.ref SE)
  gc_WrongThing : mg "WrongThing" = some (.ref DT)
  ko_BadRule_WrongItem : PySem.W.kitOne K (.ref XR) (.ref DI) = some true
  ko_BadRule_ShrunkError : PySem.W.kitOne K (.ref XR) (.ref SE) = some true
  ko_BadRule_WrongThing : PySem.W.kitOne K (.ref XR) (.ref DT) = some false
  ko_BadText_WrongThing : PySem.W.kitOne K (.ref XT) (.ref DT) = some true
end Sh
set_option Elab.async false
set_option linter.all false
set_option maxRecDepth 100000
set_option maxHeartbeats 2000000
/-! raise C(..) from n in a suite «except D as n» -/
namespace Sh
open PySem PySem.Spec PyProof.Rows L2 HotX L2H
section
variable {X : Cx} {pins : List (Addr × Obj)} {σ : L2.St} {H : Hp} {s : Shared}
/-- the clause's name goes: the state behind it -/
theorem inv_gone {i t0 : Nat} {n : Str} {m : Str → Option Value} {w0 : Option Value} {hh : Heap} (I : Inv X pins σ H s) (hN : X.N.Nodup) (hi : X.N[i]? = some n)
    (hlk : ∀ (j : Nat) (y : Str) (z : V), X.N[j]? = some y → σ[j]? = some (some z) → Vis X.env.scope y → ∃ u, RelV z u ∧ Look X.env s.heap m y u)
    (ns1 : hh.Ns X.env.locals (fun x => if x = n then w0 else m x)) (sb : Heap.SameBut X.env.locals s.heap hh) : Inv X pins (σ.set i none) H { s with heap := hh, toks := t0 } := by
  have off : ∀ b o, X.s_0.heap.get? b = some o → b ≠ X.env.locals := fun b o e => by
    have h1 := Heap.lt_size e
    have h2 := I.ok.above
    intro z
    rw [z] at h1
    exact absurd (Nat.lt_of_lt_of_le h1 h2) (Nat.lt_irrefl _)
  constructor
  · exact I.ok
  · exact I.os
  · exact I.bare
  · constructor
    · intro b o e q hb hx
      exact (sb.2 b (off b o e)).trans (I.base.keep b o e q hb hx)
    · intro b o e q hb hx
      obtain ⟨sl, e1⟩ := I.base.slot b o e q hb hx
      exact ⟨sl, (sb.2 b (off b o e)).trans e1⟩
    · exact I.base.free
    · intro b o e hx
      obtain ⟨o1, e1⟩ := I.base.there b o e hx
      exact ⟨o1, (sb.2 b (off b o e)).trans e1⟩
    · exact I.base.tups
    · exact I.base.frzs
    · exact I.base.tbls
  · refine ⟨_, ns1, fun j y z e1 e2 e3 => ?_⟩
    by_cases hj : j = i
    · subst hj
      by_cases lt : j < σ.length
      · rw [List.getElem?_set_self lt] at e2
        cases e2
      · rw [List.getElem?_eq_none (by rw [List.length_set]; omega)] at e2
        cases e2
    · rw [List.getElem?_set_ne (fun z => hj z.symm)] at e2
      obtain ⟨u1, r1, q⟩ := hlk j y z e1 e2 e3
      refine ⟨u1, r1, ?_⟩
      rcases q with ⟨k, e⟩ | ⟨k, c, e, z1⟩
      · refine .inl ⟨k, ?_⟩
        have ny : ¬ y = n := fun e9 => hj (nodup_ix hN e1 (e9 ▸ hi))
        show (if y = n then w0 else m y) = some u1
        rw [if_neg ny]
        exact e
      · exact .inr ⟨k, c, e, z1.sameBut sb (I.cne y c e)⟩
  · intro y c e
    obtain ⟨w1, z⟩ := I.cell y c e
    exact ⟨w1, z.sameBut sb (I.cne y c e)⟩
  · exact I.free
  · exact I.freeC
  · intro p hp
    obtain ⟨e, q, ne, nf, d⟩ := I.pin p hp
    exact ⟨(sb.2 p.1 ne).trans e, q, ne, nf, d⟩
  · intro b ob e
    refine (I.hok b ob e).stay (fun c w1 hc q => (sb.2 c (fun z => ?_)).trans q) (fun _ q => q) fun _ _ q => q
    rw [z] at hc
    rcases hc with hc | hc
    · rw [← hc, I.free] at e
      cases e
    · rw [I.free] at hc
      cases hc
  · rw [List.length_set]
    exact I.len
/-- the same of the exception's record -/
theorem held_gone {B h hh : Heap} {l : List Env} {a L : Addr} {Z : Obj → Prop} (x : HandSPX.HeldZ B l a Z L h) (sb : Heap.SameBut L h hh) (hm : L ∈ l.filterMap (·.frame)) (ns1 : ∃ m, hh.Ns L m) : HandSPX.HeldZ B l a Z L hh := by
  obtain ⟨k1, k2, k3, oe, vs, T, oT, tv, he, hz, hd, h1, hB, hT, gT, dT, h3⟩ := x
  obtain ⟨bL, oL, gL, nL⟩ := k3.mem hm
  have ne : ∀ {b : Addr} {o : Obj} {fs : Array Value}, h.get? b = some o → o.data = .fields fs → b ≠ L := fun {b o fs} e d z => by
    rw [z, gL] at e
    cases e
    exact nL _ d
  obtain ⟨m, o1, es, ep, g1, d1, _⟩ := ns1
  refine ⟨fun b o e => ?_, k2, ?_, oe, vs, T, oT, tv, (sb.2 _ (ne he hd)).trans he, hz, hd, h1, hB, hT, (sb.2 _ (ne gT dT)).trans gT, dT, h3⟩
  · refine (sb.2 b (fun z => ?_)).trans (k1 b o e)
    rw [z, bL] at e
    cases e
  · have : ∀ l2 : List Env, h.FunFrames B l2 → hh.FunFrames B l2 := by
      intro l2
      induction l2 with
      | nil => exact fun _ => trivial
      | cons env r ih =>
        rintro ⟨q1, ⟨L2, o2, q2, q3, q4, q5⟩, q6⟩
        by_cases e : L2 = L
        · subst e
          exact ⟨q1, ⟨_, o1, q2, q3, g1, fun fs z => by rw [d1] at z; cases z⟩, ih q6⟩
        · exact ⟨q1, ⟨_, o2, q2, q3, (sb.2 _ e).trans q4, q5⟩, ih q6⟩
    exact this l k3
/-- noted by the frame that raised it -/
theorem sky_note {M : Model} {A : Around} {E1 : Value → Shared → Prop} {env : Env} {outer : List Env} {L a : Addr} {Z : Obj → Prop} {B : Heap} {Q : Unit → Shared → Prop} {s1 : Shared} (hZ : HandSPX.Steady Z) (hfr : A.frames = some (env :: outer)) (hf : env.frame = some L)
    (sky : Sky B (env :: outer) a Z L s1.heap) (h : ∀ h2, HandSPX.HeldZ B (env :: outer) a Z L h2 → s1.heap.UpToSlots h2 → Q () { s1 with heap := h2 }) : wpAny M A (noteFrame (.ref a) env) Q E1 s1 := by
  rcases sky with ⟨st, nb, ff, oe, vs, he, hz, hd, h1⟩ | fl | hl
  · exact HandSPX.look_newZ hZ hfr ff hf he st nb hd h1 hz h
  · exact HandSPX.looks_onZ hZ hfr hf fl h
  · exact HandSPX.againZ hf hl.2.2.2 (h _ hl (Heap.UpToSlots.refl _))
/-- the context of such a suite -/
abbrev suiteF (X : Cx) (a : Addr) (pn : List (Addr × Obj)) (xe : Value → Shared → Prop) : Cx := { X with A := X.A.mark (some (.ref a)), calm := false, pn := pn, xe := xe }
theorem suiteF_of {a : Addr} {pn pn' : List (Addr × Obj)} {xe : Value → Shared → Prop} (I : Inv (X.suite a pn) pn' σ H s) : Inv (suiteF X a pn xe) pn' σ H s := Inv.unwish (X := suiteF X a pn xe) (E := fun _ _ => False) I
theorem unsuiteF {a : Addr} {q : Addr × Obj} {pn' : List (Addr × Obj)} {xe : Value → Shared → Prop} (I : Inv (suiteF X a (q :: (X.pn ++ pins)) xe) pn' σ H s) (ok : X.Ok) : Inv X pins σ H s :=
  Inv.unsuite (X := X) (a := a) (q := q) (pn' := pn') (show Inv (X.suite a (q :: (X.pn ++ pins))) pn' σ H s from I.wish fun _ _ => False) ok
end
section
variable {X : Cx} {x n : Str} {c : Value} {i : Nat} {body su : List Stmt} {b0 : Stmt} {np pos pos' : Pos} {tb : WX → TS} {ts : Addr → Value → Option Addr → TS} {Wo : WX}
theorem ps_try_asX (hs : X.stack = X.env :: X.outer) (hf : X.env.frame = some X.env.locals) (hN : X.N.Nodup) (hi : X.N[i]? = some n) (hl : X.env.kindOf n = some .local) (hc : Names X x c) (tk : L2.Takes X Wo)
    (hb : ∀ (W : WX) (pn : List (Addr × Obj)) (xe : Value → Shared → Prop), L2N.Takes (X.tr pn xe) W → PassesOwn (model X.prog X.w) X.A X.env xe → PSs (X.tr pn xe) body (tb W))
    (hsu : ∀ (a : Addr) (oe : Obj) (cls : Value) (d : Option Addr) (pn : List (Addr × Obj)) (xe : Value → Shared → Prop), L2N.Zn cls d oe → (∃ vs, oe.data = .fields vs) → L2.Takes (suiteF X a ((a, oe) :: pn) xe) (fun cls d σ H => Wo cls d (σ.set i none) H) →
      HotC (suiteF X a ((a, oe) :: pn) xe) → PSs (suiteF X a ((a, oe) :: pn) xe) (b0 :: su) (ts a cls d)) :
    PS X (.Try body [.ExceptHandler (some (.Name x np)) (some n) (b0 :: su) pos'] [] [] pos) (fun D σ H => tb (wAs X.K c i ts Wo D) D σ H) := by
  refine ⟨fun pins s σ H D I hgo => ?_⟩
  have okX := I.ok
  have frX : X.A.frames = some (X.env :: X.outer) := okX.frames.trans (congrArg some hs)
  have memL : X.env.locals ∈ (X.env :: X.outer).filterMap (·.frame) := List.mem_filterMap.mpr ⟨X.env, List.mem_cons_self, hf⟩
  refine wpAny_Try_except (wpAny_mono ((hb (wAs X.K c i ts Wo D) (X.pn ++ pins) (fun e s₁ => wpAny (model X.prog X.w) X.A (noteFrame e X.env) (fun _ s₂ => wpAny (model X.prog X.w) X.A (setFlight e none) (fun _ s₃ =>
    wpAny (model X.prog X.w) X.A (handleBy e X.env [.ExceptHandler (some (.Name x np)) (some n) (b0 :: su) pos']) (SP X pins D) X.xe s₃) X.xe s₂) X.xe s₁) (fun u s' air => ?_) PassesOwn.looking).run [] s σ H D (I.toTry _) hgo) (fun fl s1 done => ?_) fun _ _ he => he)
  · obtain ⟨a, B, sI, pn0, σ1, H1, cls, d, rfl, J0, nb, up, sky, na, os, ag, b, hb1, hy, hn⟩ := air
    have J : Inv X pins σ1 H1 sI := J0.ofTry okX
    show wpAny (model X.prog X.w) X.A (noteFrame (.ref a) X.env) _ _ _
    refine L2N.Sky.land L2N.Zn.steady frX hf (hs ▸ sky) fun g3 fl3 up3 => ?_
    have J3 : Inv X pins σ1 H1 { s' with heap := g3 } := J.landed nb fl3.1 (up.trans up3) os ag
    obtain ⟨oe3, vs3, at3, z3, d3⟩ := fl3.there
    have offF : a ∉ frs (X.env :: X.outer) := fun hm => by
      obtain ⟨_, o1, e1, isF⟩ := fl3.2.2.1.mem hm
      cases at3.symm.trans e1
      exact isF _ d3
    have offL : a ≠ X.env.locals := fun z => offF (List.mem_filterMap.mpr ⟨X.env, List.mem_cons_self, hf.trans (congrArg some z.symm)⟩)
    have offO : a ∉ X.fs := fun hm => let ⟨e, he, q⟩ := List.mem_filterMap.mp hm; offF (List.mem_filterMap.mpr ⟨e, List.mem_cons_of_mem _ he, q⟩)
    have S3 := J3.suite at3 d3 na offL offO
    refine wpAny_handleBy_cons (codeAny_handlers_test ?_) (fun q => by cases q)
    have LTy : PySem.W.Looks (model X.prog X.w) g3 (typeOf (.ref a)) cls := fun _ _ _ s k q => wpAny_typeOf_ref (k _ _ at3) (by rw [z3.1]; exact q)
    have LMa := PySem.W.exm_one (M := model X.prog X.w) J3.kIn LTy hb1
    have named : ∀ {Q : Value → Shared → Prop} {E : Value → Shared → Prop}, Q c { s' with heap := g3 } → wpAny (model X.prog X.w) (X.A.mark (some (.ref a))) (eval (.Name x np) X.env) Q E { s' with heap := g3 } := fun {Q E} q => by
      obtain ⟨hg, hdb, hm | ⟨hm, hv, hnn⟩⟩ := hc
      · exact ld_glob (X := X.suite a ((a, oe3) :: (X.pn ++ pins))) S3 hg hm q hdb
      · exact ld_blt (X := X.suite a ((a, oe3) :: (X.pn ++ pins))) S3 hg hm hv q hnn hdb
    refine named (LMa.here ?_)
    cases b with
    | false =>
      refine wpAny_handleBy_nil ?_
      obtain ⟨_, _, _, oe, vs, Tb, oT, ts', he, _, hd, h1, _⟩ := id fl3
      unfold PySem.passOn
      refine wpAny_bind (wpAny_field he hd h1 ?_)
      rw [if_neg (show ¬ ((Value.ref Tb == Value.none) = true) from by simp)]
      have away : wpAny (model X.prog X.w) X.A (setFlight (.ref a) X.env.frame) (fun _ s4 => wpAny (model X.prog X.w) X.A (throw (.ref a) : Sem Flow) (SP X pins D) X.xe s4) X.xe { s' with heap := g3 } := by
        rw [hf]
        exact HandSPX.setFlight_upZ (flyingZ_imp (fun o z => z.zc) fl3) fun h4 hh4 up4 => wpAny_throw (tk _ _ ⟨a, B, sI, pins, σ1, H1, cls, d, rfl, J, nb, (up.trans up3).trans up4, .inr (.inr (hs ▸ hh4)), na, os, ag, hn rfl⟩)
      first
        | exact wpAny_bind (wpAny_pure (wpAny_bind away))
        | exact wpAny_bind away
    | true =>
      refine codeAny_handlers_suite_as (HandSPX.lands_againZ fl3 fun g4 fl4 up4 => ?_)
      have J4 : Inv X pins σ1 H1 { s' with heap := g4 } := J.landed nb fl4.1 ((up.trans up3).trans up4) os ag
      obtain ⟨oe4, vs4, at4, z4, d4⟩ := fl4.there
      have S4 := J4.suite at4 d4 na offL offO
      refine store_ok (X := X.suite a ((a, oe4) :: (X.pn ++ pins))) (v := .ref a) S4 hN hi (.inl hl) rfl (fun s5 S5 => ?_) (.inr hl)
      have hot : ∀ xe, HotC (suiteF X a ((a, oe4) :: (X.pn ++ pins)) xe) := fun xe => ⟨(a, oe4), ⟨rfl, vs4, d4, z4.2.2 vs4 d4⟩, List.mem_cons_self⟩
      refine wpAny_mono ((hsu a oe4 cls d (X.pn ++ pins) _ z4 ⟨_, d4⟩ (fun u6 s6 x6 => ?_) (hot _)).run [] s5 _ H1 _ (suiteF_of S5) (hy rfl a na)) (fun fl s6 end6 => ?_) (fun x6 s6 z => z)
      · obtain ⟨a2, B2, sI2, pn2, σ2, H2, cls2, d2, rfl, I2, nb2, up2, sky2, na2, os2, ag2, w2⟩ := x6
        have K2 : Inv X pins σ2 H2 sI2 := unsuiteF I2 okX
        refine sky_note Zc.steady frX hf (hs ▸ sky2) fun g7 hl7 up7 => ?_
        have up27 := up2.trans up7
        obtain ⟨m2, ns2, lk2⟩ := K2.loc
        have ns7 : g7.Ns X.env.locals m2 := up27.ns ns2
        have hcls : (X.env.scope.kind == .class || (X.env.scope.kind == .module && X.env.locals != X.env.globals)) = false := by rw [okX.kind]; rfl
        refine wpAny_nameGoes_keeps hl ns7 hcls fun g8 w8 ns8 sb8 => ?_
        have hl8 := held_gone hl7 sb8 memL ⟨_, ns8⟩
        obtain ⟨o8, es8, ep8, get8, dat8, key8, fnd8⟩ := id ns8
        obtain ⟨o2, es2, ep2, get2, dat2, _⟩ := id ns2
        have fr8 : o8.isFreed = false := by
          obtain ⟨c9, dd9, dt9, sl9⟩ := o8
          cases dat8
          rfl
        have up9 : (sI2.heap.update X.env.locals (fun _ => o8)).get? X.env.locals = some o8 := Heap.get?_update_self (fun _ => o8) get2 fr8
        have sb9 : Heap.SameBut X.env.locals sI2.heap (sI2.heap.update X.env.locals (fun _ => o8)) := Heap.SameBut.update _ _ _
        have K9 := inv_gone (t0 := sI2.toks) (w0 := w8) K2 hN hi lk2 (hh := sI2.heap.update X.env.locals (fun _ => o8)) ⟨o8, es8, ep8, up9, dat8, key8, fnd8⟩ sb9
        obtain ⟨_, _, _, oe9, vs9, T9, oT9, ts9, he9, _, hd9, h19, _⟩ := id hl8
        unfold PySem.passOn
        refine wpAny_bind (wpAny_field he9 hd9 h19 ?_)
        rw [if_neg (show ¬ ((Value.ref T9 == Value.none) = true) from by simp)]
        have up89 : ∀ {h9 : Heap}, g8.UpToSlots h9 → (sI2.heap.update X.env.locals (fun _ => o8)).UpToSlots h9 := fun {h9} up9' b o e nd => by
          by_cases hb : b = X.env.locals
          · subst hb
            rw [up9] at e
            cases e
            exact up9' _ _ get8 nd
          · rw [sb9.2 b hb] at e
            obtain ⟨sl, e7⟩ := up27 b o e nd
            obtain ⟨sl2, e8⟩ := up9' b _ ((sb8.2 b hb).trans e7) nd
            exact ⟨sl2, e8⟩
        have nb9 : ∀ b o, (sI2.heap.update X.env.locals (fun _ => o8)).get? b = some o → b ∉ frs X.stack → B2.get? b = some o := fun b o e hb => by
          have nL : b ≠ X.env.locals := fun z => hb (by rw [z, hs]; exact memL)
          rw [sb9.2 b nL] at e
          exact nb2 b o e hb
        have away : wpAny (model X.prog X.w) (X.A.mark (some (.ref a))) (setFlight (.ref a2) X.env.frame) (fun _ s4 => wpAny (model X.prog X.w) (X.A.mark (some (.ref a))) (throw (.ref a2) : Sem Flow) (fun _ _ => False) (notedBy (model X.prog X.w) (X.A.mark (some (.ref a))) X.env (cameBackBy (model X.prog X.w) X.A X.env X.xe)) s4)
            (notedBy (model X.prog X.w) (X.A.mark (some (.ref a))) X.env (cameBackBy (model X.prog X.w) X.A X.env X.xe)) { s6 with heap := g8, toks := s6.toks + 1 } := by
          rw [hf]
          refine HandSPX.setFlight_onZ hl8 fun h10 hl10 up10 => wpAny_throw ?_
          show wpAny _ _ (noteFrame (.ref a2) X.env) _ _ _
          refine HandSPX.againZ hf hl10.2.2.2 ?_
          obtain ⟨_, _, _, oe11, vs11, T11, oT11, ts11, he11, _, hd11, h111, _⟩ := id hl10
          show wpAny _ _ (field (.ref a2) 1 >>= _) _ _ _
          refine wpAny_bind (wpAny_field he11 hd11 h111 ?_)
          rw [if_neg (show ¬ ((Value.ref T11 == Value.none) = true) from by simp)]
          have fin : wpAny (model X.prog X.w) X.A (setFlight (.ref a2) X.env.frame) (fun _ s'' => X.xe (.ref a2) s'') X.xe { s6 with heap := h10, toks := s6.toks + 1 } := by
            rw [hf]
            refine HandSPX.setFlight_onZ hl10 fun h12 hl12 up12 => tk _ _ ⟨a2, B2, _, pins, _, H2, cls2, d2, rfl, K9, nb9, up89 (up10.trans up12), .inr (.inr (hs ▸ hl12)), na2, os2, ag2, w2⟩
          first
            | exact fin
            | exact wpAny_bind (wpAny_pure fin)
        first
          | exact away
          | exact wpAny_bind (wpAny_pure (wpAny_bind away))
          | exact wpAny_bind away
      · have shut : ∀ {σ6 : L2.St} {H6 : Hp} {Q : Shared → Prop} {xe : Value → Shared → Prop}, Inv (suiteF X a ((a, oe4) :: (X.pn ++ pins)) xe) [] σ6 H6 s6 → (∀ s7, Inv X pins (σ6.set i none) H6 s7 → Q s7) →
            wpAny (model X.prog X.w) X.A (do bindName X.env n .none; unbindBehindTheSuite X.env n pos') (fun _ s7 => Q s7) X.xe s6 := fun {σ6 H6 Q xe} S6 hq => gone_ok (unsuiteF S6 okX) hN hi hl hq
        cases fl with
        | next => exact let ⟨_, _, S6, q6⟩ := end6; shut S6 fun s7 J7 => ⟨_, _, J7, q6⟩
        | brk => exact let ⟨_, _, S6, q6⟩ := end6; shut S6 fun s7 J7 => ⟨_, _, J7, q6⟩
        | cont => exact let ⟨_, _, S6, q6⟩ := end6; shut S6 fun s7 J7 => ⟨_, _, J7, q6⟩
        | ret u => exact let ⟨_, _, _, S6, r6, q6⟩ := end6; shut S6 fun s7 J7 => ⟨_, _, _, J7, r6, q6⟩
  · cases fl with
    | next => exact let ⟨σ', H', J', q⟩ := done; wpAny_execs_nil ⟨σ', H', J'.ofTry okX, q⟩
    | brk => exact let ⟨σ', H', J', q⟩ := done; ⟨σ', H', J'.ofTry okX, q⟩
    | cont => exact let ⟨σ', H', J', q⟩ := done; ⟨σ', H', J'.ofTry okX, q⟩
    | ret u => exact let ⟨v, σ', H', J', r, q⟩ := done; ⟨v, σ', H', J'.ofTry okX, r, q⟩
end
end Sh
set_option Elab.async false
set_option linter.all false
set_option maxRecDepth 100000
set_option maxHeartbeats 2000000
/-! raise C(..) from n, n the name of the caught error -/
namespace Sh
open PySem PySem.Spec PyProof.Rows L2 HotX L2H
/-- the heap behind «from x» -/
def causeAt (h : Heap) (a x1 : Addr) : Heap := (h.update a (Obj.mapFields (fun vs => vs.setIfInBounds 3 (.ref x1)))).update a (Obj.mapFields (fun vs => vs.setIfInBounds 4 (.bool true)))
theorem causeAt_self {h : Heap} {a x1 : Addr} {oe : Obj} {vs : Array Value} (ha : h.get? a = some oe) (hd : oe.data = .fields vs) :
    (causeAt h a x1).get? a = some ((oe.mapFields (fun vs => vs.setIfInBounds 3 (.ref x1))).mapFields (fun vs => vs.setIfInBounds 4 (.bool true))) ∧
      ((oe.mapFields (fun vs => vs.setIfInBounds 3 (.ref x1))).mapFields (fun vs => vs.setIfInBounds 4 (.bool true))).data = .fields ((vs.setIfInBounds 3 (.ref x1)).setIfInBounds 4 (.bool true)) := by
  have d3 := Obj.data_mapFields hd (fun vs => vs.setIfInBounds 3 (.ref x1))
  have g3 := Heap.get?_update_self (Obj.mapFields (fun vs => vs.setIfInBounds 3 (.ref x1))) ha (Obj.isFreed_of_fields d3)
  have d4 := Obj.data_mapFields d3 (fun vs => vs.setIfInBounds 4 (.bool true))
  exact ⟨Heap.get?_update_self (Obj.mapFields (fun vs => vs.setIfInBounds 4 (.bool true))) g3 (Obj.isFreed_of_fields d4), d4⟩
theorem causeAt_ne {h : Heap} {a b x1 : Addr} (ne : a ≠ b) : (causeAt h a x1).get? b = h.get? b := by
  unfold causeAt
  rw [Heap.get?_update_other _ _ ne, Heap.get?_update_other _ _ ne]
theorem made_from {P : Program} {w : World} {A : Around} {E1 : Value → Shared → Prop} {env : Env} {s : Shared} {x c : Sem Value} {Q : Flow → Shared → Prop} {x1 : Addr}
    (h : wpAny (model P w) A x (fun v s1 => ∃ a oe vs cls o1 vs1, v = .ref a ∧ s1.heap.get? a = some oe ∧ oe.cls = cls ∧ oe.data = .fields vs ∧ vs[1]? = some .none ∧ 4 < vs.size ∧ x1 ≠ a ∧ HotAt A x1 s1.heap ∧ s1.heap.get? x1 = some o1 ∧ o1.data = .fields vs1 ∧
      PySem.W.Looks (model P w) s1.heap (isSubtype o1.cls (.type "BaseException")) true ∧ PySem.W.Looks (model P w) s1.heap (isSubtype cls (.type "BaseException")) true ∧ PySem.W.Looks (model P w) (causeAt s1.heap a x1) (typeOf cls) (.type "type") ∧
      (∀ Q' : Value → Shared → Prop, Q' (.ref x1) s1 → wpAny (model P w) A c Q' E1 s1) ∧
      E1 (.ref a) { s1 with heap := (causeAt s1.heap a x1).update a (Obj.mapFields (·.setIfInBounds 2 (.ref x1))) }) E1 s) :
    wpAny (model P w) A (raiseStmt env (some x) (some c)) Q E1 s := by
  unfold raiseStmt
  dsimp only
  refine wpAny_bind (wpAny_mono h (fun v s1 hx => ?_) fun _ _ z => z)
  obtain ⟨a, oe, vs, cls, o1, vs1, rfl, ha, hcls, hd, h1, hi, hne, hot, hx1, dx1, LX, L1, L3, hcs, hE⟩ := hx
  have TyA : PySem.W.Looks (model P w) s1.heap (typeOf (.ref a)) cls := fun _ _ _ s k q => wpAny_typeOf_ref (k _ _ ha) (by rw [hcls]; exact q)
  have InA : PySem.W.Looks (model P w) s1.heap (isInstance (.ref a) (.type "BaseException")) true := TyA.andThen L1
  have TyX : PySem.W.Looks (model P w) s1.heap (typeOf (.ref x1)) o1.cls := fun _ _ _ s k q => wpAny_typeOf_ref (k _ _ hx1) q
  have InX : PySem.W.Looks (model P w) s1.heap (isInstance (.ref x1) (.type "BaseException")) true := TyX.andThen LX
  have noTy : ∀ {b : Addr} {o : Obj} {fs : Array Value} {hp : Heap}, hp.get? b = some o → o.data = .fields fs → ∀ {Q' : Bool → Shared → Prop}, Q' false { s1 with heap := hp } → wpAny (model P w) A (isType (.ref b)) Q' E1 { s1 with heap := hp } := by
    intro b o fs hp e d Q' q
    simp only [isType, loadHead]
    refine wpAny_bind (wpAny_loadPart e ?_)
    rw [d]
    exact wpAny_pure q
  have d3 := Obj.data_mapFields hd (fun vs => vs.setIfInBounds 3 (.ref x1))
  have g3 := Heap.get?_update_self (Obj.mapFields (fun vs => vs.setIfInBounds 3 (.ref x1))) ha (Obj.isFreed_of_fields d3)
  obtain ⟨g4, d4⟩ := causeAt_self (x1 := x1) ha hd
  have z3 : 3 < vs.size := by omega
  have z4 : 4 < (vs.setIfInBounds 3 (Value.ref x1)).size := by rw [set_size]; exact hi
  have z2 : 2 < ((vs.setIfInBounds 3 (Value.ref x1)).setIfInBounds 4 (Value.bool true)).size := by rw [set_size, set_size]; omega
  have f14 : ((vs.setIfInBounds 3 (Value.ref x1)).setIfInBounds 4 (Value.bool true))[1]? = some Value.none := set_other (by decide) (set_other (by decide) h1)
  have c4 : ((oe.mapFields (fun vs => vs.setIfInBounds 3 (.ref x1))).mapFields (fun vs => vs.setIfInBounds 4 (.bool true))).cls = cls := by rw [Obj.cls_mapFields, Obj.cls_mapFields]; exact hcls
  have Ty4 : PySem.W.Looks (model P w) (causeAt s1.heap a x1) (typeOf (.ref a)) cls := fun _ _ _ s k q => wpAny_typeOf_ref (k _ _ g4) (by rw [c4]; exact q)
  have hot4 : HotAt A x1 (causeAt s1.heap a x1) := by
    obtain ⟨q1, o, vs', q2, q3, q4⟩ := hot
    exact ⟨q1, o, vs', by rw [causeAt_ne (Ne.symm hne)]; exact q2, q3, q4⟩
  have rest : wpAny (model P w) A (do
      let b ← isType (.ref a)
      if b = true then do
        let e ← holding [.ref a] (raisedFor (.ref a) (.ref a))
        setFlight e none
        raiseNew e
      else do
        let e ← raisedInstance (.ref a)
        setFlight e none
        raiseNew e : Sem Flow) Q E1 { s1 with heap := causeAt s1.heap a x1 } := by
    refine wpAny_bind (noTy g4 d4 ?_)
    simp only [Bool.false_eq_true, if_false]
    unfold raisedInstance
    refine wpAny_bind (wpAny_bind (Ty4.here (wpAny_bind (L3.here ?_))))
    rw [if_pos (beq_self_eq_true _)]
    refine wpAny_pure ?_
    unfold setFlight
    refine wpAny_bind (wpAny_bind (wpAny_field g4 d4 f14 ?_))
    rw [if_neg (by decide)]
    refine wpAny_pure ?_
    exact raiseNew_hot hot4 hne g4 d4 z2 hE
  refine wpAny_bind (wpAny_holding (hcs _ (wpAny_bind (wpAny_pure ?_))))
  dsimp only
  refine wpAny_bind (wpAny_holding ?_)
  unfold excFromValue isExcClass
  refine wpAny_bind (wpAny_bind (noTy ha hd ?_))
  simp only [Bool.false_eq_true, if_false]
  refine wpAny_pure ?_
  simp only [Bool.false_eq_true, if_false]
  refine wpAny_bind (InA.here ?_)
  simp only [if_true]
  refine wpAny_pure ?_
  have nn : ¬ ((Value.ref x1 == Value.none) = true) := by simp
  rw [if_neg nn]
  refine wpAny_bind (wpAny_holding ?_)
  refine wpAny_bind (wpAny_bind (noTy hx1 dx1 ?_))
  simp only [Bool.false_eq_true, if_false]
  refine wpAny_pure ?_
  simp only [Bool.false_eq_true, if_false]
  refine wpAny_bind (InX.here ?_)
  simp only [if_true]
  refine wpAny_pure ?_
  refine wpAny_bind (wpAny_setField ha hd z3 (wpAny_bind (wpAny_setField g3 d3 z4 ?_)))
  exact rest
/-- the wish of the statement: the caught error is of the class D, its name stands at the slot j -/
def tRaiseF (W : WX) (D a : Addr) (cls0 : Value) (j : Nat) (t : L2.St → Hp → XK → Prop) : TS := fun _ σ H => cls0 = .ref D ∧ σ[j]? = some (some (.ref a)) ∧ t σ H fun cls d H' => W cls d σ H'
theorem ps_raiseHF {X : Cx} {W : WX} {e : Expr} {t : L2.St → Hp → XK → Prop} {j : Nat} {n : Str} {npos pos : Pos} {a D : Addr} {oe : Obj} {cls0 : Value} {d0 : Option Addr} {pn : List (Addr × Obj)} (hX : X.pn = (a, oe) :: pn) (hA : X.A.handled = some (.ref a)) (hz : L2N.Zn cls0 d0 oe) (hf : ∃ vs, oe.data = .fields vs)
    (hS : PySem.W.subIn X.K (.ref D) (.type "BaseException") = some true) (hN : X.N[j]? = some n) (hl : X.env.kindOf n = some .local) (tk : L2.Takes X W) (he : PMk5 X e t)
    (hdb : (n == ("__debug__" : Str)) = false := by decide) :
    PS X (.Raise (some e) (some (.Name n npos)) pos) (tRaiseF W D a cls0 j t) := by
  refine ⟨fun pins s σ H Dn I h => ?_⟩
  obtain ⟨rfl, hσ, h⟩ := h
  obtain ⟨v1, e1⟩ := hf
  have c1 := hz.2.2 v1 e1
  have hp : (a, oe) ∈ X.pn := by rw [hX]; exact List.mem_cons_self
  show wpAny _ _ (do standAt pos; raiseStmt X.env (some (do let v ← eval e X.env; standAt pos; pure v)) (some (do let v ← eval (.Name n npos) X.env; standAt pos; pure v))) _ _ _
  refine wpAny_bind (wpAny_standAt (made_from (x1 := a) (wpAny_bind (wpAny_mono (he pins s σ H _ I h) (fun u s1 hu => wpAny_bind (wpAny_standAt (wpAny_pure ?_))) fun _ _ x => x))))
  obtain ⟨⟨b, ob, vs, sI, H', cls, d, rfl, J, k, hne, hb, hzb, hd, h1, na, os, ag, r, q⟩, h5⟩ := hu
  have hi : 4 < vs.size := h5 b ob vs rfl hb hd
  have k4 : ∀ b' u, sI.heap.get? b' = some u → (causeAt s1.heap b a).get? b' = some u := fun b' u z => by
    have nab : b ≠ b' := fun y => by
      rw [← y, hne] at z
      cases z
    rw [causeAt_ne nab]
    exact k b' u z
  obtain ⟨r1, _⟩ := r (model X.prog X.w) s1.heap (J.kIn.keeps k)
  obtain ⟨_, r2⟩ := r (model X.prog X.w) (causeAt s1.heap b a) (J.kIn.keeps k4)
  have P1 := (J.pin (a, oe) (List.mem_append_left _ hp)).1
  have nap : a ≠ b := fun z => by
    rw [z, hne] at P1
    cases P1
  obtain ⟨g4, d4⟩ := causeAt_self (x1 := a) hb hd
  have h12 : (((vs.setIfInBounds 3 (Value.ref a)).setIfInBounds 4 (Value.bool true)).setIfInBounds 2 (Value.ref a))[1]? = some Value.none := set_other (by decide) (set_other (by decide) (set_other (by decide) h1))
  obtain ⟨m, hn, lk⟩ := J.loc
  obtain ⟨u, ru, lo⟩ := lk j n (.ref a) hN hσ (.inl hl)
  obtain rfl : u = Value.ref a := ru
  have hm : m n = some (.ref a) := by
    rcases lo with ⟨_, hm⟩ | ⟨hk | hk, _⟩
    · exact hm
    · rw [hl] at hk; cases hk
    · rw [hl] at hk; cases hk
  have hn1 : s1.heap.Ns X.env.locals m := by
    obtain ⟨o, es, ep, e9, r9⟩ := hn
    exact ⟨o, es, ep, k _ _ e9, r9⟩
  refine ⟨b, ob, vs, cls, oe, v1, rfl, hb, hzb.1, hd, h1, hi, nap, ⟨hA, oe, v1, k _ _ P1, e1, c1⟩, k _ _ P1, e1, by rw [hz.1]; exact PySem.W.looks_subIn (J.kIn.keeps k) hS, r1, r2, fun Q' q' => wpAny_bind (wpAny_Name (wpAny_loadName_local J.ok.kind hl hn1 hm (wpAny_bind (wpAny_standAt (wpAny_pure q')))) hdb), ?_⟩
  refine tk _ _ (XE.new J (fun b' u z => ?_) hne (Heap.get?_update_self _ g4 (Obj.isFreed_of_fields (Obj.data_mapFields d4 _)))
    ⟨by rw [Obj.cls_mapFields, Obj.cls_mapFields, Obj.cls_mapFields]; exact hzb.1, by rw [HandSPX.dict_mapFields, HandSPX.dict_mapFields, HandSPX.dict_mapFields]; exact hzb.2.1⟩ (Obj.data_mapFields d4 _) h12 na os ag q)
  have nab : b ≠ b' := fun y => by
    rw [← y, hne] at z
    cases z
  show ((causeAt s1.heap b a).update b (Obj.mapFields (·.setIfInBounds 2 (.ref a)))).get? b' = some u
  rw [Heap.get?_update_other _ _ nab]
  exact k4 b' u z
end Sh
set_option Elab.async false
set_option linter.all false
set_option maxRecDepth 100000
set_option maxHeartbeats 4000000
/-! own exceptions made where an error is handled; and where none is, with no context -/
namespace Sh
open PySem PySem.Spec PyProof.Rows L2 NdefX L2H HotX
/-- such an __init__ keeps its promise while an error is handled -/
structure XiOkH (P : Program) (w : World) (K : PySem.W.Frag) (mg : Str → Option Value) (base : Heap) (k : Nat) (f : Addr) (sp : Sp) : Prop where
  ex : ∃ (fd : FuncData) (ps : List Str), FnH P w K mg base CX0 k f fd ps sp ∧ Binds K fd ps []
section
variable {CX : CXT} {P : Program} {w : World} {K : PySem.W.Frag} {mg : Str → Option Value} {base : Heap} {N ps : List Str} {k : Nat} {f D : Addr} {q : Str} {st : Stmt} {fd : FuncData} {sp : Sp}
theorem fn_supH {p0 p1 p2 p3 p4 : Pos} {es : List Expr} {e : Expr} {rest : List Stmt} (F : SupF P K mg q st ps D f fd) (S : NScope N ps ["__class__"] (defScope st))
    (hself : ps.head? = some "self") (hst : defBody st = .Expr (.Call (.Attribute (.Call (.Name "super" p0) [] [] p1) "__init__" p2) (e :: es) [] p3) p4 :: rest)
    (len : ∀ vs H Q E, sp vs H Q E → vs.length = ps.length)
    (hbody : ∀ (cc cda : Addr) (A : Around) (outer : List Env) (s : Shared) (H : Hp) (vs : List V) (Q : VK) (E : XK) (pq : Addr × Obj), RoomH k (A.deeper (PySem.W.ksEnv q (defScope st) s.heap.objs.size f (.ref cda) cc)) → sp vs H Q E →
      ∃ ta t pl, PA (ncxH CX P w K mg base N ⟨"__init__", q, defArgs st, defBody st, defScope st, [("__class__", cc)], cda⟩ f A outer s H E pq) (e :: es) ta ∧ PSs (ncxH CX P w K mg base N ⟨"__init__", q, defArgs st, defBody st, defScope st, [("__class__", cc)], cda⟩ f A outer s H E pq) rest t ∧ starEach (e :: es) (PySem.W.ksEnv q (defScope st) s.heap.objs.size f (.ref cda) cc) = (false, eval e (PySem.W.ksEnv q (defScope st) s.heap.objs.size f (.ref cda) cc)) :: starEach es (PySem.W.ksEnv q (defScope st) s.heap.objs.size f (.ref cda) cc) ∧ (∀ pos, (backTo pos (starEach es (PySem.W.ksEnv q (defScope st) s.heap.objs.size f (.ref cda) cc))).any (·.1) = false) ∧
        eval (.Call (.Attribute (.Call (.Name "super" p0) [] [] p1) "__init__" p2) (e :: es) [] p3) (PySem.W.ksEnv q (defScope st) s.heap.objs.size f (.ref cda) cc) = (do
          let ov ← attributeBase (.Call (.Name "super" p0) [] [] p1) "__init__" (PySem.W.ksEnv q (defScope st) s.heap.objs.size f (.ref cda) cc) (eval (.Call (.Name "super" p0) [] [] p1) (PySem.W.ksEnv q (defScope st) s.heap.objs.size f (.ref cda) cc))
          standAt p2.atName
          let (g0, first) ← holding [ov] (getMethod ov "__init__" pl)
          callWith p3 g0 first (backTo p3 (starEach (e :: es) (PySem.W.ksEnv q (defScope st) s.heap.objs.size f (.ref cda) cc))) []) ∧
        ∃ (a C : Addr) (ws : List V), vs = .ref a :: ws ∧ OexC K C ∧ SupC K C D ∧ H a = some (exo a C none) ∧
        ta (startF N vs [none]) H (fun us H1 => us.length ≤ 1000 ∧ H1 a = some (exo a C none) ∧ t { nx := fun _ H' => Q .non H', rt := Q } (startF N vs [none]) H1)) :
    FnH P w K mg base CX (k + 1) f fd ps sp := by
  obtain ⟨cc, cda, oc, kv, doc, pm, ct, od, an, osl, rfl, lk, hcd, ⟨cl, cld, csl, hcc⟩, ⟨cl2, cld2, fvs, csl2, file, tf, hcda, hvs, hfile⟩⟩ := F.ex
  refine ⟨len, fun A outer s H args us vs Q E pq hr hot hpin e0 hb r hsp => ?_⟩
  have hl := len _ _ _ _ hsp
  have KX : K.In s.heap := e0.mod.kin.keeps fun b o e => (e0.bs b o e).1
  have lim : s.heap.NoLimit := e0.mod.nolimit.keeps fun b o e => (e0.bs b o e).1
  refine ks_codeAny_call_defAt (binds := ps.zip us) (body := defBody st) hr.depth (KX _ _ lk) rfl lim (PySem.W.codeRec_of KX hcd) rfl hb S.nocell (fun ⟨n, v⟩ hy => S.par n (List.of_mem_zip hy).1) (fun h₁ hns kp => ?_) S.co S.gen S.kind
  have I0 : Inv (ncxH CX P w K mg base N ⟨"__init__", q, defArgs st, defBody st, defScope st, [("__class__", cc)], cda⟩ f A outer s H E pq) [] (startF N vs [none]) H { s with heap := h₁, toks := s.toks + (ps.zip us).length } := inv_startNH S hpin e0 hl r (cells1 e0 hcc) hns kp
  obtain ⟨ta, t, pl, hpa, hps, he, hpl, hev, a, C, ws, rfl, T, SC, ea, hta⟩ := hbody cc cda A outer s H vs Q E pq (hr.deeper _) hsp
  obtain ⟨cdD, hD⟩ := F.hD
  obtain ⟨ar, har1, har2⟩ := F.hp
  obtain ⟨ps', rfl⟩ : ∃ ps', ps = ("self" : Str) :: ps' := by
    cases ps with
    | nil => cases hself
    | cons x xs => cases hself; exact ⟨xs, rfl⟩
  have hN0 : N[0]? = some ("self" : Str) := by
    have := congrArg (fun l => l[0]?) S.pre
    simpa using this
  have key : _root_.PySem.wpAt (model P w) (A.deeper (PySem.W.ksEnv q (defScope st) s.heap.objs.size f (.ref cda) cc)) (.func (defBody st) (PySem.W.ksEnv q (defScope st) s.heap.objs.size f (.ref cda) cc)) (execs (.Expr (.Call (.Attribute (.Call (.Name "super" p0) [] [] p1) "__init__" p2) (e :: es) [] p3) p4 :: rest) (PySem.W.ksEnv q (defScope st) s.heap.objs.size f (.ref cda) cc))
      (SP (ncxH CX P w K mg base N ⟨"__init__", q, defArgs st, defBody st, defScope st, [("__class__", cc)], cda⟩ f A outer s H E pq) [] { nx := fun _ H' => Q .non H', rt := Q })
      (ncxH CX P w K mg base N ⟨"__init__", q, defArgs st, defBody st, defScope st, [("__class__", cc)], cda⟩ f A outer s H E pq).xe { s with heap := h₁, toks := s.toks + ((("self" : Str) :: ps').zip us).length } := by
    refine ks_wpAt_execs_cons (ks_wpAt_mono (sup_run (G := fun H1 => t { nx := fun _ H' => Q .non H', rt := Q } (startF N (.ref a :: ws) [none]) H1) I0 rfl S.kind F.hks (S.frk _ List.mem_cons_self) (S.par _ List.mem_cons_self) lk har1 har2 hcc hcda hvs hfile F.top F.mgs F.op hN0 rfl hD T SC ea hpa he hpl hev hta) (fun fl s' ⟨e1, H1, J, hG⟩ => ?_) fun _ _ z => z)
    subst e1
    exact wpAt_of_wpAny (hps.run [] s' _ H1 _ J hG)
  rw [← hst] at key
  refine ks_wpAt_mono key (fun fl s' hs => ?_) fun _ _ z => z
  have fin : ∀ {σ' : L2.St} {H' : Hp} {v : V} {u : Value}, Inv (ncxH CX P w K mg base N ⟨"__init__", q, defArgs st, defBody st, defScope st, [("__class__", cc)], cda⟩ f A outer s H E pq) [] σ' H' s' → L2.RelV v u → Q v H' → CE outer P w H s Q u s' :=
    fun {σ' H' v u} J rv q => ⟨v, H', J.os, J.bare, J.base, J.hok, rv, q⟩
  cases fl with
  | ret u =>
    obtain ⟨v, σ', H', J, rv, q⟩ := hs
    exact fin J rv q
  | next =>
    obtain ⟨σ', H', J, q⟩ := hs
    exact fin (v := V.non) (u := Value.none) J rfl q
  | brk =>
    obtain ⟨_, _, _, q⟩ := hs
    exact False.elim q
  | cont =>
    obtain ⟨_, _, _, q⟩ := hs
    exact False.elim q
end
section
variable {X : Cx} {CX : CXT} {k j : Nat} {x : Str} {sp : Sp} {p pos pos2 : Pos} {e : Expr} {es : List Expr} {ta : TA} {W : WX} {C D fI : Addr}
/-- C(e, ..) where no error is handled: its context is None -/
theorem pmk_oexN {fd : FuncData} {ps : List Str} (T : OexC X.K C) (iC : PySem.W.findIn X.K (.ref C) "__init__" = some (some (.ref fI))) (tI : PySem.W.typeIn X.K (.ref fI) = some (.type "function"))
    (F1 : FnOk X.prog X.w X.K X.mg X.base CX k fI fd ps sp) (hr : Room (k + 1) X.A) (hb : Binds X.K fd ps []) (hx : Passes CX X (fun _ _ _ => False)) (hg : Gl X x) (hm : X.mg x = some (.ref C)) (ha : PA X (e :: es) ta)
    (hdb : (x == ("__debug__" : Str)) = false := by decide) (he : starEach (e :: es) X.env = (false, eval e X.env) :: starEach es X.env := by rfl) (hpl : (backTo pos (starEach es X.env)).any (·.1) = false := by rfl) :
    L2N.PMk X (.Call (.Name x p) (e :: es) [] pos) (tMkO C sp [] ta) := by
  intro pins s σ H Q I h
  obtain ⟨nm, qn, Nn, bs, bq, sn, sub, ab, col, dd, c0, c1, c2, c3, c5, hC, hbq⟩ := T.cls
  refine wpAny_Call_Name_kw (ld_glob I hg hm ?_ hdb)
  refine PySem.W.callWith_K (h₀ := X.base) I.ok.mod.kin T.kC (thn (ha.run pos pins s σ H _ I h) fun ws s1 ⟨vs, Ha, Ia, ra, hz, q1⟩ => ⟨Ia.kIn, ?_⟩) he hpl
  show wpAny _ _ (call (.ref C) ws) _ _ _
  obtain ⟨gp, g, dr, tk, os⟩ := s1
  have sz : gp.objs.size ≤ gp.objs.size + 1 := Nat.le_succ _
  have hn : Ha (gp.objs.size + 1) = none := Ia.hok.fresh sz
  have hq := q1 (gp.objs.size + 1) hn
  rw [List.append_nil] at hq
  have kk : ∀ b o, gp.get? b = some o → ((gp.push (PySem.W.kdv_tup ws)).push (PySem.HandSPX.excO C gp.objs.size)).get? b = some o := fun b o z => Heap.get?_push_of_some _ (Heap.get?_push_of_some _ z)
  have got : ((gp.push (PySem.W.kdv_tup ws)).push (PySem.HandSPX.excO C gp.objs.size)).get? (gp.objs.size + 1) = some (PySem.HandSPX.excO C gp.objs.size) := by heap_get
  have Ib : Inv X pins σ (upd Ha (gp.objs.size + 1) (exo (gp.objs.size + 1) C none)) ⟨(gp.push (PySem.W.kdv_tup ws)).push (PySem.HandSPX.excO C gp.objs.size), g, dr, tk, os⟩ :=
    Inv.laid (t' := tk) (a := gp.objs.size + 1) (o := exo (gp.objs.size + 1) C none) (h' := (gp.push (PySem.W.kdv_tup ws)).push (PySem.HandSPX.excO C gp.objs.size)) Ia kk sz (exo_ok got)
  have rb : Vals (V.ref (gp.objs.size + 1) :: vs) (Value.ref (gp.objs.size + 1) :: ws) := .cons rfl ra
  have hlen : (Value.ref (gp.objs.size + 1) :: ws ++ []).length = ps.length := by
    rw [List.append_nil, ← F1.len _ _ _ _ hq]
    exact rb.length.symm
  have hus : ws.length ≤ sizeLine := by
    rw [← Paired.length ra, sizeLine_eq]
    omega
  have b2 := hb _ (Value.ref (gp.objs.size + 1) :: ws) Ib.kIn hlen
  rw [List.append_nil] at b2
  refine wpAny_call (PySem.HandSPX.call_own F.excBase_ValueError (fun Y => PySem.HandSPX.refsVE_contains Y bq hbq) (Ia.kIn _ _ hC) (PySem.W.looks_findIn Ia.kIn iC) (fun self => PySem.W.bind_fn Ia.kIn self tI) hus
    (codeAny_mono (F1.run _ X.stack _ _ ⟨Value.ref (gp.objs.size + 1) :: ws, []⟩ (Value.ref (gp.objs.size + 1) :: ws) _ _ (fun _ _ _ => False) (hr.make C ws []) (Ib.env0.make C ws []) b2 rb hq) fun r s' q' => ?_))
  cases r with
  | error er => exact hx pins σ _ _ er s' Ib q'
  | ok fl =>
    cases fl with
    | ret u =>
      obtain ⟨v, H2, os2, bare2, un2, hok2, rv, ev, d, fs, ea, ed, hd1, q2⟩ := q'
      subst ev
      obtain ⟨h2, g2, d2, t2, os'⟩ := s'
      obtain ⟨t0, G, J, kG, ge, hoe, na⟩ := mk_end0 (d2 := d2) (t2 := t2) Ia sz kk un2 hok2 os2 bare2 ea ed hd1
      refine ⟨rv, gp.objs.size + 1, _, _, ⟨G, g2, d2, t2, os'⟩, _, .ref C, some d, rfl, J, kG, ge, hoe, ⟨rfl, rfl, fun vs hv => ?_⟩, rfl, rfl, na, rfl, bare2, raises_own T.exC T.tyC, q2⟩
      cases hv
      rfl
    | next => exact False.elim q'
    | brk => exact False.elim q'
    | cont => exact False.elim q'
/-- raise C(e), its context None -/
theorem ps_raiseXN {f : Addr} (T : ExcAt X.K X.mg x C f D) (F : XiOk X.prog X.w X.K X.mg X.base k f sp) (hr : Room j X.A) (hk : k + 1 ≤ j) (hc : X.calm = true) (tk : L2N.Takes X W) (hg : Gl X x) (ha : PA X (e :: es) ta)
    (hdb : (x == ("__debug__" : Str)) = false := by decide) (he : starEach (e :: es) X.env = (false, eval e X.env) :: starEach es X.env := by rfl) (hpl : (backTo pos (starEach es X.env)).any (·.1) = false := by rfl) :
    PS X (.Raise (some (.Call (.Name x p) (e :: es) [] pos)) none pos2) (fun _ σ H => tMkO C sp [] ta σ H fun cls d H' => W cls d σ H') := by
  obtain ⟨fd, ps, F, b⟩ := F.ex
  exact L2N.ps_raise hc tk (pmk_oexN T.oex T.iC T.tI F (hr.mono hk) b (fun _ _ _ _ _ _ _ z => z.elim) hg T.mgC ha hdb he hpl)
/-- raise C(e) from n, in a suite «except D as n» -/
theorem ps_raiseXF {f a D0 : Addr} {i : Nat} {n : Str} {npos : Pos} {oe : Obj} {cls0 : Value} {d0 : Option Addr} {pn : List (Addr × Obj)} (T : ExcAt X.K X.mg x C f D) (F : XiOkH X.prog X.w X.K X.mg X.base k f sp) (hr : RoomH j X.A) (hk : k + 1 ≤ j)
    (hX : X.pn = (a, oe) :: pn) (hA : X.A.handled = some (.ref a)) (hz : L2N.Zn cls0 d0 oe) (hf : ∃ vs, oe.data = .fields vs) (hot : HotC X) (hS : PySem.W.subIn X.K (.ref D0) (.type "BaseException") = some true) (hN : X.N[i]? = some n) (hl : X.env.kindOf n = some .local) (tk : L2.Takes X W) (hg : Gl X x) (ha : PA X (e :: es) ta)
    (hdb : (x == ("__debug__" : Str)) = false := by decide) (hdn : (n == ("__debug__" : Str)) = false := by decide) (he : starEach (e :: es) X.env = (false, eval e X.env) :: starEach es X.env := by rfl) (hpl : (backTo pos (starEach es X.env)).any (·.1) = false := by rfl) :
    PS X (.Raise (some (.Call (.Name x p) (e :: es) [] pos)) (some (.Name n npos)) pos2) (tRaiseF W D0 a cls0 i (tMkO C sp [] ta)) := by
  obtain ⟨fd, ps, F, b⟩ := F.ex
  exact ps_raiseHF hX hA hz hf hS hN hl tk (pmk5_oexH T.oex T.iC T.tI F (hr.mono hk) hot b (fun _ _ _ _ _ _ _ z => z.elim) hg T.mgC ha hdb he hpl) hdn
end
end Sh
set_option Elab.async false
set_option linter.all false
set_option maxRecDepth 100000
/-! len of an own instance; text.count, text.index of one sign -/
namespace Sh
open PySem PySem.Spec PyProof.Rows L2
open SX (S S_inj S_len S_cat)
section
variable {X : Cx} {CX : CXT} {C g : Addr} {n k j : Nat} {sp : Sp} {E : XK}
/-- len(x), x an instance of the class at C with an own __len__ -/
def rLenO (C : Addr) (sp : Sp) (E : XK) : List V → Hp → VK → Prop := fun xs H Q => ∃ a dx fs, xs = [V.ref a] ∧ H a = some (.ins C dx fs) ∧ sp [.ref a] H (fun z H' => ∃ i : Int, z = .int i ∧ 0 ≤ i ∧ i < 2 ^ 63 ∧ Q z H') E
theorem call_lenO (hs : PySem.W.findIn X.K (.ref C) "__len__" = some (some (.ref g))) (hf : PySem.W.isFn X.K (.ref g) = true) (F : FnR X.prog X.w X.K X.mg X.base CX n g sp) (hr : Room (n + 2) X.A) (hx : Passes CX X E) : CallR X (.builtin "len") (rLenO C sp E) := by
  intro pins s σ H xs us Q I r h
  obtain ⟨a, dx, fs, rfl, ha, q⟩ := h
  obtain rfl := Vals.ref1 r
  obtain ⟨ox, od, J, _⟩ := StX.insC_at (C := C) I (.inr ⟨dx, fs, ha⟩)
  obtain ⟨m0, F0⟩ := I.fr
  have hr1 : Room n X.A.in1 := (show Room (n + 1) X.A.in1 from Room.in1 hr).mono (Nat.le_succ _)
  refine PySem.W.len_K F0 I.ok.mod.kin J hs hf (wpAny_mono (run_in (us := [.ref a]) (ws := [.ref a]) F hr1 I.env0.in1 hx I (.cons rfl .nil) q) (fun v s' z => ?_) fun _ _ x => x)
  obtain ⟨z', H', I', rz, i, eb, h0, h1, qz⟩ := z
  subst eb
  obtain ⟨t, rfl⟩ := (show ∃ t, v = Value.int i t from rz)
  exact ⟨⟨h0, h1⟩, .int i, H', I'.tok _, ⟨_, rfl⟩, qz⟩
theorem call_lenC (d : MetC X.prog X.w X.K X.mg X.base k C "__len__" sp) (hr : Room j X.A) (hk : k + 2 ≤ j) : CallR X (.builtin "len") (rLenO C sp E0) := by
  obtain ⟨f, fd, ps, F, b, i, n, o⟩ := d.ex
  exact call_lenO i n (fnR_of F b) (hr.mono hk) pass0
/-- text.index(y), y stands there -/
theorem mt_indexC : MtR X "str.index" (fun x xs H Q => ∃ (a b : Str) (k : Nat), x = .str a ∧ xs = [.str b] ∧ Txt.index0 a b = some k ∧ Q (.int (k : Nat)) H) := by
  intro pins s σ H x xs v us Q I rx rs h
  obtain ⟨a, b, k, rfl, rfl, hk, q⟩ := h
  obtain ⟨t, rfl⟩ := rx
  cases rs with
  | cons r1 rs =>
    cases rs
    obtain ⟨u, rfl⟩ := r1
    cases e : Builtin.Str.occurrences a b 0 a.length 1 with
    | nil =>
      unfold Txt.index0 at hk
      rw [e] at hk
      cases hk
    | cons k2 rest =>
      unfold Txt.index0 at hk
      rw [e] at hk
      cases hk
      exact PySem.SC.index e ⟨.int (k : Nat), H, I.tok _, ⟨_, rfl⟩, q⟩
end
/-- a walk of a list or a tuple -/
def iSeqA (K : PySem.W.Frag) (tl : TE) : TI := fun σ H R => tl σ H fun x H1 => ∃ a, x = .ref a ∧ (((∃ xs, SqL K H1 a xs) ∧ R (Itl K a) H1) ∨ ((∃ xs, SqT K H1 a xs) ∧ R (Itt K a) H1))
theorem pi_seqA {X : Cx} {tg l : Expr} {tl : TE} (hl : PE X l tl) : PI X tg l (iSeqA X.K tl) := by
  refine ⟨fun pins s σ H R I h => ?_⟩
  refine thn (hl.run pins s σ H _ I h) fun v s1 got => ?_
  obtain ⟨x, H1, Ia, ra, a, e, q1⟩ := got
  subst e
  cases ra
  have fpk : ∀ b ∈ [s1.heap.objs.size], FpOk X pins H1 b := fun b hb => by
    rw [List.mem_singleton.mp hb]
    exact Ia.fpOk (Nat.le_refl _) (Ia.hok.fresh (Nat.le_refl _))
  rcases q1 with ⟨⟨xs, hq⟩, q⟩ | ⟨⟨xs, hq⟩, q⟩
  · obtain ⟨its, rv, p, hz⟩ := Ia.list hq
    refine wpAny_pyIter_list p.isList ⟨s1.heap.objs.size, [s1.heap.objs.size], _, _, H1, rfl, Ia.kept (t' := s1.toks) fun b o e => Heap.get?_push_of_some _ e, turn_list a _, ⟨_, Heap.get?_push_size _ rfl, rfl, rfl⟩, fpk, q⟩
  · obtain ⟨its, rv, p, hz⟩ := Ia.tuple hq
    refine wpAny_pyIter_tuple (show s1.heap.IsTuple a its.toArray from p) ⟨s1.heap.objs.size, [s1.heap.objs.size], _, _, H1, rfl, Ia.kept (t' := s1.toks) fun b o e => Heap.get?_push_of_some _ e, turn_tuple a _, ⟨_, Heap.get?_push_size _ rfl, rfl, rfl⟩, fpk, q⟩
theorem S_list (t : List Nat) : (S t).cps.toList = t := by
  show t.toArray.toList = t
  simp
theorem S_one (c : Nat) : S [c] = ⟨#[c]⟩ := rfl
theorem cnt_count (c : Nat) : ∀ t : List Nat, cnt c t = ((t.count c : Nat) : Int)
  | [] => rfl
  | n :: r => by
    rw [cnt_cons, cnt_count c r, List.count_cons]
    by_cases h : n = c
    · rw [if_pos h, if_pos (by rw [h]; exact beq_self_eq_true c)]; omega
    · rw [if_neg h, if_neg (by simpa using h)]; omega
theorem count_S (t : List Nat) (c : Nat) : Txt.count (S t) (S [c]) = ((t.count c : Nat) : Int) := by
  rw [S_one, count_is]
  show cnt c (S t).cps.toList = _
  rw [S_list, cnt_count]
theorem index_S {l r : List Nat} {c : Nat} (h : c ∉ l) : Txt.index0 (S (l ++ c :: r)) (S [c]) = some l.length := by
  unfold Txt.index0
  have at_ : ∀ i, StrLaws.At (S (l ++ c :: r)) (S [c]) (S (l ++ c :: r)).length i ↔ (l ++ c :: r)[i]? = some c := fun i => by
    have := StrLaws.subAt_one (S (l ++ c :: r)) c i
    rw [S_list] at this
    exact this
  have free : ∀ i, i < l.length → (l ++ c :: r)[i]? ≠ some c := fun i hi e => by
    rw [List.getElem?_append_left hi] at e
    exact h (List.mem_of_getElem? e)
  have here : (l ++ c :: r)[l.length]? = some c := by simp
  rcases StrLaws.occ_head (S (l ++ c :: r)) (S [c]) 1 (Nat.le_refl 1) with ⟨_, hn⟩ | ⟨i, rs, e, h1, h2⟩
  · exact absurd ((at_ l.length).mpr here) (hn l.length)
  · rw [e]
    have i1 := (at_ i).mp h1
    have : i = l.length := by
      rcases Nat.lt_trichotomy i l.length with q | q | q
      · exact absurd i1 (free i q)
      · exact q
      · exact absurd ((at_ l.length).mpr here) (h2 _ q)
    rw [this]
    rfl
end Sh
set_option Elab.async false
set_option linter.all false
set_option maxRecDepth 100000
/-! a def whose errors have no context; a try whose suite raises from the caught error, as a word of its own -/
namespace Sh
open PySem PySem.Spec PyProof.Rows L2
section
variable {P : Program} {w : World} {K : PySem.W.Frag} {mg : Str → Option Value} {base : Heap}
theorem Cal.mkXN {x : Str} {st : Stmt} {N ps : List Str} {k : Nat} {sp : Sp} (D : DefAt K mg x st ps) (S : FnScope N ps (defScope st)) (len : ∀ vs H Q E, sp vs H Q E → vs.length = ps.length)
    (hbody : ∀ (f : Addr) (cdv : Value) (A : Around) (outer : List Env) (s : Shared) (H : Hp) (vs : List V) (Q : VK) (E : XK), Room k (A.deeper (envOfC x (defScope st) s.heap.objs.size f cdv)) → sp vs H Q E →
      ∃ t, PSs (cxOf (L2N.CX P w) P w K mg base N x (defScope st) f cdv A outer s H E) (defBody st) t ∧ t { nx := fun _ H' => Q .non H', rt := Q } (start N vs) H) : Cal P w K mg base (L2N.CX P w) (k + 1) x sp := by
  obtain ⟨f, fd, F, m, b⟩ := D.ex
  have Fk := F.kp
  obtain ⟨oc, od, kV, doc, pm, an, cdv, ct, osl, rfl, lk, hcd⟩ := F.ex
  exact ⟨f, _, ps, fn_of lk hcd S len fun A outer s H vs Q E hr h => hbody f cdv A outer s H vs Q E hr h, m, Fk, b⟩
end
section
variable {X : Cx} {k j : Nat} {x : Str} {sp : Sp} {p pos : Pos} {e : Expr} {es : List Expr} {t : TA} {W : WX}
theorem pe_cXN (c : Cal X.prog X.w X.K X.mg X.base (L2N.CX X.prog X.w) k x sp) (hr : Room j X.A) (hk : k ≤ j) (tk : L2N.Takes X W) (hg : Gl X x) (ha : PA X (e :: es) t)
    (hdb : (x == ("__debug__" : Str)) = false := by decide) (he : starEach (e :: es) X.env = (false, eval e X.env) :: starEach es X.env := by rfl) (hpl : (backTo pos (starEach es X.env)).any (·.1) = false := by rfl) :
    PE X (.Call (.Name x p) (e :: es) [] pos) (tCallS sp (WE W) t) := by
  obtain ⟨f, fd, ps, F, hm, kp, b⟩ := c.ex
  exact pe_callS F (hr.mono hk) hg hm kp b (fun σ => L2N.passAt tk σ) ha hdb he hpl
end
theorem call_isiB {X : Cx} {s : Shared} {H : Hp} {sc : Scope} {ce : Env} {fp : List Addr} : CallR (X.blk s H sc ce fp) (.builtin "isinstance") (rIsi X.K) := call_isi (X := X.blk s H sc ce fp)
theorem ix_seqT {X : Cx} {pn : List (Addr × Obj)} {xe : Value → Shared → Prop} : IxR (X.tr pn xe) (rIx X.K) := ix_seq (X := X.tr pn xe)
/-- the reading of such a try -/
def tTryF (tb : WX → TS) (K : PySem.W.Frag) (c : Value) (i : Nat) (ts : Addr → Value → Option Addr → TS) (Wo : WX) : TS := fun D σ H => tb (wAs K c i ts Wo D) D σ H
theorem ps_tryF {X : Cx} {x n : Str} {c : Value} {i : Nat} {body su : List Stmt} {b0 : Stmt} {np pos pos' : Pos} {tb : WX → TS} {ts : Addr → Value → Option Addr → TS} {Wo : WX} (hs : X.stack = X.env :: X.outer) (hf : X.env.frame = some X.env.locals) (hN : X.N.Nodup) (hi : X.N[i]? = some n) (hl : X.env.kindOf n = some .local) (hc : Names X x c) (tk : L2.Takes X Wo)
    (hb : ∀ (W : WX) (pn : List (Addr × Obj)) (xe : Value → Shared → Prop), L2N.Takes (X.tr pn xe) W → PassesOwn (model X.prog X.w) X.A X.env xe → PSs (X.tr pn xe) body (tb W))
    (hsu : ∀ (a : Addr) (oe : Obj) (cls : Value) (d : Option Addr) (pn : List (Addr × Obj)) (xe : Value → Shared → Prop), L2N.Zn cls d oe → (∃ vs, oe.data = .fields vs) → L2.Takes (suiteF X a ((a, oe) :: pn) xe) (fun cls d σ H => Wo cls d (σ.set i none) H) →
      L2H.HotC (suiteF X a ((a, oe) :: pn) xe) → PSs (suiteF X a ((a, oe) :: pn) xe) (b0 :: su) (ts a cls d)) :
    PS X (.Try body [.ExceptHandler (some (.Name x np)) (some n) (b0 :: su) pos'] [] [] pos) (tTryF tb X.K c i ts Wo) := ps_try_asX hs hf hN hi hl hc tk hb hsu
end Sh
set_option Elab.async false
set_option linter.all false
set_option maxRecDepth 100000
set_option maxHeartbeats 2000000
/-! own classes: an __init__ and a __call__ that raise, o[i], o == a tuple, list(o) -/
namespace Sh
open PySem PySem.Spec PyProof.Rows L2
/-- a method that may raise -/
structure MetX (P : Program) (w : World) (K : PySem.W.Frag) (mg : Str → Option Value) (base : Heap) (k : Nat) (C : Addr) (m : Str) (sp : Sp) : Prop where
  ex : ∃ (f : Addr) (fd : FuncData) (ps : List Str), FnOk P w K mg base (L2.CX P w) k f fd ps sp ∧ Binds K fd ps [] ∧ PySem.W.findIn K (.ref C) m = some (some (.ref f)) ∧ PySem.W.isFn K (.ref f) = true ∧ PySem.W.fnIn K f = true
section
variable {P : Program} {w : World} {K : PySem.W.Frag} {mg : Str → Option Value} {base : Heap}
theorem MetX.mk0 {m q : Str} {C : Addr} {st : Stmt} {N ps : List Str} {k : Nat} {sp : Sp} (D : MethAt K C m q st ps) (S : FnScope N ps (defScope st)) (len : ∀ vs H Q E, sp vs H Q E → vs.length = ps.length)
    (hbody : ∀ (f : Addr) (cdv : Value) (A : Around) (outer : List Env) (s : Shared) (H : Hp) (vs : List V) (Q : VK) (E : XK), Room k (A.deeper (envOfC q (defScope st) s.heap.objs.size f cdv)) → sp vs H Q E →
      ∃ t, PSs (cxOf (L2.CX P w) P w K mg base N q (defScope st) f cdv A outer s H E) (defBody st) t ∧ t { nx := fun _ H' => Q .non H', rt := Q } (start N vs) H) : MetX P w K mg base (k + 1) C m sp := by
  obtain ⟨f, fd, F, b, i, n, o⟩ := D.ex
  obtain ⟨oc, od, kV, doc, pm, an, cdv, ct, osl, rfl, lk, hcd⟩ := F.ex
  exact ⟨f, _, ps, fn_of lk hcd S len fun A outer s H vs Q E hr h => hbody f cdv A outer s H vs Q E hr h, b, i, n, o⟩
end
section
variable {X : Cx} {CX : CXT} {k j n : Nat} {x m : Str} {C f g : Addr} {sp : Sp} {p pos : Pos} {e fe : Expr} {es : List Expr} {t : TA} {tf : TE} {W : WX} {fd : FuncData} {ps : List Str} {E : XK}
/-- C(e, ..), its __init__ may raise -/
def tMakeS (C : Addr) (sp : Sp) (E : L2.St → XK) (t : TA) : TE := fun σ H Q => t σ H fun vs H1 => ∀ x dx, H1 x = none → H1 dx = none → dx ≠ x →
  sp (.ref x :: vs) (upd (upd H1 dx (.own x)) x (.ins C dx [])) (fun v H2 => v = .non ∧ Q (.ref x) H2) (E σ)
theorem run_makeS {pins : List (Addr × Obj)} {σ : L2.St} {H : Hp} {s : Shared} {Q : VK} {us : List Value} {vs : List V} (M : Mk X.K C f) (F : FnOk X.prog X.w X.K X.mg X.base CX k f fd ps sp) (hr : Room (k + 1) X.A) (hb : Binds X.K fd ps [])
    (hx : PassesAt CX X σ E) (I : Inv X pins σ H s) (r : Vals vs us)
    (h : ∀ x dx, H x = none → H dx = none → dx ≠ x → sp (.ref x :: vs) (upd (upd H dx (.own x)) x (.ins C dx [])) (fun v H2 => v = .non ∧ Q (.ref x) H2) E) :
    wpAny (model X.prog X.w) X.A (call (.ref C) us) (EP X pins σ Q) X.xe s := by
  have q0 := h (s.heap.objs.size + 1) s.heap.objs.size (I.hok.fresh (Nat.le_succ _)) (I.hok.fresh (Nat.le_refl _)) (Nat.ne_of_lt (Nat.lt_succ_self _))
  have Ib := Inv.made (C := C) I
  have rb : Vals (V.ref (s.heap.objs.size + 1) :: vs) (Value.ref (s.heap.objs.size + 1) :: us) := .cons rfl r
  have hlen : (Value.ref (s.heap.objs.size + 1) :: us ++ []).length = ps.length := by
    rw [List.append_nil, ← F.len _ _ _ _ q0]
    exact rb.length.symm
  have b2 := hb _ (Value.ref (s.heap.objs.size + 1) :: us) Ib.kIn hlen
  rw [List.append_nil] at b2
  refine wpAny_call (make_map (f := f) I.kIn M.makes M.init (beq_iff_eq.mp M.fn) (codeAny_mono (F.run _ X.stack _ _ ⟨Value.ref (s.heap.objs.size + 1) :: us, []⟩ (Value.ref (s.heap.objs.size + 1) :: us) _ _ E (hr.make C us [])
    (Ib.env0.make C us []) b2 rb q0) fun r s' got => ?_))
  cases r with
  | error er => exact hx pins _ _ er s' Ib got
  | ok fl =>
    cases fl with
    | ret u =>
      obtain ⟨v, H', Ic, rv, ev, q3⟩ := Ib.after got
      subst ev
      exact ⟨rv, ⟨V.ref (s.heap.objs.size + 1), H', Ic, rfl, q3⟩⟩
    | next => exact False.elim got
    | brk => exact False.elim got
    | cont => exact False.elim got
theorem pe_mkX (c : ClassAt X.K X.mg x C) (d : MetX X.prog X.w X.K X.mg X.base k C "__init__" sp) (hr : Room j X.A) (hk : k + 1 ≤ j) (tk : Takes X W) (hg : Gl X x) (ha : PA X (e :: es) t)
    (hdb : (x == ("__debug__" : Str)) = false := by decide) (he : starEach (e :: es) X.env = (false, eval e X.env) :: starEach es X.env := by rfl) (hpl : (backTo pos (starEach es X.env)).any (·.1) = false := by rfl) :
    PE X (.Call (.Name x p) (e :: es) [] pos) (tMakeS C sp (WE W) t) := by
  obtain ⟨f, fd, ps, F, b, i, n, o⟩ := d.ex
  refine ⟨fun pins s σ H Q I h => wpAny_Call_Name_kw (ld_glob I hg c.mgC ?_ hdb)⟩
  refine PySem.W.callWith_K (h₀ := X.base) I.ok.mod.kin c.kp (thn (ha.run pos pins s σ H _ I h) fun us s1 got => ?_) he hpl
  obtain ⟨vs, H1, Ia, r, q⟩ := got
  exact ⟨Ia.kIn, run_makeS ⟨c.makes, i, n, c.kp⟩ F (hr.mono hk) b (passAt tk σ) Ia r q⟩
/-- the same where it raises nothing -/
theorem pe_mkXn (c : ClassAt X.K X.mg x C) (d : MetX X.prog X.w X.K X.mg X.base k C "__init__" sp) (hr : Room j X.A) (hk : k + 1 ≤ j) (hg : Gl X x) (ha : PA X (e :: es) t)
    (hdb : (x == ("__debug__" : Str)) = false := by decide) (he : starEach (e :: es) X.env = (false, eval e X.env) :: starEach es X.env := by rfl) (hpl : (backTo pos (starEach es X.env)).any (·.1) = false := by rfl) :
    PE X (.Call (.Name x p) (e :: es) [] pos) (tMakeS C sp (fun _ => E0) t) := by
  obtain ⟨f, fd, ps, F, b, i, n, o⟩ := d.ex
  refine ⟨fun pins s σ H Q I h => wpAny_Call_Name_kw (ld_glob I hg c.mgC ?_ hdb)⟩
  refine PySem.W.callWith_K (h₀ := X.base) I.ok.mod.kin c.kp (thn (ha.run pos pins s σ H _ I h) fun us s1 got => ?_) he hpl
  obtain ⟨vs, H1, Ia, r, q⟩ := got
  exact ⟨Ia.kIn, run_makeS ⟨c.makes, i, n, c.kp⟩ F (hr.mono hk) b (fun pins H s e s' I c => passL pins σ H s e s' I c) Ia r q⟩
/-- what a callee promises where it may raise -/
theorem run_inS {pins : List (Addr × Obj)} {σ : L2.St} {H : Hp} {s : Shared} {A : Around} {Q : VK} {us : List Value} {ws : List V} (F : FnR X.prog X.w X.K X.mg X.base CX n g sp) (hr : Room n A) (e0 : Env0 X.prog X.w X.K X.mg X.base A X.stack s H) (hx : PassesAt CX X σ E)
    (I : Inv X pins σ H s) (r : Vals ws us) (h : sp ws H Q E) : wpAny (model X.prog X.w) A (call (.ref g) us) (EP X pins σ Q) X.xe s := by
  refine wpAny_call (codeAny_mono (F A X.stack s H us ws Q E hr e0 r h) fun r s' got => ?_)
  cases r with
  | error er => exact hx pins H s er s' I got
  | ok fl =>
    cases fl with
    | ret u => exact I.after got
    | next => exact False.elim got
    | brk => exact False.elim got
    | cont => exact False.elim got
/-- o(e, ..), o an instance, its __call__ may raise -/
def tInstS (C : Addr) (sp : Sp) (E : L2.St → XK) (tf : TE) (t : TA) : TE := fun σ H Q => tf σ H fun y H1 => ∃ a, y = V.ref a ∧ t σ H1 fun zs H2 => (∃ dx fs, H2 a = some (.ins C dx fs)) ∧ sp (V.ref a :: zs) H2 Q (E σ)
theorem pe_instX (hf : PE X fe tf) (d : MetX X.prog X.w X.K X.mg X.base k C "__call__" sp) (hr : Room j X.A) (hk : k ≤ j) (tk : Takes X W) (ha : PA X (e :: es) t)
    (h1 : eval (.Call fe (e :: es) [] pos) X.env = (do callWith pos (← eval fe X.env) [] (backTo pos (starEach (e :: es) X.env)) (backToKw pos (keywordEach [] X.env))) := by rfl)
    (h2 : starEach (e :: es) X.env = (false, eval e X.env) :: starEach es X.env := by rfl) (h3 : (backTo pos (starEach es X.env)).any (·.1) = false := by rfl) : PE X (.Call fe (e :: es) [] pos) (tInstS C sp (WE W) tf t) := by
  obtain ⟨f, fd, ps, F, b, i, n, o⟩ := d.ex
  constructor
  intro pins s σ H Q I h
  refine Call_ (thn (hf.run pins s σ H _ I h) ?_) h1
  rintro u s1 ⟨_, H1, Ia, ry, a, rfl, q⟩
  obtain rfl : u = .ref a := ry
  refine StX.callO_with (thn (ha.run pos pins s1 σ H1 _ Ia q) ?_) h2 h3
  rintro us s2 ⟨zs, H2, Ib, rz, isC, q2⟩
  obtain ⟨ox, od, J, dat⟩ := StX.insC_at (C := C) Ib (.inr isC)
  refine ⟨⟨C, ox, od, J, dat⟩, ?_⟩
  refine wpAny_call (PySem.W.kco_code Ib.kIn J dat i n o (codeAny_mono (fnR_of F b X.A X.stack s2 H2 (.ref a :: us) (.ref a :: zs) Q _ (hr.mono hk) Ib.env0 (.cons rfl rz) q2) fun r s' got => ?_))
  cases r with
  | error er => exact passAt tk σ pins H2 s2 er s' Ib got
  | ok fl =>
    cases fl with
    | ret u => exact Ib.after got
    | next => exact False.elim got
    | brk => exact False.elim got
    | cont => exact False.elim got
/-- o == t, t a tuple -/
def rEqT (K : PySem.W.Frag) (C : Addr) (sp : Sp) : R2 := fun x y H Q => ∃ a dx fs b ys, x = .ref a ∧ y = .ref b ∧ H a = some (.ins C dx fs) ∧ SqT K H b ys ∧ sp [.ref a, .ref b] H (fun v H' => ∃ c, v = .bl c ∧ Q v H') E0
theorem op_eqIT (d : MetC X.prog X.w X.K X.mg X.base k C "__eq__" sp) (hn : PySem.W.notFirst X.K C (.type "tuple") = true) (hr : Room j X.A) (hk : k ≤ j) : OpR X (compareOp .Eq) (rEqT X.K C sp) := by
  obtain ⟨f, fd, ps, F, b, hs, hf, ho⟩ := d.ex
  intro pins s σ H x y v u Q I rx ry h
  obtain ⟨a, dx, fs, a2, ys, rfl, rfl, ha, hb, q⟩ := h
  obtain rfl : v = Value.ref a := rx
  obtain rfl : u = Value.ref a2 := ry
  obtain ⟨ox, od, J, _⟩ := StX.insC_at (C := C) I (.inr ⟨dx, fs, ha⟩)
  obtain ⟨its, rv, pl, hz⟩ := I.tuple hb
  obtain ⟨o2, g2, c2⟩ := pl.typeIs
  obtain ⟨m, hF⟩ := I.fr
  show wpAny (model X.prog X.w) X.A (richCompare .Eq (.ref a) (.ref a2)) (EP X pins σ Q) X.xe s
  refine PySem.W.cmp_K (op := .Eq) (tb := .type "tuple") (hr.mono hk).units0 hF I.ok.mod.kin J (fun _ _ _ s k q => wpAny_typeOf_ref (k _ _ g2) (by rw [c2]; exact q)) hn hs hf ?_
  refine wpAny_mono (run_in (us := [.ref a, .ref a2]) (ws := [.ref a, .ref a2]) (fnR_of F b) (hr.mono hk) I.env0 pass0 I (.cons rfl (.cons rfl .nil)) q) (fun v s' z => ?_) fun _ _ x => x
  obtain ⟨z', H', I', rz, c, ec, qz⟩ := z
  subst ec
  obtain rfl : v = .bool c := rz
  exact ⟨.bl c, H', I', rfl, qz⟩
/-- o[i], by an own __getitem__ -/
def rIxO (C : Addr) (sp : Sp) : R2 := fun x y H Q => ∃ a dx fs, x = .ref a ∧ H a = some (.ins C dx fs) ∧ sp [.ref a, y] H Q E0
def PlainIxO (b : Expr) : Prop := ∀ (a : Expr) (x : Addr) (u : Value), subscripted b true (.ref x) u = runValue (.builtin "lifetime.subscript" ⟨[.ref x, u], []⟩)
theorem pe_ixO {a b : Expr} {ta tb : TE} (d : MetC X.prog X.w X.K X.mg X.base k C "__getitem__" sp) (hr : Room j X.A) (hk : k + 1 ≤ j) (ha : PE X a ta) (hb : PE X b tb) (hs : PlainIxO b) : PE X (.Subscript a b pos) (tOp (rIxO C sp) ta tb) := by
  obtain ⟨f, fd, ps, F, bd, hi, hf, ho⟩ := d.ex
  refine ⟨fun pins s σ H Q I h => ?_⟩
  refine Subscript_ (binT ha hb I (R := fun x y H2 => rIxO C sp x y H2 Q) h fun v u s2 x y H2 I2 rx ry q => ?_)
  obtain ⟨a0, dx, fs, rfl, h0, q⟩ := q
  obtain rfl : v = Value.ref a0 := rx
  obtain ⟨ox, od, J, _⟩ := StX.insC_at (C := C) I2 (.inr ⟨dx, fs, h0⟩)
  obtain ⟨m, hF⟩ := I2.fr
  have hr1 : Room k X.A.in1 := (show Room k X.A.in1 from Room.in1 (hr.mono hk))
  exact PySem.W.sub_K hF I2.ok.mod.kin J hi ho hf (run_in (us := [.ref a0, u]) (ws := [.ref a0, y]) (fnR_of F bd) hr1 I2.env0.in1 pass0 I2 (.cons rfl (.cons ry .nil)) q) (hs a a0 u)
end
end Sh
set_option Elab.async false
set_option linter.all false
set_option maxRecDepth 100000
set_option maxHeartbeats 2000000
/-! iter(t) of a tuple; list(o), o an instance whose __iter__ gives such an iterator and that has a __len__ -/
namespace Sh
open PySem PySem.Spec PyProof.Rows L2
/-- an iterator of the tuple at t stands at it -/
def TiO (t it : Addr) : HO := .ext fun h => h.IsTupleIter it t 0
theorem tiO_ok {P : Program} {w : World} {H : Hp} {h : Heap} {t it : Addr} (e : h.IsTupleIter it t 0) : ObjOk P w H h it (TiO t it) :=
  ⟨e, (let ⟨o, ho, _⟩ := e; ⟨o, ho⟩), fun h1 h2 q k => let ⟨o, ho, r⟩ := q; ⟨o, k _ ho, r⟩⟩
def rIterT (K : PySem.W.Frag) : List V → Hp → VK → Prop := fun xs H Q => ∃ (t : Addr) (zs : List V), xs = [.ref t] ∧ SqT K H t zs ∧ ∀ it, H it = none → (∀ b o, H b = some o → b < it) → Q (.ref it) (upd H it (TiO t it))
theorem call_iterT {X : Cx} : CallR X (.builtin "iter") (rIterT X.K) := by
  intro pins s σ H xs us Q I r h
  obtain ⟨t, zs, rfl, hq, q⟩ := h
  obtain ⟨u, rfl, ru⟩ := vals1 r
  cases ru
  obtain ⟨its, rv, pl, hz⟩ := I.tuple hq
  have pl2 : s.heap.IsTuple t its.toArray := pl
  refine Calls.call_function_entry (by decide +kernel) (by decide +kernel) PySem.W.kdk_entry_iter (PySem.W.kdk_args_iter _) ?_
  unfold Builtin.«iter»
  refine wpAny_bind (m := someArgs "iter" 1 2 _) (wpAny_of_eq (a := [Value.ref t]) (by first | rfl | kernel_rfl!) ?_)
  show wpAny _ _ (pyIter (.ref t) >>= _) _ _ _
  refine wpAny_bind (wpAny_pyIter_tuple pl2 ?_)
  exact wpAny_pure ⟨_, rfl, .ref s.heap.objs.size, _, I.laid (t' := s.toks) (fun b u e => Heap.get?_push_of_some _ e) (Nat.le_refl _) (tiO_ok ⟨_, Heap.get?_push_size _ rfl, rfl, rfl⟩), rfl, q _ (I.hok.fresh (Nat.le_refl _)) fun b o e => Nat.lt_of_not_le fun hb => (by rw [I.hok.fresh hb] at e; cases e)⟩
section
variable {X : Cx} {pins : List (Addr × Obj)} {σ : L2.St} {H : Hp} {s : Shared} {a q t it : Addr} {A1 : Around}
/-- the list grows by the tuple's items, one after the other -/
theorem tup_loop {Rs : Result → Shared → Prop} {xs : List V} (hh : A1.handled = none) (hz : xs.length ≤ sizeLine) :
    ∀ (k i : Nat) (H0 : Hp) (s : Shared), xs.length - i = k → i ≤ xs.length → Inv X pins σ (upd H0 q (.lst (xs.take i))) s → FpOk X pins (upd H0 q (.lst (xs.take i))) it → it ≠ q → it ≠ t → s.heap.IsTupleIter it t i → SqT X.K (upd H0 q (.lst (xs.take i))) t xs →
      (∀ s', Inv X pins σ (upd H0 q (.lst xs)) s' → Rs (.ok (.ret .none)) s') → codeAny (model X.prog X.w) A1 (.builtin "list.extend.loop" ⟨[.ref q, .ref it, .none], []⟩) Rs s := by
  intro k
  induction k with
  | zero =>
    intro i H0 s hk hi I fp hiq hit hti hq fin
    have hin : i = xs.length := by omega
    subst hin
    obtain ⟨its, rv, pl, _⟩ := I.tuple hq
    have pl2 : s.heap.IsTuple t its.toArray := pl
    refine codeAny_builtin PySem.F.entry_extend_loop ?_
    rw [Around.under_plainId PySem.F.plain_extend_loop _]
    show wpAny _ A1.in1 (pyNext (.ref it) >>= _) _ _ s
    obtain ⟨f0, f1, f2, f3, f4, f5⟩ := fp
    refine wpAny_bind (wpAny_pyNext_tuple_end hh hti pl2 (Array.getElem?_eq_none (by rw [List.size_toArray, ← rv.length]; exact Nat.le_refl _)) fun h' eb => ?_)
    have Ia := I.turned (t' := s.toks) (fun b o hb e => eb b o hb e) f0 f1 f3 f4 f5
    rw [List.take_length] at Ia
    exact wpAny_pure (fin _ Ia)
  | succ k ih =>
    intro i H0 s hk hi I fp hiq hit hti hq fin
    have hlt : i < xs.length := by omega
    obtain ⟨its, rv, pl, _⟩ := I.tuple hq
    have pl2 : s.heap.IsTuple t its.toArray := pl
    obtain ⟨w, ew, rw'⟩ := rv.get (show xs[i]? = some xs[i] by simp [hlt])
    refine codeAny_builtin PySem.F.entry_extend_loop ?_
    rw [Around.under_plainId PySem.F.plain_extend_loop _]
    show wpAny _ A1.in1 (pyNext (.ref it) >>= _) _ _ s
    obtain ⟨f0, f1, f2, f3, f4, f5⟩ := id fp
    refine wpAny_bind (wpAny_pyNext_tuple_item hti pl2 (x := w) (by simpa using ew) fun h' hti' sb => ?_)
    have Ia := I.turned (t' := s.toks) (fun b o hb e => (sb.2 b hb).trans e) f0 f1 f3 f4 f5
    show wpAny _ A1.in1 (updateSeq q (·.push w) >>= _) _ _ _
    obtain ⟨z, its2, n, r2, hl, e⟩ := Ia.lstM upd_same
    have htk : xs.take (i + 1) = xs.take i ++ [xs[i]] := by rw [List.take_succ, List.getElem?_eq_getElem hlt]; rfl
    have l1 : (xs.take i).length = i := by rw [List.length_take]; omega
    refine wpAny_bind (wpAny_updateSeq e rfl (wpAny_pure ⟨plainId_quiet PySem.F.plain_extend_loop _, ?_⟩) (by rw [List.size_toArray]; omega) (by show (its2.toArray.push w).size ≤ sizeLine + 1; rw [Array.size_push, List.size_toArray]; omega))
    have Ib := Ia.lset (f := (·.push w)) (its' := its2 ++ [w]) (ys := xs.take i ++ [xs[i]]) (t' := s.toks) upd_same e (by simp) (r2.append (.cons rw' .nil)) (by rw [List.length_append, l1]; show i + 1 ≤ _; omega)
    rw [upd_upd, ← htk] at Ib
    have ne1 : ∀ {u : HO}, (upd H0 q u) it = (upd H0 q (.lst (xs.take i))) it := fun {u} => by rw [upd_ne hiq, upd_ne hiq]
    refine ih (i + 1) H0 _ (by omega) (by omega) Ib ⟨by rw [ne1]; exact f0, f1, f2, f3, f4, f5⟩ hiq hit ?_ ?_ fin
    · obtain ⟨o, ho, r⟩ := hti'
      exact ⟨o, (Heap.get?_update_other _ _ (fun z => hiq z.symm)).trans ho, r⟩
    · have hk : Keep (upd H0 q (.lst (xs.take i))) (upd H0 q (.lst (xs.take (i + 1)))) := by
        have := Keep.butL (H := upd H0 q (.lst (xs.take i))) (H' := upd (upd H0 q (.lst (xs.take i))) q (.lst (xs.take (i + 1)))) but_upd upd_same
        rw [upd_upd] at this
        exact this
      exact hk.seq hq
end
end Sh
set_option Elab.async false
set_option linter.all false
set_option maxRecDepth 100000
set_option maxHeartbeats 2000000
/-! list(o), o an instance whose __iter__ gives an iterator of a tuple, with an own __len__ -/
namespace Sh
open PySem PySem.Spec PyProof.Rows L2
theorem nx_tupleiter {A : Around} {Q : Value → Shared → Prop} {E : Value → Shared → Prop} {s : Shared} {it t : Addr} {prog : Program} {w : World} (x : s.heap.IsTupleIter it t 0) (q : Q (.ref it) s) : PySem.W.OwitIt (model prog w) A Q E (.ref it) s := by
  unfold PySem.W.OwitIt
  exact wpAny_specialOf (name := Str.ofString "__next__") x.typeIs PySem.F.slot_tuple_iterator_next.lookup q
/-- how many things o says it has -/
theorem hint_len {prog : Program} {w : World} {A : Around} {E : Value → Shared → Prop} {Q : Bool → Shared → Prop} {K : PySem.W.Frag} {ox : Obj} {od : Option Obj} {C f a : Addr} {s : Shared} (hlen : PySem.W.findIn K (.ref C) "__len__" = some (some (.ref f))) (hK : K.In s.heap) (J : PySem.W.InstAt s.heap a ox C od)
    (h : wpAny (model prog w) A (call (.builtin "len") [.ref a]) (fun v s1 => ∃ (i : Nat) (t : Tok), v = .int i t ∧ i ≤ sizeLine ∧ ∀ b, Q b s1) (fun _ _ => False) s) :
    wpAny (model prog w) A (Builtin.List.listLengthHint (.ref a)) Q E s := by
  unfold Builtin.List.listLengthHint
  refine wpAny_bind (wpAny_bind (J.type.here ((PySem.W.looks_findIn hK hlen).here ?_)))
  refine PySem.W.KFB.if_not rfl ?_
  refine PySem.W.KFB.if_so rfl ?_
  refine wpAny_bind (wpAny_rule ?_)
  refine wpAny_bind (wpAny_attempt (wpAny_mono h (fun v s1 got => ?_) (fun _ _ z => z.elim)))
  obtain ⟨i, t, rfl, hi, q⟩ := got
  dsimp only
  refine wpAny_bind ?_
  show wpAny _ _ (pure (some (i : Int))) _ _ _
  refine wpAny_pure ?_
  dsimp only
  refine PySem.W.KFB.if_not (by rw [Int.toNat_natCast]; exact notLongL hi) ?_
  exact wpAny_pure (q _)
end Sh
namespace Sh
open PySem PySem.Spec PyProof.Rows L2
section
variable {X : Cx} {pins : List (Addr × Obj)} {σ : L2.St} {C g : Addr} {n : Nat} {sp : Sp}
/-- a callee that lets nothing out, called from anywhere below -/
theorem run_in0 {H : Hp} {s : Shared} {A : Around} {Q : VK} {us : List Value} {ws : List V} {E1 : Value → Shared → Prop} (F : FnR X.prog X.w X.K X.mg X.base CX0 n g sp) (hr : Room n A) (e0 : Env0 X.prog X.w X.K X.mg X.base A X.stack s H)
    (I : Inv X pins σ H s) (r : Vals ws us) (h : sp ws H Q E0) : wpAny (model X.prog X.w) A (call (.ref g) us) (EP X pins σ Q) E1 s := by
  refine wpAny_call (codeAny_mono (F A X.stack s H us ws Q E0 hr e0 r h) fun r s' got => ?_)
  cases r with
  | error er => exact False.elim got
  | ok fl =>
    cases fl with
    | ret u => exact I.after got
    | next => exact False.elim got
    | brk => exact False.elim got
    | cont => exact False.elim got
/-- list(o): the iterator that __iter__ gives is one of the tuple at t -/
def rListI (K : PySem.W.Frag) (C : Addr) (spI spL : Sp) : List V → Hp → VK → Prop := fun xs H Q => ∃ (a dx : Addr) (fs : List (Str × V)) (t : Addr) (zs : List V), xs = [.ref a] ∧ H a = some (.ins C dx fs) ∧ SqT K H t zs ∧ ∀ q, H q = none →
  spI [.ref a] (upd H q (.lst [])) (fun v H' => ∃ it, v = .ref it ∧ (upd H q (.lst [])) it = none ∧ q < it ∧ H' = upd (upd H q (.lst [])) it (TiO t it)) E0 ∧
  (∀ it, (upd H q (.lst [])) it = none → spL [.ref a] (upd (upd H q (.lst [])) it (TiO t it)) (fun v H' => ∃ i : Nat, v = .int (i : Nat) ∧ i ≤ sizeLine ∧ i < 2 ^ 63 ∧ H' = upd (upd H q (.lst [])) it (TiO t it)) E0) ∧ Q (.ref q) (upd H q (.lst zs))
theorem call_listI {kI kL j : Nat} {spI spL : Sp} (hc : X.calm = true) (dI : MetC X.prog X.w X.K X.mg X.base kI C "__iter__" spI) (dL : MetC X.prog X.w X.K X.mg X.base kL C "__len__" spL) (hr : Room j X.A) (h1 : kI + 4 ≤ j) (h2 : kL + 5 ≤ j) : CallR X (.type "list") (rListI X.K C spI spL) := by
  obtain ⟨fI, fdI, psI, FI, bI, iI, nI, oI⟩ := dI.ex
  obtain ⟨fL, fdL, psL, FL, bL, iL, nL, oL⟩ := dL.ex
  intro pins s σ H xs us Q I rv h
  obtain ⟨a, dx, fs, t, zs, rfl, ha, hzs, hq⟩ := h
  obtain ⟨u, rfl, ru⟩ := rv.one
  cases ru
  refine callType_codes (Q₁ := fun obj s1 => obj = .ref s.heap.objs.size ∧ s1 = { s with heap := s.heap.push { cls := .type "list", data := .seq #[] } }) PySem.F.called_list (PySem.F.typeCall_list_1 _) PySem.F.entry_list_init
    (code_list_new _ ⟨rfl, rfl⟩) fun obj s1 got => ?_
  obtain ⟨rfl, rfl⟩ := got
  have hS : (s.heap.push { cls := .type "list", data := .seq #[] }).get? s.heap.objs.size = some { cls := .type "list", data := .seq #[] } := Heap.get?_push_size _ rfl
  refine ⟨⟨_, hS, rfl⟩, PySem.F.args_list_init_2 _ _, ?_⟩
  have fr : H s.heap.objs.size = none := I.hok.fresh (Nat.le_refl _)
  have hsz : X.s_0.heap.objs.size ≤ s.heap.objs.size := I.sz
  obtain ⟨hI, hL, qz⟩ := hq _ fr
  have Ia : Inv X pins σ (upd H s.heap.objs.size (.lst [])) { s with heap := s.heap.push { cls := .type "list", data := .seq #[] } } := I.lnew (its := []) (t' := s.toks) .nil (Nat.zero_le _)
  generalize hLe : s.heap.objs.size = L at *
  show wpAny _ _ (do let old ← Builtin.List.listItems (.ref L); Builtin.List.listUpdate (.ref L) (fun _ => #[]); letGo old.toList.reverse; Builtin.List.listExtendWith (.ref L) (.ref a) .none) _ _ _
  refine wpAny_bind ?_
  unfold Builtin.List.listItems
  refine wpAny_bind (wpAny_seqItems hS rfl (wpAny_pure ?_))
  show wpAny _ _ (updateSeq L (fun _ => #[]) >>= fun _ => letGo (#[] : Array Value).toList.reverse >>= fun _ => Builtin.List.listExtendWith (.ref L) (.ref a) .none) _ _ _
  refine wpAny_bind (wpAny_updateSeq hS rfl ?_)
  have Ib := Ia.lset (f := fun _ => #[]) (its := []) (its' := []) (ys := []) (t' := s.toks) upd_same hS rfl .nil (Nat.zero_le _)
  rw [upd_upd] at Ib
  refine wpAny_bind (wpAny_letGo ?_)
  generalize hsb : ({ s with heap := (s.heap.push { cls := .type "list", data := .seq #[] }).update L (Obj.mapSeq fun _ => #[]), toks := s.toks } : Shared) = sb at Ib
  have ha2 : (upd H L (.lst [])) a = some (.ins C dx fs) := by rw [upd_ne (ne_of_none ha fr)]; exact ha
  have hzq : SqT X.K (upd H L (.lst [])) t zs := (Keep.same (same_new fr)).seq hzs
  generalize hHq : upd H L (.lst []) = Hq at Ib ha2 hzq hI hL
  have hLq : Hq L = some (.lst []) := by rw [← hHq]; exact upd_same
  have hne : L ≠ a := ne_of hLq ha2 (fun z => nomatch z)
  obtain ⟨mA, J, _⟩ := ins_get Ib.hok ha2
  obtain ⟨od, J, _⟩ := J.look
  obtain ⟨m0, hF⟩ := Ib.fr
  have rI : Room kI X.A.in1.in1 := (show Room (kI + 1) X.A.in1 from (show Room (kI + 2) X.A from hr.mono (by omega)).in1).in1
  have rL : Room kL X.A.in1.in1.in1 := (show Room (kL + 1) X.A.in1.in1 from (show Room (kL + 2) X.A.in1 from (show Room (kL + 3) X.A from hr.mono (by omega)).in1).in1).in1
  unfold Builtin.List.listExtendWith
  refine wpAny_bind (J.type.here ?_)
  have c1 : Builtin.List.listSameRef (.ref L) (.ref a) = false := by simp [Builtin.List.listSameRef, hne]
  have c2 : (Value.ref C == Value.type "list") = false := rfl
  have c3 : (Value.ref C == Value.type "tuple") = false := rfl
  simp only [c1, c2, c3, Bool.or_false, Bool.false_eq_true, if_false]
  refine wpAny_bind (PySem.W.owit_iter hF Ib.ok.mod.kin J iI nI ?_)
  refine wpAny_mono (run_in0 (us := [.ref a]) (ws := [.ref a]) (fnR_of FI bI) rI Ib.env0.in1.in1 Ib (.cons rfl .nil) hI) (fun v s2 got => ?_) fun _ _ z => z
  obtain ⟨v', H', Ic, rv', it, rfl, hitn, hn0, rfl⟩ := got
  cases rv'
  have hti := (Ic.hok it _ upd_same).1
  refine nx_tupleiter hti ?_
  have hLit : L ≠ it := fun z => by rw [← z, hLq] at hitn; cases hitn
  have hait : a ≠ it := fun z => by rw [← z, ha2] at hitn; cases hitn
  have ha3 : (upd Hq it (TiO t it)) a = some (.ins C dx fs) := by rw [upd_ne hait]; exact ha2
  obtain ⟨mB, Jb, _⟩ := ins_get Ic.hok ha3
  obtain ⟨od2, Jb, _⟩ := Jb.look
  obtain ⟨m1, hF1⟩ := Ic.fr
  refine wpAny_bind (wpAny_holding (hint_len iL Ic.kIn Jb (PySem.W.len_K hF1 Ic.ok.mod.kin Jb iL nL (wpAny_mono (run_in0 (us := [.ref a]) (ws := [.ref a]) (fnR_of FL bL) rL Ic.env0.in1.in1.in1 Ic (.cons rfl .nil) (hL it hitn)) (fun v2 s3 got => ?_) fun _ _ z => z))))
  obtain ⟨v3, H3, Id, rv3, i, rfl, hi1, hi2, rfl⟩ := got
  obtain ⟨tk3, rfl⟩ := rv3
  refine ⟨⟨by omega, by omega⟩, i, _, rfl, hi1, fun b => ?_⟩
  have Ie : Inv X pins σ (upd Hq it (TiO t it)) { s3 with toks := s3.toks + 1 } := Id.tok _
  have hti3 := (Ie.hok it _ upd_same).1
  have If_ := ItX.inv_drop (φ := fun h => h.IsTupleIter it t 0) Ie upd_same
  have fp := ItX.inv_fp (H := upd Hq it (TiO t it)) (u := TiO t it) Ie upd_same (Nat.le_of_lt (Nat.lt_of_le_of_lt hsz hn0))
  rw [ItX.dropH_upd hitn] at If_ fp
  have hitt : it ≠ t := fun z => by
    obtain ⟨its, _, pl, _⟩ := If_.tuple hzq
    obtain ⟨o1, e1, k1, _⟩ := hti3
    obtain ⟨o2, e2, k2⟩ := (show ({ s3 with toks := s3.toks + 1 } : Shared).heap.IsTuple t its.toArray from pl).typeIs
    rw [z] at e1
    rw [e1] at e2
    cases e2
    rw [k1] at k2
    exact absurd (Value.type.inj k2) (by decide)
  obtain ⟨zl, _, _⟩ : zs.length ≤ sizeLine ∧ True ∧ True := by
    obtain ⟨its, _, _, hz⟩ := If_.tuple hzq
    exact ⟨by first | exact hz | omega, trivial, trivial⟩
  have eHq : ∀ ys, upd Hq L (.lst ys) = upd H L (.lst ys) := fun ys => by rw [← hHq, upd_upd]
  have eH0 : upd Hq L (.lst (zs.take 0)) = Hq := by
    rw [List.take_zero, ← hHq, upd_upd]
  have go : ∀ s4, Inv X pins σ Hq s4 → s4.heap.IsTupleIter it t 0 → codeAny (model X.prog X.w) X.A.in1 (.builtin "list.extend.loop" ⟨[.ref L, .ref it, .none], []⟩) (wants (fun r s₂ => r = Value.none ∧ EP X pins σ Q (Value.ref L) s₂) X.xe) s4 := fun s4 I4 ht4 => by
    refine tup_loop (A1 := X.A.in1) (xs := zs) (t := t) (show X.A.in1.handled = none from I.ok.hd hc) zl zs.length 0 Hq s4 (by omega) (by omega) (by rw [eH0]; exact I4) (by rw [eH0]; exact fp) hLit.symm hitt ht4 (by rw [eH0]; exact hzq) fun s5 I5 => ?_
    rw [eHq] at I5
    exact ⟨rfl, .ref L, _, I5, rfl, qz⟩
  refine wpAny_ite_split (fun _ => ?_) (fun _ => wpAny_pure ⟨plainId_quiet PySem.F.plain_extend_loop _, go _ If_ hti3⟩)
  obtain ⟨z, its, k, r3, hl3, e3⟩ := If_.lstM hLq
  cases r3
  have ht3 : it ≠ L := fun z => hLit z.symm
  refine wpAny_bind (wpAny_rule ?_)
  refine wpAny_bind ?_
  show wpAny _ _ (updateSeq L (·.push .none) >>= fun _ => updateSeq L (·.pop)) _ _ _
  refine wpAny_bind (wpAny_updateSeq e3 rfl ?_)
  have I2 := If_.lset (f := (·.push Value.none)) (its' := [Value.none]) (ys := [.non]) (t' := s3.toks + 1) hLq e3 (by simp) (.cons rfl .nil) (by rw [List.length_singleton, sizeLine_eq]; decide)
  obtain ⟨z4, its4, k4, r4, hl4, e4⟩ := I2.lstM upd_same
  obtain ⟨u4, rfl, ru4⟩ := r4.one
  have ht5 : ({ s3 with heap := s3.heap.update L (Obj.mapSeq (·.push Value.none)), toks := s3.toks + 1 } : Shared).heap.IsTupleIter it t 0 := by
    obtain ⟨o1, e1, k1⟩ := hti3
    exact ⟨o1, (Heap.get?_update_other _ _ hLit).trans e1, k1⟩
  refine wpAny_updateSeq e4 rfl ?_ (by show 1 ≤ sizeLine; rw [sizeLine_eq]; decide) (by show 0 ≤ sizeLine + 1; exact Nat.zero_le _)
  refine wpAny_pure ⟨plainId_quiet PySem.F.plain_extend_loop _, go _ ?_ ?_⟩
  · have I3 := I2.lset (f := (·.pop)) (its := [u4]) (its' := []) (ys := []) (t' := s3.toks + 1) upd_same e4 (by rfl) .nil (Nat.zero_le _)
    rw [upd_upd] at I3
    have hH : upd Hq L (.lst []) = Hq := by
      funext b
      by_cases hb : b = L
      · rw [hb, upd_same, hLq]
      · rw [upd_ne hb]
    rw [hH] at I3
    exact I3
  · obtain ⟨o1, e1, k1⟩ := ht5
    exact ⟨o1, (Heap.get?_update_other _ _ hLit).trans e1, k1⟩
end
end Sh
namespace Sh
open PySem PySem.Spec PyProof.Rows L2
theorem tyT {K : PySem.W.Frag} {H : Hp} {a : Addr} {xs : List V} (h : SqT K H a xs) : TyX K H (.ref a) (.type "tuple") := by
  rcases h with (h | ⟨o, h⟩) | ⟨o, its, n, hk, hc, _⟩
  · exact .base (.tup h)
  · exact .fTuple h
  · exact .kTuple hk hc
/-- isinstance(x, C), x an instance of C or a tuple -/
theorem call_isCT {X : Cx} {C : Addr} (c : C8.InsC X.K C) (hk : PySem.W.kitOne X.K (.type "tuple") (.ref C) = some false) : CallR X (.builtin "isinstance") (fun xs H Q => (∃ a dx fs, xs = [.ref a, .ref C] ∧ H a = some (.ins C dx fs) ∧ Q (.bl true) H) ∨ ∃ a ys, xs = [.ref a, .ref C] ∧ SqT X.K H a ys ∧ Q (.bl false) H) := by
  intro pins s σ H xs us Q I r h
  rcases h with h | ⟨a, ys, rfl, hq, q⟩
  · exact C8.call_isC c pins s σ H xs us Q I r h
  · exact call_isi pins s σ H _ us Q I r ⟨.ref a, .ref C, .type "tuple", .ref C, false, rfl, .own C, (tyT hq), hk, q⟩
end Sh
set_option Elab.async false
set_option linter.all false
set_option maxRecDepth 100000
set_option maxHeartbeats 4000000
namespace Sh
open PySem PySem.Spec PyProof.Rows L2
open SX (S S_inj S_len S_cat)
local macro_rules | `(tactic| walk_at "nx") => `(tactic| repeat (with_reducible first | refine Sh.gn_mk ?_ | refine Sh.nx_mk ?_ | refine Sh.st_nx ?_ | refine Sh.rt_mk ?_ | refine Sh.ct_mk ?_ | refine Sh.bk_mk ?_))
local macro_rules | `(tactic| walk_at "sq") => `(tactic| first | exact SqL.of upd_same | exact SqT.of upd_same | exact SqL.of (by assumption) | exact SqT.of (by assumption) | assumption | exact Or.inl (SqL.of (by assumption)) | exact Or.inr (SqT.of (by assumption)) | exact Or.inl (by assumption) | exact Or.inr (by assumption))
local macro_rules | `(tactic| walk_at "hp") => `(tactic| first | exact upd_same | assumption)
local macro_rules | `(tactic| walk_at "sz") => `(tactic| first | exact Nat.le_of_ble_eq_true rfl | omega)
local macro_rules | `(tactic| walk_at "sd") => `(tactic| first | omega | exact rfl | assumption | (show (0 : Int) < _; omega) | exact And.intro (by omega) (by omega) | exact Or.inl (And.intro (by omega) (by omega)) | exact Or.inr (And.intro (by omega) (by omega)) | omega | exact Sh.sz_S (by omega) | decide)
local macro_rules | `(tactic| walk_at "rd1") => `(tactic| first
  | (with_reducible first | refine Sh.gn_mk ?_ | refine Sh.nx_mk ?_ | refine Sh.st_nx ?_ | refine Sh.rt_mk ?_ | refine Sh.ct_mk ?_ | refine Sh.bk_mk ?_)
  | refine Exists.intro (α := V) _ (And.intro rfl ?_)
  | refine Exists.intro (α := Bool) _ (And.intro rfl ?_)
  | refine Exists.intro (α := Int) _ (And.intro rfl ?_)
  | refine Exists.intro (α := PySem.Str) _ (And.intro rfl ?_)
  | refine Exists.intro (α := Int) _ (Exists.intro (α := Int) _ (And.intro rfl (And.intro rfl ?_)))
  | refine Exists.intro (α := PySem.Str) _ (Exists.intro (α := PySem.Str) _ (And.intro rfl (And.intro rfl ?_)))
  | refine Exists.intro (α := Int) _ (Exists.intro (α := Int) _ (And.intro rfl ?_))
  | refine Or.inl (Exists.intro (α := Int) _ (And.intro rfl ?_))
  | refine Exists.intro _ (Exists.intro _ (Exists.intro _ (Exists.intro _ (And.intro rfl (And.intro rfl (And.intro (by walk_at "sq") (And.intro rfl ?_)))))))
  | refine Exists.intro _ (Exists.intro _ (Exists.intro _ (Exists.intro _ (And.intro rfl (And.intro rfl (And.intro (by walk_at "hp") (And.intro rfl ?_)))))))
  | refine And.intro (by walk_at "sd") ?_
  )
local macro_rules | `(tactic| walk_at "rd") => `(tactic| repeat walk_at "rd1")
local macro_rules | `(tactic| walk_at "lk") => `(tactic| first | exact rfl | (rw [lookup_putF, if_pos rfl]) | (rw [lookup_putF, if_neg (by decide +kernel)]; walk_at "lk"))

section
variable {P : Program} {w : World} {K : PySem.W.Frag} {mg : Str → Option Value} {base : Heap} {CB XR FE DI XS FT DT XT SE : Addr}
/-- is_integer of a number, or of what is none -/
def spIsInt (K : PySem.W.Frag) : Sp := fun vs H Q _ => (∃ z lo hi : Int, vs = [.int z, .int lo, .int hi] ∧ Q (.bl (decide (lo ≤ z) && decide (z ≤ hi))) H) ∨ ∃ (v a b : V) (n : String), vs = [v, a, b] ∧ TyX K H v (.type n) ∧ n ∈ tys ∧ n ≠ "int" ∧ Q (.bl false) H
theorem isaB_int {n : String} (h : n ∈ tys) : isaB n "int" = (n == "int" || n == "bool") := by
  simp only [tys, List.mem_cons, List.not_mem_nil, or_false] at h
  rcases h with rfl | rfl | rfl | rfl | rfl | rfl | rfl <;> decide
theorem isaB_bool {n : String} (h : n ∈ tys) : isaB n "bool" = (n == "bool") := by
  simp only [tys, List.mem_cons, List.not_mem_nil, or_false] at h
  rcases h with rfl | rfl | rfl | rfl | rfl | rfl | rfl <;> decide
/-- BadText, BadRun: what __init__ keeps -/
def okAny : V → Prop := fun _ => True
theorem x_WrongThing (T : TxtX P K mg CB XR FE DI XS FT DT XT SE) : XiOk P w K mg base 1 FT (spX1 K DT "thing" okAny) := by
  obtain ⟨fd, SF, b⟩ := T.q_WrongThing.ex
  refine ⟨fd, _, fn_sup SF nsc_WrongThing rfl rfl (fun vs H Q E h => ?_) (fun cc cda A outer s H vs Q E hr h => ?_), b⟩
  · obtain ⟨a, C, v, rfl, _⟩ := h
    rfl
  · obtain ⟨a, C, v, rfl, o, sc, hno, ea, _, k⟩ := h
    refine ⟨_, _, _, (pa_cons pe_str pa_nil), (pss_cons (ps_ost (pv 0) (pv 1)) pss_nil), rfl, fun _ => rfl, rfl, ?_⟩
    refine ⟨a, C, _, rfl, o, sc, ea, ?_⟩
    refine ⟨by simp, ea, _, rfl, _, rfl, a, C, rfl, o, hno, .inl ⟨ea, fun dx n1 n2 => ?_⟩⟩
    exact k dx n1 n2
/-- BadRun: a small number -/
def okNum : V → Prop := fun v => ∃ i : Int, v = .int i ∧ -1 ≤ i ∧ i ≤ 1000
theorem num_short : ∀ n : Nat, n < 1002 → (Str.ofString (toString ((n : Int) - 1))).length ≤ 5 ∧ ((n : Int) - 1).natAbs.log2 < 1920 := by decide +kernel
theorem x_WrongItem (T : TxtX P K mg CB XR FE DI XS FT DT XT SE) : XiOk P w K mg base 1 FE (spX1 K DI "place" okNum) := by
  obtain ⟨fd, SF, b⟩ := T.q_WrongItem.ex
  refine ⟨fd, _, fn_sup SF nsc_WrongItem rfl rfl (fun vs H Q E h => ?_) (fun cc cda A outer s H vs Q E hr h => ?_), b⟩
  · obtain ⟨a, C, v, rfl, _⟩ := h
    rfl
  · obtain ⟨a, C, v, rfl, o, sc, hno, ea, ⟨i, rfl, h1, h2⟩, k⟩ := h
    refine ⟨_, _, _, (pa_cons (pe_op op_add_str (pe_op op_add_str pe_str (pe_callTy call_str_int (by rfl) T.b_str (by decide +kernel) (pa_cons (pv 1) pa_nil))) pe_str) pa_nil), (pss_cons (ps_ost (pv 0) (pv 1)) pss_nil), rfl, fun _ => rfl, rfl, ?_⟩
    refine ⟨a, C, _, rfl, o, sc, ea, ?_⟩
    obtain ⟨l5, lg⟩ := num_short (i + 1).toNat (by omega)
    rw [show (((i + 1).toNat : Nat) : Int) - 1 = i by omega] at l5 lg
    have hsl : (1100 : Nat) ≤ sizeLine := by decide
    have e1 : (Str.ofString "the thing at the place ").length = 23 := by decide
    have e2 : (Str.ofString " is wrong").length = 9 := by decide
    refine ⟨_, rfl, _, rfl, lg, _, _, rfl, rfl, by omega, _, _, rfl, rfl, ?_, ?_⟩
    · rw [PySem.Str.length_append, e1, e2]; omega
    refine ⟨by simp, ea, _, rfl, _, rfl, a, C, rfl, o, hno, .inl ⟨ea, fun dx n1 n2 => ?_⟩⟩
    exact k dx n1 n2
/-- TooMany: a short word -/
def okWord : V → Prop := fun v => ∃ s : Str, v = .str s ∧ s.length ≤ 1000
end
end Sh
set_option Elab.async false
set_option linter.all false
set_option maxRecDepth 100000
set_option maxHeartbeats 4000000
namespace Sh
open PySem PySem.Spec PyProof.Rows L2
open SX (S S_inj S_len S_cat)
open Bk (Rule firstAt lg bestUp used left drain pushS Wf)
theorem hu65_of {k : Nat} {A : Around} (hr : Room k A) : A.units + 65 < cLine := by
  have := hr.un
  omega
/-- a rule as data -/
def rD (r : Rule) : PyData := .tuple [.str (S r.1), .str (S r.2)]
theorem rD_eqv (a b : Rule) : PyData.eqv (rD a) (rD b) = decide (a = b) := by
  show (S a.1 == S b.1 && (S a.2 == S b.2 && true)) = _
  rw [Bool.and_true, Bool.eq_iff_iff]
  simp only [Bool.and_eq_true, beq_iff_eq, decide_eq_true_eq]
  constructor
  · rintro ⟨h, k⟩
    exact Prod.ext (S_inj h) (S_inj k)
  · rintro rfl
    exact ⟨rfl, rfl⟩
def Chars (t : List Nat) : Prop := ∀ c ∈ t, c < 1114112
theorem strOk_S {t : List Nat} (h : Chars t) : PyData.strOk (S t) = true := by
  unfold PyData.strOk
  show (Array.all _ _) = true
  rw [← Array.all_toList, List.all_eq_true]
  intro c hc
  exact decide_eq_true (h c hc)
def RChars (R : List Rule) : Prop := ∀ r ∈ R, Chars r.1 ∧ Chars r.2
theorem shaped_rule {r : Rule} (h : Chars r.1 ∧ Chars r.2) : SeqAt.shaped (rD r) = true := by
  unfold SeqAt.shaped
  rw [Bool.and_eq_true]
  refine ⟨?_, decide_eq_true (show (1 : Nat) ≤ 64 by decide)⟩
  show (PyData.strOk (S r.1) && (PyData.strOk (S r.2) && true)) = true
  rw [strOk_S h.1, strOk_S h.2]; rfl
theorem lay_rules : ∀ {R : List Rule}, RChars R → PyData.canLayAll0 (R.map rD) = true ∧ PyData.depthAll (R.map rD) ≤ 1
  | [], _ => ⟨rfl, Nat.zero_le _⟩
  | r :: R, h => by
    obtain ⟨h1, h2⟩ := lay_rules (R := R) fun x m => h x (List.mem_cons_of_mem _ m)
    have h3 := h r List.mem_cons_self
    refine ⟨?_, ?_⟩
    · show ((PyData.strOk (S r.1) && (PyData.strOk (S r.2) && true)) && PyData.canLayAll0 (R.map rD)) = true
      rw [strOk_S h3.1, strOk_S h3.2, h1]; rfl
    · show max 1 (PyData.depthAll (R.map rD)) ≤ 1
      omega
theorem shaped_rules {R : List Rule} (h : RChars R) : SeqAt.shaped (.list (R.map rD)) = true := by
  obtain ⟨h1, h2⟩ := lay_rules h
  unfold SeqAt.shaped
  rw [Bool.and_eq_true]
  refine ⟨h1, decide_eq_true ?_⟩
  show PyData.depthAll (R.map rD) + 1 ≤ 64
  omega
theorem letters_lt : ∀ c ∈ letters, c < 1114112 := by decide +kernel
theorem signs_chars {sg : List Nat} (h : isSigns sg = true) : Chars sg := by
  intro c hc
  obtain ⟨i, hi, rfl⟩ := List.mem_iff_getElem.mp hc
  simp only [isSigns, Bool.and_eq_true, List.all_eq_true, List.mem_range] at h
  have := h.2 i hi
  simp only [okAt, Bool.and_eq_true, decide_eq_true_eq] at this
  have e : sg.getD i 0 = sg[i] := by
    rw [List.getD_eq_getElem?_getD, List.getElem?_eq_getElem hi]; rfl
  rw [e] at this
  exact letters_lt _ this.1
local macro_rules | `(tactic| walk_at "nx") => `(tactic| repeat (with_reducible first | refine Sh.gn_mk ?_ | refine Sh.nx_mk ?_ | refine Sh.st_nx ?_ | refine Sh.rt_mk ?_ | refine Sh.ct_mk ?_ | refine Sh.bk_mk ?_))
local macro_rules | `(tactic| walk_at "sq") => `(tactic| first | exact SqL.of upd_same | exact SqT.of upd_same | exact SqL.of (by assumption) | exact SqT.of (by assumption) | assumption | exact Or.inl (SqL.of (by assumption)) | exact Or.inr (SqT.of (by assumption)) | exact Or.inl (by assumption) | exact Or.inr (by assumption))
local macro_rules | `(tactic| walk_at "hp") => `(tactic| first | exact upd_same | assumption)
local macro_rules | `(tactic| walk_at "sz") => `(tactic| first | exact Nat.le_of_ble_eq_true rfl | omega)
local macro_rules | `(tactic| walk_at "sd") => `(tactic| first | omega | exact rfl | assumption | (show (0 : Int) < _; omega) | exact And.intro (by omega) (by omega) | exact Or.inl (And.intro (by omega) (by omega)) | exact Or.inr (And.intro (by omega) (by omega)) | omega | exact Sh.sz_S (by omega) | decide)
local macro_rules | `(tactic| walk_at "rd1") => `(tactic| first
  | (with_reducible first | refine Sh.gn_mk ?_ | refine Sh.nx_mk ?_ | refine Sh.st_nx ?_ | refine Sh.rt_mk ?_ | refine Sh.ct_mk ?_ | refine Sh.bk_mk ?_)
  | refine Exists.intro (α := V) _ (And.intro rfl ?_)
  | refine Exists.intro (α := Bool) _ (And.intro rfl ?_)
  | refine Exists.intro (α := Int) _ (And.intro rfl ?_)
  | refine Exists.intro (α := PySem.Str) _ (And.intro rfl ?_)
  | refine Exists.intro (α := Int) _ (Exists.intro (α := Int) _ (And.intro rfl (And.intro rfl ?_)))
  | refine Exists.intro (α := PySem.Str) _ (Exists.intro (α := PySem.Str) _ (And.intro rfl (And.intro rfl ?_)))
  | refine Exists.intro (α := Int) _ (Exists.intro (α := Int) _ (And.intro rfl ?_))
  | refine Or.inl (Exists.intro (α := Int) _ (And.intro rfl ?_))
  | refine Exists.intro _ (Exists.intro _ (Exists.intro _ (Exists.intro _ (And.intro rfl (And.intro rfl (And.intro (by walk_at "sq") (And.intro rfl ?_)))))))
  | refine Exists.intro _ (Exists.intro _ (Exists.intro _ (Exists.intro _ (And.intro rfl (And.intro rfl (And.intro (by walk_at "hp") (And.intro rfl ?_)))))))
  | refine And.intro (by walk_at "sd") ?_
  )
local macro_rules | `(tactic| walk_at "rd") => `(tactic| repeat walk_at "rd1")
local macro_rules | `(tactic| walk_at "lk") => `(tactic| first | exact rfl | (rw [lookup_putF, if_pos rfl]) | (rw [lookup_putF, if_neg (by decide +kernel)]; walk_at "lk"))

section
variable {P : Program} {w : World} {K : PySem.W.Frag} {mg : Str → Option Value} {base : Heap}
def RItem (K : PySem.W.Frag) (H : Hp) (v : V) (r : Rule) : Prop := ∃ q, v = .ref q ∧ SqT K H q (rTup r)
theorem RItem.same {H H' : Hp} {v : V} {r : Rule} (h : RItem K H v r) (k : Keep H H') : RItem K H' v r := let ⟨q, e, s⟩ := h; ⟨q, e, k.seq s⟩
theorem RItem.dp {H : Hp} {v : V} {r : Rule} (h : RItem K H v r) : Dp K H v (rD r) := by
  obtain ⟨q, rfl, s⟩ := h
  exact .tup s (.cons (.str _) (.cons (.str _) .nil))
theorem dpAll_rules {H : Hp} : ∀ {xs : List V} {R : List Rule}, Items (RItem K) H xs R → DpAll K H xs (R.map rD)
  | [], [], _ => .nil
  | [], _ :: _, h => by have := h.1; simp at this
  | _ :: _, [], h => by have := h.1; simp at this
  | x :: xs, r :: R, h => .cons (h.2 0 x r rfl rfl).dp (dpAll_rules (xs := xs) (R := R) ⟨by have := h.1; simpa using this, fun i x y h1 h2 => h.2 (i + 1) x y h1 h2⟩)
theorem RulesAt.items {H : Hp} {a : Addr} {xs : List V} {R : List Rule} (h : RulesAt K H a xs R) : Items (RItem K) H xs R := ⟨h.len, h.it⟩
theorem any_rules {R : List Rule} {r : Rule} : ((R.map rD).any fun z => PyData.eqv z (rD r)) = decide (r ∈ R) := by
  rw [List.any_map, Bool.eq_iff_iff]
  simp only [List.any_eq_true, Function.comp, rD_eqv, decide_eq_true_eq]
  constructor
  · rintro ⟨x, hx, rfl⟩; exact hx
  · intro h; exact ⟨r, h, rfl⟩
variable {CB XR FE DI XS FT DT XT SE : Addr}
def BookOk (sg : List Nat) (R : List Rule) : Prop := isSigns sg = true ∧ R.length ≤ 64 ∧ (∀ r ∈ R, RuleOk sg 4 r) ∧ R.Nodup
theorem BookOk.chars {sg : List Nat} {R : List Rule} (h : BookOk sg R) : RChars R := fun r m =>
  ⟨fun c hc => signs_chars h.1 c ((h.2.2.1 r m).2.2.1 c hc), fun c hc => signs_chars h.1 c ((h.2.2.1 r m).2.2.2.1 c hc)⟩
theorem BookOk.wf {sg : List Nat} {R : List Rule} (h : BookOk sg R) : Wf R := fun r m => ⟨(h.2.2.1 r m).2.2.2.2.2, (h.2.2.1 r m).2.2.2.2.1⟩
/-- is_rule of a pair of texts -/
def isR (sg l r : List Nat) : Bool := isText sg l 1 4 && isText sg r 0 1 && decide (r.length < l.length)
theorem isR_ok {sg l r : List Nat} : isR sg l r = true ↔ RuleOk sg 4 (l, r) := by
  unfold isR isText RuleOk
  simp only [Bool.and_eq_true, decide_eq_true_eq, List.all_eq_true]
  constructor
  · rintro ⟨⟨⟨⟨a, b⟩, c⟩, ⟨d, e⟩, f⟩, g⟩
    exact ⟨by omega, by omega, c, f, by omega, g⟩
  · rintro ⟨a, b, c, d, e, f⟩
    exact ⟨⟨⟨⟨by omega, by omega⟩, c⟩, ⟨by omega, by omega⟩, d⟩, f⟩
def SqA (K : PySem.W.Frag) (H : Hp) (a : Addr) (xs : List V) : Prop := SqL K H a xs ∨ SqT K H a xs
theorem SqA.ty {K : PySem.W.Frag} {H : Hp} {a : Addr} {xs : List V} (h : SqA K H a xs) : ∃ n, TyX K H (.ref a) (.type n) ∧ n ∈ tys ∧ (n == "tuple" || n == "list") = true := by
  rcases h with h | h
  · exact ⟨"list", ty_lst h, by decide, by decide⟩
  · exact ⟨"tuple", ty_tup h, by decide, by decide⟩
theorem SqA.ix {K : PySem.W.Frag} {H : Hp} {a : Addr} {xs : List V} {i : Int} {v : V} {Q : VK} (h : SqA K H a xs) (e : atI xs i = some v) (q : Q v H) : rIx K (.ref a) (.int i) H Q := by
  rcases h with h | h
  · exact .inl ⟨a, xs, i, v, rfl, rfl, h, e, q⟩
  · exact .inr (.inl ⟨a, xs, i, v, rfl, rfl, h, e, q⟩)
theorem SqA.keep {H H' : Hp} {a : Addr} {xs : List V} (h : SqA K H a xs) (k : Same H H') : SqA K H' a xs := by
  rcases h with h | h
  · exact .inl (k.seq h)
  · exact .inr ((Keep.same k).seq h)

def NotLs (K : PySem.W.Frag) (H : Hp) (v : V) : Prop := ∃ n, TyX K H v (.type n) ∧ n ∈ tys ∧ (n == "tuple" || n == "list") = false
theorem tyOf_sm {K : PySem.W.Frag} {H H' : Hp} {v : V} {t : Value} (h : TyOf K H v t) (s : Same H H') : TyOf K H' v t := by
  cases h with
  | non => exact .non
  | bl x => exact .bl x
  | int x => exact .int x
  | str x => exact .str x
  | flt x => exact .flt x
  | lst e => exact .lst (s _ _ e)
  | frz e => exact .frz (s _ _ e)
  | tup e => exact .tup (s _ _ e)
  | dK e => exact .dK (s _ _ e)
  | dT e => exact .dT (s _ _ e)
  | ins e hc ha hn htk hm => exact .ins (s _ _ e) hc ha hn htk hm
theorem tyX_sm {K : PySem.W.Frag} {H H' : Hp} {v : V} {t : Value} (h : TyX K H v t) (s : Same H H') : TyX K H' v t := by
  cases h with
  | base h => exact .base (tyOf_sm h s)
  | byt b => exact .byt b
  | set e => exact .set (s _ _ e)
  | kList e c => exact .kList e c
  | kTuple e c => exact .kTuple e c
  | kDict e c => exact .kDict e c
  | fTuple e => exact .fTuple (s _ _ e)
  | fDict e => exact .fDict (s _ _ e)
theorem NotStr.sm {K : PySem.W.Frag} {H H' : Hp} {v : V} (h : NotStr K H v) (s : Same H H') : NotStr K H' v := let ⟨n, a, b, c⟩ := h; ⟨n, tyX_sm a s, b, c⟩
theorem NotLs.sm {K : PySem.W.Frag} {H H' : Hp} {v : V} (h : NotLs K H v) (s : Same H H') : NotLs K H' v := let ⟨n, a, b, c⟩ := h; ⟨n, tyX_sm a s, b, c⟩
/-- whether a thing is a rule -/
def RuB (K : PySem.W.Frag) (sg : List Nat) (H : Hp) (v : V) (b : Bool) : Prop := (NotLs K H v ∧ b = false) ∨ ∃ q ys, v = .ref q ∧ SqA K H q ys ∧ ys.length ≤ 1000 ∧ ((ys.length ≠ 2 ∧ b = false) ∨
  ∃ x y, ys = [x, y] ∧ ((NotStr K H x ∧ b = false) ∨ ∃ l : List Nat, x = .str (S l) ∧ l.length ≤ 1000 ∧ ((NotStr K H y ∧ b = false) ∨ ∃ r : List Nat, y = .str (S r) ∧ r.length ≤ 1000 ∧ b = isR sg l r)))
theorem RuB.sm {K : PySem.W.Frag} {sg : List Nat} {H H' : Hp} {v : V} {b : Bool} (h : RuB K sg H v b) (s : Same H H') : RuB K sg H' v b := by
  rcases h with ⟨h, e⟩ | ⟨q, ys, rfl, hA, hl, h⟩
  · exact .inl ⟨h.sm s, e⟩
  · refine .inr ⟨q, ys, rfl, hA.keep s, hl, ?_⟩
    rcases h with h | ⟨x, y, e, h⟩
    · exact .inl h
    · refine .inr ⟨x, y, e, ?_⟩
      rcases h with ⟨h, e2⟩ | ⟨l, e1, e2, h⟩
      · exact .inl ⟨h.sm s, e2⟩
      · refine .inr ⟨l, e1, e2, ?_⟩
        rcases h with ⟨h, e3⟩ | h
        · exact .inl ⟨h.sm s, e3⟩
        · exact .inr h
def spIsRuleG (K : PySem.W.Frag) : Sp := fun vs H Q _ => ∃ (sg : List Nat) (v : V) (b : Bool), vs = [.str (S sg), v] ∧ RuB K sg H v b ∧ Q (.bl b) H
theorem c_is_rule (T : Txt K mg) : Cal P w K mg base CX0 2 "is_rule" (spIsRuleG K) := by
  have c_is_listed := c_is_listed (P := P) (w := w) (base := base) T
  have c_is_text := c_is_text (P := P) (w := w) (base := base) T
  refine Cal.mk0 T.d_is_rule sc_is_rule (fun vs H Q E h => ?_) (fun f cdv A outer s H vs Q E hr h => ?_)
  · obtain ⟨sg, v, b, rfl, _⟩ := h
    rfl
  · obtain ⟨sg, v, b, rfl, hB, k⟩ := h
    refine ⟨_, (pss_cons (ps_if (PW.pt (pw_or (pt_not (pt_truth (pe_c c_is_listed hr (by decide) rfl (pa_cons (pv 1) pa_nil)) (by intro _; rfl))) (pw_or1 (pt_cmpR op_ne (pe_callB call_len_seq (by rfl) T.b_len (by decide +kernel) (pa_cons (pv 1) pa_nil)) pe_int (nomark _)))))
    (pss_one (ps_ret pe_bl))
    pss_nil)
  (pss_cons (ps_if (PW.pt (pw_or (pt_not (pt_truth (pe_c c_is_text hr (by decide) rfl (pa_cons (pv 0) (pa_cons (pe_ix ix_seq (pv 1) pe_int (fun _ _ => rfl)) (pa_cons pe_int (pa_cons (pe_gK rfl T.g_LONGEST_LEFT) pa_nil))))) (by intro _; rfl))) (pw_or1 (pt_not (pt_truth (pe_c c_is_text hr (by decide) rfl (pa_cons (pv 0) (pa_cons (pe_ix ix_seq (pv 1) pe_int (fun _ _ => rfl)) (pa_cons pe_int (pa_cons pe_int pa_nil))))) (by intro _; rfl))))))
    (pss_one (ps_ret pe_bl))
    pss_nil)
  (pss_one (ps_ret (pe_cmpR op_lt (pe_callB call_len_str (by rfl) T.b_len (by decide +kernel) (pa_cons (pe_ix ix_seq (pv 1) pe_int (fun _ _ => rfl)) pa_nil)) (pe_callB call_len_str (by rfl) T.b_len (by decide +kernel) (pa_cons (pe_ix ix_seq (pv 1) pe_int (fun _ _ => rfl)) pa_nil)) (nomark _)))))), ?_⟩
    rcases hB with ⟨⟨n, ht, hn, hb⟩, rfl⟩ | ⟨q, ys, rfl, hA, hyl, hB⟩
    · walk_at "rd"
      refine ⟨_, _, rfl, ht, hn, ?_⟩
      rw [hb]
      walk_at "rd"
      exact k
    obtain ⟨tn, t1, t2, t3⟩ := hA.ty
    walk_at "rd"
    refine ⟨_, _, rfl, t1, t2, ?_⟩
    rw [t3]
    walk_at "rd"
    refine ⟨q, ys, rfl, hA, ?_⟩
    walk_at "rd"
    rcases hB with ⟨h2, rfl⟩ | ⟨x, y, rfl, hB⟩
    · rw [show decide (V.int ((ys.length : Nat) : Int) = V.int 2) = false from decide_eq_false (fun e => h2 (by have := V.int.inj e; omega))]
      walk_at "rd"
      exact k
    rw [show decide (V.int ((([x, y] : List V).length : Nat) : Int) = V.int 2) = true from decide_eq_true rfl]
    walk_at "rd"
    refine hA.ix (atI_at (Int.le_refl 0) rfl) ?_
    walk_at "rd"
    rcases hB with ⟨hx, rfl⟩ | ⟨l, rfl, hl, hB⟩
    · refine .inr ⟨_, _, _, _, rfl, hx, ?_⟩
      walk_at "rd"
      exact k
    refine .inl ⟨sg, l, 1, 4, rfl, by omega, ?_⟩
    cases e1 : isText sg l 1 4 with
    | false =>
      have eb : b = false := by
        rcases hB with ⟨_, e⟩ | ⟨r, _, _, e⟩
        · exact e
        · rw [e]
          unfold isR
          rw [e1]
          rfl
      rw [eb] at k
      walk_at "rd"
      exact k
    | true =>
      refine ⟨true, rfl, ?_⟩
      refine iteF ?_
      walk_at "rd"
      refine hA.ix (atI_at (show (0 : Int) ≤ 1 by decide) rfl) ?_
      walk_at "rd"
      rcases hB with ⟨hy, rfl⟩ | ⟨r, rfl, hr2, rfl⟩
      · refine .inr ⟨_, _, _, _, rfl, hy, ?_⟩
        walk_at "rd"
        exact k
      refine .inl ⟨sg, r, 0, 1, rfl, by omega, ?_⟩
      unfold isR at k
      rw [e1] at k
      cases e2 : isText sg r 0 1 with
      | false =>
        rw [e2] at k
        walk_at "rd"
        exact k
      | true =>
        rw [e2] at k
        refine ⟨true, rfl, ?_⟩
        refine iteF ?_
        walk_at "rd"
        refine hA.ix (atI_at (show (0 : Int) ≤ 1 by decide) rfl) ?_
        walk_at "rd"
        refine hA.ix (atI_at (Int.le_refl 0) rfl) ?_
        walk_at "rd"
        rw [S_len, S_len]
        show Q (.bl (decide ((r.length : Int) < (l.length : Int)))) H
        rw [show decide ((r.length : Int) < (l.length : Int)) = decide (r.length < l.length) from decide_eq_decide.mpr ⟨fun z => by omega, fun z => by omega⟩]
        exact k
/-- a rule, as a tuple or a list -/
def RItA (K : PySem.W.Frag) (H : Hp) (v : V) (r : Rule) : Prop := ∃ q, v = .ref q ∧ SqA K H q (rTup r)
theorem RItA.sm {K : PySem.W.Frag} {H H' : Hp} {v : V} {r : Rule} (h : RItA K H v r) (s : Same H H') : RItA K H' v r := let ⟨q, e, a⟩ := h; ⟨q, e, a.keep s⟩
theorem RItA.rub {K : PySem.W.Frag} {sg : List Nat} {H : Hp} {v : V} {r : Rule} (h : RItA K H v r) (l1 : r.1.length ≤ 1000) (l2 : r.2.length ≤ 1000) : RuB K sg H v (isR sg r.1 r.2) := by
  obtain ⟨q, rfl, hA⟩ := h
  exact .inr ⟨q, _, rfl, hA, by show 2 ≤ 1000; decide, .inr ⟨_, _, rfl, .inr ⟨r.1, rfl, l1, .inr ⟨r.2, rfl, l2, rfl⟩⟩⟩⟩
theorem tupA_J {K : PySem.W.Frag} {H : Hp} {p : Addr} {xs : List V} {Q : VK} (h : SqA K H p xs) (k : ∀ q H', Same H H' → SqT K H' q xs → Q (.ref q) H') : ∃ p' ys, [V.ref p] = [V.ref p'] ∧ ((SqL K H p' ys ∧ ∀ l, H l = none → Q (.ref l) (upd H l (.tup ys))) ∨ (SqT K H p' ys ∧ Q (.ref p') H)) :=
  h.elim (fun h => ⟨p, xs, rfl, .inl ⟨h, fun l hl => k l _ (same_new hl) (SqT.of upd_same)⟩⟩) fun h => ⟨p, xs, rfl, .inr ⟨h, k p H (Same.refl _) h⟩⟩
/-- check_signs of a text -/
def spSignsX (K : PySem.W.Frag) (XS : Addr) : Sp := fun vs H Q E => ∃ sg : List Nat, vs = [.str (S sg)] ∧ sg.length ≤ 1000000 ∧ (isSigns sg = true → Q .non H) ∧ (isSigns sg = false → Thrown E H XS "thing" (.str (S sg)))
theorem c_X_check_signs (T : TxtX P K mg CB XR FE DI XS FT DT XT SE) : Cal P w K mg base (L2.CX P w) 3 "check_signs" (spSignsX K XS) := by
  have x_WrongThing := x_WrongThing (P := P) (w := w) (base := base) T
  have c_is_signs := c_is_signs (P := P) (w := w) (base := base) T.toTxtC.toTxt
  refine Cal.mkX T.toTxtC.toTxt.d_check_signs sc_check_signs (fun vs H Q E h => ?_) (fun f cdv A outer s H vs Q E hr h => ?_)
  · obtain ⟨sg, rfl, _⟩ := h
    rfl
  · obtain ⟨sg, rfl, hl, k1, k2⟩ := h
    refine ⟨_, (pss_one (ps_if (pt_not (pt_truth (pe_c c_is_signs hr (by decide) rfl (pa_cons (pv 0) pa_nil)) (by intro _; rfl)))
    (pss_one (ps_raiseX T.e_BadSigns x_WrongThing hr (by decide) rfl (takes_of rfl rfl rfl rfl) rfl (pa_cons (pv 0) pa_nil)))
    pss_nil)), ?_⟩
    walk_at "rd"
    refine .inl ⟨sg, rfl, hl, ?_⟩
    cases e : isSigns sg with
    | true =>
      walk_at "rd"
      exact k1 e
    | false =>
      walk_at "rd"
      first | exact mk1 T.e_BadSigns T.nf_BadSigns_thing trivial (k2 e) | exact (mk1 T.e_BadSigns T.nf_BadSigns_thing trivial (k2 e)).2
/-- the rules, or what is wrong with them -/
def ChkA (K : PySem.W.Frag) (XR : Addr) (sg : List Nat) (v : V) (H : Hp) (E : XK) (Fin : List Rule → Prop) : Prop :=
  (NotLs K H v ∧ Thrown E H XR "place" (.int (-1))) ∨ ∃ a xs, v = .ref a ∧ SqA K H a xs ∧ xs.length ≤ 1000 ∧ ((64 < xs.length ∧ Thrown E H XR "place" (.int (-1))) ∨ (xs.length ≤ 64 ∧
    ∃ (pre tail : List V) (R : List Rule), xs = pre ++ tail ∧ Items (RItA K) H pre R ∧ (∀ r ∈ R, RuleOk sg 4 r) ∧ R.Nodup ∧
      ((tail = [] ∧ Fin R) ∨ ∃ bad rest, tail = bad :: rest ∧ (RuB K sg H bad false ∨ ∃ r ∈ R, RItA K H bad r) ∧ ∀ H', Same H H' → Thrown E H' XR "place" (.int (pre.length : Nat)))))
def spCheckedX (K : PySem.W.Frag) (XR : Addr) : Sp := fun vs H Q E => ∃ (sg : List Nat) (v : V), vs = [.str (S sg), v] ∧ isSigns sg = true ∧ ChkA K XR sg v H E fun R => ∀ p ys H', Same H H' → RulesAt K H' p ys R → Q (.ref p) H'
theorem c_X_checked_rules (T : TxtX P K mg CB XR FE DI XS FT DT XT SE) : Cal P w K mg base (L2.CX P w) 3 "checked_rules" (spCheckedX K XR) := by
  have x_WrongItem := x_WrongItem (P := P) (w := w) (base := base) T
  have c_is_listed := c_is_listed (P := P) (w := w) (base := base) T.toTxtC.toTxt
  have c_is_rule := c_is_rule (P := P) (w := w) (base := base) T.toTxtC.toTxt
  refine Cal.mkX T.toTxtC.toTxt.d_checked_rules sc_checked_rules (fun vs H Q E h => ?_) (fun f cdv A outer s H vs Q E hr h => ?_)
  · obtain ⟨sg, v, rfl, _⟩ := h
    rfl
  · obtain ⟨sg, v, rfl, hsg, h⟩ := h
    have hu65 := hu65_of hr
    have small : ∀ i : Int, -1 ≤ i → i ≤ 1000 → okNum (.int i) := fun i h1 h2 => ⟨i, rfl, h1, h2⟩
    have cap : ∀ r : Rule, RuleOk sg 4 r → Chars r.1 ∧ Chars r.2 := fun r h => ⟨fun c hc => signs_chars hsg c (h.2.2.1 c hc), fun c hc => signs_chars hsg c (h.2.2.2.1 c hc)⟩
    refine ⟨_, (pss_cons (ps_if (PW.pt (pw_or (pt_not (pt_truth (pe_c c_is_listed hr (by decide) rfl (pa_cons (pv 1) pa_nil)) (by intro _; rfl))) (pw_or1 (pt_cmpR op_gt (pe_callB call_len_seq (by rfl) T.b_len (by decide +kernel) (pa_cons (pv 1) pa_nil)) (pe_gK rfl T.g_MOST_RULES) (nomark _)))))
    (pss_one (ps_raiseX T.e_BadRule x_WrongItem hr (by decide) rfl (takes_of rfl rfl rfl rfl) rfl (pa_cons (pe_un un_neg pe_int) pa_nil)))
    pss_nil)
  (pss_cons (ps_set (i := 2) sc_checked_rules.nd rfl (Or.inl rfl) (pe_lst pa_nil))
  (pss_cons (ps_for (passes_of rfl) rfl (pi_range1 (by rfl) T.b_range (pa_cons (pe_callB call_len_seq (by rfl) T.b_len (by decide +kernel) (pa_cons (pv 1) pa_nil)) pa_nil)) (pg_name (i := 3) sc_checked_rules.nd rfl (Or.inl rfl))
    (pss_cons (ps_if (PW.pt (pw_or (pt_not (pt_truth (pe_c c_is_rule hr (by decide) rfl (pa_cons (pv 0) (pa_cons (pe_ix ix_seq (pv 1) (pv 3) (fun _ _ => rfl)) pa_nil))) (by intro _; rfl))) (pw_or1 (pt_cmpR (op_inD hu65) (pe_callTy call_tuple_of (by rfl) T.b_tuple (by decide +kernel) (pa_cons (pe_ix ix_seq (pv 1) (pv 3) (fun _ _ => rfl)) pa_nil)) (pv 2) (by rfl)))))
      (pss_one (ps_raiseX T.e_BadRule x_WrongItem hr (by decide) rfl (takes_of rfl rfl rfl rfl) rfl (pa_cons (pv 3) pa_nil)))
      pss_nil)
    (pss_one (ps_expr (pe_bm PySem.F.plainAttrs_list PySem.F.slot_list_append PySem.F.type_list_append mt_append (pv 2) (pa_cons (pe_callTy call_tuple_of (by rfl) T.b_tuple (by decide +kernel) (pa_cons (pe_ix ix_seq (pv 1) (pv 3) (fun _ _ => rfl)) pa_nil)) pa_nil))))))
  (pss_one (ps_ret (pe_callTy call_tuple_of (by rfl) T.b_tuple (by decide +kernel) (pa_cons (pv 2) pa_nil))))))), ?_⟩
    rcases h with ⟨⟨n, ht, hn, hb⟩, th⟩ | ⟨a, xs, rfl, hA, hl1, h⟩
    · walk_at "rd"
      refine ⟨_, _, rfl, ht, hn, ?_⟩
      rw [hb]
      walk_at "rd"
      first | exact mk1 T.e_BadRule T.nf_BadRule_place (small (-1) (by decide) (by decide)) th | exact (mk1 T.e_BadRule T.nf_BadRule_place (small (-1) (by decide) (by decide)) th).2
    obtain ⟨tn, t1, t2, t3⟩ := hA.ty
    rcases h with ⟨hb, th⟩ | ⟨hb, pre, tail, R, rfl, it, hok, hnd, h⟩
    · walk_at "rd"
      refine ⟨_, _, rfl, t1, t2, ?_⟩
      rw [t3]
      walk_at "rd"
      refine ⟨a, xs, rfl, hA, ?_⟩
      walk_at "rd"
      rw [show decide ((64 : Int) < (xs.length : Int)) = true from decide_eq_true (by omega)]
      refine iteT ?_
      walk_at "rd"
      first | exact mk1 T.e_BadRule T.nf_BadRule_place (small (-1) (by decide) (by decide)) th | exact (mk1 T.e_BadRule T.nf_BadRule_place (small (-1) (by decide) (by decide)) th).2
    walk_at "rd"
    refine ⟨_, _, rfl, t1, t2, ?_⟩
    rw [t3]
    walk_at "rd"
    refine ⟨a, _, rfl, hA, ?_⟩
    walk_at "rd"
    rw [show decide ((64 : Int) < ((pre ++ tail).length : Int)) = false from decide_eq_false (by omega)]
    refine iteF ?_
    walk_at "rd"
    intro p hp
    have s1 : Same H (upd H p (.lst [])) := same_new hp
    refine ⟨_, rfl, a, _, rfl, hA.keep s1, ?_⟩
    walk_at "rd"
    have good : ∀ (i : Nat) (σ : L2.St) (H2 : Hp) (v3 : Option V) (ys : List V), i < pre.length → Same H H2 → H2 p = some (.lst ys) → Items (RItem K) H2 ys (R.take i) → True := fun _ _ _ _ _ _ _ _ _ => trivial
    refine for_range (lo := 0) (n := (((pre ++ tail).length : Int)).toNat) (fun i σ H2 => ∃ (ys : List V) (v3 : Option V), σ = [some (.str (S sg)), some (.ref a), some (.ref p), v3] ∧ i ≤ pre.length ∧ Same H H2 ∧ H2 p = some (.lst ys) ∧ Items (RItem K) H2 ys (R.take i))
      ⟨[], _, rfl, Nat.zero_le _, s1, upd_same, Items.nil⟩ ?_ ?_
    · rintro i σ H2 hi ⟨ys, v3, rfl, hip, s2, hp2, it2⟩
      rw [Int.zero_add]
      have hA2 := hA.keep s2
      have hlR : pre.length = R.length := it.1
      have hrs : (R.take i).length = i := by rw [List.length_take]; omega
      have hct : RChars (R.take i) := fun r m => cap r (hok r (List.mem_of_mem_take m))
      by_cases hin : i < pre.length
      · have hat : atI (pre ++ tail) ((i : Nat) : Int) = some pre[i] := atI_nat (by rw [List.getElem?_append_left hin, List.getElem?_eq_getElem hin])
        have hiR : i < R.length := by omega
        obtain ⟨r, hr2⟩ : ∃ r, R[i]? = some r := ⟨_, List.getElem?_eq_getElem hiR⟩
        have hri := (it.2 i pre[i] r (List.getElem?_eq_getElem hin) hr2).sm s2
        have hrok := hok _ (List.mem_of_getElem? hr2)
        have hci := cap _ hrok
        have et : R.take (i + 1) = R.take i ++ [r] := by rw [List.take_succ, hr2]; rfl
        have hni : r ∉ R.take i := by
          intro hm
          obtain ⟨j, hj, e⟩ := List.mem_iff_getElem.mp hm
          have hj2 : j < i := by rw [hrs] at hj; exact hj
          rw [List.getElem_take] at e
          have e2 := (List.getElem?_eq_some_iff.mp hr2).2
          exact absurd (List.getElem_inj hnd |>.mp (e.trans e2.symm)) (by omega)
        have hrub := hri.rub (sg := sg) (by have := hrok.2.1; omega) (by have := hrok.2.2.2.2.1; omega)
        rw [isR_ok.mpr (show RuleOk sg 4 (r.1, r.2) from hrok)] at hrub
        obtain ⟨q, eq1, hq⟩ := hri
        rw [eq1] at hat hrub
        walk_at "nx"
        refine if_KH false (fun H3 => Same H2 H3) (fun Q' hQ => ?_) (fun z => by cases z) (fun _ H3 s3 => ?_)
        · refine ⟨_, rfl, _, rfl, _, rfl, hA2.ix hat ?_⟩
          refine ⟨sg, .ref q, true, rfl, hrub, true, rfl, ?_⟩
          refine iteF ?_
          refine ⟨_, rfl, _, rfl, hA2.ix hat ?_⟩
          rcases hq with hqL | hqT
          · refine ⟨_, _, rfl, .inl ⟨hqL, fun q3 hl9 => ?_⟩⟩
            have s3 := same_new (o := .tup (rTup r)) hl9
            have sq3 : SqT K (upd H2 q3 (.tup (rTup r))) q3 (rTup r) := SqT.of upd_same
            generalize upd H2 q3 (.tup (rTup r)) = H3 at s3 sq3 ⊢
            refine ⟨_, rfl, rD r, (R.take i).map rD, RItem.dp ⟨q3, rfl, sq3⟩, .lst (SqL.of (s3 _ _ hp2)) (dpAll_rules (it2.mono fun x y h => h.same (Keep.same s3))), shaped_rule hci, shaped_rules hct, _, rfl, ?_⟩
            rw [any_rules, decide_eq_false hni]
            exact hQ H3 s3
          · refine ⟨_, _, rfl, .inr ⟨hqT, ?_⟩⟩
            have s3 := Same.refl H2
            have sq3 := hqT
            refine ⟨_, rfl, rD r, (R.take i).map rD, RItem.dp ⟨q, rfl, sq3⟩, .lst (SqL.of (s3 _ _ hp2)) (dpAll_rules (it2.mono fun x y h => h.same (Keep.same s3))), shaped_rule hci, shaped_rules hct, _, rfl, ?_⟩
            rw [any_rules, decide_eq_false hni]
            exact hQ H2 s3
        · have hp3 := s3 _ _ hp2
          have it3 := it2.mono fun x y h => h.same (Keep.same s3)
          have hyl : ys.length < sizeLine := by
            have := it2.1
            rw [hrs] at this
            exact Nat.lt_of_le_of_lt (m := 64) (by rw [List.length_append] at hb; omega) (by decide)
          walk_at "nx"
          refine ⟨_, rfl, .inl ⟨rfl, _, SqL.of hp3⟩, _, rfl, _, rfl, (hA2.keep s3).ix hat ?_⟩
          rcases (hq.keep s3) with hqL | hqT
          · refine ⟨_, _, rfl, .inl ⟨hqL, fun q4 hl9 => ?_⟩⟩
            have s4 := same_new (o := .tup (rTup r)) hl9
            have sq4 : SqT K (upd H3 q4 (.tup (rTup r))) q4 (rTup r) := SqT.of upd_same
            generalize upd H3 q4 (.tup (rTup r)) = H4 at s4 sq4 ⊢
            refine ⟨p, _, _, rfl, rfl, s4 _ _ hp3, hyl, ?_⟩
            have hk : Keep H4 (upd H4 p (.lst (ys ++ [.ref q4]))) := Keep.butL but_upd (s4 _ _ hp3)
            have it4 := it3.mono fun x y h => h.same (Keep.same s4)
            refine ⟨ys ++ [.ref q4], _, rfl, by omega, same_mut (s2.trans (s3.trans s4)) hp, upd_same, ?_⟩
            rw [et]
            exact it4.snoc (fun x y r => r.same hk) ⟨q4, rfl, hk.seq sq4⟩
          · refine ⟨_, _, rfl, .inr ⟨hqT, ?_⟩⟩
            have s4 := Same.refl H3
            have sq4 := hqT
            refine ⟨p, _, _, rfl, rfl, s4 _ _ hp3, hyl, ?_⟩
            have hk : Keep H3 (upd H3 p (.lst (ys ++ [.ref q]))) := Keep.butL but_upd (s4 _ _ hp3)
            have it4 := it3.mono fun x y h => h.same (Keep.same s4)
            refine ⟨ys ++ [.ref q], _, rfl, by omega, same_mut (s2.trans (s3.trans s4)) hp, upd_same, ?_⟩
            rw [et]
            exact it4.snoc (fun x y r => r.same hk) ⟨q, rfl, hk.seq sq4⟩
      · have hie : i = pre.length := by omega
        subst hie
        rw [List.length_append] at hi
        rcases h with ⟨rfl, _⟩ | ⟨bad, rest, rfl, hbad, th⟩
        · simp at hi
        have hat : atI (pre ++ bad :: rest) ((pre.length : Nat) : Int) = some bad := atI_nat (by simp)
        have eR : R.take pre.length = R := List.take_of_length_le (by omega)
        have hsm := small ((pre.length : Nat) : Int) (by omega) (by rw [List.length_append] at hb; omega)
        rcases hbad with hbad | ⟨r, hrm, hbad⟩
        · walk_at "nx"
          refine if_K true (fun Q' hQ => ?_) (fun _ => ?_) (fun z => by cases z)
          · refine ⟨_, rfl, _, rfl, _, rfl, hA2.ix hat ?_⟩
            refine ⟨sg, bad, false, rfl, hbad.sm s2, false, rfl, ?_⟩
            refine iteT ?_
            exact hQ
          · walk_at "rd"
            first | exact mk1 T.e_BadRule T.nf_BadRule_place hsm (th _ s2) | exact (mk1 T.e_BadRule T.nf_BadRule_place hsm (th _ s2)).2
        · have hrok := hok _ hrm
          have hci := cap _ hrok
          have hri := hbad.sm s2
          have hrub := hri.rub (sg := sg) (by have := hrok.2.1; omega) (by have := hrok.2.2.2.2.1; omega)
          rw [isR_ok.mpr (show RuleOk sg 4 (r.1, r.2) from hrok)] at hrub
          obtain ⟨q, rfl, hq⟩ := hri
          walk_at "nx"
          refine if_KH true (fun H3 => Same H2 H3) (fun Q' hQ => ?_) (fun _ H3 s3 => ?_) (fun z => by cases z)
          · refine ⟨_, rfl, _, rfl, _, rfl, hA2.ix hat ?_⟩
            refine ⟨sg, .ref q, true, rfl, hrub, true, rfl, ?_⟩
            refine iteF ?_
            refine ⟨_, rfl, _, rfl, hA2.ix hat ?_⟩
            rcases hq with hqL | hqT
            · refine ⟨_, _, rfl, .inl ⟨hqL, fun q3 hl9 => ?_⟩⟩
              have s3 := same_new (o := .tup (rTup r)) hl9
              have sq3 : SqT K (upd H2 q3 (.tup (rTup r))) q3 (rTup r) := SqT.of upd_same
              generalize upd H2 q3 (.tup (rTup r)) = H3 at s3 sq3 ⊢
              refine ⟨_, rfl, rD r, (R.take pre.length).map rD, RItem.dp ⟨q3, rfl, sq3⟩, .lst (SqL.of (s3 _ _ hp2)) (dpAll_rules (it2.mono fun x y h => h.same (Keep.same s3))), shaped_rule hci, shaped_rules hct, _, rfl, ?_⟩
              rw [any_rules, decide_eq_true (show r ∈ R.take pre.length by rw [eR]; exact hrm)]
              exact hQ H3 s3
            · refine ⟨_, _, rfl, .inr ⟨hqT, ?_⟩⟩
              have s3 := Same.refl H2
              have sq3 := hqT
              refine ⟨_, rfl, rD r, (R.take pre.length).map rD, RItem.dp ⟨q, rfl, sq3⟩, .lst (SqL.of (s3 _ _ hp2)) (dpAll_rules (it2.mono fun x y h => h.same (Keep.same s3))), shaped_rule hci, shaped_rules hct, _, rfl, ?_⟩
              rw [any_rules, decide_eq_true (show r ∈ R.take pre.length by rw [eR]; exact hrm)]
              exact hQ H2 s3
          · walk_at "rd"
            first | exact mk1 T.e_BadRule T.nf_BadRule_place hsm (th _ (s2.trans s3)) | exact (mk1 T.e_BadRule T.nf_BadRule_place hsm (th _ (s2.trans s3))).2
    · rintro σ H2 ⟨ys, v3, rfl, hip, s2, hp2, it2⟩
      have hlR : pre.length = R.length := it.1
      rcases h with ⟨rfl, fin⟩ | ⟨bad, rest, rfl, _, _⟩
      · walk_at "rd"
        refine ⟨p, _, rfl, .inl ⟨SqL.of hp2, fun l hl => ?_⟩⟩
        rw [List.take_of_length_le (by rw [List.append_nil, Int.toNat_natCast]; omega)] at it2
        have hk : Keep H2 (upd H2 l (.tup ys)) := Keep.same (same_new hl)
        exact fin l ys _ (s2.trans (same_new hl)) ⟨SqT.of upd_same, it2.1, fun i x r h1 h2 => (it2.2 i x r h1 h2).same hk⟩
      · rw [List.length_append, List.length_cons, Int.toNat_natCast] at hip
        omega
end
end Sh
set_option Elab.async false
set_option linter.all false
set_option maxRecDepth 100000
set_option maxHeartbeats 4000000
namespace Sh
open PySem PySem.Spec PyProof.Rows L2
open SX (S S_inj S_len S_cat)
open Bk (Rule firstAt lg bestUp used left drain pushS Wf quarrel)
local macro_rules | `(tactic| walk_at "nx") => `(tactic| repeat (with_reducible first | refine Sh.gn_mk ?_ | refine Sh.nx_mk ?_ | refine Sh.st_nx ?_ | refine Sh.rt_mk ?_ | refine Sh.ct_mk ?_ | refine Sh.bk_mk ?_))
local macro_rules | `(tactic| walk_at "sq") => `(tactic| first | exact SqL.of upd_same | exact SqT.of upd_same | exact SqL.of (by assumption) | exact SqT.of (by assumption) | assumption | exact Or.inl (SqL.of (by assumption)) | exact Or.inr (SqT.of (by assumption)) | exact Or.inl (by assumption) | exact Or.inr (by assumption))
local macro_rules | `(tactic| walk_at "hp") => `(tactic| first | exact upd_same | assumption)
local macro_rules | `(tactic| walk_at "sz") => `(tactic| first | exact Nat.le_of_ble_eq_true rfl | omega)
local macro_rules | `(tactic| walk_at "sd") => `(tactic| first | omega | exact rfl | assumption | (show (0 : Int) < _; omega) | exact And.intro (by omega) (by omega) | exact Or.inl (And.intro (by omega) (by omega)) | exact Or.inr (And.intro (by omega) (by omega)) | omega | exact Sh.sz_S (by omega) | decide)
local macro_rules | `(tactic| walk_at "rd1") => `(tactic| first
  | (with_reducible first | refine Sh.gn_mk ?_ | refine Sh.nx_mk ?_ | refine Sh.st_nx ?_ | refine Sh.rt_mk ?_ | refine Sh.ct_mk ?_ | refine Sh.bk_mk ?_)
  | refine Exists.intro (α := V) _ (And.intro rfl ?_)
  | refine Exists.intro (α := Bool) _ (And.intro rfl ?_)
  | refine Exists.intro (α := Int) _ (And.intro rfl ?_)
  | refine Exists.intro (α := PySem.Str) _ (And.intro rfl ?_)
  | refine Exists.intro (α := Int) _ (Exists.intro (α := Int) _ (And.intro rfl (And.intro rfl ?_)))
  | refine Exists.intro (α := PySem.Str) _ (Exists.intro (α := PySem.Str) _ (And.intro rfl (And.intro rfl ?_)))
  | refine Exists.intro (α := Int) _ (Exists.intro (α := Int) _ (And.intro rfl ?_))
  | refine Or.inl (Exists.intro (α := Int) _ (And.intro rfl ?_))
  | refine Exists.intro _ (Exists.intro _ (Exists.intro _ (Exists.intro _ (And.intro rfl (And.intro rfl (And.intro (by walk_at "sq") (And.intro rfl ?_)))))))
  | refine Exists.intro _ (Exists.intro _ (Exists.intro _ (Exists.intro _ (And.intro rfl (And.intro rfl (And.intro (by walk_at "hp") (And.intro rfl ?_)))))))
  | refine And.intro (by walk_at "sd") ?_
  )
local macro_rules | `(tactic| walk_at "rd") => `(tactic| repeat walk_at "rd1")
local macro_rules | `(tactic| walk_at "lk") => `(tactic| first | exact rfl | (rw [lookup_putF, if_pos rfl]) | (rw [lookup_putF, if_neg (by decide +kernel)]; walk_at "lk"))

section
variable {P : Program} {w : World} {K : PySem.W.Frag} {mg : Str → Option Value} {base : Heap} {CB XR FE DI XS FT DT XT SE : Addr}
theorem LeftsAt.ins {H H' : Hp} {p a C dx : Addr} {fs : List (Str × V)} {R : List Rule} (h : LeftsAt H p R) (s : But a H H') (z : H a = some (.ins C dx fs)) : LeftsAt H' p R := by
  obtain ⟨kvs, e, k⟩ := h
  refine ⟨kvs, s _ _ (ne_of e z (by intro q; cases q)) e, fun l => ⟨(k l).1, fun j r e => ?_⟩⟩
  obtain ⟨q, e1, e2⟩ := (k l).2 j r e
  exact ⟨q, e1, s _ _ (ne_of e2 z (by intro q; cases q)) e2⟩
/-- a book of the rules R over the signs sg stands at p -/
def BookAt (K : PySem.W.Frag) (C : Addr) (H : Hp) (p : Addr) (sg : List Nat) (R : List Rule) : Prop :=
  ∃ (dx : Addr) (fs : List (Str × V)) (a : Addr) (xs : List V) (pl : Addr), H p = some (.ins C dx fs) ∧ fs.lookup ("signs" : Str) = some (.str (S sg)) ∧ fs.lookup ("rules" : Str) = some (.ref a) ∧ RulesAt K H a xs R ∧
    fs.lookup ("_lefts" : Str) = some (.ref pl) ∧ LeftsAt H pl R ∧ fs.lookup ("_longest" : Str) = some (.int (lg R : Nat)) ∧ fs.lookup ("_quarrel" : Str) = some (optS (quarrel R))
theorem BookAt.same {C : Addr} {H H' : Hp} {p : Addr} {sg : List Nat} {R : List Rule} (h : BookAt K C H p sg R) (s : Same H H') : BookAt K C H' p sg R :=
  let ⟨dx, fs, a, xs, pl, h1, h2, h3, h4, h5, h6, h7, h8⟩ := h
  ⟨dx, fs, a, xs, pl, s _ _ h1, h2, h3, h4.same s, h5, h6.same s, h7, h8⟩
theorem ChkA.imp {sg : List Nat} {v : V} {H : Hp} {E : XK} {F G : List Rule → Prop} (hsg : isSigns sg = true) (h : ChkA K XR sg v H E F) (k : ∀ R, BookOk sg R → F R → G R) : ChkA K XR sg v H E G := by
  rcases h with h | ⟨a, xs, rfl, hA, hl, h⟩
  · exact .inl h
  · refine .inr ⟨a, xs, rfl, hA, hl, ?_⟩
    rcases h with h | ⟨h64, pre, tail, R, rfl, it, hok, hnd, h⟩
    · exact .inl h
    · refine .inr ⟨h64, pre, tail, R, rfl, it, hok, hnd, ?_⟩
      rcases h with ⟨rfl, f⟩ | h
      · exact .inl ⟨rfl, k R ⟨hsg, by rw [← it.1]; rw [List.append_nil] at h64; exact h64, hok, hnd⟩ f⟩
      · exact .inr h
/-- Book(signs, rules), or what is wrong with them -/
def spBookInitX (K : PySem.W.Frag) (C XS XR : Addr) : Sp := fun vs H Q E => ∃ (p dx : Addr) (sg : List Nat) (v : V), vs = [.ref p, .str (S sg), v] ∧ H p = some (.ins C dx []) ∧ sg.length ≤ 1000000 ∧ (isSigns sg = false → Thrown E H XS "thing" (.str (S sg))) ∧
  (isSigns sg = true → ∀ H1 fs, But p H H1 → H1 p = some (.ins C dx fs) → ChkA K XR sg v H1 E fun R => ∀ H' : Hp, BookAt K C H' p sg R → But p H H' → Q .non H')
theorem c_X_Book___init__ (T : TxtX P K mg CB XR FE DI XS FT DT XT SE) : MetX P w K mg base 4 CB "__init__" (spBookInitX K CB XS XR) := by
  have c_X_check_signs := c_X_check_signs (P := P) (w := w) (base := base) T
  have c_X_checked_rules := c_X_checked_rules (P := P) (w := w) (base := base) T
  have c_first_rules := c_first_rules (P := P) (w := w) (base := base) T.toTxtC.toTxt
  have c_longest_left := c_longest_left (P := P) (w := w) (base := base) T.toTxtC.toTxt
  have c_quarrel_of := c_quarrel_of (P := P) (w := w) (base := base) T.toTxtC.toTxt
  have c_end_moves := c_end_moves (P := P) (w := w) (base := base) T.toTxtC.toTxt
  refine MetX.mk0 T.toTxtC.m_Book___init__ sc_Book___init__ (fun vs H Q E h => ?_) (fun f cdv A outer s H vs Q E hr h => ?_)
  · obtain ⟨p, dx, sg, v, rfl, _⟩ := h
    rfl
  · obtain ⟨p, dx, sg, v, rfl, hp, hsl, h1, h2⟩ := h
    refine ⟨_, (pss_cons (ps_expr (pe_cX c_X_check_signs hr (by decide) (takes_of rfl rfl rfl rfl) rfl (pa_cons (pv 1) pa_nil)))
  (pss_cons (ps_fld (pv 0) (pv 1) rfl)
  (pss_cons (ps_fld (pv 0) (pe_cX c_X_checked_rules hr (by decide) (takes_of rfl rfl rfl rfl) rfl (pa_cons (pv 1) (pa_cons (pv 2) pa_nil))) rfl)
  (pss_cons (ps_fld (pv 0) (pe_c c_first_rules hr (by decide) rfl (pa_cons (pe_fld (pv 0) rfl) pa_nil)) rfl)
  (pss_cons (ps_fld (pv 0) (pe_c c_longest_left hr (by decide) rfl (pa_cons (pe_fld (pv 0) rfl) pa_nil)) rfl)
  (pss_cons (ps_fld (pv 0) (pe_c c_quarrel_of hr (by decide) rfl (pa_cons (pe_fld (pv 0) rfl) (pa_cons (pe_fld (pv 0) rfl) (pa_cons (pe_fld (pv 0) rfl) pa_nil)))) rfl)
  (pss_one (ps_fld (pv 0) (pe_c c_end_moves hr (by decide) rfl (pa_cons (pv 1) (pa_cons (pe_fld (pv 0) rfl) pa_nil))) rfl)))))))), ?_⟩
    refine ⟨_, rfl, sg, rfl, hsl, fun hsg => ?_, h1⟩
    have hsgl := (signs_len hsg).2
    have cl := T.k_Book.cl
    refine ⟨_, rfl, _, rfl, p, CB, dx, [], rfl, hp, cl, T.n_Book_signs, by show 0 < 1000; decide, ?_⟩
    -- rules
    have b1 : But p H (upd H p (.ins CB dx (putF "signs" (.str (S sg)) []))) := but_upd
    have hp1 : (upd H p (.ins CB dx (putF "signs" (.str (S sg)) []))) p = some (.ins CB dx (putF "signs" (.str (S sg)) [])) := upd_same
    have hC := h2 hsg _ _ b1 hp1
    generalize upd H p (.ins CB dx (putF "signs" (.str (S sg)) [])) = H1 at b1 hp1 hC ⊢
    walk_at "nx"
    refine ⟨_, rfl, _, rfl, sg, v, rfl, hsg, hC.imp hsg fun R hB k a2 ys H2 s2 hR2 => ?_⟩
    have hw := hB.wf
    have hl := hB.2.1
    have hp2 := s2 _ _ hp1
    generalize hf1 : putF "signs" (V.str (S sg)) [] = f1 at hp2 hp1
    have l1 : f1.length ≤ 1 := by rw [← hf1]; exact putF_le _ _ []
    have g1 : f1.lookup ("signs" : Str) = some (.str (S sg)) := by rw [← hf1]; walk_at "lk"
    refine ⟨_, rfl, p, CB, dx, f1, rfl, hp2, cl, T.n_Book_rules, by omega, ?_⟩
    have b2 : But p H (upd H2 p (.ins CB dx (putF "rules" (.ref a2) f1))) := b1.trans ((But.same s2).trans but_upd)
    have hp3 : (upd H2 p (.ins CB dx (putF "rules" (.ref a2) f1))) p = some (.ins CB dx (putF "rules" (.ref a2) f1)) := upd_same
    have hR3 := hR2.keep (Keep.butI but_upd hp2 (H' := upd H2 p (.ins CB dx (putF "rules" (.ref a2) f1))))
    generalize upd H2 p (.ins CB dx (putF "rules" (.ref a2) f1)) = H3 at b2 hp3 hR3 ⊢
    have g2 : (putF "rules" (.ref a2) f1).lookup ("rules" : Str) = some (.ref a2) := by walk_at "lk"
    have g2s : (putF "rules" (.ref a2) f1).lookup ("signs" : Str) = some (.str (S sg)) := by rw [lookup_putF, if_neg (by decide +kernel)]; exact g1
    have l2 : (putF "rules" (V.ref a2) f1).length ≤ 2 := by have := putF_le "rules" (V.ref a2) f1; omega
    generalize putF "rules" (V.ref a2) f1 = f2 at hp3 g2 g2s l2
    walk_at "nx"
    -- _lefts
    refine ⟨_, rfl, p, CB, dx, f2, _, rfl, hp3, cl, T.n_Book_rules, g2, a2, ys, R, rfl, hR3, hl, fun pl H4 hpl s4 L4 => ?_⟩
    have hp4 := s4 _ _ hp3
    refine ⟨_, rfl, p, CB, dx, f2, rfl, hp4, cl, T.n_Book__lefts, by omega, ?_⟩
    have b3 : But p H (upd H4 p (.ins CB dx (putF "_lefts" (.ref pl) f2))) := b2.trans ((But.same s4).trans but_upd)
    have hp5 : (upd H4 p (.ins CB dx (putF "_lefts" (.ref pl) f2))) p = some (.ins CB dx (putF "_lefts" (.ref pl) f2)) := upd_same
    have hR5 := (hR3.same s4).keep (Keep.butI but_upd hp4 (H' := upd H4 p (.ins CB dx (putF "_lefts" (.ref pl) f2))))
    have L5 := L4.ins (but_upd (o := .ins CB dx (putF "_lefts" (.ref pl) f2))) hp4
    generalize upd H4 p (.ins CB dx (putF "_lefts" (.ref pl) f2)) = H5 at b3 hp5 hR5 L5 ⊢
    have g3 : (putF "_lefts" (.ref pl) f2).lookup ("rules" : Str) = some (.ref a2) := by rw [lookup_putF, if_neg (by decide +kernel)]; exact g2
    have g3s : (putF "_lefts" (.ref pl) f2).lookup ("signs" : Str) = some (.str (S sg)) := by rw [lookup_putF, if_neg (by decide +kernel)]; exact g2s
    have g3l : (putF "_lefts" (.ref pl) f2).lookup ("_lefts" : Str) = some (.ref pl) := by walk_at "lk"
    have l3 : (putF "_lefts" (V.ref pl) f2).length ≤ 3 := by have := putF_le "_lefts" (V.ref pl) f2; omega
    generalize putF "_lefts" (V.ref pl) f2 = f3 at hp5 g3 g3s g3l l3
    walk_at "nx"
    -- _longest
    refine ⟨_, rfl, p, CB, dx, f3, _, rfl, hp5, cl, T.n_Book_rules, g3, a2, ys, R, rfl, hR5, hl, fun r m => Nat.le_trans (hB.2.2.1 r m).2.1 (by decide), fun H6 s6 => ?_⟩
    have hp6 := s6 _ _ hp5
    refine ⟨_, rfl, p, CB, dx, f3, rfl, hp6, cl, T.n_Book__longest, by omega, ?_⟩
    have b4 : But p H (upd H6 p (.ins CB dx (putF "_longest" (.int (lg R : Nat)) f3))) := b3.trans ((But.same s6).trans but_upd)
    have hp7 : (upd H6 p (.ins CB dx (putF "_longest" (.int (lg R : Nat)) f3))) p = some (.ins CB dx (putF "_longest" (.int (lg R : Nat)) f3)) := upd_same
    have hR7 := (hR5.same s6).keep (Keep.butI but_upd hp6 (H' := upd H6 p (.ins CB dx (putF "_longest" (.int (lg R : Nat)) f3))))
    have L7 := (L5.same s6).ins (but_upd (o := .ins CB dx (putF "_longest" (.int (lg R : Nat)) f3))) hp6
    generalize upd H6 p (.ins CB dx (putF "_longest" (.int (lg R : Nat)) f3)) = H7 at b4 hp7 hR7 L7 ⊢
    have g4 : (putF "_longest" (.int (lg R : Nat)) f3).lookup ("rules" : Str) = some (.ref a2) := by rw [lookup_putF, if_neg (by decide +kernel)]; exact g3
    have g4s : (putF "_longest" (.int (lg R : Nat)) f3).lookup ("signs" : Str) = some (.str (S sg)) := by rw [lookup_putF, if_neg (by decide +kernel)]; exact g3s
    have g4l : (putF "_longest" (.int (lg R : Nat)) f3).lookup ("_lefts" : Str) = some (.ref pl) := by rw [lookup_putF, if_neg (by decide +kernel)]; exact g3l
    have g4g : (putF "_longest" (.int (lg R : Nat)) f3).lookup ("_longest" : Str) = some (.int (lg R : Nat)) := by walk_at "lk"
    have l4 : (putF "_longest" (V.int (lg R : Nat)) f3).length ≤ 4 := by have := putF_le "_longest" (V.int (lg R : Nat)) f3; omega
    generalize putF "_longest" (V.int (lg R : Nat)) f3 = f4 at hp7 g4 g4s g4l g4g l4
    walk_at "nx"
    -- _quarrel
    have h41 : ∀ r ∈ R, r.1.length ≤ 4 ∧ r.2.length ≤ 1 := fun r m => ⟨(hB.2.2.1 r m).2.1, (hw r m).2⟩
    refine ⟨_, rfl, p, CB, dx, f4, _, rfl, hp7, cl, T.n_Book_rules, g4, _, rfl, p, CB, dx, f4, _, rfl, hp7, cl, T.n_Book__lefts, g4l, _, rfl, p, CB, dx, f4, _, rfl, hp7, cl, T.n_Book__longest, g4g, a2, pl, ys, R, rfl, hR7, L7, hw, hl, h41, fun H8 s8 => ?_⟩
    have hp8 := s8 _ _ hp7
    refine ⟨_, rfl, p, CB, dx, f4, rfl, hp8, cl, T.n_Book__quarrel, by omega, ?_⟩
    have b5 : But p H (upd H8 p (.ins CB dx (putF "_quarrel" (optS (quarrel R)) f4))) := b4.trans ((But.same s8).trans but_upd)
    have hp9 : (upd H8 p (.ins CB dx (putF "_quarrel" (optS (quarrel R)) f4))) p = some (.ins CB dx (putF "_quarrel" (optS (quarrel R)) f4)) := upd_same
    have hR9 := (hR7.same s8).keep (Keep.butI but_upd hp8 (H' := upd H8 p (.ins CB dx (putF "_quarrel" (optS (quarrel R)) f4))))
    have L9 := (L7.same s8).ins (but_upd (o := .ins CB dx (putF "_quarrel" (optS (quarrel R)) f4))) hp8
    generalize upd H8 p (.ins CB dx (putF "_quarrel" (optS (quarrel R)) f4)) = H9 at b5 hp9 hR9 L9 ⊢
    have g5 : (putF "_quarrel" (optS (quarrel R)) f4).lookup ("rules" : Str) = some (.ref a2) := by rw [lookup_putF, if_neg (by decide +kernel)]; exact g4
    have g5s : (putF "_quarrel" (optS (quarrel R)) f4).lookup ("signs" : Str) = some (.str (S sg)) := by rw [lookup_putF, if_neg (by decide +kernel)]; exact g4s
    have g5l : (putF "_quarrel" (optS (quarrel R)) f4).lookup ("_lefts" : Str) = some (.ref pl) := by rw [lookup_putF, if_neg (by decide +kernel)]; exact g4l
    have g5g : (putF "_quarrel" (optS (quarrel R)) f4).lookup ("_longest" : Str) = some (.int (lg R : Nat)) := by rw [lookup_putF, if_neg (by decide +kernel)]; exact g4g
    have g5q : (putF "_quarrel" (optS (quarrel R)) f4).lookup ("_quarrel" : Str) = some (optS (quarrel R)) := by walk_at "lk"
    have l5 : (putF "_quarrel" (optS (quarrel R)) f4).length ≤ 5 := by have := putF_le "_quarrel" (optS (quarrel R)) f4; omega
    generalize putF "_quarrel" (optS (quarrel R)) f4 = f5 at hp9 g5 g5s g5l g5g g5q l5
    walk_at "nx"
    -- _moves
    refine ⟨_, rfl, _, rfl, p, CB, dx, f5, _, rfl, hp9, cl, T.n_Book_rules, g5, a2, ys, R, sg, rfl, hR9, hl, fun r m => (h41 r m).1, by omega, fun pm H10 s10 => ?_⟩
    have hp10 := s10 _ _ hp9
    refine ⟨_, rfl, p, CB, dx, f5, rfl, hp10, cl, T.n_Book__moves, by omega, ?_⟩
    refine k _ ⟨dx, putF "_moves" (.ref pm) f5, a2, ys, pl, upd_same, ?_, ?_, (hR9.same s10).keep (Keep.butI but_upd hp10), ?_, (L9.same s10).ins but_upd hp10, ?_, ?_⟩ (b5.trans ((But.same s10).trans but_upd))
    all_goals rw [lookup_putF, if_neg (by decide +kernel)]
    all_goals assumption
end
end Sh
set_option Elab.async false
set_option linter.all false
set_option maxRecDepth 100000
set_option maxHeartbeats 4000000
namespace Sh
open PySem PySem.Spec PyProof.Rows L2
open SX (S S_inj S_len S_cat)
open Bk (Rule firstAt lg bestUp used left drain pushS Wf quarrel)
local macro_rules | `(tactic| walk_at "nx") => `(tactic| repeat (with_reducible first | refine Sh.gn_mk ?_ | refine Sh.nx_mk ?_ | refine Sh.st_nx ?_ | refine Sh.rt_mk ?_ | refine Sh.ct_mk ?_ | refine Sh.bk_mk ?_))
local macro_rules | `(tactic| walk_at "sq") => `(tactic| first | exact SqL.of upd_same | exact SqT.of upd_same | exact SqL.of (by assumption) | exact SqT.of (by assumption) | assumption | exact Or.inl (SqL.of (by assumption)) | exact Or.inr (SqT.of (by assumption)) | exact Or.inl (by assumption) | exact Or.inr (by assumption))
local macro_rules | `(tactic| walk_at "hp") => `(tactic| first | exact upd_same | assumption)
local macro_rules | `(tactic| walk_at "sz") => `(tactic| first | exact Nat.le_of_ble_eq_true rfl | omega)
local macro_rules | `(tactic| walk_at "sd") => `(tactic| first | omega | exact rfl | assumption | (show (0 : Int) < _; omega) | exact And.intro (by omega) (by omega) | exact Or.inl (And.intro (by omega) (by omega)) | exact Or.inr (And.intro (by omega) (by omega)) | omega | exact Sh.sz_S (by omega) | decide)
local macro_rules | `(tactic| walk_at "rd1") => `(tactic| first
  | (with_reducible first | refine Sh.gn_mk ?_ | refine Sh.nx_mk ?_ | refine Sh.st_nx ?_ | refine Sh.rt_mk ?_ | refine Sh.ct_mk ?_ | refine Sh.bk_mk ?_)
  | refine Exists.intro (α := V) _ (And.intro rfl ?_)
  | refine Exists.intro (α := Bool) _ (And.intro rfl ?_)
  | refine Exists.intro (α := Int) _ (And.intro rfl ?_)
  | refine Exists.intro (α := PySem.Str) _ (And.intro rfl ?_)
  | refine Exists.intro (α := Int) _ (Exists.intro (α := Int) _ (And.intro rfl (And.intro rfl ?_)))
  | refine Exists.intro (α := PySem.Str) _ (Exists.intro (α := PySem.Str) _ (And.intro rfl (And.intro rfl ?_)))
  | refine Exists.intro (α := Int) _ (Exists.intro (α := Int) _ (And.intro rfl ?_))
  | refine Or.inl (Exists.intro (α := Int) _ (And.intro rfl ?_))
  | refine Exists.intro _ (Exists.intro _ (Exists.intro _ (Exists.intro _ (And.intro rfl (And.intro rfl (And.intro (by walk_at "sq") (And.intro rfl ?_)))))))
  | refine Exists.intro _ (Exists.intro _ (Exists.intro _ (Exists.intro _ (And.intro rfl (And.intro rfl (And.intro (by walk_at "hp") (And.intro rfl ?_)))))))
  | refine And.intro (by walk_at "sd") ?_
  )
local macro_rules | `(tactic| walk_at "rd") => `(tactic| repeat walk_at "rd1")
local macro_rules | `(tactic| walk_at "lk") => `(tactic| first | exact rfl | (rw [lookup_putF, if_pos rfl]) | (rw [lookup_putF, if_neg (by decide +kernel)]; walk_at "lk"))

section
variable {P : Program} {w : World} {K : PySem.W.Frag} {mg : Str → Option Value} {base : Heap} {CB XR FE DI XS FT DT XT SE : Addr}
/-- a thing that is no text over the signs -/
def BadT (K : PySem.W.Frag) (sg : List Nat) (H : Hp) (v : V) : Prop := NotStr K H v ∨ ∃ t : List Nat, v = .str (S t) ∧ t.length ≤ 1000 ∧ isText sg t 0 200 = false
/-- check_text -/
def spTextX (K : PySem.W.Frag) (XT : Addr) : Sp := fun vs H Q E => ∃ (sg : List Nat) (v : V), vs = [.str (S sg), v] ∧ BadT K sg H v ∧ Thrown E H XT "thing" v
theorem c_X_check_text (T : TxtX P K mg CB XR FE DI XS FT DT XT SE) : Cal P w K mg base (L2.CX P w) 3 "check_text" (spTextX K XT) := by
  have x_WrongThing := x_WrongThing (P := P) (w := w) (base := base) T
  have c_is_text := c_is_text (P := P) (w := w) (base := base) T.toTxtC.toTxt
  refine Cal.mkX T.toTxtC.toTxt.d_check_text sc_check_text (fun vs H Q E h => ?_) (fun f cdv A outer s H vs Q E hr h => ?_)
  · obtain ⟨sg, v, rfl, _⟩ := h
    rfl
  · obtain ⟨sg, v, rfl, hb, th⟩ := h
    refine ⟨_, (pss_one (ps_if (pt_not (pt_truth (pe_c c_is_text hr (by decide) rfl (pa_cons (pv 0) (pa_cons (pv 1) (pa_cons pe_int (pa_cons (pe_gK rfl T.g_LONGEST_TEXT) pa_nil))))) (by intro _; rfl)))
    (pss_one (ps_raiseX T.e_BadText x_WrongThing hr (by decide) rfl (takes_of rfl rfl rfl rfl) rfl (pa_cons (pv 1) pa_nil)))
    pss_nil)), ?_⟩
    rcases hb with hn | ⟨t, rfl, hl, he⟩
    · walk_at "rd"
      refine .inr ⟨_, _, _, _, rfl, hn, ?_⟩
      walk_at "rd"
      first | exact mk1 T.e_BadText T.nf_BadText_thing trivial th | exact (mk1 T.e_BadText T.nf_BadText_thing trivial th).2
    · walk_at "rd"
      refine .inl ⟨sg, t, 0, 200, rfl, by omega, ?_⟩
      rw [he]
      walk_at "rd"
      first | exact mk1 T.e_BadText T.nf_BadText_thing trivial th | exact (mk1 T.e_BadText T.nf_BadText_thing trivial th).2
def spBookCallX (K : PySem.W.Frag) (C XT : Addr) : Sp := fun vs H Q E => ∃ (p : Addr) (sg : List Nat) (R : List Rule) (v : V), vs = [.ref p, v] ∧ BookAt K C H p sg R ∧ BadT K sg H v ∧ Thrown E H XT "thing" v
theorem c_X_Book___call__ (T : TxtX P K mg CB XR FE DI XS FT DT XT SE) : MetX P w K mg base 4 CB "__call__" (spBookCallX K CB XT) := by
  have c_X_check_text := c_X_check_text (P := P) (w := w) (base := base) T
  have c_left_over := c_left_over (P := P) (w := w) (base := base) T.toTxtC.toTxt
  refine MetX.mk0 T.toTxtC.m_Book___call__ sc_Book___call__ (fun vs H Q E h => ?_) (fun f cdv A outer s H vs Q E hr h => ?_)
  · obtain ⟨p, sg, R, v, rfl, _⟩ := h
    rfl
  · obtain ⟨p, sg, R, v, rfl, ⟨dx, fs, a, xs, pl, hp, g1, g2, hR, g3, L, g4, g5⟩, hb, th⟩ := h
    have cl := T.k_Book.cl
    refine ⟨_, (pss_cons (ps_expr (pe_cX c_X_check_text hr (by decide) (takes_of rfl rfl rfl rfl) rfl (pa_cons (pe_fld (pv 0) rfl) (pa_cons (pv 1) pa_nil))))
  (pss_one (ps_ret (pe_c c_left_over hr (by decide) rfl (pa_cons (pe_fld (pv 0) rfl) (pa_cons (pe_fld (pv 0) rfl) (pa_cons (pv 1) pa_nil))))))), ?_⟩
    exact ⟨_, rfl, p, CB, dx, fs, _, rfl, hp, cl, T.n_Book_signs, g1, _, rfl, sg, v, rfl, hb, th⟩
def spBookCall (K : PySem.W.Frag) (C : Addr) : Sp := fun vs H Q _ => ∃ (p : Addr) (sg t : List Nat) (R : List Rule), vs = [.ref p, .str (S t)] ∧ BookAt K C H p sg R ∧ Wf R ∧ t.length ≤ 200 ∧ (∀ c ∈ t, c ∈ sg) ∧
  ∀ H' : Hp, Same H H' → Q (.str (S (left R t))) H'
theorem c_Book___call__ (T : TxtC K mg CB) : MetC P w K mg base 3 CB "__call__" (spBookCall K CB) := by
  have c_check_text := c_check_text (P := P) (w := w) (base := base) T.toTxt
  have c_left_over := c_left_over (P := P) (w := w) (base := base) T.toTxt
  refine MetC.mk0 T.m_Book___call__ sc_Book___call__ (fun vs H Q E h => ?_) (fun f cdv A outer s H vs Q E hr h => ?_)
  · obtain ⟨p, sg, t, R, rfl, _⟩ := h
    rfl
  · obtain ⟨p, sg, t, R, rfl, ⟨dx, fs, a, xs, pl, hp, g1, g2, hR, g3, L, g4, g5⟩, hw, ht, hc, k⟩ := h
    have cl := T.k_Book.cl
    refine ⟨_, (pss_cons (ps_expr (pe_c c_check_text hr (by decide) rfl (pa_cons (pe_fld (pv 0) rfl) (pa_cons (pv 1) pa_nil))))
  (pss_one (ps_ret (pe_c c_left_over hr (by decide) rfl (pa_cons (pe_fld (pv 0) rfl) (pa_cons (pe_fld (pv 0) rfl) (pa_cons (pv 1) pa_nil))))))), ?_⟩
    refine ⟨_, rfl, p, CB, dx, fs, _, rfl, hp, cl, T.n_Book_signs, g1, _, rfl, sg, t, rfl, ht, hc, ?_⟩
    walk_at "nx"
    refine ⟨_, rfl, p, CB, dx, fs, _, rfl, hp, cl, T.n_Book__lefts, g3, _, rfl, p, CB, dx, fs, _, rfl, hp, cl, T.n_Book__longest, g4, _, rfl, pl, R, t, rfl, L, hw, by omega, fun H' s' => ?_⟩
    exact k H' s'
def spBookLen (K : PySem.W.Frag) (C : Addr) : Sp := fun vs H Q _ => ∃ (p : Addr) (sg : List Nat) (R : List Rule), vs = [.ref p] ∧ BookAt K C H p sg R ∧ Q (.int (R.length : Nat)) H
theorem c_Book___len__ (T : TxtC K mg CB) : MetC P w K mg base 1 CB "__len__" (spBookLen K CB) := by
  refine MetC.mk0 T.m_Book___len__ sc_Book___len__ (fun vs H Q E h => ?_) (fun f cdv A outer s H vs Q E hr h => ?_)
  · obtain ⟨p, sg, R, rfl, _⟩ := h
    rfl
  · obtain ⟨p, sg, R, rfl, ⟨dx, fs, a, xs, pl, hp, g1, g2, hR, _⟩, k⟩ := h
    have cl := T.k_Book.cl
    refine ⟨_, (pss_one (ps_ret (pe_callB call_len_seq (by rfl) T.b_len (by decide +kernel) (pa_cons (pe_fld (pv 0) rfl) pa_nil)))), ?_⟩
    refine ⟨_, rfl, p, CB, dx, fs, _, rfl, hp, cl, T.n_Book_rules, g2, ?_⟩
    refine ⟨a, xs, rfl, .inr hR.sq, ?_⟩
    rw [hR.len]
    exact k
/-- book[k] -/
def spBookItem (K : PySem.W.Frag) (C : Addr) : Sp := fun vs H Q _ => ∃ (p dx : Addr) (fs : List (Str × V)) (t : Addr) (xs : List V) (k : Nat) (v : V), vs = [.ref p, .int (k : Nat)] ∧ H p = some (.ins C dx fs) ∧ fs.lookup ("rules" : Str) = some (.ref t) ∧ SqT K H t xs ∧ xs[k]? = some v ∧ Q v H
theorem c_Book___getitem__ (T : TxtC K mg CB) : MetC P w K mg base 1 CB "__getitem__" (spBookItem K CB) := by
  refine MetC.mk0 T.m_Book___getitem__ sc_Book___getitem__ (fun vs H Q E h => ?_) (fun f cdv A outer s H vs Q E hr h => ?_)
  · obtain ⟨p, dx, fs, t, xs, k, v, rfl, _⟩ := h
    rfl
  · obtain ⟨p, dx, fs, t, xs, k, v, rfl, hp, g, hT, hx, q⟩ := h
    have cl := T.k_Book.cl
    refine ⟨_, (pss_one (ps_ret (pe_ix ix_tup (pe_fld (pv 0) rfl) (pv 1) (fun _ _ => rfl)))), ?_⟩
    refine ⟨_, rfl, p, CB, dx, fs, _, rfl, hp, cl, T.n_Book_rules, g, ?_⟩
    exact ⟨_, rfl, t, xs, k, v, rfl, rfl, hT, atI_nat hx, q⟩
/-- iter(book) -/
def spBookIter (K : PySem.W.Frag) (C : Addr) : Sp := fun vs H Q _ => ∃ (p dx : Addr) (fs : List (Str × V)) (t : Addr) (xs : List V), vs = [.ref p] ∧ H p = some (.ins C dx fs) ∧ fs.lookup ("rules" : Str) = some (.ref t) ∧ SqT K H t xs ∧ ∀ it, H it = none → (∀ b o, H b = some o → b < it) → Q (.ref it) (upd H it (TiO t it))
theorem c_Book___iter__ (T : TxtC K mg CB) : MetC P w K mg base 1 CB "__iter__" (spBookIter K CB) := by
  refine MetC.mk0 T.m_Book___iter__ sc_Book___iter__ (fun vs H Q E h => ?_) (fun f cdv A outer s H vs Q E hr h => ?_)
  · obtain ⟨p, dx, fs, t, xs, rfl, _⟩ := h
    rfl
  · obtain ⟨p, dx, fs, t, xs, rfl, hp, g, hT, k⟩ := h
    have cl := T.k_Book.cl
    refine ⟨_, (pss_one (ps_ret (pe_callB call_iterT (by rfl) T.b_iter (by decide +kernel) (pa_cons (pe_fld (pv 0) rfl) pa_nil)))), ?_⟩
    refine ⟨_, rfl, p, CB, dx, fs, _, rfl, hp, cl, T.n_Book_rules, g, ?_⟩
    exact ⟨t, xs, rfl, hT, k⟩
theorem shaped_tup {R : List Rule} (h : RChars R) : SeqAt.shaped (.tuple (R.map rD)) = true := by
  obtain ⟨h1, h2⟩ := lay_rules h
  unfold SeqAt.shaped
  rw [Bool.and_eq_true]
  refine ⟨h1, decide_eq_true ?_⟩
  show PyData.depthAll (R.map rD) + 1 ≤ 64
  omega
/-! ### books that are equal -/
def spBookEq (K : PySem.W.Frag) (C : Addr) : Sp := fun vs H Q _ => (∃ (p q : Addr) (sg su : List Nat) (R N : List Rule), vs = [.ref p, .ref q] ∧ BookAt K C H p sg R ∧ BookAt K C H q su N ∧ RChars R ∧ RChars N ∧ Q (.bl (decide (sg = su ∧ R = N))) H) ∨
  ∃ (p q : Addr) (ys : List V), vs = [.ref p, .ref q] ∧ SqT K H q ys ∧ Q (.bl false) H
theorem eqv_rules : ∀ (R N : List Rule), PyData.eqvAll (R.map rD) (N.map rD) = decide (R = N)
  | [], [] => by simp [PyData.eqvAll]
  | [], _ :: _ => by simp [PyData.eqvAll]
  | _ :: _, [] => by simp [PyData.eqvAll]
  | r :: R, n :: N => by
    show (PyData.eqv (rD r) (rD n) && PyData.eqvAll (R.map rD) (N.map rD)) = _
    rw [rD_eqv, eqv_rules R N, Bool.eq_iff_iff]
    simp
theorem c_Book___eq__ (T : TxtC K mg CB) : MetC P w K mg base 1 CB "__eq__" (spBookEq K CB) := by
  refine MetC.mk0 T.m_Book___eq__ sc_Book___eq__ (fun vs H Q E h => ?_) (fun f cdv A outer s H vs Q E hr h => ?_)
  · rcases h with ⟨p, q, sg, su, R, N, rfl, _⟩ | ⟨p, q, ys, rfl, _⟩ <;> rfl
  · rcases h with ⟨p, q, sg, su, R, N, rfl, ⟨dx, fs, a, xs, pl, hp, g1, g2, hR, _⟩, ⟨dy, gs, b, ys, pl2, hq, k1, k2, hN, _⟩, cR, cN, k⟩ | ⟨p, q, ys, rfl, hq, k⟩
    · have cl := T.k_Book.cl
      refine ⟨_, (pss_one (ps_ret (pe_and (pe_callB (call_isCT T.i_Book T.kb_tuple) (by rfl) T.b_isinstance (by decide +kernel) (pa_cons (pv 1) (pa_cons (pe_glob (v := .ref CB) rfl T.k_Book.mgC rfl) pa_nil))) (pe_and (pe_cmpR op_eq (pe_fld (pv 0) rfl) (pe_fld (pv 1) rfl) (nomark _)) (pe_one (pe_cmpR (op_eqD hr.units) (pe_fld (pv 0) rfl) (pe_fld (pv 1) rfl) (nomark _))))))), ?_⟩
      refine ⟨_, rfl, .inl ⟨q, dy, gs, rfl, hq, true, rfl, ?_⟩⟩
      refine iteT ?_
      refine ⟨_, rfl, p, CB, dx, fs, _, rfl, hp, cl, T.n_Book_signs, g1, _, rfl, q, CB, dy, gs, _, rfl, hq, cl, T.n_Book_signs, k1, rfl, _, rfl, ?_⟩
      by_cases hs : sg = su
      · rw [decide_eq_true (by rw [hs])]
        refine iteT ?_
        refine ⟨_, rfl, p, CB, dx, fs, _, rfl, hp, cl, T.n_Book_rules, g2, _, rfl, q, CB, dy, gs, _, rfl, hq, cl, T.n_Book_rules, k2, .tuple (R.map rD), .tuple (N.map rD), .tup hR.sq (dpAll_rules hR.items), .tup hN.sq (dpAll_rules hN.items), ?_, ?_, ?_⟩
        · exact shaped_tup cR
        · exact shaped_tup cN
        · have e : PyData.eqv (.tuple (R.map rD)) (.tuple (N.map rD)) = decide (sg = su ∧ R = N) := by
            show PyData.eqvAll _ _ = _
            rw [eqv_rules]
            exact decide_eq_decide.mpr ⟨fun z => ⟨hs, z⟩, fun z => z.2⟩
          rw [e]
          exact k
      · rw [decide_eq_false (fun z => hs (S_inj (V.str.inj z)))]
        refine iteF ?_
        rw [decide_eq_false (fun z => hs z.1)] at k
        exact k
    · refine ⟨_, (pss_one (ps_ret (pe_and (pe_callB (call_isCT T.i_Book T.kb_tuple) (by rfl) T.b_isinstance (by decide +kernel) (pa_cons (pv 1) (pa_cons (pe_glob (v := .ref CB) rfl T.k_Book.mgC rfl) pa_nil))) (pe_and (pe_cmpR op_eq (pe_fld (pv 0) rfl) (pe_fld (pv 1) rfl) (nomark _)) (pe_one (pe_cmpR (op_eqD hr.units) (pe_fld (pv 0) rfl) (pe_fld (pv 1) rfl) (nomark _))))))), ?_⟩
      refine ⟨_, rfl, .inr ⟨q, ys, rfl, hq, false, rfl, ?_⟩⟩
      exact iteF k
end
end Sh
set_option Elab.async false
set_option linter.all false
set_option maxRecDepth 100000
set_option maxHeartbeats 4000000
namespace Sh
open PySem PySem.Spec PyProof.Rows L2
open SX (S S_inj S_len S_cat)
open Bk (Rule firstAt lg bestUp used left drain pushS Wf quarrel fits useR over res1 res2 Meets)
/-- a comprehension over a list whose items are told by l -/
theorem lc_lstR {α : Type} {Rel : Hp → V → α → Prop} {l : List α} {xs : List V} {K : PySem.W.Frag} {a : Addr} {g : TG} {tt : TT} {te : TE} {vs : List Nat} {σ : L2.St} {H1 : Hp} {D : Addr} {Qd : Hp → Prop} (hlen : xs.length = l.length)
    (Pv : List α → Hp → Prop) (h0 : Pv [] (upd H1 D (.lst []))) (hG : ∀ pre H, Pv pre H → SqL K H a xs ∧ ∀ (i : Nat) x y, xs[i]? = some x → l[i]? = some y → Rel H x y)
    (hs : ∀ pre y post x H, l = pre ++ y :: post → xs[pre.length]? = some x → Rel H x y → Pv pre H → g x (wipe σ vs) H fun σ2 H2 => wipe σ2 vs = wipe σ vs ∧ tt σ2 H2 fun b H3 =>
      if b = true then te σ2 H3 fun y' H4 => ∃ acc, H4 D = some (.lst acc) ∧ acc.length < sizeLine ∧ Pv (pre ++ [y]) (upd H4 D (.lst (acc ++ [y']))) else Pv (pre ++ [y]) H3) (hd : ∀ H, Pv l H → Qd H) :
    ∃ W : Nat → Nat → Hp → Prop, (∃ m, W 0 m (upd H1 D (.lst []))) ∧ ∀ i m H, W i m H →
      ((Itl K a).stop i H ∧ Qd H) ∨ ((Itl K a).go i H ∧ ∃ Nx : Hp → Prop, (∀ H', Nx H' → ∃ m', m' < m ∧ W (i + 1) m' H') ∧ ∀ x H', (Itl K a).yld i H x H' → g x (wipe σ vs) H' fun σ2 H2 => wipe σ2 vs = wipe σ vs ∧ tt σ2 H2 fun b H3 =>
        if b = true then te σ2 H3 fun y H4 => ∃ acc, H4 D = some (.lst acc) ∧ acc.length < sizeLine ∧ Nx (upd H4 D (.lst (acc ++ [y]))) else Nx H3) := by
  have w := walk_list (K := K) (a := a) (xs := xs)
  refine lc_it w (fun i H => Pv (l.take i) H) (by simpa using h0) (fun i H _ p => (hG _ H p).1) (fun i x H H' hi p y => ?_) (fun H p => hd H (by simpa [hlen] using p))
  obtain ⟨rfl, hx⟩ := y
  have hi' : i < l.length := hlen ▸ hi
  have hl : l[i]? = some l[i] := by simp [hi']
  obtain ⟨e1, e2⟩ := take_succ_of hl
  have q := hs _ l[i] _ x H' e2 (by rw [List.length_take, Nat.min_eq_left (Nat.le_of_lt hi')]; exact hx) ((hG _ H' p).2 i x l[i] hx hl) p
  rw [← e1] at q
  exact q
theorem asg_J {te : TE} {g : TG} {D : Ends} {σ : L2.St} {H : Hp} (P : V → Hp → Prop) (h : ∀ Q : VK, (∀ v H', P v H' → Q v H') → te σ H Q) (k : ∀ v H', P v H' → g v σ H' D.nx) : tAsg te g D σ H := h _ k
local macro_rules | `(tactic| walk_at "nx") => `(tactic| repeat (with_reducible first | refine Sh.gn_mk ?_ | refine Sh.nx_mk ?_ | refine Sh.st_nx ?_ | refine Sh.rt_mk ?_ | refine Sh.ct_mk ?_ | refine Sh.bk_mk ?_))
local macro_rules | `(tactic| walk_at "sq") => `(tactic| first | exact SqL.of upd_same | exact SqT.of upd_same | exact SqL.of (by assumption) | exact SqT.of (by assumption) | assumption | exact Or.inl (SqL.of (by assumption)) | exact Or.inr (SqT.of (by assumption)) | exact Or.inl (by assumption) | exact Or.inr (by assumption))
local macro_rules | `(tactic| walk_at "hp") => `(tactic| first | exact upd_same | assumption)
local macro_rules | `(tactic| walk_at "sz") => `(tactic| first | exact Nat.le_of_ble_eq_true rfl | omega)
local macro_rules | `(tactic| walk_at "sd") => `(tactic| first | omega | exact rfl | assumption | (show (0 : Int) < _; omega) | exact And.intro (by omega) (by omega) | exact Or.inl (And.intro (by omega) (by omega)) | exact Or.inr (And.intro (by omega) (by omega)) | omega | exact Sh.sz_S (by omega) | decide)
local macro_rules | `(tactic| walk_at "rd1") => `(tactic| first
  | (with_reducible first | refine Sh.gn_mk ?_ | refine Sh.nx_mk ?_ | refine Sh.st_nx ?_ | refine Sh.rt_mk ?_ | refine Sh.ct_mk ?_ | refine Sh.bk_mk ?_)
  | refine Exists.intro (α := V) _ (And.intro rfl ?_)
  | refine Exists.intro (α := Bool) _ (And.intro rfl ?_)
  | refine Exists.intro (α := Int) _ (And.intro rfl ?_)
  | refine Exists.intro (α := PySem.Str) _ (And.intro rfl ?_)
  | refine Exists.intro (α := Int) _ (Exists.intro (α := Int) _ (And.intro rfl (And.intro rfl ?_)))
  | refine Exists.intro (α := PySem.Str) _ (Exists.intro (α := PySem.Str) _ (And.intro rfl (And.intro rfl ?_)))
  | refine Exists.intro (α := Int) _ (Exists.intro (α := Int) _ (And.intro rfl ?_))
  | refine Or.inl (Exists.intro (α := Int) _ (And.intro rfl ?_))
  | refine Exists.intro _ (Exists.intro _ (Exists.intro _ (Exists.intro _ (And.intro rfl (And.intro rfl (And.intro (by walk_at "sq") (And.intro rfl ?_)))))))
  | refine Exists.intro _ (Exists.intro _ (Exists.intro _ (Exists.intro _ (And.intro rfl (And.intro rfl (And.intro (by walk_at "hp") (And.intro rfl ?_)))))))
  | refine And.intro (by walk_at "sd") ?_
  )
local macro_rules | `(tactic| walk_at "rd") => `(tactic| repeat walk_at "rd1")
local macro_rules | `(tactic| walk_at "lk") => `(tactic| first | exact rfl | (rw [lookup_putF, if_pos rfl]) | (rw [lookup_putF, if_neg (by decide +kernel)]; walk_at "lk"))

section
variable {P : Program} {w : World} {K : PySem.W.Frag} {mg : Str → Option Value} {base : Heap} {CB CE : Addr}
theorem used_filter (R : List Rule) (q : List Nat) : used R q = ((R.filter (fits q)).head?).map (useR q) := by
  unfold used
  rw [List.head?_filter]
theorem RItem.sm {H H' : Hp} {v : V} {r : Rule} (h : RItem K H v r) (s : Same H H') : RItem K H' v r := h.same (Keep.same s)
def spLawLeft (K : PySem.W.Frag) : Sp := fun vs H Q _ => ∃ (a : Addr) (xs : List V) (R : List Rule) (t : List Nat), vs = [.ref a, .str (S t)] ∧ (SqL K H a xs ∨ SqT K H a xs) ∧ Items (RItem K) H xs R ∧ R.length ≤ 64 ∧ Wf R ∧ (∀ r ∈ R, r.1.length ≤ 4) ∧ t.length ≤ 1000 ∧
  ∀ H' : Hp, Same H H' → Q (.str (S (left R t))) H'
theorem c__law_left (T : Txt K mg) : Cal P w K mg base CX0 1 "_law_left" (spLawLeft K) := by
  refine Cal.mk0 T.d__law_left sc__law_left (fun vs H Q E h => ?_) (fun f cdv A outer s H vs Q E hr h => ?_)
  · obtain ⟨a, xs, R, t, rfl, _⟩ := h
    rfl
  · obtain ⟨a, xs, R, t, rfl, hS, hR, hl, hw, h4, ht, k⟩ := h
    have hSl := S_len t
    rcases hS with hS | hS
    · refine ⟨_, (pss_cons (ps_set (i := 2) sc__law_left.nd rfl (Or.inr rfl) pe_str)
  (pss_cons (ps_for PassesOwn.never rfl (pi_str (pv 1)) (pg_name (i := 3) sc__law_left.nd rfl (Or.inl rfl))
    (pss_cons (ps_set (i := 2) sc__law_left.nd rfl (Or.inr rfl) (pe_op op_add_str (pv 2) (pv 3)))
    (pss_cons (ps_setLc (i := 4) (own := [("_law_rule_here", 5)]) (g := gName 5) (by rfl) sc__law_left.nd rfl rfl (sw_true rfl rfl rfl (by decide +kernel)) (pi_list (pv 0)) (blkOk_by (N := ["_law_rules", "_law_text_here", "_law_pile", "_law_sign", "_law_fitting", "_law_rule_here"]) (sc := defScope s__law_left) (by decide +kernel)) (fun _ _ _ _ _ => (pg_name (i := 5) sc__law_left.nd rfl (Or.inl rfl))) (fun _ _ _ _ _ => (pts_one (pt_val (pe_m1 PySem.F.slot_str_endswith PySem.F.type_str_endswith mt_endswith (pv 2) (pe_ix ix_tupB (pv 5) pe_int (fun _ _ => rfl)))))) (fun _ _ _ _ _ => (pv 5)))
    (pss_one (ps_while PassesOwn.never (pt_truth (pv 4) (by intro _; rfl))
      (pss_cons (ps_set (i := 2) sc__law_left.nd rfl (Or.inr rfl) (pe_op op_add_str (pe_slice sl_str (pv 2) po_none (po_some (pe_op op_sub (pe_callB call_len_str (by rfl) T.b_len (by decide +kernel) (pa_cons (pv 2) pa_nil)) (pe_callB call_len_str (by rfl) T.b_len (by decide +kernel) (pa_cons (pe_ix ix_tup (pe_ix ix_list (pv 4) pe_int (fun _ _ => rfl)) pe_int (fun _ _ => rfl)) pa_nil))))) (pe_ix ix_tup (pe_ix ix_list (pv 4) pe_int (fun _ _ => rfl)) pe_int (fun _ _ => rfl))))
      (pss_one (ps_setLc (i := 4) (own := [("_law_rule_here", 5)]) (g := gName 5) (by rfl) sc__law_left.nd rfl rfl (sw_true rfl rfl rfl (by decide +kernel)) (pi_list (pv 0)) (blkOk_by (N := ["_law_rules", "_law_text_here", "_law_pile", "_law_sign", "_law_fitting", "_law_rule_here"]) (sc := defScope s__law_left) (by decide +kernel)) (fun _ _ _ _ _ => (pg_name (i := 5) sc__law_left.nd rfl (Or.inl rfl))) (fun _ _ _ _ _ => (pts_one (pt_val (pe_m1 PySem.F.slot_str_endswith PySem.F.type_str_endswith mt_endswith (pv 2) (pe_ix ix_tupB (pv 5) pe_int (fun _ _ => rfl)))))) (fun _ _ _ _ _ => (pv 5))))))))))
  (pss_one (ps_ret (pv 2))))), ?_⟩
      walk_at "rd"
      refine for_str (l := t) (fun pre σ H2 => ∃ (v3 v4 v5 : Option V), σ = [some (.ref a), some (.str (S t)), some (.str (S (left R pre))), v3, v4, v5] ∧ Same H H2)
        ⟨_, _, _, rfl, Same.refl H⟩ ?_ ?_
      · rintro pre c post σ H2 e ⟨v3, v4, v5, rfl, s2⟩
        have hpl : pre.length + 1 ≤ t.length := by
          have := congrArg List.length e
          simp at this
          omega
        have hlp := left_len hw pre
        walk_at "nx"
        refine ⟨_, rfl, _, rfl, _, _, rfl, rfl, by rw [S_len, S_len]; exact Nat.le_trans (m := 1001) (by simp; omega) (by decide), ?_⟩
        rw [S_cat]
        walk_at "nx"
        refine st_asgJ (fun v H3 => ∃ (pf : Addr) (ys : List V), v = .ref pf ∧ Same H2 H3 ∧ H3 pf = some (.lst ys) ∧ Items (RItem K) H3 ys (R.filter (fits (left R pre ++ [c])))) (fun Q' hQ => ?_) ?_
        · refine ⟨_, rfl, a, rfl, ⟨_, (fun {H1 H2 : Hp} (s : Same H1 H2) (h : SqL K H1 a xs) => s.seq h) (s2) hS⟩, fun D hD => lc_lstR (K := K) (a := a) (xs := xs) (l := R) (Rel := RItem K) hR.1
            (fun pre3 H3 => ∃ acc, H3 D = some (.lst acc) ∧ Items (RItem K) H3 acc (pre3.filter (fits (left R pre ++ [c]))) ∧ Same H2 H3) ⟨[], upd_same, Items.nil, same_new hD⟩
            (fun pre3 H3 ⟨_, _, _, s3⟩ => ⟨(fun {H1 H2 : Hp} (s : Same H1 H2) (h : SqL K H1 a xs) => s.seq h) (s2.trans s3) hS, fun i x y h1 h2 => (hR.2 i x y h1 h2).sm (s2.trans s3)⟩) ?_ ?_⟩
          · rintro pre3 r post3 x H3 e3 hx ⟨qr, rfl, sq⟩ ⟨acc, h3, ita, s3⟩
            have hpl3 : pre3.length + 1 ≤ R.length := by
              have := congrArg List.length e3
              simp at this
              omega
            have hal : acc.length < sizeLine := by
              have h1 := ita.1
              have h2 := List.length_filter_le (fits (left R pre ++ [c])) pre3
              exact Nat.lt_of_le_of_lt (m := 64) (by omega) (by decide)
            refine ⟨rfl, ?_⟩
            refine ⟨_, rfl, ⟨_, rfl⟩, _, rfl, qr, _, 0, .str (S r.1), rfl, rfl, sq, rfl, _, _, rfl, rfl, _, rfl, ?_⟩
            rw [endswith_S]
            cases hc : fits (left R pre ++ [c]) r with
            | true =>
              have hc' : r.1.isSuffixOf ((left R pre ++ [c])) = true := hc
              rw [hc']
              refine iteT ?_
              have hk : Keep H3 (upd H3 D (.lst (acc ++ [.ref qr]))) := Keep.butL but_upd h3
              refine ⟨_, rfl, acc, h3, hal, acc ++ [.ref qr], upd_same, ?_, same_mut s3 hD⟩
              rw [List.filter_append, show [r].filter (fits (left R pre ++ [c])) = [r] by simp [hc]]
              exact ita.snoc (fun x y h => h.same hk) ⟨qr, rfl, hk.seq sq⟩
            | false =>
              have hc' : r.1.isSuffixOf ((left R pre ++ [c])) = false := hc
              rw [hc']
              refine iteF ?_
              refine ⟨acc, h3, ?_, s3⟩
              rw [List.filter_append, show [r].filter (fits (left R pre ++ [c])) = [] by simp [hc], List.append_nil]
              exact ita
          · rintro H3 ⟨acc, h3, ita, s3⟩
            exact hQ _ _ ⟨D, acc, rfl, s3, h3, ita⟩
        · rintro v H3 ⟨pf, ys, rfl, s3, hf, itf⟩
          walk_at "nx"
          refine ⟨fun m σ H4 => ∃ (q : List Nat) (pf : Addr) (ys : List V) (v5 : Option V), σ = [some (.ref a), some (.str (S t)), some (.str (S q)), some (.str (S [c])), some (.ref pf), v5] ∧ Same H H4 ∧ H4 pf = some (.lst ys) ∧ Items (RItem K) H4 ys (R.filter (fits q)) ∧
            q.length ≤ m ∧ q.length ≤ 2000 ∧ drain R m q = left R (pre ++ [c]),
            ⟨(left R pre).length + 1, left R pre ++ [c], pf, ys, _, rfl, s2.trans s3, hf, itf, by simp, by simp; omega, (left_snoc R pre c).symm⟩, ?_⟩
          clear itf hf s3
          clear s2
          clear H3 ys pf v4 v5 v3
          clear hlp hpl
          rintro m σ H2 ⟨q, pf, ys, v5, rfl, s2, hf, itf, hm, hq, hd⟩
          have hsq := S_len q
          cases hfl : R.filter (fits q) with
          | nil =>
            have hu1 : used R q = none := by rw [used_filter, hfl]; rfl
            have e1 : drain R m q = q := by
              cases m with
              | zero => rfl
              | succ m => simp only [drain, hu1]
            rw [e1] at hd
            have hy : ys = [] := by
              have := itf.1
              rw [hfl] at this
              exact List.eq_nil_of_length_eq_zero this
            subst hy
            refine ⟨_, rfl, false, .inl ⟨[], SqL.of hf, rfl⟩, ?_⟩
            refine iteF ?_
            walk_at "nx"
            exact ⟨_, _, _, by rw [hd], s2⟩
          | cons r rs =>
            have hu1 : used R q = some (useR q r) := by rw [used_filter, hfl]; rfl
            have hlt := (Bk.used_step hu1).len hw
            have hrm : r ∈ R := (List.mem_filter.mp (show r ∈ R.filter (fits q) by rw [hfl]; exact List.mem_cons_self)).1
            have hfr : fits q r = true := (List.mem_filter.mp (show r ∈ R.filter (fits q) by rw [hfl]; exact List.mem_cons_self)).2
            have h4r := h4 r hrm
            have hwr := (hw r hrm)
            obtain ⟨x0, hx0, qr, rfl, sq⟩ := itf.get (i := 0) (y := r) (by rw [hfl]; rfl)
            obtain ⟨ys', rfl⟩ : ∃ ys', ys = .ref qr :: ys' := by
              cases ys with
              | nil => simp at hx0
              | cons y ys' => simp at hx0; exact ⟨ys', by rw [hx0]⟩
            cases m with
            | zero => omega
            | succ m =>
              have hd2 : drain R m (useR q r) = left R (pre ++ [c]) := by
                rw [← hd]; simp only [drain, hu1]
              refine ⟨_, rfl, true, .inl ⟨_, SqL.of hf, rfl⟩, ?_⟩
              refine iteT ⟨_, fun _ _ h => h, ?_⟩
              have hrl : r.1.length ≤ q.length := by
                obtain ⟨x, hx⟩ := Bk.fits_iff.mp hfr
                rw [hx, List.length_append]; omega
              have hsr := S_len r.1
              refine ⟨_, rfl, _, rfl, _, rfl, sz_S (t := q) (by omega), ?_⟩
              refine ⟨_, rfl, pf, _, 0, .ref qr, rfl, rfl, SqL.of hf, atI_at (Int.le_refl 0) rfl, ?_⟩
              refine ⟨qr, _, 0, .str (S r.1), rfl, rfl, sq, rfl, ?_⟩
              refine ⟨_, rfl, sz_S (t := r.1) (by omega), _, _, rfl, rfl, _, rfl, _, rfl, sz_S (t := q) (by omega), ?_⟩
              rw [cut_to (by omega), hsq, hsr, show ((q.length : Int) - (r.1.length : Int)).toNat = q.length - r.1.length by omega]
              refine ⟨_, rfl, pf, _, 0, .ref qr, rfl, rfl, SqL.of hf, atI_at (Int.le_refl 0) rfl, ?_⟩
              refine ⟨qr, _, 1, .str (S r.2), rfl, rfl, sq, rfl, ?_⟩
              refine ⟨_, _, rfl, rfl, by rw [S_len, S_len]; exact Nat.le_trans (m := 3000) (by simp; omega) (by decide), ?_⟩
              rw [S_cat]
              walk_at "nx"
              have hue : q.take (q.length - r.1.length) ++ r.2 = useR q r := rfl
              rw [hue]
              generalize useR q r = u at hd2 hlt
              refine asg_J (fun v H3 => ∃ (pf : Addr) (ys : List V), v = .ref pf ∧ Same H2 H3 ∧ H3 pf = some (.lst ys) ∧ Items (RItem K) H3 ys (R.filter (fits (u)))) (fun Q' hQ => ?_) ?_
              · refine ⟨_, rfl, a, rfl, ⟨_, (fun {H1 H2 : Hp} (s : Same H1 H2) (h : SqL K H1 a xs) => s.seq h) (s2) hS⟩, fun D hD => lc_lstR (K := K) (a := a) (xs := xs) (l := R) (Rel := RItem K) hR.1
                  (fun pre3 H3 => ∃ acc, H3 D = some (.lst acc) ∧ Items (RItem K) H3 acc (pre3.filter (fits (u))) ∧ Same H2 H3) ⟨[], upd_same, Items.nil, same_new hD⟩
                  (fun pre3 H3 ⟨_, _, _, s3⟩ => ⟨(fun {H1 H2 : Hp} (s : Same H1 H2) (h : SqL K H1 a xs) => s.seq h) (s2.trans s3) hS, fun i x y h1 h2 => (hR.2 i x y h1 h2).sm (s2.trans s3)⟩) ?_ ?_⟩
                · rintro pre3 r post3 x H3 e3 hx ⟨qr, rfl, sq⟩ ⟨acc, h3, ita, s3⟩
                  have hpl3 : pre3.length + 1 ≤ R.length := by
                    have := congrArg List.length e3
                    simp at this
                    omega
                  have hal : acc.length < sizeLine := by
                    have h1 := ita.1
                    have h2 := List.length_filter_le (fits (u)) pre3
                    exact Nat.lt_of_le_of_lt (m := 64) (by omega) (by decide)
                  refine ⟨rfl, ?_⟩
                  refine ⟨_, rfl, ⟨_, rfl⟩, _, rfl, qr, _, 0, .str (S r.1), rfl, rfl, sq, rfl, _, _, rfl, rfl, _, rfl, ?_⟩
                  rw [endswith_S]
                  cases hc : fits (u) r with
                  | true =>
                    have hc' : r.1.isSuffixOf ((u)) = true := hc
                    rw [hc']
                    refine iteT ?_
                    have hk : Keep H3 (upd H3 D (.lst (acc ++ [.ref qr]))) := Keep.butL but_upd h3
                    refine ⟨_, rfl, acc, h3, hal, acc ++ [.ref qr], upd_same, ?_, same_mut s3 hD⟩
                    rw [List.filter_append, show [r].filter (fits (u)) = [r] by simp [hc]]
                    exact ita.snoc (fun x y h => h.same hk) ⟨qr, rfl, hk.seq sq⟩
                  | false =>
                    have hc' : r.1.isSuffixOf ((u)) = false := hc
                    rw [hc']
                    refine iteF ?_
                    refine ⟨acc, h3, ?_, s3⟩
                    rw [List.filter_append, show [r].filter (fits (u)) = [] by simp [hc], List.append_nil]
                    exact ita
                · rintro H3 ⟨acc, h3, ita, s3⟩
                  exact hQ _ _ ⟨D, acc, rfl, s3, h3, ita⟩
              · rintro v H3 ⟨pf, ys, rfl, s3, hf, itf⟩
                walk_at "nx"
                exact ⟨m, Nat.lt_succ_self m, u, pf, ys, _, rfl, s2.trans s3, hf, itf, by omega, by omega, hd2⟩
      · rintro σ H2 ⟨v3, v4, v5, rfl, s2⟩
        walk_at "rd"
        exact k H2 s2
    · refine ⟨_, (pss_cons (ps_set (i := 2) sc__law_left.nd rfl (Or.inr rfl) pe_str)
  (pss_cons (ps_for PassesOwn.never rfl (pi_str (pv 1)) (pg_name (i := 3) sc__law_left.nd rfl (Or.inl rfl))
    (pss_cons (ps_set (i := 2) sc__law_left.nd rfl (Or.inr rfl) (pe_op op_add_str (pv 2) (pv 3)))
    (pss_cons (ps_setLc (i := 4) (own := [("_law_rule_here", 5)]) (g := gName 5) (by rfl) sc__law_left.nd rfl rfl (sw_true rfl rfl rfl (by decide +kernel)) (pi_tup (pv 0)) (blkOk_by (N := ["_law_rules", "_law_text_here", "_law_pile", "_law_sign", "_law_fitting", "_law_rule_here"]) (sc := defScope s__law_left) (by decide +kernel)) (fun _ _ _ _ _ => (pg_name (i := 5) sc__law_left.nd rfl (Or.inl rfl))) (fun _ _ _ _ _ => (pts_one (pt_val (pe_m1 PySem.F.slot_str_endswith PySem.F.type_str_endswith mt_endswith (pv 2) (pe_ix ix_tupB (pv 5) pe_int (fun _ _ => rfl)))))) (fun _ _ _ _ _ => (pv 5)))
    (pss_one (ps_while PassesOwn.never (pt_truth (pv 4) (by intro _; rfl))
      (pss_cons (ps_set (i := 2) sc__law_left.nd rfl (Or.inr rfl) (pe_op op_add_str (pe_slice sl_str (pv 2) po_none (po_some (pe_op op_sub (pe_callB call_len_str (by rfl) T.b_len (by decide +kernel) (pa_cons (pv 2) pa_nil)) (pe_callB call_len_str (by rfl) T.b_len (by decide +kernel) (pa_cons (pe_ix ix_tup (pe_ix ix_list (pv 4) pe_int (fun _ _ => rfl)) pe_int (fun _ _ => rfl)) pa_nil))))) (pe_ix ix_tup (pe_ix ix_list (pv 4) pe_int (fun _ _ => rfl)) pe_int (fun _ _ => rfl))))
      (pss_one (ps_setLc (i := 4) (own := [("_law_rule_here", 5)]) (g := gName 5) (by rfl) sc__law_left.nd rfl rfl (sw_true rfl rfl rfl (by decide +kernel)) (pi_tup (pv 0)) (blkOk_by (N := ["_law_rules", "_law_text_here", "_law_pile", "_law_sign", "_law_fitting", "_law_rule_here"]) (sc := defScope s__law_left) (by decide +kernel)) (fun _ _ _ _ _ => (pg_name (i := 5) sc__law_left.nd rfl (Or.inl rfl))) (fun _ _ _ _ _ => (pts_one (pt_val (pe_m1 PySem.F.slot_str_endswith PySem.F.type_str_endswith mt_endswith (pv 2) (pe_ix ix_tupB (pv 5) pe_int (fun _ _ => rfl)))))) (fun _ _ _ _ _ => (pv 5))))))))))
  (pss_one (ps_ret (pv 2))))), ?_⟩
      walk_at "rd"
      refine for_str (l := t) (fun pre σ H2 => ∃ (v3 v4 v5 : Option V), σ = [some (.ref a), some (.str (S t)), some (.str (S (left R pre))), v3, v4, v5] ∧ Same H H2)
        ⟨_, _, _, rfl, Same.refl H⟩ ?_ ?_
      · rintro pre c post σ H2 e ⟨v3, v4, v5, rfl, s2⟩
        have hpl : pre.length + 1 ≤ t.length := by
          have := congrArg List.length e
          simp at this
          omega
        have hlp := left_len hw pre
        walk_at "nx"
        refine ⟨_, rfl, _, rfl, _, _, rfl, rfl, by rw [S_len, S_len]; exact Nat.le_trans (m := 1001) (by simp; omega) (by decide), ?_⟩
        rw [S_cat]
        walk_at "nx"
        refine st_asgJ (fun v H3 => ∃ (pf : Addr) (ys : List V), v = .ref pf ∧ Same H2 H3 ∧ H3 pf = some (.lst ys) ∧ Items (RItem K) H3 ys (R.filter (fits (left R pre ++ [c])))) (fun Q' hQ => ?_) ?_
        · refine ⟨_, rfl, a, rfl, ⟨_, (fun {H1 H2 : Hp} (s : Same H1 H2) (h : SqT K H1 a xs) => (Keep.same s).seq h) (s2) hS⟩, fun D hD => lc_tupR (K := K) (a := a) (xs := xs) (l := R) (Rel := RItem K) hR.1
            (fun pre3 H3 => ∃ acc, H3 D = some (.lst acc) ∧ Items (RItem K) H3 acc (pre3.filter (fits (left R pre ++ [c]))) ∧ Same H2 H3) ⟨[], upd_same, Items.nil, same_new hD⟩
            (fun pre3 H3 ⟨_, _, _, s3⟩ => ⟨(fun {H1 H2 : Hp} (s : Same H1 H2) (h : SqT K H1 a xs) => (Keep.same s).seq h) (s2.trans s3) hS, fun i x y h1 h2 => (hR.2 i x y h1 h2).sm (s2.trans s3)⟩) ?_ ?_⟩
          · rintro pre3 r post3 x H3 e3 hx ⟨qr, rfl, sq⟩ ⟨acc, h3, ita, s3⟩
            have hpl3 : pre3.length + 1 ≤ R.length := by
              have := congrArg List.length e3
              simp at this
              omega
            have hal : acc.length < sizeLine := by
              have h1 := ita.1
              have h2 := List.length_filter_le (fits (left R pre ++ [c])) pre3
              exact Nat.lt_of_le_of_lt (m := 64) (by omega) (by decide)
            refine ⟨rfl, ?_⟩
            refine ⟨_, rfl, ⟨_, rfl⟩, _, rfl, qr, _, 0, .str (S r.1), rfl, rfl, sq, rfl, _, _, rfl, rfl, _, rfl, ?_⟩
            rw [endswith_S]
            cases hc : fits (left R pre ++ [c]) r with
            | true =>
              have hc' : r.1.isSuffixOf ((left R pre ++ [c])) = true := hc
              rw [hc']
              refine iteT ?_
              have hk : Keep H3 (upd H3 D (.lst (acc ++ [.ref qr]))) := Keep.butL but_upd h3
              refine ⟨_, rfl, acc, h3, hal, acc ++ [.ref qr], upd_same, ?_, same_mut s3 hD⟩
              rw [List.filter_append, show [r].filter (fits (left R pre ++ [c])) = [r] by simp [hc]]
              exact ita.snoc (fun x y h => h.same hk) ⟨qr, rfl, hk.seq sq⟩
            | false =>
              have hc' : r.1.isSuffixOf ((left R pre ++ [c])) = false := hc
              rw [hc']
              refine iteF ?_
              refine ⟨acc, h3, ?_, s3⟩
              rw [List.filter_append, show [r].filter (fits (left R pre ++ [c])) = [] by simp [hc], List.append_nil]
              exact ita
          · rintro H3 ⟨acc, h3, ita, s3⟩
            exact hQ _ _ ⟨D, acc, rfl, s3, h3, ita⟩
        · rintro v H3 ⟨pf, ys, rfl, s3, hf, itf⟩
          walk_at "nx"
          refine ⟨fun m σ H4 => ∃ (q : List Nat) (pf : Addr) (ys : List V) (v5 : Option V), σ = [some (.ref a), some (.str (S t)), some (.str (S q)), some (.str (S [c])), some (.ref pf), v5] ∧ Same H H4 ∧ H4 pf = some (.lst ys) ∧ Items (RItem K) H4 ys (R.filter (fits q)) ∧
            q.length ≤ m ∧ q.length ≤ 2000 ∧ drain R m q = left R (pre ++ [c]),
            ⟨(left R pre).length + 1, left R pre ++ [c], pf, ys, _, rfl, s2.trans s3, hf, itf, by simp, by simp; omega, (left_snoc R pre c).symm⟩, ?_⟩
          clear itf hf s3
          clear s2
          clear H3 ys pf v4 v5 v3
          clear hlp hpl
          rintro m σ H2 ⟨q, pf, ys, v5, rfl, s2, hf, itf, hm, hq, hd⟩
          have hsq := S_len q
          cases hfl : R.filter (fits q) with
          | nil =>
            have hu1 : used R q = none := by rw [used_filter, hfl]; rfl
            have e1 : drain R m q = q := by
              cases m with
              | zero => rfl
              | succ m => simp only [drain, hu1]
            rw [e1] at hd
            have hy : ys = [] := by
              have := itf.1
              rw [hfl] at this
              exact List.eq_nil_of_length_eq_zero this
            subst hy
            refine ⟨_, rfl, false, .inl ⟨[], SqL.of hf, rfl⟩, ?_⟩
            refine iteF ?_
            walk_at "nx"
            exact ⟨_, _, _, by rw [hd], s2⟩
          | cons r rs =>
            have hu1 : used R q = some (useR q r) := by rw [used_filter, hfl]; rfl
            have hlt := (Bk.used_step hu1).len hw
            have hrm : r ∈ R := (List.mem_filter.mp (show r ∈ R.filter (fits q) by rw [hfl]; exact List.mem_cons_self)).1
            have hfr : fits q r = true := (List.mem_filter.mp (show r ∈ R.filter (fits q) by rw [hfl]; exact List.mem_cons_self)).2
            have h4r := h4 r hrm
            have hwr := (hw r hrm)
            obtain ⟨x0, hx0, qr, rfl, sq⟩ := itf.get (i := 0) (y := r) (by rw [hfl]; rfl)
            obtain ⟨ys', rfl⟩ : ∃ ys', ys = .ref qr :: ys' := by
              cases ys with
              | nil => simp at hx0
              | cons y ys' => simp at hx0; exact ⟨ys', by rw [hx0]⟩
            cases m with
            | zero => omega
            | succ m =>
              have hd2 : drain R m (useR q r) = left R (pre ++ [c]) := by
                rw [← hd]; simp only [drain, hu1]
              refine ⟨_, rfl, true, .inl ⟨_, SqL.of hf, rfl⟩, ?_⟩
              refine iteT ⟨_, fun _ _ h => h, ?_⟩
              have hrl : r.1.length ≤ q.length := by
                obtain ⟨x, hx⟩ := Bk.fits_iff.mp hfr
                rw [hx, List.length_append]; omega
              have hsr := S_len r.1
              refine ⟨_, rfl, _, rfl, _, rfl, sz_S (t := q) (by omega), ?_⟩
              refine ⟨_, rfl, pf, _, 0, .ref qr, rfl, rfl, SqL.of hf, atI_at (Int.le_refl 0) rfl, ?_⟩
              refine ⟨qr, _, 0, .str (S r.1), rfl, rfl, sq, rfl, ?_⟩
              refine ⟨_, rfl, sz_S (t := r.1) (by omega), _, _, rfl, rfl, _, rfl, _, rfl, sz_S (t := q) (by omega), ?_⟩
              rw [cut_to (by omega), hsq, hsr, show ((q.length : Int) - (r.1.length : Int)).toNat = q.length - r.1.length by omega]
              refine ⟨_, rfl, pf, _, 0, .ref qr, rfl, rfl, SqL.of hf, atI_at (Int.le_refl 0) rfl, ?_⟩
              refine ⟨qr, _, 1, .str (S r.2), rfl, rfl, sq, rfl, ?_⟩
              refine ⟨_, _, rfl, rfl, by rw [S_len, S_len]; exact Nat.le_trans (m := 3000) (by simp; omega) (by decide), ?_⟩
              rw [S_cat]
              walk_at "nx"
              have hue : q.take (q.length - r.1.length) ++ r.2 = useR q r := rfl
              rw [hue]
              generalize useR q r = u at hd2 hlt
              refine asg_J (fun v H3 => ∃ (pf : Addr) (ys : List V), v = .ref pf ∧ Same H2 H3 ∧ H3 pf = some (.lst ys) ∧ Items (RItem K) H3 ys (R.filter (fits (u)))) (fun Q' hQ => ?_) ?_
              · refine ⟨_, rfl, a, rfl, ⟨_, (fun {H1 H2 : Hp} (s : Same H1 H2) (h : SqT K H1 a xs) => (Keep.same s).seq h) (s2) hS⟩, fun D hD => lc_tupR (K := K) (a := a) (xs := xs) (l := R) (Rel := RItem K) hR.1
                  (fun pre3 H3 => ∃ acc, H3 D = some (.lst acc) ∧ Items (RItem K) H3 acc (pre3.filter (fits (u))) ∧ Same H2 H3) ⟨[], upd_same, Items.nil, same_new hD⟩
                  (fun pre3 H3 ⟨_, _, _, s3⟩ => ⟨(fun {H1 H2 : Hp} (s : Same H1 H2) (h : SqT K H1 a xs) => (Keep.same s).seq h) (s2.trans s3) hS, fun i x y h1 h2 => (hR.2 i x y h1 h2).sm (s2.trans s3)⟩) ?_ ?_⟩
                · rintro pre3 r post3 x H3 e3 hx ⟨qr, rfl, sq⟩ ⟨acc, h3, ita, s3⟩
                  have hpl3 : pre3.length + 1 ≤ R.length := by
                    have := congrArg List.length e3
                    simp at this
                    omega
                  have hal : acc.length < sizeLine := by
                    have h1 := ita.1
                    have h2 := List.length_filter_le (fits (u)) pre3
                    exact Nat.lt_of_le_of_lt (m := 64) (by omega) (by decide)
                  refine ⟨rfl, ?_⟩
                  refine ⟨_, rfl, ⟨_, rfl⟩, _, rfl, qr, _, 0, .str (S r.1), rfl, rfl, sq, rfl, _, _, rfl, rfl, _, rfl, ?_⟩
                  rw [endswith_S]
                  cases hc : fits (u) r with
                  | true =>
                    have hc' : r.1.isSuffixOf ((u)) = true := hc
                    rw [hc']
                    refine iteT ?_
                    have hk : Keep H3 (upd H3 D (.lst (acc ++ [.ref qr]))) := Keep.butL but_upd h3
                    refine ⟨_, rfl, acc, h3, hal, acc ++ [.ref qr], upd_same, ?_, same_mut s3 hD⟩
                    rw [List.filter_append, show [r].filter (fits (u)) = [r] by simp [hc]]
                    exact ita.snoc (fun x y h => h.same hk) ⟨qr, rfl, hk.seq sq⟩
                  | false =>
                    have hc' : r.1.isSuffixOf ((u)) = false := hc
                    rw [hc']
                    refine iteF ?_
                    refine ⟨acc, h3, ?_, s3⟩
                    rw [List.filter_append, show [r].filter (fits (u)) = [] by simp [hc], List.append_nil]
                    exact ita
                · rintro H3 ⟨acc, h3, ita, s3⟩
                  exact hQ _ _ ⟨D, acc, rfl, s3, h3, ita⟩
              · rintro v H3 ⟨pf, ys, rfl, s3, hf, itf⟩
                walk_at "nx"
                exact ⟨m, Nat.lt_succ_self m, u, pf, ys, _, rfl, s2.trans s3, hf, itf, by omega, by omega, hd2⟩
      · rintro σ H2 ⟨v3, v4, v5, rfl, s2⟩
        walk_at "rd"
        exact k H2 s2
end
end Sh
set_option Elab.async false
set_option linter.all false
set_option maxRecDepth 100000
set_option maxHeartbeats 4000000
namespace Sh
open PySem PySem.Spec PyProof.Rows L2
open SX (S S_inj S_len S_cat)
open Bk (Rule firstAt lg bestUp used left drain pushS Wf quarrel)
local macro_rules | `(tactic| walk_at "nx") => `(tactic| repeat (with_reducible first | refine Sh.gn_mk ?_ | refine Sh.nx_mk ?_ | refine Sh.st_nx ?_ | refine Sh.rt_mk ?_ | refine Sh.ct_mk ?_ | refine Sh.bk_mk ?_))
local macro_rules | `(tactic| walk_at "sq") => `(tactic| first | exact SqL.of upd_same | exact SqT.of upd_same | exact SqL.of (by assumption) | exact SqT.of (by assumption) | assumption | exact Or.inl (SqL.of (by assumption)) | exact Or.inr (SqT.of (by assumption)) | exact Or.inl (by assumption) | exact Or.inr (by assumption))
local macro_rules | `(tactic| walk_at "hp") => `(tactic| first | exact upd_same | assumption)
local macro_rules | `(tactic| walk_at "sz") => `(tactic| first | exact Nat.le_of_ble_eq_true rfl | omega)
local macro_rules | `(tactic| walk_at "sd") => `(tactic| first | omega | exact rfl | assumption | (show (0 : Int) < _; omega) | exact And.intro (by omega) (by omega) | exact Or.inl (And.intro (by omega) (by omega)) | exact Or.inr (And.intro (by omega) (by omega)) | omega | exact Sh.sz_S (by omega) | decide)
local macro_rules | `(tactic| walk_at "rd1") => `(tactic| first
  | (with_reducible first | refine Sh.gn_mk ?_ | refine Sh.nx_mk ?_ | refine Sh.st_nx ?_ | refine Sh.rt_mk ?_ | refine Sh.ct_mk ?_ | refine Sh.bk_mk ?_)
  | refine Exists.intro (α := V) _ (And.intro rfl ?_)
  | refine Exists.intro (α := Bool) _ (And.intro rfl ?_)
  | refine Exists.intro (α := Int) _ (And.intro rfl ?_)
  | refine Exists.intro (α := PySem.Str) _ (And.intro rfl ?_)
  | refine Exists.intro (α := Int) _ (Exists.intro (α := Int) _ (And.intro rfl (And.intro rfl ?_)))
  | refine Exists.intro (α := PySem.Str) _ (Exists.intro (α := PySem.Str) _ (And.intro rfl (And.intro rfl ?_)))
  | refine Exists.intro (α := Int) _ (Exists.intro (α := Int) _ (And.intro rfl ?_))
  | refine Or.inl (Exists.intro (α := Int) _ (And.intro rfl ?_))
  | refine Exists.intro _ (Exists.intro _ (Exists.intro _ (Exists.intro _ (And.intro rfl (And.intro rfl (And.intro (by walk_at "sq") (And.intro rfl ?_)))))))
  | refine Exists.intro _ (Exists.intro _ (Exists.intro _ (Exists.intro _ (And.intro rfl (And.intro rfl (And.intro (by walk_at "hp") (And.intro rfl ?_)))))))
  | refine And.intro (by walk_at "sd") ?_
  )
local macro_rules | `(tactic| walk_at "rd") => `(tactic| repeat walk_at "rd1")
local macro_rules | `(tactic| walk_at "lk") => `(tactic| first | exact rfl | (rw [lookup_putF, if_pos rfl]) | (rw [lookup_putF, if_neg (by decide +kernel)]; walk_at "lk"))

section
variable {P : Program} {w : World} {K : PySem.W.Frag} {mg : Str → Option Value} {base : Heap} {CB XR FE DI XS FT DT XT SE : Addr}
def spDrawn (K : PySem.W.Frag) : Sp := fun vs H Q _ => ∃ (a : Addr) (sg : List Nat), vs = [.ref a, .str (S sg)] ∧ Src H a ∧ isSigns sg = true ∧ ∀ (p : Addr) (xs : List V) (R : List Rule) (H' : Hp), RulesAt K H' p xs R → BookOk sg R → R.length ≤ 6 → Src H' a → But a H H' → Q (.ref p) H'
theorem c__law_drawn (T : Txt K mg) : Cal P w K mg base CX0 3 "_law_drawn" (spDrawn K) := by
  have c__law_pick := c__law_pick (P := P) (w := w) (base := base) T
  have c__law_rule := c__law_rule (P := P) (w := w) (base := base) T
  refine Cal.mk0 T.d__law_drawn sc__law_drawn (fun vs H Q E h => ?_) (fun f cdv A outer s H vs Q E hr h => ?_)
  · obtain ⟨a, sg, rfl, _⟩ := h
    rfl
  · obtain ⟨a, sg, rfl, hS, hsg, k⟩ := h
    have hsl := signs_len hsg
    have hu65 := hu65_of hr
    refine ⟨_, (pss_cons (ps_set (i := 2) sc__law_drawn.nd rfl (Or.inl rfl) (pe_lst pa_nil))
  (pss_cons (ps_for PassesOwn.never rfl (pi_range1 (by rfl) T.b_range (pa_cons (pe_c c__law_pick hr (by decide) rfl (pa_cons (pv 0) (pa_cons pe_int pa_nil))) pa_nil)) (pg_name (i := 3) sc__law_drawn.nd rfl (Or.inl rfl))
    (pss_cons (ps_set (i := 4) sc__law_drawn.nd rfl (Or.inl rfl) (pe_c c__law_rule hr (by decide) rfl (pa_cons (pv 0) (pa_cons (pv 1) (pa_cons pe_int pa_nil)))))
    (pss_one (ps_if (pt_cmpR (op_notInD hu65) (pv 4) (pv 2) (by rfl))
      (pss_one (ps_expr (pe_bm PySem.F.plainAttrs_list PySem.F.slot_list_append PySem.F.type_list_append mt_append (pv 2) (pa_cons (pv 4) pa_nil))))
      pss_nil))))
  (pss_one (ps_ret (pe_callTy call_tuple_of (by rfl) T.b_tuple (by decide +kernel) (pa_cons (pv 2) pa_nil)))))), ?_⟩
    refine ⟨by walk_at "sz", fun p hp => ?_⟩
    have b0 : But a H (upd H p (.lst [])) := But.same (same_new hp)
    have hna : p ≠ a := by
      obtain ⟨d, e, c, z⟩ := hS
      exact (ne_of_none z hp).symm
    have hS0 : Src (upd H p (.lst [])) a := by
      obtain ⟨d, e, c, z⟩ := hS
      exact ⟨d, e, c, by rw [upd_ne hna.symm]; exact z⟩
    walk_at "nx"
    walk_at "rd"
    refine ⟨a, _, rfl, hS0, by omega, by omega, fun n H1 hn0 hn1 hS1 b1 => ?_⟩
    walk_at "rd"
    have hp1 : H1 p = some (.lst []) := b1 _ _ hna upd_same
    have cap : ∀ r : Rule, RuleOk sg 4 r → Chars r.1 ∧ Chars r.2 := fun r h => ⟨fun c hc => signs_chars hsg c (h.2.2.1 c hc), fun c hc => signs_chars hsg c (h.2.2.2.1 c hc)⟩
    refine for_range (lo := 0) (n := n.toNat) (fun i σ H2 => ∃ (ys : List V) (R : List Rule) (v3 v4 : Option V), σ = [some (.ref a), some (.str (S sg)), some (.ref p), v3, v4] ∧ Src H2 a ∧ But a H H2 ∧ H2 p = some (.lst ys) ∧ Items (RItem K) H2 ys R ∧ R.length ≤ i ∧ (∀ r ∈ R, RuleOk sg 4 r) ∧ R.Nodup)
      ⟨[], [], _, _, rfl, hS1, b0.trans b1, hp1, Items.nil, Nat.le_refl _, fun r h => (by cases h), List.nodup_nil⟩ ?_ ?_
    · rintro i σ H2 hi ⟨ys, R, v3, v4, rfl, hS2, b2, hp2, it2, hRi, hok, hnd⟩
      rw [Int.zero_add]
      walk_at "nx"
      refine ⟨_, rfl, _, rfl, a, sg, 4, rfl, hS2, by omega, by omega, by omega, by omega, fun r q H3 hrk hS3 b3 hq2 hq3 => ?_⟩
      have hr4 : RuleOk sg 4 r := hrk
      have k3 := Keep.but b3 hS2
      have hb3 := b2.trans b3
      have hp3 := b3 _ _ hna hp2
      have it3 := it2.mono fun x y h => h.same k3
      have hci := cap r hr4
      have hct : RChars R := fun x m => cap x (hok x m)
      have iq : RItem K H3 (.ref q) r := ⟨q, rfl, SqT.of hq3⟩
      have hyl : ys.length ≤ 6 := by have := it3.1; omega
      walk_at "nx"
      refine if_K (decide (r ∉ R)) (fun Q' hQ => ?_) (fun hb => ?_) (fun hb => ?_)
      · refine ⟨_, rfl, _, rfl, rD r, R.map rD, RItem.dp iq, .lst (SqL.of hp3) (dpAll_rules it3), shaped_rule hci, shaped_rules hct, _, rfl, ?_⟩
        rw [any_rules]
        exact q_of hQ (by by_cases hin : r ∈ R <;> simp [hin])
      · have hin := of_decide_eq_true hb
        walk_at "nx"
        refine ⟨_, rfl, .inl ⟨rfl, _, SqL.of hp3⟩, ?_⟩
        walk_at "rd"
        refine ⟨p, _, _, rfl, rfl, hp3, Nat.lt_of_le_of_lt (m := 6) hyl (by decide), ?_⟩
        have kk : Keep H3 (upd H3 p (.lst (ys ++ [.ref q]))) := Keep.butL but_upd hp3
        refine ⟨ys ++ [.ref q], R ++ [r], _, _, rfl, ?_, ?_, upd_same, it3.snoc (fun x y h => h.same kk) ⟨q, rfl, kk.seq (SqT.of hq3)⟩, by simp; omega, ?_, ?_⟩
        · obtain ⟨d, e, c, z⟩ := hS3
          exact ⟨d, e, c, by rw [upd_ne hna.symm]; exact z⟩
        · exact but_mut hb3 hp
        · intro x hx
          rcases List.mem_append.mp hx with z | z
          · exact hok x z
          · have : x = r := by simpa using z
            exact this ▸ hr4
        · rw [List.nodup_append]
          refine ⟨hnd, by simp, fun x hx y hy => ?_⟩
          have : y = r := by simpa using hy
          subst this
          intro e
          exact hin (e ▸ hx)
      · walk_at "nx"
        exact ⟨ys, R, _, _, rfl, hS3, hb3, hp3, it3, by omega, hok, hnd⟩
    · rintro σ H2 ⟨ys, R, v3, v4, rfl, hS2, b2, hp2, it2, hRi, hok, hnd⟩
      walk_at "rd"
      refine ⟨p, _, rfl, .inl ⟨SqL.of hp2, fun l hl => ?_⟩⟩
      have s3 := same_new (o := .tup ys) hl
      obtain ⟨d9, e9, c9, z9⟩ := hS2
      exact k l ys R _ ⟨SqT.of upd_same, it2.1, fun i x r h1 h2 => RItem.same (it2.2 i x r h1 h2) (Keep.same s3)⟩ ⟨hsg, by omega, hok, hnd⟩ (by omega) ⟨d9, e9, c9, s3 _ _ z9⟩ (b2.trans (But.same s3))

/-- what is told of rules: T z where the thing z is wrong, F of right rules -/
def ChkG (K : PySem.W.Frag) (sg : List Nat) (v : V) (H : Hp) (T : Int → Prop) (F : List Rule → Prop) : Prop :=
  (NotLs K H v ∧ T (-1)) ∨ ∃ a xs, v = .ref a ∧ SqA K H a xs ∧ xs.length ≤ 1000 ∧ ((64 < xs.length ∧ T (-1)) ∨ (xs.length ≤ 64 ∧
    ∃ (pre tail : List V) (R : List Rule), xs = pre ++ tail ∧ Items (RItA K) H pre R ∧ (∀ r ∈ R, RuleOk sg 4 r) ∧ R.Nodup ∧
      ((tail = [] ∧ F R) ∨ ∃ bad rest, tail = bad :: rest ∧ (RuB K sg H bad false ∨ ∃ r ∈ R, RItA K H bad r) ∧ T (pre.length : Nat))))
theorem ChkG.toA {sg : List Nat} {v : V} {H H1 : Hp} {E : XK} {T : Int → Prop} {F G : List Rule → Prop} (hsg : isSigns sg = true) (h : ChkG K sg v H T F) (s : Same H H1) (kT : ∀ z, T z → ∀ H2, Same H1 H2 → Thrown E H2 XR "place" (.int z)) (kF : ∀ R, BookOk sg R → F R → G R) : ChkA K XR sg v H1 E G := by
  rcases h with ⟨h, t⟩ | ⟨a, xs, rfl, hA, hl, h⟩
  · exact .inl ⟨h.sm s, kT _ t _ (Same.refl _)⟩
  · refine .inr ⟨a, xs, rfl, hA.keep s, hl, ?_⟩
    rcases h with ⟨h, t⟩ | ⟨h64, pre, tail, R, rfl, it, hok, hnd, h⟩
    · exact .inl ⟨h, kT _ t _ (Same.refl _)⟩
    · refine .inr ⟨h64, pre, tail, R, rfl, it.mono fun x y h => h.sm s, hok, hnd, ?_⟩
      rcases h with ⟨rfl, f⟩ | ⟨bad, rest, e, hb, t⟩
      · exact .inl ⟨rfl, kF R ⟨hsg, by rw [← it.1]; rw [List.append_nil] at h64; exact h64, hok, hnd⟩ f⟩
      · refine .inr ⟨bad, rest, e, ?_, kT _ t⟩
        rcases hb with hb | ⟨r, hr, hb⟩
        · exact .inl (hb.sm s)
        · exact .inr ⟨r, hr, hb.sm s⟩
theorem ChkG.sm {sg : List Nat} {v : V} {H H1 : Hp} {T : Int → Prop} {F : List Rule → Prop} (h : ChkG K sg v H T F) (s : Same H H1) : ChkG K sg v H1 T F := by
  rcases h with ⟨h, t⟩ | ⟨a, xs, rfl, hA, hl, h⟩
  · exact .inl ⟨h.sm s, t⟩
  · refine .inr ⟨a, xs, rfl, hA.keep s, hl, ?_⟩
    rcases h with ⟨h, t⟩ | ⟨h64, pre, tail, R, rfl, it, hok, hnd, h⟩
    · exact .inl ⟨h, t⟩
    · refine .inr ⟨h64, pre, tail, R, rfl, it.mono fun x y h => h.sm s, hok, hnd, ?_⟩
      rcases h with ⟨rfl, f⟩ | ⟨bad, rest, e, hb, t⟩
      · exact .inl ⟨rfl, f⟩
      · refine .inr ⟨bad, rest, e, ?_, t⟩
        rcases hb with hb | ⟨r, hr, hb⟩
        · exact .inl (hb.sm s)
        · exact .inr ⟨r, hr, hb.sm s⟩
theorem same_made {H H1 : Hp} {x dx C : Addr} (hx : H x = none) (hd : H dx = none) (b : But x (upd (upd H dx (.own x)) x (.ins C dx [])) H1) : Same H H1 := fun c o e => by
  have h1 : c ≠ x := fun z => by rw [z, hx] at e; cases e
  have h2 : c ≠ dx := fun z => by rw [z, hd] at e; cases e
  exact b c _ h1 (by rw [upd_ne h1, upd_ne h2]; exact e)
/-- the number of the first thing that is no rule -/
def spNum (K : PySem.W.Frag) : Sp := fun vs H Q _ => ∃ (sg : List Nat) (v : V), vs = [.str (S sg), v] ∧ isSigns sg = true ∧ ChkG K sg v H (fun z => ∀ H', Same H H' → Q (.int z) H') fun R => ∀ H', Same H H' → Q .non H'
theorem c__law_number (T : TxtX P K mg CB XR FE DI XS FT DT XT SE) : Cal P w K mg base CX0 6 "_law_number" (spNum K) := by
  have c_X_Book := c_X_Book___init__ (P := P) (w := w) (base := base) T
  refine Cal.mk0 T.toTxtC.toTxt.d__law_number sc__law_number (fun vs H Q E h => ?_) (fun f cdv A outer s H vs Q E hr h => ?_)
  · obtain ⟨sg, v, rfl, _⟩ := h
    rfl
  · obtain ⟨sg, v, rfl, hsg, h⟩ := h
    have hsgl := (signs_len hsg).2
    refine ⟨_, (pss_cons (ps_tryT rfl rfl sc__law_number.nd takes0 (fun W pn xe tk po => (pss_one (ps_expr (pe_mkX T.k_Book c_X_Book hr (by decide) tk rfl (pa_cons (pv 0) (pa_cons (pv 1) pa_nil))))))
    (HdsA.cons (i := 2) rfl rfl ⟨rfl, by decide, Or.inl T.e_BadRule.mgC⟩ (fun a oe cls d pn hz hf => (pss_cons (ps_if (PW.pt (pw_or (pt_not (pt_val (pe_callB (call_isX T.c_BadRule hz hf) (by rfl) T.b_isinstance (by decide +kernel) (pa_cons (pv 2) (pa_cons (pe_glob (v := .ref DI) rfl T.gc_WrongItem rfl) pa_nil))))) (pw_or (pt_not (pt_val (pe_callB (call_isX T.c_BadRule hz hf) (by rfl) T.b_isinstance (by decide +kernel) (pa_cons (pv 2) (pa_cons (pe_glob (v := .ref SE) rfl T.gc_ShrunkError rfl) pa_nil))))) (pw_or1 (pt_val (pe_callB (call_isX T.c_BadRule hz hf) (by rfl) T.b_isinstance (by decide +kernel) (pa_cons (pv 2) (pa_cons (pe_glob (v := .ref DT) rfl T.gc_WrongThing rfl) pa_nil))))))))
      (pss_one (ps_ret (pe_tup (pa_cons pe_str (pa_cons (pe_xf T.e_BadRule.xf T.nf_BadRule_place hz hf (pv 2)) pa_nil)))))
      pss_nil)
    (pss_one (ps_ret (pe_xf T.e_BadRule.xf T.nf_BadRule_place hz hf (pv 2))))))
    HdsA.nil))
  (pss_one (ps_ret pe_non))), ?_⟩
    refine ⟨_, rfl, _, rfl, fun x dx hx hdx hne => ?_⟩
    refine ⟨x, dx, sg, v, rfl, upd_same, by omega, fun e => (by rw [hsg] at e; cases e), fun _ H1 fs b1 e1 => ?_⟩
    have s1 := same_made hx hdx b1
    refine h.toA hsg s1 (fun z t H2 s2 d hd => ?_) (fun R hB f H3 hb b3 => ?_)
    · refine ⟨true, T.mm_BadRule_BadRule, fun _ a0 ha0 => ?_, fun zz => (by cases zz)⟩
      dsimp only [outA]
      walk_at "rd"
      refine ⟨_, _, true, d, _, rfl, rfl, upd_same, fun u h => h, T.ko_BadRule_WrongItem, true, rfl, ?_⟩
      refine iteF ?_
      walk_at "rd"
      refine ⟨_, _, true, d, _, rfl, rfl, upd_same, fun u h => h, T.ko_BadRule_ShrunkError, true, rfl, ?_⟩
      refine iteF ?_
      walk_at "rd"
      refine ⟨_, _, false, d, _, rfl, rfl, upd_same, fun u h => h, T.ko_BadRule_WrongThing, false, rfl, ?_⟩
      refine iteF ?_
      walk_at "rd"
      refine ⟨d, _, _, rfl, upd_same, lk1, ?_⟩
      exact t _ (s1.trans (s2.trans (same_new hd)))
    · exact ⟨rfl, f _ (same_made hx hdx b3)⟩
end
end Sh
set_option Elab.async false
set_option linter.all false
set_option maxRecDepth 100000
/-! how data are shown: bounds -/
namespace Sh
open PySem PySem.Spec PyProof.Rows L2
open SX (S S_inj S_len S_cat)
def Shw (d : PyData) (k m : Nat) : Prop := d.showable = true ∧ d.hasDict = false ∧ d.depth ≤ k ∧ d.shown.length ≤ m
theorem Shw.mono {d : PyData} {k m k' m' : Nat} (h : Shw d k m) (h1 : k ≤ k') (h2 : m ≤ m') : Shw d k' m' := ⟨h.1, h.2.1, Nat.le_trans h.2.2.1 h1, Nat.le_trans h.2.2.2 h2⟩
theorem Shw.non : Shw .none 0 4 := ⟨rfl, rfl, Nat.le_refl _, by decide⟩
theorem Shw.bl (b : Bool) : Shw (.bool b) 0 5 := by cases b <;> exact ⟨rfl, rfl, Nat.le_refl _, by decide⟩
theorem Shw.str {u : List Nat} (h : ∀ c ∈ u, c < 1114112) : Shw (.str (S u)) 0 (10 * u.length + 2) := by
  refine ⟨rfl, rfl, Nat.le_refl _, ?_⟩
  have := PySem.StrLaws.reprText_len (S u) (fun c hc => Nat.lt_trans (h c hc) (by decide))
  rw [S_len] at this
  exact this
theorem showAll {ds : List PyData} {k m : Nat} (h : ∀ d ∈ ds, Shw d k m) : PyData.showableAll ds = true ∧ PyData.hasDictAll ds = false ∧ PyData.depthAll ds ≤ k ∧ (((PyData.shownAll ds).map (·.length)).sum ≤ ds.length * m) ∧ (PyData.shownAll ds).length = ds.length := by
  induction ds with
  | nil => exact ⟨rfl, rfl, Nat.zero_le _, Nat.zero_le _, rfl⟩
  | cons d ds ih =>
    obtain ⟨a1, a2, a3, a4⟩ := h d List.mem_cons_self
    obtain ⟨b1, b2, b3, b4, b5⟩ := ih fun x hx => h x (List.mem_cons_of_mem _ hx)
    refine ⟨?_, ?_, ?_, ?_, ?_⟩
    · show (d.showable && PyData.showableAll ds) = true
      rw [a1, b1]; rfl
    · show (d.hasDict || PyData.hasDictAll ds) = false
      rw [a2, b2]; rfl
    · show max d.depth (PyData.depthAll ds) ≤ k
      omega
    · show d.shown.length + ((PyData.shownAll ds).map (·.length)).sum ≤ (ds.length + 1) * m
      rw [Nat.succ_mul]
      omega
    · show (PyData.shownAll ds).length + 1 = ds.length + 1
      rw [b5]
theorem Shw.tup {ds : List PyData} {k m : Nat} (h : ∀ d ∈ ds, Shw d k m) : Shw (.tuple ds) (k + 1) (ds.length * m + 2 * ds.length + 3) := by
  obtain ⟨b1, b2, b3, b4, b5⟩ := showAll h
  refine ⟨b1, b2, ?_, ?_⟩
  · show PyData.depthAll ds + 1 ≤ k + 1
    omega
  · have := PySem.tupleText_len_le (PyData.shownAll ds)
    rw [b5] at this
    show (tupleText (PyData.shownAll ds)).length ≤ _
    omega
theorem Shw.lst {ds : List PyData} {k m : Nat} (h : ∀ d ∈ ds, Shw d k m) : Shw (.list ds) (k + 1) (ds.length * m + 2 * ds.length + 3) := by
  obtain ⟨b1, b2, b3, b4, b5⟩ := showAll h
  refine ⟨b1, b2, ?_, ?_⟩
  · show PyData.depthAll ds + 1 ≤ k + 1
    omega
  · have := PySem.listText_len_le (PyData.shownAll ds)
    rw [b5] at this
    show (listText (PyData.shownAll ds)).length ≤ _
    omega
theorem Shw.ok {d : PyData} {k m : Nat} (h : Shw d k m) (h1 : k ≤ 60) (h2 : m ≤ 16777216) : d.showable = true ∧ d.hasDict = false ∧ d.depth ≤ 60 ∧ d.shown.length ≤ sizeLine := ⟨h.1, h.2.1, Nat.le_trans h.2.2.1 h1, Nat.le_trans h.2.2.2 (Nat.le_trans h2 (by decide))⟩
end Sh
set_option Elab.async false
set_option linter.all false
set_option maxRecDepth 100000
/-! slices of rows of values, and of what they tell -/
namespace Sh
open PySem PySem.Spec PyProof.Rows L2
theorem cut_fromV {xs : List V} {i : Int} (h : 0 ≤ i) : cutV xs (some i) none = xs.drop i.toNat := by
  unfold cutV
  have h1 : HT.sIx xs.length 0 (some i) = min i.toNat xs.length := by
    show (if i < 0 then _ else min i.toNat xs.length) = _
    rw [if_neg (by omega)]
  have h2 : HT.sIx xs.length xs.length none = xs.length := rfl
  rw [h1, h2]
  by_cases c : i.toNat ≤ xs.length
  · rw [Nat.min_eq_left c]
    exact List.take_of_length_le (by simp)
  · rw [Nat.min_eq_right (by omega)]
    rw [List.drop_eq_nil_of_le (by omega), List.drop_eq_nil_of_le (by omega), List.take_nil]
theorem cut_toV {xs : List V} {i : Int} (h : 0 ≤ i) : cutV xs none (some i) = xs.take i.toNat := by
  unfold cutV
  have h1 : HT.sIx xs.length 0 none = 0 := rfl
  have h2 : HT.sIx xs.length xs.length (some i) = min i.toNat xs.length := by
    show (if i < 0 then _ else min i.toNat xs.length) = _
    rw [if_neg (by omega)]
  rw [h1, h2, List.drop_zero, Nat.sub_zero]
  by_cases c : i.toNat ≤ xs.length
  · rw [Nat.min_eq_left c]
  · rw [Nat.min_eq_right (by omega), List.take_of_length_le (Nat.le_refl _), List.take_of_length_le (by omega)]
theorem Items.drop {α : Type} {Rel : Hp → V → α → Prop} {H : Hp} {xs : List V} {l : List α} (h : Items Rel H xs l) (n : Nat) : Items Rel H (xs.drop n) (l.drop n) := by
  refine ⟨by rw [List.length_drop, List.length_drop, h.1], fun i x y h1 h2 => ?_⟩
  rw [List.getElem?_drop] at h1 h2
  exact h.2 _ x y h1 h2
theorem Items.take {α : Type} {Rel : Hp → V → α → Prop} {H : Hp} {xs : List V} {l : List α} (h : Items Rel H xs l) (n : Nat) : Items Rel H (xs.take n) (l.take n) := by
  refine ⟨by rw [List.length_take, List.length_take, h.1], fun i x y h1 h2 => ?_⟩
  rw [List.getElem?_take] at h1 h2
  split at h1
  · next c =>
    rw [if_pos c] at h2
    exact h.2 _ x y h1 h2
  · cases h1
theorem Items.app {α : Type} {Rel : Hp → V → α → Prop} {H : Hp} {xs ys : List V} {l m : List α} (h : Items Rel H xs l) (k : Items Rel H ys m) : Items Rel H (xs ++ ys) (l ++ m) := by
  refine ⟨by rw [List.length_append, List.length_append, h.1, k.1], fun i x y h1 h2 => ?_⟩
  rcases Nat.lt_or_ge i xs.length with q | q
  · rw [List.getElem?_append_left q] at h1
    rw [List.getElem?_append_left (h.1 ▸ q)] at h2
    exact h.2 i x y h1 h2
  · rw [List.getElem?_append_right q] at h1
    rw [List.getElem?_append_right (h.1 ▸ q), ← h.1] at h2
    exact k.2 _ x y h1 h2
theorem Items.rev {α : Type} {Rel : Hp → V → α → Prop} {H : Hp} : ∀ {xs : List V} {l : List α}, Items Rel H xs l → Items Rel H xs.reverse l.reverse
  | [], [], _ => Items.nil
  | [], _ :: _, h => by have := h.1; simp at this
  | _ :: _, [], h => by have := h.1; simp at this
  | x :: xs, y :: l, h => by
    rw [List.reverse_cons, List.reverse_cons]
    exact (Items.rev (xs := xs) (l := l) ⟨by have := h.1; simpa using this, fun i a b h1 h2 => h.2 (i + 1) a b (by simpa using h1) (by simpa using h2)⟩).snoc (fun _ _ z => z) (h.2 0 x y rfl rfl)
end Sh
set_option Elab.async false
set_option linter.all false
set_option maxRecDepth 100000
/-! x in t, items and x data of any depth, t a tuple -/
namespace Sh
open PySem PySem.Spec PyProof.Rows L2
section
variable {X : Cx}
def rInDT (K : PySem.W.Frag) (neg : Bool) : R2 := fun x y H Q => ∃ d ds, Dp K H x d ∧ Dp K H y (.tuple ds) ∧ SeqAt.shaped d = true ∧ SeqAt.shaped (.tuple ds) = true ∧ Q (.bl (if neg then !ds.any fun z => PyData.eqv z d else ds.any fun z => PyData.eqv z d)) H
theorem op_inDT (hu : X.A.units + 65 < cLine) : OpR X (compareOp .In) (rInDT X.K false) := fun pins s σ H x y v u Q I rx ry h =>
  match h with
  | ⟨d, ds, hd, he, sd, se, q⟩ => by
    obtain ⟨as, r1⟩ := Dp.reads I d x v hd rx
    obtain ⟨bs, r2⟩ := Dp.reads I (.tuple ds) y u he ry
    exact SeqAt.in_tuple_reads r2 r1 (SeqAt.canLay_of_shaped se) (SeqAt.canLay_of_shaped sd) (room_in_shaped sd hu) ⟨.bl _, H, I, rfl, q⟩
theorem op_notInDT (hu : X.A.units + 65 < cLine) : OpR X (compareOp .NotIn) (rInDT X.K true) := fun pins s σ H x y v u Q I rx ry h =>
  match h with
  | ⟨d, ds, hd, he, sd, se, q⟩ => by
    obtain ⟨as, r1⟩ := Dp.reads I d x v hd rx
    obtain ⟨bs, r2⟩ := Dp.reads I (.tuple ds) y u he ry
    exact SeqAt.notIn_tuple_reads r2 r1 (SeqAt.canLay_of_shaped se) (SeqAt.canLay_of_shaped sd) (room_in_shaped sd hu) ⟨.bl _, H, I, rfl, q⟩
end
end Sh
set_option Elab.async false
set_option linter.all false
set_option maxRecDepth 100000
/-! t[::-1], t a tuple -/
namespace Sh
open PySem PySem.Spec PyProof.Rows L2
theorem back_adjust (n : Nat) : Builtin.Slice.sliceAdjust none none (-1) (n : Int) = ((n : Int) - 1, -1) := rfl
theorem back_places (n : Nat) : Builtin.Slice.slicePlaces ((n : Int) - 1) (-1) (-1) = n := by
  unfold Builtin.Slice.slicePlaces
  rw [if_neg (by decide)]
  by_cases h : (n : Int) - 1 > -1
  · rw [if_pos h, show (-(-1) : Int) = 1 by decide, Int.ediv_one]
    omega
  · rw [if_neg h]
    omega
theorem fm_congr {α β : Type} {f g : α → Option β} : ∀ {l : List α}, (∀ x ∈ l, f x = g x) → l.filterMap f = l.filterMap g
  | [], _ => rfl
  | x :: l, h => by
    rw [List.filterMap_cons, List.filterMap_cons, h x List.mem_cons_self, fm_congr fun y hy => h y (List.mem_cons_of_mem _ hy)]
theorem back_pick (xs : Array Value) : (List.range xs.size).filterMap (fun (k : Nat) => xs[((xs.size : Int) - 1 + (k : Int) * (-1)).toNat]?) = xs.toList.reverse := by
  have e : (List.range xs.size).filterMap (fun (k : Nat) => xs[((xs.size : Int) - 1 + (k : Int) * (-1)).toNat]?) = ((List.range xs.size).map fun k => xs.size - 1 - k).filterMap (xs[·]?) := by
    rw [List.filterMap_map]
    refine fm_congr fun k hk => ?_
    have := List.mem_range.mp hk
    show xs[_]? = xs[xs.size - 1 - k]?
    congr 1
    omega
  rw [e, PySem.W.krv_range, List.filterMap_reverse, PySem.W.krv_all]
section
variable {prog : Program} {w : World} {A : Around} {E : Value → Shared → Prop} {s : Shared}
theorem getItem_tup_back {t sl : Addr} {items : Array Value} {tk : Tok} {Q : Value → Shared → Prop} (ht : IsTup s.heap t items) (hs : s.heap.IsSliceOf sl .none .none (.int (-1) tk))
    (h : Q (.ref s.heap.objs.size) { s with heap := s.heap.push { cls := .type "tuple", data := .seq items.toList.reverse.toArray } }) (hsz : items.size ≤ sizeLine) : wpAny (model prog w) A (getItem (.ref t) (.ref sl)) Q E s := by
  have hok : sizeOk (.seq items.toList.reverse.toArray) := by
    show items.toList.reverse.toArray.size ≤ sizeLine
    rw [List.size_toArray, List.length_reverse, Array.length_toList]
    exact hsz
  obtain ⟨os, hos, hcs, hds⟩ := id hs
  have tyS : s.TypeIs (.ref sl) "slice" := ⟨os, hos, hcs⟩
  unfold getItem
  try with_reducible refine wpAny_holding ?_
  first | refine wpAny_bind (wpAny_pure ?_) | skip
  refine wpAny_bind (wpAny_sequenceKey ht.typeIs (by decide) (wpAny_bind (wpAny_callSpecial?_slot (name := Str.ofString "__getitem__") ht.typeIs PyProof.Rows.slot_tuple_getitem
    (wpAny_call_entry PyProof.Rows.slot_tuple_getitem ht.typeIs entry_tuple_getitem ?_ (args_tuple_getitem _ _)))))
  show wpAny _ _ (Builtin.Tuple.tupleItemsOf (.ref t) >>= _) _ _ s
  refine wpAny_bind (tupleItemsOf_ ht (wpAny_bind (wpAny_typeOf tyS ?_)))
  rw [if_pos (by decide)]
  refine wpAny_bind ?_
  unfold Builtin.Slice.sliceApplied Builtin.Slice.sliceFields
  refine wpAny_bind (wpAny_bind (wpAny_field hos hds (x := .none) rfl (wpAny_bind (wpAny_field hos hds (x := .none) rfl (wpAny_bind (wpAny_field hos hds (x := .int (-1) tk) rfl (wpAny_pure ?_)))))))
  refine wpAny_bind (slicePart_int ?_)
  show wpAny _ _ (if ((-1 : Int) == 0) = true then _ else _) _ _ s
  rw [if_neg (by decide)]
  refine wpAny_bind (slicePart_none (wpAny_bind (slicePart_none (wpAny_bind (wpAny_pure ?_)))))
  show wpAny _ _ (pure ((items.size : Int) - 1, (-1 : Int), Builtin.Slice.slicePlaces ((items.size : Int) - 1) (-1) (-1))) _ _ s
  rw [back_places]
  refine wpAny_pure ?_
  have hno : ¬ ((((items.size : Int) - 1) == 0 && (-1 : Int) == 1 && items.size == items.size) = true) := by simp
  show wpAny _ _ (if (((items.size : Int) - 1) == 0 && (-1 : Int) == 1 && items.size == items.size) = true then _ else _) _ _ s
  rw [if_neg hno, back_pick]
  first
    | exact wpAny_bind (m := Builtin.Tuple.tupleExact _) (wpAny_newObj_type (wpAny_pure ⟨_, rfl, wpAny_pure h⟩) hok)
    | exact wpAny_bind (m := Builtin.Tuple.tupleExact _) (wpAny_newObj_type (wpAny_bind (wpAny_pure (wpAny_pure ⟨_, rfl, wpAny_pure h⟩))) hok)
    | exact wpAny_bind (wpAny_bind (m := Builtin.Tuple.tupleExact _) (wpAny_newObj_type (wpAny_pure (wpAny_pure ⟨_, rfl, wpAny_pure h⟩)) hok))
    | exact wpAny_bind (wpAny_bind (m := Builtin.Tuple.tupleExact _) (wpAny_newObj_type (wpAny_pure ⟨_, rfl, wpAny_pure h⟩) hok))
end
section
variable {X : Cx}
def tRevT (K : PySem.W.Frag) (te : TE) : TE := fun σ H Q => te σ H fun x H1 => ∃ a xs, x = .ref a ∧ SqT K H1 a xs ∧ ∀ p, H1 p = none → Q (.ref p) (upd H1 p (.tup xs.reverse))
theorem pe_revT {e : Expr} {te : TE} {k : Nat} {p1 p2 p3 pos : Pos} (he : PE X e te) : PE X (.Subscript e (.Slice none none (some (.UnaryOp .USub (.Constant (.int 1) k p1) p2)) p3) pos) (tRevT X.K te) := by
  refine ⟨fun pins s σ H Q I h => Subscript_ (thn (he.run pins s σ H _ I h) fun v s1 ⟨x, H1, I1, r1, a, xs, ex, hx, q⟩ => ?_)⟩
  subst ex
  cases r1
  have hst : PO X (some (.UnaryOp .USub (.Constant (.int 1) k p1) p2)) (tPart (tUn (rU fun i => .int (-i)) (tC (.int 1)))) := po_some (pe_un un_neg pe_int)
  refine wpAny_Slice (thn (po_none.run pins s1 σ H1 (fun o H2 => o = none ∧ H2 = H1) I1 ⟨rfl, rfl⟩) fun vl s2 ⟨l, H2, I2, pl, el, e2⟩ => thn (po_none.run pins s2 σ H2 (fun o H3 => o = none ∧ H3 = H2) I2 ⟨rfl, rfl⟩) fun vu s3 ⟨u, H3, I3, pu, eu, e3⟩ =>
    thn (hst.run pins s3 σ H3 (fun o H4 => o = some (-1) ∧ H4 = H3) I3 ⟨1, rfl, -1, rfl, rfl, rfl⟩) fun vs s4 ⟨o, H4, I4, ps, eo, e4⟩ => ?_)
  subst el e2 eu e3 eo e4
  have I5 : Inv X pins σ H4 { s4 with heap := s4.heap.push { cls := .type "slice", data := .fields #[vl, vu, vs] } } := I4.kept (t' := s4.toks) fun b ob q => Heap.get?_push_of_some _ q
  obtain ⟨its, r, ht, hz⟩ := I5.tuple hx
  have hlen := r.length
  cases pl
  cases pu
  cases ps
  show wpAny (model X.prog X.w) X.A (subscriptTail e (.Slice none none (some (.UnaryOp .USub (.Constant (.int 1) k p1) p2)) p3) (.ref a) (.ref s4.heap.objs.size)) (EP X pins σ Q) X.xe _
  refine tail_any (ops := [.ref a, .ref s4.heap.objs.size]) ht.typeIs (PyProof.Rows.slot_tuple_getitem.lookup) ?_ (by with_unfolding_all rfl)
  refine getItem_tup_back ht (Heap.IsSliceOf.new _ _ _ _) ?_ (by rw [List.size_toArray]; omega)
  refine ⟨.ref _, _, I5.laid (t' := s4.toks) (o := .tup xs.reverse) (fun b ob q => Heap.get?_push_of_some _ q) (Nat.le_refl _) ?_, rfl, q _ (I5.hok.fresh (Nat.le_refl _))⟩
  exact ⟨by rw [List.length_reverse]; exact hz, _, r.reverse, IsTup.new _ _⟩
end
end Sh
set_option Elab.async false
set_option linter.all false
set_option maxRecDepth 100000
/-! t[::-1], t a text -/
namespace Sh
open PySem PySem.Spec PyProof.Rows L2
open SX (S S_inj S_len S_cat)
def revS (z : Str) : Str := ⟨z.cps.toList.reverse.toArray⟩
theorem revS_S (t : List Nat) : revS (S t) = S t.reverse := by
  unfold revS
  rfl
theorem back_txt (z : Str) : (Builtin.Str.strSliceIndices none none (-1) z.length).filterMap (z.cps[·]?) = z.cps.toList.reverse := by
  have e : Builtin.Str.strSliceIndices none none (-1) z.length = (List.range z.cps.size).map fun k => z.cps.size - 1 - k := by
    show sliceRange ((z.length : Int) - 1) (-1) (-1) = _
    have hz : z.length = z.cps.size := rfl
    unfold sliceRange
    dsimp only
    rw [if_neg (by decide), hz]
    have hc : (if ((z.cps.size : Nat) : Int) - 1 > -1 then (((z.cps.size : Nat) : Int) - 1 - -1 - -1 - 1) / - -1 else 0).toNat = z.cps.size := by
      rw [show (- -1 : Int) = 1 by decide, Int.ediv_one]
      split <;> omega
    rw [hc]
    refine List.map_congr_left fun k hk => ?_
    have := List.mem_range.mp hk
    omega
  rw [e, PySem.W.krv_range, List.filterMap_reverse, PySem.W.krv_all]
section
variable {X : Cx}
def tRevS (te : TE) : TE := fun σ H Q => te σ H fun x H1 => ∃ z, x = .str z ∧ z.length ≤ sizeLine ∧ Q (.str (revS z)) H1
theorem pe_revS {e : Expr} {te : TE} {k : Nat} {p1 p2 p3 pos : Pos} (he : PE X e te) : PE X (.Subscript e (.Slice none none (some (.UnaryOp .USub (.Constant (.int 1) k p1) p2)) p3) pos) (tRevS te) := by
  refine ⟨fun pins s σ H Q I h => Subscript_ (thn (he.run pins s σ H _ I h) fun v s1 ⟨x, H1, I1, r1, z, ex, hzl, q⟩ => ?_)⟩
  subst ex
  obtain ⟨tz, rfl⟩ := r1
  have hst : PO X (some (.UnaryOp .USub (.Constant (.int 1) k p1) p2)) (tPart (tUn (rU fun i => .int (-i)) (tC (.int 1)))) := po_some (pe_un un_neg pe_int)
  refine wpAny_Slice (thn (po_none.run pins s1 σ H1 (fun o H2 => o = none ∧ H2 = H1) I1 ⟨rfl, rfl⟩) fun vl s2 ⟨l, H2, I2, pl, el, e2⟩ => thn (po_none.run pins s2 σ H2 (fun o H3 => o = none ∧ H3 = H2) I2 ⟨rfl, rfl⟩) fun vu s3 ⟨u, H3, I3, pu, eu, e3⟩ =>
    thn (hst.run pins s3 σ H3 (fun o H4 => o = some (-1) ∧ H4 = H3) I3 ⟨1, rfl, -1, rfl, rfl, rfl⟩) fun vs s4 ⟨o, H4, I4, ps, eo, e4⟩ => ?_)
  subst el e2 eu e3 eo e4
  have I5 : Inv X pins σ H4 { s4 with heap := s4.heap.push { cls := .type "slice", data := .fields #[vl, vu, vs] } } := I4.kept (t' := s4.toks) fun b ob q => Heap.get?_push_of_some _ q
  cases pl
  cases pu
  cases ps

  show wpAny (model X.prog X.w) X.A (subscriptTail e (.Slice none none (some (.UnaryOp .USub (.Constant (.int 1) k p1) p2)) p3) (.str z tz) (.ref s4.heap.objs.size)) (EP X pins σ Q) X.xe _
  refine tail_any (ops := [.str z tz, .ref s4.heap.objs.size]) (typeIs_str _ z tz) F.slot_str_getitem.lookup ?_ (by with_unfolding_all rfl)
  refine wpAny_getItem_str_slice (l := none) (u := none) (st := some (-1, _)) ⟨_, Heap.get?_push_size _ rfl, rfl, rfl⟩ rfl ?_
  show Made.post (Made.str ⟨((Builtin.Str.strSliceIndices none none (-1) z.length).filterMap (z.cps[·]?)).toArray⟩) _ _
  rw [back_txt]
  refine ⟨?_, ?_⟩
  · show (z.cps.toList.reverse.toArray).size ≤ sizeLine
    rw [List.size_toArray, List.length_reverse, Array.length_toList]
    exact hzl
  · exact ⟨.str (revS z), H4, I5.kept (t' := _) fun b ob q => q, ⟨_, rfl⟩, q⟩
end
end Sh
set_option Elab.async false
set_option linter.all false
set_option maxRecDepth 100000
/-! text * number -/
namespace Sh
open PySem PySem.Spec PyProof.Rows L2
open SX (S S_inj S_len S_cat)
theorem fold_rep (a : List Nat) : ∀ (m : Nat) (acc : List Nat), (List.replicate m a.toArray).foldl (· ++ ·) acc.toArray = (acc ++ (List.replicate m a).flatten).toArray
  | 0, acc => by simp
  | m + 1, acc => by
    rw [List.replicate_succ, List.foldl_cons, List.replicate_succ, List.flatten_cons, ← List.append_assoc, ← fold_rep a m (acc ++ a)]
    congr 1
    simp
theorem mul_S (t : List Nat) (k : Nat) (hk : 1 ≤ k) : Txt.mul (S t) (k : Int) = S (List.replicate k t).flatten := by
  unfold Txt.mul
  rw [if_neg (by omega)]
  by_cases h : (((k : Int) == 1) || ((S t).length == 0)) = true
  · rw [if_pos h]
    rw [Bool.or_eq_true, beq_iff_eq, beq_iff_eq, S_len] at h
    rcases h with h | h
    · have : k = 1 := by omega
      subst this
      simp
    · have : t = [] := List.eq_nil_of_length_eq_zero h
      subst this
      congr 1
      simp
  · rw [if_neg h]
    show (⟨(List.replicate ((k : Int)).toNat t.toArray).foldl (· ++ ·) ([] : List Nat).toArray⟩ : Str) = _
    rw [Int.toNat_natCast, fold_rep, List.nil_append]
def rMulT : R2 := fun x y H Q => ∃ (t : List Nat) (k : Nat), x = .str (S t) ∧ y = .int (k : Nat) ∧ 1 ≤ k ∧ k ≤ 1000 ∧ t.length ≤ 1000 ∧ Q (.str (S (List.replicate k t).flatten)) H
theorem op_mulStr {X : Cx} : OpR X (binaryOp .Mult) rMulT := by
  intro pins s σ H x y v u Q I rx ry h
  obtain ⟨t, k, rfl, rfl, h1, h2, h3, q⟩ := h
  obtain ⟨t1, rfl⟩ := rx
  obtain ⟨t2, rfl⟩ := ry
  have hlen : (S t).length = t.length := S_len t
  have hm : t.length * k ≤ 1000000 := Nat.le_trans (Nat.mul_le_mul h3 h2) (by decide)
  refine SB.mul ⟨?_, fun _ _ => ?_, fun _ _ => ?_⟩ fun t' tk => ?_
  · rw [Bool.or_eq_false_iff]
    exact ⟨decide_eq_false (by omega), decide_eq_false (by omega)⟩
  · rw [hlen]
    intro z
    have h4 : (2 ^ 63 - 1 : Int) / (k : Int) ≥ 1000 := by
      rw [ge_iff_le, Int.le_ediv_iff_mul_le (by omega)]
      omega
    omega
  · rw [hlen, Int.toNat_natCast]
    exact decide_eq_false (by have : (1000000 : Nat) ≤ sizeLine := by decide
                              omega)
  · rw [mul_S t k h1]
    exact ⟨.str _, H, I.tok _, ⟨_, rfl⟩, q⟩
end Sh
set_option Elab.async false
set_option linter.all false
set_option maxRecDepth 100000
/-! text * number, also none -/
namespace Sh
open PySem PySem.Spec PyProof.Rows L2
open SX (S S_inj S_len S_cat)
def rMulT0 : R2 := fun x y H Q => ∃ (t : List Nat) (k : Nat), x = .str (S t) ∧ y = .int (k : Nat) ∧ k ≤ 1000 ∧ t.length ≤ 1000 ∧ Q (.str (S (List.replicate k t).flatten)) H
theorem op_mulStr0 {X : Cx} : OpR X (binaryOp .Mult) rMulT0 := by
  intro pins s σ H x y v u Q I rx ry h
  obtain ⟨t, k, rfl, rfl, h2, h3, q⟩ := h
  by_cases h1 : 1 ≤ k
  · exact op_mulStr pins s σ H _ _ v u Q I rx ry ⟨t, k, rfl, rfl, h1, h2, h3, q⟩
  · obtain rfl : k = 0 := by omega
    obtain ⟨t1, rfl⟩ := rx
    obtain ⟨t2, rfl⟩ := ry
    refine SB.mul ⟨?_, fun a b => ?_, fun a b => ?_⟩ fun t' tk => ?_
    · rfl
    · first | (exfalso; simp at a; done) | (exfalso; simp at b; done) | (exfalso; omega)
    · rw [show (((0 : Nat) : Int)).toNat = 0 from rfl, Nat.mul_zero]
      rfl
    · rw [show Txt.mul (S t) ((0 : Nat) : Int) = S [] from rfl]
      exact ⟨.str _, H, I.tok _, ⟨_, rfl⟩, q⟩
end Sh
set_option Elab.async false
set_option linter.all false
set_option maxRecDepth 100000
set_option maxHeartbeats 4000000
namespace Sh
open PySem PySem.Spec PyProof.Rows L2
open SX (S S_inj S_len S_cat)
open Bk (Rule firstAt lg bestUp used left drain pushS Wf quarrel)
theorem tNoPart_mk {σ : L2.St} {H : Hp} {Q : Option Int → Hp → Prop} (h : Q none H) : tNoPart σ H Q := h
theorem slA_J {K : PySem.W.Frag} {a : Addr} {xs : List V} {lo hi : Option Int} {H : Hp} {Q : VK} (h : SqT K H a xs) (k : ∀ q H', Same H H' → SqT K H' q (cutV xs lo hi) → Q (.ref q) H') : rSlA K (.ref a) lo hi H Q :=
  ⟨a, xs, rfl, h, fun w => k a H (Same.refl _) (by unfold cutV; rw [w.1, w.2, Nat.sub_zero, List.drop_zero, List.take_length]; exact h), fun _ p hp => k p _ (same_new hp) (SqT.of upd_same)⟩
theorem catA_J {K : PySem.W.Frag} {a b : Addr} {xs ys : List V} {H : Hp} {Q : VK} (h : SqT K H a xs) (g : SqT K H b ys) (l : xs.length + ys.length ≤ sizeLine) (k : ∀ q H', Same H H' → SqT K H' q (xs ++ ys) → Q (.ref q) H') : rCatA K (.ref a) (.ref b) H Q :=
  ⟨a, b, xs, ys, rfl, rfl, h, g, l, fun e => k b H (Same.refl _) (by rw [e]; exact g), fun _ e => k a H (Same.refl _) (by rw [e, List.append_nil]; exact h), fun _ _ p hp => k p _ (same_new hp) (SqT.of upd_same)⟩
theorem if_JB {c : TT} {t u : TS} {D : Ends} {σ : L2.St} {H : Hp} (P : Bool → Hp → Prop) (h : ∀ Q : Bool → Hp → Prop, (∀ b H', P b H' → Q b H') → c σ H Q) (k1 : ∀ H', P true H' → t D σ H') (k2 : ∀ H', P false H' → u D σ H') : tIfS c t u D σ H := by
  refine h _ fun b H' p => ?_
  cases b with
  | true => exact iteT (k1 H' p)
  | false => exact iteF (k2 H' p)
/-! rows of things of one kind -/
def YE (Bad : Hp → V → Prop) (te : TE) (σ : L2.St) : Prop := ∀ (H : Hp) (Q : VK), (∀ v H', Same H H' → Bad H' v → Q v H') → te σ H Q
def YA (Bad : Hp → V → Prop) (n : Nat) (t : TA) (σ : L2.St) : Prop := ∀ (H : Hp) (Q : List V → Hp → Prop), (∀ vs H', Same H H' → vs.length = n → (∀ v ∈ vs, Bad H' v) → Q vs H') → t σ H Q
def Stay (Bad : Hp → V → Prop) : Prop := ∀ H H' v, Same H H' → Bad H v → Bad H' v
theorem YA.nil {Bad : Hp → V → Prop} {σ : L2.St} : YA Bad 0 tNil σ := fun H Q k => k [] H (Same.refl _) rfl (fun v h => by cases h)
theorem YA.cons {Bad : Hp → V → Prop} {σ : L2.St} {te : TE} {t : TA} {n : Nat} (m : Stay Bad) (h1 : YE Bad te σ) (h2 : YA Bad n t σ) : YA Bad (n + 1) (tCons te t) σ := fun H Q k => by
  refine h1 H _ fun v H1 s1 b1 => ?_
  refine h2 H1 _ fun vs H2 s2 l2 b2 => ?_
  refine k (v :: vs) H2 (s1.trans s2) (by rw [List.length_cons, l2]) fun x hx => ?_
  rcases List.mem_cons.mp hx with rfl | hx
  · exact m _ _ _ s2 b1
  · exact b2 x hx
theorem YA.lst {Bad : Hp → V → Prop} {σ : L2.St} {t : TA} {n : Nat} (m : Stay Bad) (h : YA Bad n t σ) (hn : n ≤ 1000) (H : Hp) (Q : VK) (k : ∀ p vs H', Same H H' → H' p = some (.lst vs) → vs.length = n → (∀ v ∈ vs, Bad H' v) → Q (.ref p) H') : tLst t σ H Q := by
  refine h H _ fun vs H1 s1 l1 b1 => ⟨by rw [l1]; exact Nat.le_trans hn (by decide), fun p hp => ?_⟩
  exact k p vs _ (s1.trans (same_new hp)) upd_same l1 fun v hv => m _ _ _ (same_new hp) (b1 v hv)
theorem YA.seq {Bad : Hp → V → Prop} {σ : L2.St} {t : TA} {n : Nat} {g : TG} {u : TS} {D : Ends} {H : Hp} (m : Stay Bad) (h : YA Bad n t σ) (hn : n ≤ 1000) (k : ∀ p vs H', Same H H' → H' p = some (.lst vs) → vs.length = n → (∀ v ∈ vs, Bad H' v) → g (.ref p) σ H' (u D)) : tSeq (tAsg (tLst t) g) u D σ H := by
  show tLst t σ H fun v H' => g v σ H' (u D)
  exact YA.lst m h hn H _ k
local macro_rules | `(tactic| walk_at "nx") => `(tactic| repeat (with_reducible first | refine Sh.gn_mk ?_ | refine Sh.nx_mk ?_ | refine Sh.st_nx ?_ | refine Sh.rt_mk ?_ | refine Sh.ct_mk ?_ | refine Sh.bk_mk ?_))
local macro_rules | `(tactic| walk_at "sq") => `(tactic| first | exact SqL.of upd_same | exact SqT.of upd_same | exact SqL.of (by assumption) | exact SqT.of (by assumption) | assumption | exact Or.inl (SqL.of (by assumption)) | exact Or.inr (SqT.of (by assumption)) | exact Or.inl (by assumption) | exact Or.inr (by assumption))
local macro_rules | `(tactic| walk_at "hp") => `(tactic| first | exact upd_same | assumption)
local macro_rules | `(tactic| walk_at "sz") => `(tactic| first | exact Nat.le_of_ble_eq_true rfl | omega)
local macro_rules | `(tactic| walk_at "sd") => `(tactic| first | omega | exact rfl | assumption | (show (0 : Int) < _; omega) | exact And.intro (by omega) (by omega) | exact Or.inl (And.intro (by omega) (by omega)) | exact Or.inr (And.intro (by omega) (by omega)) | omega | exact Sh.sz_S (by omega) | decide)
local macro_rules | `(tactic| walk_at "rd1") => `(tactic| first
  | (with_reducible first | refine Sh.gn_mk ?_ | refine Sh.nx_mk ?_ | refine Sh.st_nx ?_ | refine Sh.rt_mk ?_ | refine Sh.ct_mk ?_ | refine Sh.bk_mk ?_)
  | refine Exists.intro (α := V) _ (And.intro rfl ?_)
  | refine Exists.intro (α := Bool) _ (And.intro rfl ?_)
  | refine Exists.intro (α := Int) _ (And.intro rfl ?_)
  | refine Exists.intro (α := PySem.Str) _ (And.intro rfl ?_)
  | refine Exists.intro (α := Int) _ (Exists.intro (α := Int) _ (And.intro rfl (And.intro rfl ?_)))
  | refine Exists.intro (α := PySem.Str) _ (Exists.intro (α := PySem.Str) _ (And.intro rfl (And.intro rfl ?_)))
  | refine Exists.intro (α := Int) _ (Exists.intro (α := Int) _ (And.intro rfl ?_))
  | refine Or.inl (Exists.intro (α := Int) _ (And.intro rfl ?_))
  | refine Exists.intro _ (Exists.intro _ (Exists.intro _ (Exists.intro _ (And.intro rfl (And.intro rfl (And.intro (by walk_at "sq") (And.intro rfl ?_)))))))
  | refine Exists.intro _ (Exists.intro _ (Exists.intro _ (Exists.intro _ (And.intro rfl (And.intro rfl (And.intro (by walk_at "hp") (And.intro rfl ?_)))))))
  | refine And.intro (by walk_at "sd") ?_
  )
local macro_rules | `(tactic| walk_at "rd") => `(tactic| repeat walk_at "rd1")
local macro_rules | `(tactic| walk_at "lk") => `(tactic| first | exact rfl | (rw [lookup_putF, if_pos rfl]) | (rw [lookup_putF, if_neg (by decide +kernel)]; walk_at "lk"))

section
variable {P : Program} {w : World} {K : PySem.W.Frag} {mg : Str → Option Value} {base : Heap} {CB XR FE DI XS FT DT XT SE : Addr}
/-- a thing of which _law_number tells z -/
def Told (K : PySem.W.Frag) (sg : List Nat) (H : Hp) (v : V) (z : Int) : Prop := ∀ (T : Int → Prop) (F : List Rule → Prop), T z → ChkG K sg v H T F
theorem Told.sm {sg : List Nat} {H H' : Hp} {v : V} {z : Int} (h : Told K sg H v z) (s : Same H H') : Told K sg H' v z := fun T F t => (h T F t).sm s
theorem notLs_non {H : Hp} : NotLs K H .non := ⟨"NoneType", .base .non, by decide, by decide⟩
theorem notLs_str {H : Hp} {t : Str} : NotLs K H (.str t) := ⟨"str", .base (.str _), by decide, by decide⟩
theorem notLs_int {H : Hp} {z : Int} : NotLs K H (.int z) := ⟨"int", .base (.int _), by decide, by decide⟩
theorem notStr_non {H : Hp} : NotStr K H .non := ⟨"NoneType", .base .non, by decide, by decide⟩
theorem notStr_int {H : Hp} {z : Int} : NotStr K H (.int z) := ⟨"int", .base (.int _), by decide, by decide⟩
theorem notStr_tup {H : Hp} {q : Addr} {xs : List V} (h : SqT K H q xs) : NotStr K H (.ref q) := ⟨"tuple", ty_tup h, by decide, by decide⟩
/-! a pick: the source alone changes -/
theorem tyX_src {H H' : Hp} {a : Addr} {v : V} {t : Value} (h : TyX K H v t) (s : Src H a) (s' : Src H' a) (b : But a H H') : TyX K H' v t := by
  obtain ⟨d, e, c, hs⟩ := s
  obtain ⟨d', e', c', hs'⟩ := s'
  have ne : ∀ {x : Addr} {o : HO}, H x = some o → (∀ ys, o ≠ .lst ys) → H' x = some o := fun {x o} hx hn => b x o (fun z => by rw [z, hs] at hx; exact hn _ (Option.some.inj hx).symm) hx
  cases h with
  | base h =>
    cases h with
    | non => exact .base .non
    | bl x => exact .base (.bl x)
    | int x => exact .base (.int x)
    | str x => exact .base (.str x)
    | flt x => exact .base (.flt x)
    | @lst x ys e1 =>
      by_cases hx : x = a
      · subst hx
        exact .base (.lst hs')
      · exact .base (.lst (b _ _ hx e1))
    | frz e1 => exact .base (.frz (ne e1 (fun _ z => by cases z)))
    | tup e1 => exact .base (.tup (ne e1 (fun _ z => by cases z)))
    | dK e1 => exact .base (.dK (ne e1 (fun _ z => by cases z)))
    | dT e1 => exact .base (.dT (ne e1 (fun _ z => by cases z)))
    | ins e1 hc ha hn htk hm => exact .base (.ins (ne e1 (fun _ z => by cases z)) hc ha hn htk hm)
  | byt b => exact .byt b
  | set e1 => exact .set (ne e1 (fun _ z => by cases z))
  | kList e1 c => exact .kList e1 c
  | kTuple e1 c => exact .kTuple e1 c
  | kDict e1 c => exact .kDict e1 c
  | fTuple e1 => exact .fTuple (ne e1 (fun _ z => by cases z))
  | fDict e1 => exact .fDict (ne e1 (fun _ z => by cases z))
theorem NotLs.src {H H' : Hp} {a : Addr} {v : V} (h : NotLs K H v) (s : Src H a) (s' : Src H' a) (b : But a H H') : NotLs K H' v := let ⟨n, x, y, z⟩ := h; ⟨n, tyX_src x s s' b, y, z⟩
theorem NotStr.src {H H' : Hp} {a : Addr} {v : V} (h : NotStr K H v) (s : Src H a) (s' : Src H' a) (b : But a H H') : NotStr K H' v := let ⟨n, x, y, z⟩ := h; ⟨n, tyX_src x s s' b, y, z⟩
theorem SqA.src {H H' : Hp} {a q : Addr} {xs : List V} (h : SqA K H q xs) (s : Src H a) (s' : Src H' a) (b : But a H H') : SqA K H' q xs ∨ (xs.length = 3 ∧ ∃ ys : List V, ys.length = 3 ∧ SqA K H' q ys) := by
  by_cases hq : q = a
  · subst hq
    obtain ⟨d, e, c, hs⟩ := s
    obtain ⟨d', e', c', hs'⟩ := s'
    rcases h with h | h
    · rcases h with (h | ⟨o, h⟩) | h
      · rw [hs] at h
        cases h
        exact .inr ⟨rfl, _, rfl, .inl (SqL.of hs')⟩
      · rw [hs] at h
        cases h
      · exact .inl (.inl (.inr h))
    · rcases h with (h | ⟨o, h⟩) | h
      · rw [hs] at h
        cases h
      · rw [hs] at h
        cases h
      · exact .inl (.inr (.inr h))
  · left
    rcases h with h | h
    · rcases h with (h | ⟨o, h⟩) | h
      · exact .inl (.inl (.inl (b _ _ hq h)))
      · exact .inl (.inl (.inr ⟨o, b _ _ hq h⟩))
      · exact .inl (.inr h)
    · rcases h with (h | ⟨o, h⟩) | h
      · exact .inr (.inl (.inl (b _ _ hq h)))
      · exact .inr (.inl (.inr ⟨o, b _ _ hq h⟩))
      · exact .inr (.inr h)
theorem RuB.src {sg : List Nat} {H H' : Hp} {a : Addr} {v : V} (h : RuB K sg H v false) (s : Src H a) (s' : Src H' a) (b : But a H H') : RuB K sg H' v false := by
  rcases h with ⟨h, e⟩ | ⟨q, ys, rfl, hA, hl, h⟩
  · exact .inl ⟨h.src s s' b, e⟩
  · rcases hA.src s s' b with hA' | ⟨h3, zs, z3, hA'⟩
    · refine .inr ⟨q, ys, rfl, hA', hl, ?_⟩
      rcases h with h | ⟨x, y, e, h⟩
      · exact .inl h
      · refine .inr ⟨x, y, e, ?_⟩
        rcases h with ⟨h, e2⟩ | ⟨l, e1, e2, h⟩
        · exact .inl ⟨h.src s s' b, e2⟩
        · refine .inr ⟨l, e1, e2, ?_⟩
          rcases h with ⟨h, e3⟩ | h
          · exact .inl ⟨h.src s s' b, e3⟩
          · exact .inr h
    · exact .inr ⟨q, zs, rfl, hA', by omega, .inl ⟨by omega, rfl⟩⟩
theorem stay_ls : Stay (NotLs K) := fun _ _ _ s h => h.sm s
theorem stay_ru {sg : List Nat} : Stay (fun H v => RuB K sg H v false) := fun _ _ _ s h => h.sm s
theorem ru_pair {sg l r : List Nat} {H : Hp} {q : Addr} (h : SqT K H q [.str (S l), .str (S r)]) (hl : l.length ≤ 1000) (hr : r.length ≤ 1000) (e : isR sg l r = false) : RuB K sg H (.ref q) false :=
  .inr ⟨q, _, rfl, .inr h, by show 2 ≤ 1000; decide, .inr ⟨_, _, rfl, .inr ⟨l, rfl, hl, .inr ⟨r, rfl, hr, e.symm⟩⟩⟩⟩
theorem ru_one {sg : List Nat} {x y : V} {H : Hp} {q : Addr} (h : SqT K H q [x, y]) (n : NotStr K H x) : RuB K sg H (.ref q) false :=
  .inr ⟨q, _, rfl, .inr h, by show 2 ≤ 1000; decide, .inr ⟨_, _, rfl, .inl ⟨n, rfl⟩⟩⟩
theorem ru_two {sg l : List Nat} {y : V} {H : Hp} {q : Addr} (h : SqT K H q [.str (S l), y]) (hl : l.length ≤ 1000) (n : NotStr K H y) : RuB K sg H (.ref q) false :=
  .inr ⟨q, _, rfl, .inr h, by show 2 ≤ 1000; decide, .inr ⟨_, _, rfl, .inr ⟨l, rfl, hl, .inl ⟨n, rfl⟩⟩⟩⟩
theorem ru_len {sg : List Nat} {xs : List V} {H : Hp} {q : Addr} (h : SqT K H q xs) (hl : xs.length ≤ 1000) (n : xs.length ≠ 2) : RuB K sg H (.ref q) false :=
  .inr ⟨q, _, rfl, .inr h, hl, .inl ⟨n, rfl⟩⟩
theorem isR_long {sg l r : List Nat} (h : 4 < l.length) : isR sg l r = false := by
  unfold isR isText
  rw [Bool.eq_false_iff]
  simp only [ne_eq, Bool.and_eq_true, decide_eq_true_eq]
  omega
theorem isR_nil {sg r : List Nat} : isR sg [] r = false := by
  unfold isR isText
  rw [Bool.eq_false_iff]
  simp only [ne_eq, Bool.and_eq_true, decide_eq_true_eq, List.length_nil]
  omega
theorem isR_ge {sg l r : List Nat} (h : l.length ≤ r.length) : isR sg l r = false := by
  unfold isR isText
  rw [Bool.eq_false_iff]
  simp only [ne_eq, Bool.and_eq_true, decide_eq_true_eq]
  omega
theorem isR_two {sg l r : List Nat} (h : 1 < r.length) : isR sg l r = false := by
  unfold isR isText
  rw [Bool.eq_false_iff]
  simp only [ne_eq, Bool.and_eq_true, decide_eq_true_eq]
  omega
theorem isR_badl {sg l r : List Nat} {c : Nat} (h : c ∈ l) (n : c ∉ sg) : isR sg l r = false := by
  rw [Bool.eq_false_iff]
  exact fun e => n ((isR_ok.mp e).2.2.1 c h)
theorem isR_badr {sg l r : List Nat} {c : Nat} (h : c ∈ r) (n : c ∉ sg) : isR sg l r = false := by
  rw [Bool.eq_false_iff]
  exact fun e => n ((isR_ok.mp e).2.2.2.1 c h)
theorem q_S : Str.ofString "q" = S [113] := rfl
theorem nil_S : Str.ofString "" = S [] := rfl
theorem ritem_a {H : Hp} {v : V} {r : Rule} (h : RItem K H v r) : RItA K H v r := let ⟨q, e, s⟩ := h; ⟨q, e, .inr s⟩
theorem told_at {sg : List Nat} {H : Hp} {q : Addr} {pre rest : List V} {bad : V} {R : List Rule} {z : Int} (hq : SqT K H q (pre ++ [bad] ++ rest)) (hl : (pre ++ [bad] ++ rest).length ≤ 64) (it : Items (RItA K) H pre R) (hok : ∀ r ∈ R, RuleOk sg 4 r) (hnd : R.Nodup)
    (hb : RuB K sg H bad false ∨ ∃ r ∈ R, RItA K H bad r) (hz : z = (pre.length : Nat)) : Told K sg H (.ref q) z := fun T F t => by
  refine .inr ⟨q, _, rfl, .inr hq, Nat.le_trans hl (by decide), .inr ⟨hl, pre, bad :: rest, R, by simp, it, hok, hnd, .inr ⟨bad, rest, rfl, hb, ?_⟩⟩⟩
  rw [← hz]
  exact t
theorem RulesAt.pre {H : Hp} {p : Addr} {xs : List V} {R : List Rule} (h : RulesAt K H p xs R) (n : Nat) : Items (RItA K) H (xs.take n) (R.take n) :=
  let t := Items.take (RulesAt.items h) n
  ⟨t.1, fun i x y h1 h2 => ritem_a (t.2 i x y h1 h2)⟩
def spSpoilt (K : PySem.W.Frag) : Sp := fun vs H Q _ => ∃ (a p : Addr) (sg : List Nat) (xs : List V) (R : List Rule), vs = [.ref a, .str (S sg), .ref p] ∧ Src H a ∧ RulesAt K H p xs R ∧ BookOk sg R ∧ R.length ≤ 6 ∧ 113 ∉ sg ∧
  ∀ (q : Addr) (v : V) (z : Int) (H' : Hp), H' q = some (.tup [v, .int z]) → Told K sg H' v z → Src H' a → But a H H' → Q (.ref q) H'
theorem c__law_spoilt (T : Txt K mg) : Cal P w K mg base CX0 2 "_law_spoilt" (spSpoilt K) := by
  have c__law_pick := c__law_pick (P := P) (w := w) (base := base) T
  refine Cal.mk0 T.d__law_spoilt sc__law_spoilt (fun vs H Q E h => ?_) (fun f cdv A outer s H vs Q E hr h => ?_)
  · obtain ⟨a, p, sg, xs, R, rfl, _⟩ := h
    rfl
  · obtain ⟨a, p, sg, xs, R, rfl, hS, hR, hB, h6, hq, k⟩ := h
    obtain ⟨hs1, hs8⟩ := signs_len hB.1
    obtain ⟨c0, sr, rfl⟩ : ∃ c r, sg = c :: r := by
      cases sg with
      | nil => simp at hs1
      | cons c r => exact ⟨c, r, rfl⟩
    have hsz : (S (c0 :: sr)).length ≤ sizeLine := sz_S (by omega)
    refine ⟨_, (pss_cons (ps_if (PW.pt (pw_or (pt_not (pt_truth (pv 2) (by intro _; rfl))) (pw_or1 (pt_cmpR op_eq (pe_c c__law_pick hr (by decide) rfl (pa_cons (pv 0) (pa_cons pe_int pa_nil))) pe_int (nomark _)))))
    (pss_cons (ps_set (i := 3) sc__law_spoilt.nd rfl (Or.inl rfl) (pe_lst (pa_cons pe_non (pa_cons pe_str (pa_cons pe_int (pa_cons pe_str (pa_cons pe_dnewK pa_nil)))))))
    (pss_one (ps_ret (pe_tup (pa_cons (pe_ix ix_list (pv 3) (pe_c c__law_pick hr (by decide) rfl (pa_cons (pv 0) (pa_cons pe_int pa_nil))) (fun _ _ => rfl)) (pa_cons (pe_un un_neg pe_int) pa_nil))))))
    pss_nil)
  (pss_cons (ps_set (i := 4) sc__law_spoilt.nd rfl (Or.inl rfl) (pe_c c__law_pick hr (by decide) rfl (pa_cons (pv 0) (pa_cons (pe_callB call_len_seq (by rfl) T.b_len (by decide +kernel) (pa_cons (pv 2) pa_nil)) pa_nil))))
  (pss_cons (ps_asg (pe_ix ix_tup (pv 2) (pv 4) (fun _ _ => rfl)) (pg_tup (by rfl) (pgs_cons (pg_name (i := 5) sc__law_spoilt.nd rfl (Or.inl rfl)) (pgs_cons (pg_name (i := 6) sc__law_spoilt.nd rfl (Or.inl rfl)) pgs_nil))))
  (pss_cons (ps_set (i := 3) sc__law_spoilt.nd rfl (Or.inl rfl) (pe_lst (pa_cons (pe_tup (pa_cons pe_str (pa_cons pe_str pa_nil))) (pa_cons (pe_tup (pa_cons (pv 5) (pa_cons (pv 5) pa_nil))) (pa_cons (pe_tup (pa_cons (pv 5) (pa_cons (pe_op op_add_str (pe_ix ix_str (pv 1) pe_int (fun _ _ => rfl)) (pe_ix ix_str (pv 1) pe_int (fun _ _ => rfl))) pa_nil))) (pa_cons (pe_tup (pa_cons (pe_op op_add_str (pv 5) pe_str) (pa_cons pe_str pa_nil))) (pa_cons (pe_tup (pa_cons (pv 5) pa_nil)) (pa_cons (pe_tup (pa_cons (pv 5) (pa_cons (pv 6) (pa_cons pe_str pa_nil)))) (pa_cons pe_non (pa_cons (pe_tup (pa_cons (pe_op op_mulStr (pe_ix ix_str (pv 1) pe_int (fun _ _ => rfl)) pe_int) (pa_cons pe_str pa_nil))) (pa_cons (pe_tup (pa_cons (pv 5) (pa_cons pe_non pa_nil))) (pa_cons (pe_tup (pa_cons (pe_ix ix_str (pv 1) pe_int (fun _ _ => rfl)) (pa_cons (pe_ix ix_str (pv 1) pe_int (fun _ _ => rfl)) pa_nil))) (pa_cons (pe_tup (pa_cons (pv 5) (pa_cons pe_str pa_nil))) (pa_cons pe_str (pa_cons (pe_tup (pa_cons pe_int (pa_cons pe_str pa_nil))) (pa_cons (pe_tup (pa_cons (pe_tup (pa_cons pe_str pa_nil)) (pa_cons pe_str pa_nil))) pa_nil))))))))))))))))
  (pss_cons (ps_if (pt_cmpR op_eq (pe_c c__law_pick hr (by decide) rfl (pa_cons (pv 0) (pa_cons pe_int pa_nil))) pe_int (nomark _))
    (pss_one (ps_ret (pe_tup (pa_cons (pe_op op_catA (pe_op op_catA (pe_slice sl_tupA (pv 2) po_none (po_some (pe_op op_add (pv 4) pe_int))) (pe_tup (pa_cons (pe_ix ix_tup (pv 2) (pv 4) (fun _ _ => rfl)) pa_nil))) (pe_slice sl_tupA (pv 2) (po_some (pe_op op_add (pv 4) pe_int)) po_none)) (pa_cons (pe_op op_add (pv 4) pe_int) pa_nil)))))
    pss_nil)
  (pss_one (ps_ret (pe_tup (pa_cons (pe_op op_catA (pe_op op_catA (pe_slice sl_tupA (pv 2) po_none (po_some (pv 4))) (pe_tup (pa_cons (pe_ix ix_list (pv 3) (pe_c c__law_pick hr (by decide) rfl (pa_cons (pv 0) (pa_cons pe_int pa_nil))) (fun _ _ => rfl)) pa_nil))) (pe_slice sl_tupA (pv 2) (po_some (pe_op op_add (pv 4) pe_int)) po_none)) (pa_cons (pv 4) pa_nil)))))))))), ?_⟩
    walk_at "nx"
    refine if_JB (fun b H1 => Src H1 a ∧ But a H H1 ∧ (b = false → R ≠ [])) (fun Q' hQ => ?_) (fun H1 ⟨hS1, b1, _⟩ => ?_) (fun H1 ⟨hS1, b1, hne⟩ => ?_)
    · refine ⟨_, rfl, !xs.isEmpty, .inr (.inl ⟨xs, hR.sq, rfl⟩), ?_⟩
      cases hx : xs with
      | nil =>
        refine iteT ?_
        exact hQ true H ⟨hS, fun _ _ _ e => e, fun z => by cases z⟩
      | cons x xr =>
        refine iteF ?_
        walk_at "rd"
        refine ⟨a, _, rfl, hS, by decide, by decide, fun r H1 r0 r1 hS1 b1 => ?_⟩
        walk_at "rd"
        refine hQ _ H1 ⟨hS1, b1, fun _ e => ?_⟩
        have := hR.len
        rw [hx, e] at this
        simp at this
    · -- what is no row of rules
      walk_at "nx"
      refine YA.seq (stay_ls (K := K)) (n := 5) (.cons stay_ls ?_ (.cons stay_ls ?_ (.cons stay_ls ?_ (.cons stay_ls ?_ (.cons stay_ls ?_ .nil))))) (by decide) (fun pl vs H2 s2 e2 l2 hb2 => ?_)
      · exact fun H Q k => k _ _ (Same.refl _) notLs_non
      · exact fun H Q k => k _ _ (Same.refl _) notLs_str
      · exact fun H Q k => k _ _ (Same.refl _) notLs_int
      · exact fun H Q k => k _ _ (Same.refl _) notLs_str
      · exact fun H Q k p hp => k _ _ (same_new hp) ⟨"dict", .base (.dK upd_same), by decide, by decide⟩
      walk_at "rd"
      have hS2 : Src H2 a := let ⟨d, e, c, z⟩ := hS1; ⟨d, e, c, s2 _ _ z⟩
      have hna : pl ≠ a := by
        obtain ⟨d, e, c, z⟩ := hS2
        intro q
        rw [q, z] at e2
        cases e2
        have := hb2 (.int d) (by simp)
        simp at l2
      refine ⟨a, _, rfl, hS2, by decide, by decide, fun r H3 r0 r1 hS3 b3 => ?_⟩
      walk_at "rd"
      have hr5 : r.toNat < vs.length := by omega
      refine ⟨pl, vs, r, vs[r.toNat], rfl, rfl, SqL.of (b3 _ _ hna e2), atI_at r0 (List.getElem?_eq_getElem hr5), ?_⟩
      walk_at "rd"
      refine ⟨by walk_at "sz", fun q hq => ?_⟩
      have hbad := hb2 _ (List.getElem_mem hr5)
      have hS4 : Src (upd H3 q (.tup [vs[r.toNat], .int (-1)])) a := let ⟨d, e, c, z⟩ := hS3; ⟨d, e, c, (same_new hq) _ _ z⟩
      exact k q _ (-1) _ upd_same (fun T F t => .inl ⟨(hbad.src hS2 hS3 b3).sm (same_new hq), t⟩) hS4 (b1.trans ((But.same s2).trans (b3.trans (But.same (same_new hq)))))
    · -- one of the rules
      have hl0 : 0 < R.length := List.length_pos_iff.mpr (hne rfl)
      have hR1 := hR.keep (Keep.but b1 hS)
      walk_at "nx"
      walk_at "rd"
      refine ⟨p, xs, rfl, .inr hR1.sq, ?_⟩
      walk_at "rd"
      refine ⟨a, _, rfl, hS1, by rw [hR.len]; omega, by rw [hR.len]; omega, fun at_ H2 r0 r1 hS2 b2 => ?_⟩
      rw [hR.len] at r1
      obtain ⟨i, rfl⟩ := Int.eq_ofNat_of_zero_le r0
      have hi : i < R.length := by omega
      have hR2 := hR1.keep (Keep.but b2 hS1)
      obtain ⟨r, hr2⟩ : ∃ r, R[i]? = some r := ⟨_, List.getElem?_eq_getElem hi⟩
      have hrok := hB.2.2.1 _ (List.mem_of_getElem? hr2)
      obtain ⟨q0, hx0, hq0⟩ := hR2.get hr2
      walk_at "nx"
      walk_at "rd"
      refine ⟨p, xs, i, .ref q0, rfl, rfl, hR2.sq, atI_nat hx0, ?_⟩
      refine ⟨q0, rTup r, rfl, hq0, rfl, _, _, rfl, _, _, rfl, rfl, ?_⟩
      walk_at "nx"
      have at0 : atI (S (c0 :: sr)).cps.toList 0 = some c0 := by rw [S_list]; exact atI_at (Int.le_refl 0) rfl
      have l1 : r.1.length ≤ 4 := hrok.2.1
      have l2 : r.2.length ≤ 1 := hrok.2.2.2.2.1
      have st := stay_ru (K := K) (sg := c0 :: sr)
      refine YA.seq st (n := 14) (.cons st ?_ (.cons st ?_ (.cons st ?_ (.cons st ?_ (.cons st ?_ (.cons st ?_ (.cons st ?_ (.cons st ?_ (.cons st ?_ (.cons st ?_ (.cons st ?_ (.cons st ?_ (.cons st ?_ (.cons st ?_ .nil)))))))))))))) (by decide) (fun pl vs H3 s3 e3 l3 hb3 => ?_)
      · intro H Q k
        rw [nil_S]
        exact ⟨by walk_at "sz", fun q hq => k _ _ (same_new hq) (ru_pair (SqT.of upd_same) (Nat.zero_le _) (Nat.zero_le _) isR_nil)⟩
      · intro H Q k
        walk_at "rd"
        exact ⟨by walk_at "sz", fun q hq => k _ _ (same_new hq) (ru_pair (SqT.of upd_same) (by omega) (by omega) (isR_ge (Nat.le_refl _)))⟩
      · intro H Q k
        walk_at "rd"
        refine ⟨_, 0, c0, rfl, rfl, hsz, at0, ?_⟩
        walk_at "rd"
        refine ⟨_, 0, c0, rfl, rfl, hsz, at0, ?_⟩
        refine ⟨_, _, rfl, rfl, by show 1 + 1 ≤ sizeLine; walk_at "sz", ?_⟩
        rw [← S_one, S_cat]
        exact ⟨by walk_at "sz", fun q hq => k _ _ (same_new hq) (ru_pair (SqT.of upd_same) (by omega) (by show 2 ≤ 1000; decide) (isR_two (by show 1 < 2; decide)))⟩
      · intro H Q k
        walk_at "rd"
        refine ⟨by rw [S_len]; exact Nat.le_trans (m := 1000) (by show r.1.length + 1 ≤ 1000; omega) (by decide), ?_⟩
        rw [q_S, nil_S, S_cat]
        exact ⟨by walk_at "sz", fun q hq0 => k _ _ (same_new hq0) (ru_pair (SqT.of upd_same) (by rw [List.length_append]; show r.1.length + 1 ≤ 1000; omega) (by decide) (isR_badl (c := 113) (by simp) hq))⟩
      · intro H Q k
        walk_at "rd"
        exact ⟨by walk_at "sz", fun q hq0 => k _ _ (same_new hq0) (ru_len (SqT.of upd_same) (by show 1 ≤ 1000; decide) (by show (1 : Nat) ≠ 2; decide))⟩
      · intro H Q k
        walk_at "rd"
        exact ⟨by walk_at "sz", fun q hq0 => k _ _ (same_new hq0) (ru_len (SqT.of upd_same) (by show 3 ≤ 1000; decide) (by show (3 : Nat) ≠ 2; decide))⟩
      · exact fun H Q k => k _ _ (Same.refl _) (.inl ⟨notLs_non, rfl⟩)
      · intro H Q k
        walk_at "rd"
        refine ⟨_, 0, c0, rfl, rfl, hsz, at0, ?_⟩
        walk_at "rd"
        refine ⟨[c0], 5, rfl, rfl, by decide, by decide, by show 1 ≤ 1000; decide, ?_⟩
        rw [nil_S]
        exact ⟨by walk_at "sz", fun q hq0 => k _ _ (same_new hq0) (ru_pair (SqT.of upd_same) (by show 5 ≤ 1000; decide) (by decide) (isR_long (by show 4 < 5; decide)))⟩
      · intro H Q k
        walk_at "rd"
        exact ⟨by walk_at "sz", fun q hq0 => k _ _ (same_new hq0) (ru_two (SqT.of upd_same) (by omega) notStr_non)⟩
      · intro H Q k
        walk_at "rd"
        refine ⟨_, 0, c0, rfl, rfl, hsz, at0, ?_⟩
        walk_at "rd"
        refine ⟨_, 0, c0, rfl, rfl, hsz, at0, ?_⟩
        rw [← S_one]
        exact ⟨by walk_at "sz", fun q hq0 => k _ _ (same_new hq0) (ru_pair (SqT.of upd_same) (by show 1 ≤ 1000; decide) (by show 1 ≤ 1000; decide) (isR_ge (Nat.le_refl _)))⟩
      · intro H Q k
        walk_at "rd"
        rw [q_S]
        exact ⟨by walk_at "sz", fun q hq0 => k _ _ (same_new hq0) (ru_pair (SqT.of upd_same) (by omega) (by show 1 ≤ 1000; decide) (isR_badr (c := 113) (by simp) hq))⟩
      · exact fun H Q k => k _ _ (Same.refl _) (.inl ⟨notLs_str, rfl⟩)
      · intro H Q k
        walk_at "rd"
        exact fun q hq0 => k _ _ (same_new hq0) (ru_one (SqT.of upd_same) notStr_int)
      · intro H Q k
        walk_at "rd"
        refine fun q1 hq1 => ?_
        have s1 := same_new (o := .tup [.str (Str.ofString "a")]) hq1
        have e1 : (upd H q1 (.tup [.str (Str.ofString "a")])) q1 = some (.tup [.str (Str.ofString "a")]) := upd_same
        generalize upd H q1 (.tup [.str (Str.ofString "a")]) = H1 at s1 e1 ⊢
        exact ⟨by walk_at "sz", fun q hq0 => k _ _ (s1.trans (same_new hq0)) (ru_one (SqT.of upd_same) (notStr_tup ((Keep.same (same_new hq0)).seq (SqT.of e1))))⟩
      have hS3 : Src H3 a := let ⟨d, e, c, z⟩ := hS2; ⟨d, e, c, s3 _ _ z⟩
      have hR3 := hR2.same s3
      have hq3 := (Keep.same s3).seq hq0
      have hna : pl ≠ a := by
        obtain ⟨d, e, c, z⟩ := hS3
        intro q
        rw [q, z] at e3
        cases e3
        simp at l3
      have b03 : But a H H3 := b1.trans (b2.trans (But.same s3))
      have hxl : xs.length ≤ 6 := by rw [hR.len]; exact h6
      have hil : i < xs.length := by rw [hR.len]; exact hi
      have sz : ∀ n : Nat, n ≤ 1000 → n ≤ sizeLine := fun n h => Nat.le_trans h (by decide)
      walk_at "nx"
      refine if_JB (fun b H4 => Src H4 a ∧ But a H3 H4) (fun Q' hQ => ?_) (fun H4 ⟨hS4, b4⟩ => ?_) (fun H4 ⟨hS4, b4⟩ => ?_)
      · walk_at "rd"
        refine ⟨a, _, rfl, hS3, by decide, by decide, fun z H4 z0 z1 hS4 b4 => ?_⟩
        walk_at "rd"
        exact hQ _ _ ⟨hS4, b4⟩
      · have k4 := Keep.but b4 hS3
        have hR4 := hR3.keep k4
        have hq4 := k4.seq hq3
        walk_at "rd"
        refine slA_J hR4.sq fun qa H5 s5 hqa => ?_
        have hR5 := hR4.same s5
        have hS5 : Src H5 a := let ⟨d, e, c, z⟩ := hS4; ⟨d, e, c, s5 _ _ z⟩
        walk_at "rd"
        refine ⟨p, xs, i, .ref q0, rfl, rfl, hR5.sq, atI_nat hx0, ?_⟩
        walk_at "rd"
        refine ⟨by walk_at "sz", fun qb hqb => ?_⟩
        have s6 := same_new (o := .tup [.ref q0]) hqb
        have e6 : (upd H5 qb (.tup [.ref q0])) qb = some (.tup [.ref q0]) := upd_same
        generalize upd H5 qb (.tup [.ref q0]) = H6 at s6 e6 ⊢
        show rCatA K (.ref qa) (.ref qb) H6 _
        refine catA_J ((Keep.same s6).seq hqa) (SqT.of e6) (sz _ (by have := cutV_length xs none (some (((i : Nat) : Int) + 1)); show _ + 1 ≤ 1000; omega)) fun qc H7 s7 hqc => ?_
        walk_at "rd"
        refine tNoPart_mk ?_
        refine slA_J (hR5.same (s6.trans s7)).sq fun qd H8 s8 hqd => ?_
        show rCatA K (.ref qc) (.ref qd) H8 _
        refine catA_J ((Keep.same s8).seq hqc) hqd (sz _ (by have := cutV_length xs none (some (((i : Nat) : Int) + 1)); have := cutV_length xs (some (((i : Nat) : Int) + 1)) none; rw [List.length_append]; show _ + 1 + _ ≤ 1000; omega)) fun qe H9 s9 hqe => ?_
        walk_at "rd"
        refine ⟨by walk_at "sz", fun qf hqf => ?_⟩
        have s10 := same_new (o := .tup [.ref qe, .int (((i : Nat) : Int) + 1)]) hqf
        rw [cut_toV (by omega), cut_fromV (by omega), show (((i : Nat) : Int) + 1).toNat = i + 1 by omega] at hqe
        have sT := s6.trans (s7.trans (s8.trans (s9.trans s10)))
        have hS9 : Src (upd H9 qf (.tup [.ref qe, .int (((i : Nat) : Int) + 1)])) a := let ⟨d, e, c, z⟩ := hS5; ⟨d, e, c, sT _ _ z⟩
        refine k qf _ _ _ upd_same (told_at ((Keep.same s10).seq hqe) ?_ ((hR5.same sT).pre (i + 1)) (fun x hx => hB.2.2.1 x (List.mem_of_mem_take hx)) (hB.2.2.2.sublist (List.take_sublist _ _)) ?_ ?_) hS9 (b03.trans (b4.trans ((But.same s5).trans (But.same sT))))
        · rw [List.length_append, List.length_append, List.length_take, List.length_drop]
          show _ + 1 + _ ≤ 64
          omega
        · refine .inr ⟨r, ?_, q0, rfl, .inr ((Keep.same (s5.trans sT)).seq hq4)⟩
          rw [List.mem_iff_getElem?]
          exact ⟨i, by rw [List.getElem?_take, if_pos (Nat.lt_succ_self i)]; exact hr2⟩
        · rw [List.length_take]
          omega
      · have k4 := Keep.but b4 hS3
        have hR4 := hR3.keep k4
        walk_at "nx"
        walk_at "rd"
        refine slA_J hR4.sq fun qa H4' s4' hqa => ?_
        have hS4' : Src H4' a := let ⟨d, e, c, z⟩ := hS4; ⟨d, e, c, s4' _ _ z⟩
        have hR4' := hR4.same s4'
        walk_at "rd"
        refine ⟨a, _, rfl, hS4', by decide, by decide, fun z H5 z0 z1 hS5 b5' => ?_⟩
        have hR5 := hR4'.keep (Keep.but b5' hS4')
        have hqa := (Keep.but b5' hS4').seq hqa
        have b5 : But a H4 H5 := (But.same s4').trans b5'
        have z1' : z < 14 := z1
        have hz14 : z.toNat < vs.length := by omega
        walk_at "rd"
        refine ⟨pl, vs, z, vs[z.toNat], rfl, rfl, SqL.of (b5 _ _ hna (b4 _ _ hna e3)), atI_at z0 (List.getElem?_eq_getElem hz14), ?_⟩
        have hbad := (((hb3 _ (List.getElem_mem hz14)).src hS3 hS4 b4).src hS4 hS5 b5)
        generalize vs[z.toNat] = bad at hbad ⊢
        walk_at "rd"
        refine ⟨by walk_at "sz", fun qb hqb => ?_⟩
        have s6 := same_new (o := .tup [bad]) hqb
        have e6 : (upd H5 qb (.tup [bad])) qb = some (.tup [bad]) := upd_same
        generalize upd H5 qb (.tup [bad]) = H6 at s6 e6 ⊢
        show rCatA K (.ref qa) (.ref qb) H6 _
        refine catA_J ((Keep.same s6).seq hqa) (SqT.of e6) (sz _ (by have := cutV_length xs none (some (((i : Nat) : Int))); show _ + 1 ≤ 1000; omega)) fun qc H7 s7 hqc => ?_
        walk_at "rd"
        refine tNoPart_mk ?_
        refine slA_J (hR5.same (s6.trans s7)).sq fun qd H8 s8 hqd => ?_
        show rCatA K (.ref qc) (.ref qd) H8 _
        refine catA_J ((Keep.same s8).seq hqc) hqd (sz _ (by have := cutV_length xs none (some (((i : Nat) : Int))); have := cutV_length xs (some (((i : Nat) : Int) + 1)) none; rw [List.length_append]; show _ + 1 + _ ≤ 1000; omega)) fun qe H9 s9 hqe => ?_
        walk_at "rd"
        refine ⟨by walk_at "sz", fun qf hqf => ?_⟩
        have s10 := same_new (o := .tup [.ref qe, .int (((i : Nat) : Int))]) hqf
        rw [cut_toV (by omega), cut_fromV (by omega), show (((i : Nat) : Int)).toNat = i by omega, show (((i : Nat) : Int) + 1).toNat = i + 1 by omega] at hqe
        have sT := s6.trans (s7.trans (s8.trans (s9.trans s10)))
        have hS9 : Src (upd H9 qf (.tup [.ref qe, .int (((i : Nat) : Int))])) a := let ⟨d, e, c, z⟩ := hS5; ⟨d, e, c, sT _ _ z⟩
        refine k qf _ _ _ upd_same (told_at ((Keep.same s10).seq hqe) ?_ ((hR5.same sT).pre i) (fun x hx => hB.2.2.1 x (List.mem_of_mem_take hx)) (hB.2.2.2.sublist (List.take_sublist _ _)) ?_ ?_) hS9 (b03.trans (b4.trans (b5.trans (But.same sT))))
        · rw [List.length_append, List.length_append, List.length_take, List.length_drop]
          show _ + 1 + _ ≤ 64
          omega
        · exact .inl (hbad.sm sT)
        · rw [List.length_take]
          omega
end
end Sh
set_option Elab.async false
set_option linter.all false
set_option maxRecDepth 100000
set_option maxHeartbeats 4000000
namespace Sh
open PySem PySem.Spec PyProof.Rows L2
open SX (S S_inj S_len S_cat)
open Bk (Rule firstAt lg bestUp used left drain pushS Wf quarrel)
def Lt (sg : List Nat) : Prop := ∀ c ∈ sg, 97 ≤ c ∧ c ≤ 122
theorem menu_lt : ∀ sg ∈ sgMenu, Lt sg ∧ 113 ∉ sg := by
  have h1 : ∀ sg ∈ sgMenu, (sg.all fun c => decide (97 ≤ c) && decide (c ≤ 122)) = true ∧ 113 ∉ sg := by decide +kernel
  intro sg hm
  obtain ⟨a, b⟩ := h1 sg hm
  refine ⟨fun c hc => ?_, b⟩
  have := List.all_eq_true.mp a c hc
  simpa using this
/-- the sixty-four rules -/
def row (k : Nat) : Rule := ([97 + k / 8, 97 + k % 8], [])
def rows64 : List Rule := (List.range 64).map row
theorem rows_ok : (∀ r ∈ rows64, RuleOk [97, 98, 99, 100, 101, 102, 103, 104] 4 r) ∧ rows64.Nodup ∧ rows64.length = 64 := by
  have h1 : (rows64.all fun r => isR [97, 98, 99, 100, 101, 102, 103, 104] r.1 r.2) = true := by decide +kernel
  have h2 : rows64.Nodup := by decide +kernel
  exact ⟨fun r m => isR_ok.mp (List.all_eq_true.mp h1 r m), h2, by decide +kernel⟩
def L8 : List Nat := [97, 98, 99, 100, 101, 102, 103, 104]
theorem L8_at : ∀ i, i < 64 → L8[i / 8]? = some (97 + i / 8) ∧ L8[i % 8]? = some (97 + i % 8) := by decide +kernel
theorem L8_S : Str.ofString "abcdefgh" = S L8 := by decide +kernel
theorem aaa_S : Str.ofString "aaa" = S [97, 97, 97] := by decide +kernel
theorem ba_S : Str.ofString "ba" = S [98, 97] := by decide +kernel
theorem ba_no : isSigns [98, 97] = false := by decide +kernel
theorem L8_signs : isSigns L8 = true := by decide +kernel
theorem if_JG {c : TT} {t u : TS} {D : Ends} {σ : L2.St} {H : Hp} (P : Bool → Hp → Prop) (h : ∀ Q : Bool → Hp → Prop, (∀ b H', P b H' → Q b H') → c σ H Q) (k : ∀ b H', P b H' → (if b = true then t else u) D σ H') : tIfS c t u D σ H := by
  refine h _ fun b H' p => ?_
  have := k b H' p
  cases b with
  | true => exact iteT this
  | false => exact iteF this
local macro_rules | `(tactic| walk_at "nx") => `(tactic| repeat (with_reducible first | refine Sh.gn_mk ?_ | refine Sh.nx_mk ?_ | refine Sh.st_nx ?_ | refine Sh.rt_mk ?_ | refine Sh.ct_mk ?_ | refine Sh.bk_mk ?_))
local macro_rules | `(tactic| walk_at "sq") => `(tactic| first | exact SqL.of upd_same | exact SqT.of upd_same | exact SqL.of (by assumption) | exact SqT.of (by assumption) | assumption | exact Or.inl (SqL.of (by assumption)) | exact Or.inr (SqT.of (by assumption)) | exact Or.inl (by assumption) | exact Or.inr (by assumption))
local macro_rules | `(tactic| walk_at "hp") => `(tactic| first | exact upd_same | assumption)
local macro_rules | `(tactic| walk_at "sz") => `(tactic| first | exact Nat.le_of_ble_eq_true rfl | omega)
local macro_rules | `(tactic| walk_at "sd") => `(tactic| first | omega | exact rfl | assumption | (show (0 : Int) < _; omega) | exact And.intro (by omega) (by omega) | exact Or.inl (And.intro (by omega) (by omega)) | exact Or.inr (And.intro (by omega) (by omega)) | omega | exact Sh.sz_S (by omega) | decide)
local macro_rules | `(tactic| walk_at "rd1") => `(tactic| first
  | (with_reducible first | refine Sh.gn_mk ?_ | refine Sh.nx_mk ?_ | refine Sh.st_nx ?_ | refine Sh.rt_mk ?_ | refine Sh.ct_mk ?_ | refine Sh.bk_mk ?_)
  | refine Exists.intro (α := V) _ (And.intro rfl ?_)
  | refine Exists.intro (α := Bool) _ (And.intro rfl ?_)
  | refine Exists.intro (α := Int) _ (And.intro rfl ?_)
  | refine Exists.intro (α := PySem.Str) _ (And.intro rfl ?_)
  | refine Exists.intro (α := Int) _ (Exists.intro (α := Int) _ (And.intro rfl (And.intro rfl ?_)))
  | refine Exists.intro (α := PySem.Str) _ (Exists.intro (α := PySem.Str) _ (And.intro rfl (And.intro rfl ?_)))
  | refine Exists.intro (α := Int) _ (Exists.intro (α := Int) _ (And.intro rfl ?_))
  | refine Or.inl (Exists.intro (α := Int) _ (And.intro rfl ?_))
  | refine Exists.intro _ (Exists.intro _ (Exists.intro _ (Exists.intro _ (And.intro rfl (And.intro rfl (And.intro (by walk_at "sq") (And.intro rfl ?_)))))))
  | refine Exists.intro _ (Exists.intro _ (Exists.intro _ (Exists.intro _ (And.intro rfl (And.intro rfl (And.intro (by walk_at "hp") (And.intro rfl ?_)))))))
  | refine And.intro (by walk_at "sd") ?_
  )
local macro_rules | `(tactic| walk_at "rd") => `(tactic| repeat walk_at "rd1")
local macro_rules | `(tactic| walk_at "lk") => `(tactic| first | exact rfl | (rw [lookup_putF, if_pos rfl]) | (rw [lookup_putF, if_neg (by decide +kernel)]; walk_at "lk"))

section
variable {P : Program} {w : World} {K : PySem.W.Frag} {mg : Str → Option Value} {base : Heap} {CB XR FE DI XS FT DT XT SE : Addr}
theorem blk_end (T : TxtX P K mg CB XR FE DI XS FT DT XT SE) (f : Addr) (cdv : Value) (A : Around) (outer : List Env) (s : Shared) (H : Hp) (E : XK) (hr : Room 12 (A.deeper (envOfC "law" (defScope s_law) s.heap.objs.size f cdv))) (hgd : A.guards = some []) :
    ∃ t_, PSs (cxOf CX0 P w K mg base ["_law_script", "_law_source_here", "_law_signs_here", "_law_rules", "_law_given", "_law_book", "_law_same", "_law_more", "_law_turn", "_law_text_here", "_law_thing", "_law_place", "_law_odd", "raised", "_law_many", "_law_letters", "_law_rows", "_law_rule_here", "_law_k"] "law" (defScope s_law) f cdv A outer s H E).nox ((defBody s_law).drop 17) t_ ∧
    ∀ (D : Ends) (H0 : Hp) (v0 v1 v2 v3 v4 v5 v6 v7 v8 v9 v10 v11 v12 v13 v14 v15 v16 v17 v18 : Option V), (∀ H', D.rt (.bl true) H') →
      t_ D [v0, v1, v2, v3, v4, v5, v6, v7, v8, v9, v10, v11, v12, v13, v14, v15, v16, v17, v18] H0 := by
  have c__law_source := c__law_source (P := P) (w := w) (base := base) T.toTxtC.toTxt
  have c__law_signs := c__law_signs (P := P) (w := w) (base := base) T.toTxtC.toTxt
  have c__law_drawn := c__law_drawn (P := P) (w := w) (base := base) T.toTxtC.toTxt
  have c_X_Book := c_X_Book___init__ (P := P) (w := w) (base := base) T
  have c__law_text := c__law_text (P := P) (w := w) (base := base) T.toTxtC.toTxt
  have c__law_spoilt := c__law_spoilt (P := P) (w := w) (base := base) T.toTxtC.toTxt
  have c__law_pick := c__law_pick (P := P) (w := w) (base := base) T.toTxtC.toTxt
  have c__law_number := c__law_number (P := P) (w := w) (base := base) T
  have c__law_left := c__law_left (P := P) (w := w) (base := base) T.toTxtC.toTxt
  have hgd : (A.deeper (envOfC "law" (defScope s_law) s.heap.objs.size f cdv)).guards = some [] := hgd
  have hu := hu_of hr
  refine ⟨_, (pss_one (ps_tryT rfl rfl sc_law.nd takes0 (fun W pn xe tk po => (pss_cons (ps_expr (pe_mkX T.k_Book c_X_Book hr (by decide) tk rfl (pa_cons pe_str (pa_cons pe_non pa_nil))))
    (pss_one (ps_ret pe_bl))))
    (HdsA.cons (i := 13) rfl rfl ⟨rfl, by decide, Or.inl T.e_BadSigns.mgC⟩ (fun a oe cls d pn hz hf => (pss_one (ps_ret (pe_cmpR op_eq (pe_xf T.e_BadSigns.xf T.nf_BadSigns_thing hz hf (pv 13)) pe_str (nomark _)))))
    HdsA.nil))), ?_⟩
  intro D H0 v0 v1 v2 v3 v4 v5 v6 v7 v8 v9 v10 v11 v12 v13 v14 v15 v16 v17 v18 kD
  rw [ba_S]
  walk_at "rd"
  intro x dx hx hdx hne
  refine ⟨x, dx, [98, 97], .non, rfl, upd_same, by decide, fun _ d hd => ?_, fun e => (by rw [ba_no] at e; cases e)⟩
  refine ⟨true, T.mm_BadSigns_BadSigns, fun _ a0 ha0 => ?_, fun zz => (by cases zz)⟩
  dsimp only [outA]
  refine ⟨_, rfl, rfl, rfl, d, _, _, rfl, upd_same, lk1, ?_⟩
  refine ⟨rfl, ?_⟩
  rw [decide_eq_true rfl]
  exact kD _
theorem row_S (k : Nat) : (⟨#[97 + k / 8]⟩ : Str) ++ ⟨#[97 + k % 8]⟩ = S (row k).1 := by
  rw [← S_one, ← S_one, S_cat]
  rfl
theorem blk_many (T : TxtX P K mg CB XR FE DI XS FT DT XT SE) (f : Addr) (cdv : Value) (A : Around) (outer : List Env) (s : Shared) (H : Hp) (E : XK) (hr : Room 12 (A.deeper (envOfC "law" (defScope s_law) s.heap.objs.size f cdv))) (hgd : A.guards = some []) :
    ∃ t_, PSs (cxOf CX0 P w K mg base ["_law_script", "_law_source_here", "_law_signs_here", "_law_rules", "_law_given", "_law_book", "_law_same", "_law_more", "_law_turn", "_law_text_here", "_law_thing", "_law_place", "_law_odd", "raised", "_law_many", "_law_letters", "_law_rows", "_law_rule_here", "_law_k"] "law" (defScope s_law) f cdv A outer s H E).nox ((defBody s_law).drop 16) t_ ∧
    ∀ (D : Ends) (H0 : Hp) (p : Addr) (v0 v2 v3 v4 v5 v6 v7 v8 v9 v10 v11 v12 v13 v14 v15 v16 v17 v18 : Option V), Src H0 p → (∀ H', D.rt (.bl true) H') →
      t_ D [v0, some (.ref p), v2, v3, v4, v5, v6, v7, v8, v9, v10, v11, v12, v13, v14, v15, v16, v17, v18] H0 := by
  have c__law_source := c__law_source (P := P) (w := w) (base := base) T.toTxtC.toTxt
  have c__law_signs := c__law_signs (P := P) (w := w) (base := base) T.toTxtC.toTxt
  have c__law_drawn := c__law_drawn (P := P) (w := w) (base := base) T.toTxtC.toTxt
  have c_X_Book := c_X_Book___init__ (P := P) (w := w) (base := base) T
  have c__law_text := c__law_text (P := P) (w := w) (base := base) T.toTxtC.toTxt
  have c__law_spoilt := c__law_spoilt (P := P) (w := w) (base := base) T.toTxtC.toTxt
  have c__law_pick := c__law_pick (P := P) (w := w) (base := base) T.toTxtC.toTxt
  have c__law_number := c__law_number (P := P) (w := w) (base := base) T
  have c__law_left := c__law_left (P := P) (w := w) (base := base) T.toTxtC.toTxt
  obtain ⟨tb_end, hb_end, kb_end⟩ := blk_end (P := P) (w := w) (base := base) T f cdv A outer s H E hr hgd
  have hgd : (A.deeper (envOfC "law" (defScope s_law) s.heap.objs.size f cdv)).guards = some [] := hgd
  have hu := hu_of hr
  refine ⟨_, (pss_cons (ps_if (pt_cmpR op_eq (pe_c c__law_pick hr (by decide) rfl (pa_cons (pv 1) (pa_cons pe_int pa_nil))) pe_int (nomark _))
    (pss_cons (ps_set (i := 14) sc_law.nd rfl (Or.inl rfl) (pe_op op_add pe_int (pe_c c__law_pick hr (by decide) rfl (pa_cons (pv 1) (pa_cons pe_int pa_nil)))))
    (pss_cons (ps_set (i := 15) sc_law.nd rfl (Or.inr rfl) pe_str)
    (pss_cons (ps_set (i := 16) sc_law.nd rfl (Or.inl rfl) (pe_op op_cat (pe_lc (own := [("_law_k", 18)]) (g := gName 18) (tt := tYes) rfl sc_law.nd (pi_range1 (by rfl) T.b_range (pa_cons pe_int pa_nil)) (blkOk_by (N := ["_law_script", "_law_source_here", "_law_signs_here", "_law_rules", "_law_given", "_law_book", "_law_same", "_law_more", "_law_turn", "_law_text_here", "_law_thing", "_law_place", "_law_odd", "raised", "_law_many", "_law_letters", "_law_rows", "_law_rule_here", "_law_k"]) (sc := defScope s_law) (by decide +kernel)) (fun _ _ _ _ _ => (pg_name (i := 18) sc_law.nd rfl (Or.inl rfl))) (fun _ _ _ _ _ => pts_nil) (fun _ _ _ _ _ => (pe_tup (pa_cons (pe_op op_add_str (pe_ix ix_str (pv 15) (pe_op op_fdiv (pv 18) pe_int) (fun _ _ => rfl)) (pe_ix ix_str (pv 15) (pe_op op_mod (pe_callTy call_int1 (by rfl) T.b_int (by decide +kernel) (pa_cons (pv 18) pa_nil)) pe_int) (fun _ _ => rfl))) (pa_cons pe_str pa_nil))))) (pe_lst (pa_cons (pe_tup (pa_cons pe_str (pa_cons pe_str pa_nil))) pa_nil))))
    (pss_one (ps_if (pt_cmpR (op_neD hr.units) (pe_c c__law_number hr (by decide) rfl (pa_cons (pv 15) (pa_cons (pe_slice sl_list (pv 16) po_none (po_some (pv 14))) pa_nil))) (pe_ifExp (pt_cmpR op_eq (pv 14) pe_int (nomark _)) pe_non (pe_un un_neg pe_int)) (nomark _))
      (pss_one (ps_ret pe_bl))
      pss_nil)))))
    pss_nil)
  hb_end), ?_⟩
  intro D H0 p v0 v2 v3 v4 v5 v6 v7 v8 v9 v10 v11 v12 v13 v14 v15 v16 v17 v18 hS kD
  walk_at "nx"
  refine st_J (fun σ H4 => ∃ w0 w1 w2 w3 w4 w5 w6 w7 w8 w9 w10 w11 w12 w13 w14 w15 w16 w17 w18 : Option V, σ = [w0, w1, w2, w3, w4, w5, w6, w7, w8, w9, w10, w11, w12, w13, w14, w15, w16, w17, w18]) (fun N hN => ?_) (fun σ H4 hv => ?_)
  · refine if_JG (fun b H1 => Src H1 p) (fun Q' hQ => ?_) (fun b H1 hS1 => ?_)
    · walk_at "rd"
      refine ⟨p, _, rfl, hS, by decide, by decide, fun r H1 r0 r1 hS1 b1 => ?_⟩
      walk_at "rd"
      exact hQ _ _ hS1
    cases b with
    | false =>
      rw [if_neg Bool.false_ne_true]
      exact hN _ _ ⟨_, _, _, _, _, _, _, _, _, _, _, _, _, _, _, _, _, _, _, rfl⟩
    | true =>
      rw [if_pos rfl]
      walk_at "nx"
      walk_at "rd"
      refine ⟨p, _, rfl, hS1, by decide, by decide, fun r H2 r0 r1 hS2 b2 => ?_⟩
      walk_at "nx"
      walk_at "rd"
      rw [L8_S, aaa_S]
      have h8 : (S L8).length = 8 := S_len L8
      have hsl : (1000 : Nat) ≤ sizeLine := by decide
      refine fun D9 hD => lc_range (lo := 0) (n := (64 : Int).toNat) (fun i H3 => ∃ acc, H3 D9 = some (.lst acc) ∧ Items (RItem K) H3 acc ((List.range i).map row) ∧ Same H2 H3) ⟨[], upd_same, Items.nil, same_new hD⟩ ?_ ?_
      · rintro i H3 hi ⟨acc, h3, it3, s3⟩
        have hi64 : i < 64 := hi
        obtain ⟨a1, a2⟩ := L8_at i hi64
        refine ⟨rfl, ty_T ?_⟩
        rw [Int.zero_add]
        walk_at "rd"
        refine ⟨_, _, 97 + i / 8, rfl, rfl, sz_S (t := L8) (by decide), atI_at (by omega) (by rw [show (((i : Nat) : Int) / 8).toNat = i / 8 by omega]; exact a1), ?_⟩
        walk_at "rd"
        refine ⟨_, _, 97 + i % 8, rfl, rfl, sz_S (t := L8) (by decide), atI_at (by omega) (by rw [show (((i : Nat) : Int) % 8).toNat = i % 8 by omega]; exact a2), ?_⟩
        refine ⟨_, _, rfl, rfl, by show 1 + 1 ≤ sizeLine; omega, ?_⟩
        rw [row_S, nil_S]
        refine ⟨by walk_at "sz", fun q hq => ?_⟩
        have s4 := same_new (o := .tup [V.str (S (row i).1), .str (S [])]) hq
        have e4 : (upd H3 q (.tup [V.str (S (row i).1), .str (S [])])) q = some (.tup (rTup (row i))) := upd_same
        generalize upd H3 q (.tup [V.str (S (row i).1), .str (S [])]) = H4 at s4 e4 ⊢
        have hl3 := it3.1
        rw [List.length_map, List.length_range] at hl3
        have kk : Keep H4 (upd H4 D9 (.lst (acc ++ [.ref q]))) := Keep.butL but_upd (s4 _ _ h3)
        refine ⟨acc, s4 _ _ h3, by omega, acc ++ [.ref q], upd_same, ?_, same_mut (s3.trans s4) hD⟩
        rw [List.range_succ, List.map_append]
        exact (it3.mono fun x y h => h.same (Keep.same s4)).snoc (fun x y h => h.same kk) ⟨q, rfl, kk.seq (SqT.of e4)⟩
      · rintro H3 ⟨acc, h3, it3, s3⟩
        obtain ⟨rok, rnd, rlen⟩ := rows_ok
        have hal : acc.length = 64 := by have := it3.1; rw [List.length_map, List.length_range] at this; exact this
        refine ⟨by walk_at "sz", fun q1 hq1 => ?_⟩
        have s4 := same_new (o := .tup [V.str (S [97, 97, 97]), .str (Str.ofString "")]) hq1
        have e4 : (upd H3 q1 (.tup [V.str (S [97, 97, 97]), .str (Str.ofString "")])) q1 = some (.tup (rTup ([97, 97, 97], []))) := upd_same
        generalize upd H3 q1 (.tup [V.str (S [97, 97, 97]), .str (Str.ofString "")]) = H4 at s4 e4 ⊢
        refine ⟨by walk_at "sz", fun q2 hq2 => ?_⟩
        have s5 := same_new (o := .lst [V.ref q1]) hq2
        have e5 : (upd H4 q2 (.lst [V.ref q1])) q2 = some (.lst [V.ref q1]) := upd_same
        generalize upd H4 q2 (.lst [V.ref q1]) = H5 at s5 e5 ⊢
        refine ⟨D9, q2, _, _, rfl, rfl, (s4.trans s5) _ _ h3, e5, by rw [hal]; exact Nat.le_trans (m := 65) (by show 64 + 1 ≤ 65; decide) (by decide), fun q3 hq3 => ?_⟩
        have s6 := same_new (o := .lst (acc ++ [V.ref q1])) hq3
        have e6 : (upd H5 q3 (.lst (acc ++ [V.ref q1]))) q3 = some (.lst (acc ++ [V.ref q1])) := upd_same
        generalize upd H5 q3 (.lst (acc ++ [V.ref q1])) = H6 at s6 e6 ⊢
        have hlen : (acc ++ [V.ref q1]).length = 65 := by rw [List.length_append, hal]; rfl
        walk_at "nx"
        refine if_KH false (fun H7 => True) (fun Q' hQ => ?_) (fun z => by cases z) (fun _ H7 _ => ?_)
        · walk_at "rd"
          refine ⟨q3, _, rfl, SqL.of e6, fun q4 hq4 => ?_⟩
          rw [cut_toV (by show (0 : Int) ≤ 64 + r; omega)]
          have s7 := same_new (o := .lst ((acc ++ [V.ref q1]).take ((64 : Int) + r).toNat)) hq4
          have e7 : (upd H6 q4 (.lst ((acc ++ [V.ref q1]).take ((64 : Int) + r).toNat))) q4 = some (.lst ((acc ++ [V.ref q1]).take ((64 : Int) + r).toNat)) := upd_same
          generalize upd H6 q4 (.lst ((acc ++ [V.ref q1]).take ((64 : Int) + r).toNat)) = H7 at s7 e7 ⊢
          have itT := it3.mono fun x y h => h.same (Keep.same (s4.trans (s5.trans (s6.trans s7))))
          walk_at "rd"
          rcases (by omega : r = 0 ∨ r = 1) with rfl | rfl
          · rw [show (acc ++ [V.ref q1]).take ((64 : Int) + 0).toNat = acc by rw [show ((64 : Int) + 0).toNat = 64 from rfl, List.take_append_of_le_length (by omega), List.take_of_length_le (by omega)]] at e7
            refine ⟨L8, .ref q4, rfl, L8_signs, .inr ⟨q4, acc, rfl, .inl (SqL.of e7), by omega, .inr ⟨by omega, acc, [], rows64, by simp, ⟨itT.1, fun i x y h1 h2 => ritem_a (itT.2 i x y h1 h2)⟩, rok, rnd, .inl ⟨rfl, fun H8 s8 => ?_⟩⟩⟩⟩
            walk_at "rd"
            refine iteT ?_
            refine ⟨.none, .none, .non, .non, rfl, rfl, ?_⟩
            exact ⟨_, rfl, hQ _ trivial⟩
          · rw [show (acc ++ [V.ref q1]).take ((64 : Int) + 1).toNat = acc ++ [V.ref q1] from List.take_of_length_le (by rw [hlen]; decide)] at e7
            refine ⟨L8, .ref q4, rfl, L8_signs, .inr ⟨q4, _, rfl, .inl (SqL.of e7), by omega, .inl ⟨by omega, fun H8 s8 => ?_⟩⟩⟩
            walk_at "rd"
            refine ⟨.int (-1), .int (-1), .int _, .int _, rfl, rfl, ?_⟩
            exact ⟨_, rfl, hQ _ trivial⟩
        · exact hN _ _ ⟨_, _, _, _, _, _, _, _, _, _, _, _, _, _, _, _, _, _, _, rfl⟩
  · obtain ⟨w0, w1, w2, w3, w4, w5, w6, w7, w8, w9, w10, w11, w12, w13, w14, w15, w16, w17, w18, rfl⟩ := hv
    show tb_end _ _ _
    exact kb_end _ _ _ _ _ _ _ _ _ _ _ _ _ _ _ _ _ _ _ _ _ kD
end
end Sh
set_option Elab.async false
set_option linter.all false
set_option maxRecDepth 100000
set_option maxHeartbeats 4000000
namespace Sh
open PySem PySem.Spec PyProof.Rows L2
open SX (S S_inj S_len S_cat)
open Bk (Rule firstAt lg bestUp used left drain pushS Wf quarrel)
theorem op_neDs {X : Cx} {a : Addr} {pn : List (Addr × Obj)} (hu : X.A.units + 64 < cLine) : OpR (X.suite a pn) (compareOp .NotEq) (rNeD X.K) := op_neD (X := X.suite a pn) hu
theorem YA.op {Bad : Hp → V → Prop} {σ : L2.St} {t : TA} {n : Nat} {r : R2} {tb : TE} {H : Hp} {Q : VK} (m : Stay Bad) (h : YA Bad n t σ) (hn : n ≤ 1000) (k : ∀ p vs H', Same H H' → H' p = some (.lst vs) → vs.length = n → (∀ v ∈ vs, Bad H' v) → tb σ H' fun y H2 => r (.ref p) y H2 Q) : tOp r (tLst t) tb σ H Q := by
  show tLst t σ H _
  exact YA.lst m h hn H _ k
theorem Src.sm {H H' : Hp} {a : Addr} (h : Src H a) (s : Same H H') : Src H' a := let ⟨d, e, c, z⟩ := h; ⟨d, e, c, s _ _ z⟩
theorem a_S : Str.ofString "a" = S [97] := rfl
theorem A_S : Str.ofString "A" = S [65] := rfl
theorem sp_S : Str.ofString " " = S [32] := rfl
local macro_rules | `(tactic| walk_at "nx") => `(tactic| repeat (with_reducible first | refine Sh.gn_mk ?_ | refine Sh.nx_mk ?_ | refine Sh.st_nx ?_ | refine Sh.rt_mk ?_ | refine Sh.ct_mk ?_ | refine Sh.bk_mk ?_))
local macro_rules | `(tactic| walk_at "sq") => `(tactic| first | exact SqL.of upd_same | exact SqT.of upd_same | exact SqL.of (by assumption) | exact SqT.of (by assumption) | assumption | exact Or.inl (SqL.of (by assumption)) | exact Or.inr (SqT.of (by assumption)) | exact Or.inl (by assumption) | exact Or.inr (by assumption))
local macro_rules | `(tactic| walk_at "hp") => `(tactic| first | exact upd_same | assumption)
local macro_rules | `(tactic| walk_at "sz") => `(tactic| first | exact Nat.le_of_ble_eq_true rfl | omega)
local macro_rules | `(tactic| walk_at "sd") => `(tactic| first | omega | exact rfl | assumption | (show (0 : Int) < _; omega) | exact And.intro (by omega) (by omega) | exact Or.inl (And.intro (by omega) (by omega)) | exact Or.inr (And.intro (by omega) (by omega)) | omega | exact Sh.sz_S (by omega) | decide)
local macro_rules | `(tactic| walk_at "rd1") => `(tactic| first
  | (with_reducible first | refine Sh.gn_mk ?_ | refine Sh.nx_mk ?_ | refine Sh.st_nx ?_ | refine Sh.rt_mk ?_ | refine Sh.ct_mk ?_ | refine Sh.bk_mk ?_)
  | refine Exists.intro (α := V) _ (And.intro rfl ?_)
  | refine Exists.intro (α := Bool) _ (And.intro rfl ?_)
  | refine Exists.intro (α := Int) _ (And.intro rfl ?_)
  | refine Exists.intro (α := PySem.Str) _ (And.intro rfl ?_)
  | refine Exists.intro (α := Int) _ (Exists.intro (α := Int) _ (And.intro rfl (And.intro rfl ?_)))
  | refine Exists.intro (α := PySem.Str) _ (Exists.intro (α := PySem.Str) _ (And.intro rfl (And.intro rfl ?_)))
  | refine Exists.intro (α := Int) _ (Exists.intro (α := Int) _ (And.intro rfl ?_))
  | refine Or.inl (Exists.intro (α := Int) _ (And.intro rfl ?_))
  | refine Exists.intro _ (Exists.intro _ (Exists.intro _ (Exists.intro _ (And.intro rfl (And.intro rfl (And.intro (by walk_at "sq") (And.intro rfl ?_)))))))
  | refine Exists.intro _ (Exists.intro _ (Exists.intro _ (Exists.intro _ (And.intro rfl (And.intro rfl (And.intro (by walk_at "hp") (And.intro rfl ?_)))))))
  | refine And.intro (by walk_at "sd") ?_
  )
local macro_rules | `(tactic| walk_at "rd") => `(tactic| repeat walk_at "rd1")
local macro_rules | `(tactic| walk_at "lk") => `(tactic| first | exact rfl | (rw [lookup_putF, if_pos rfl]) | (rw [lookup_putF, if_neg (by decide +kernel)]; walk_at "lk"))

section
variable {P : Program} {w : World} {K : PySem.W.Frag} {mg : Str → Option Value} {base : Heap} {CB XR FE DI XS FT DT XT SE : Addr}
theorem BookAt.but {C : Addr} {H H' : Hp} {p a : Addr} {sg : List Nat} {R : List Rule} (h : BookAt K C H p sg R) (b : But a H H') (z : Src H a) : BookAt K C H' p sg R := by
  obtain ⟨dx, fs, a2, xs, pl, h1, h2, h3, h4, h5, h6, h7, h8⟩ := h
  obtain ⟨d, e, c, z'⟩ := id z
  exact ⟨dx, fs, a2, xs, pl, b _ _ (ne_of h1 z' (by intro q; cases q)) h1, h2, h3, h4.keep (Keep.but b z), h5, h6.but b z, h7, h8⟩
/-- things that are no texts over the signs -/
def Odd (K : PySem.W.Frag) (sg : List Nat) (H : Hp) (v : V) : Prop := v = .non ∨ v = .int 5 ∨ (∃ t : List Nat, v = .str (S t) ∧ t.length ≤ 1000 ∧ isText sg t 0 200 = false ∧ Chars t) ∨ ∃ q, v = .ref q ∧ SqT K H q [.str (S [97])]
theorem Odd.keep {sg : List Nat} {H H' : Hp} {v : V} (h : Odd K sg H v) (k : Keep H H') : Odd K sg H' v := by
  rcases h with h | h | h | ⟨q, e, s⟩
  · exact .inl h
  · exact .inr (.inl h)
  · exact .inr (.inr (.inl h))
  · exact .inr (.inr (.inr ⟨q, e, k.seq s⟩))
theorem stay_odd {sg : List Nat} : Stay (Odd K sg) := fun _ _ _ s h => h.keep (Keep.same s)
theorem Odd.bad {sg : List Nat} {H : Hp} {v : V} (h : Odd K sg H v) : BadT K sg H v := by
  rcases h with rfl | rfl | ⟨t, rfl, h1, h2, _⟩ | ⟨q, rfl, s⟩
  · exact .inl notStr_non
  · exact .inl notStr_int
  · exact .inr ⟨t, rfl, h1, h2⟩
  · exact .inl (notStr_tup s)
theorem Odd.data {sg : List Nat} {H : Hp} {v : V} (h : Odd K sg H v) : ∃ d, Dp K H v d ∧ SeqAt.shaped d = true ∧ PyData.eqv d d = true := by
  rcases h with rfl | rfl | ⟨t, rfl, h1, h2, hc⟩ | ⟨q, rfl, s⟩
  · exact ⟨_, .non, rfl, rfl⟩
  · exact ⟨_, .int _, rfl, rfl⟩
  · refine ⟨.str (S t), .str _, ?_, beq_self_eq_true (S t)⟩
    unfold SeqAt.shaped
    rw [Bool.and_eq_true]
    exact ⟨strOk_S hc, decide_eq_true (show (0 : Nat) ≤ 64 by decide)⟩
  · exact ⟨.tuple [.str (S [97])], .tup s (.cons (.str _) .nil), by decide +kernel, by decide +kernel⟩
theorem isText_out {sg t : List Nat} {lo hi : Nat} {c : Nat} (h : c ∈ t) (n : c ∉ sg) : isText sg t lo hi = false := by
  unfold isText
  rw [Bool.eq_false_iff]
  simp only [ne_eq, Bool.and_eq_true, decide_eq_true_eq, List.all_eq_true]
  exact fun e => n (e.2 c h)
theorem isText_long {sg t : List Nat} {lo hi : Nat} (h : hi < t.length) : isText sg t lo hi = false := by
  unfold isText
  rw [Bool.eq_false_iff]
  simp only [ne_eq, Bool.and_eq_true, decide_eq_true_eq]
  omega
theorem blk_odd (T : TxtX P K mg CB XR FE DI XS FT DT XT SE) (f : Addr) (cdv : Value) (A : Around) (outer : List Env) (s : Shared) (H : Hp) (E : XK) (hr : Room 12 (A.deeper (envOfC "law" (defScope s_law) s.heap.objs.size f cdv))) (hgd : A.guards = some []) :
    ∃ t_, PSs (cxOf CX0 P w K mg base ["_law_script", "_law_source_here", "_law_signs_here", "_law_rules", "_law_given", "_law_book", "_law_same", "_law_more", "_law_turn", "_law_text_here", "_law_thing", "_law_place", "_law_odd", "raised", "_law_many", "_law_letters", "_law_rows", "_law_rule_here", "_law_k"] "law" (defScope s_law) f cdv A outer s H E).nox ((defBody s_law).drop 14) t_ ∧
    ∀ (D : Ends) (H0 : Hp) (p b : Addr) (sg : List Nat) (R : List Rule) (v0 v3 v4 v6 v7 v8 v9 v10 v11 v12 v13 v14 v15 v16 v17 v18 : Option V), Src H0 p → sg ∈ sgMenu → BookAt K CB H0 b sg R → (∀ H', D.rt (.bl true) H') →
      t_ D [v0, some (.ref p), some (.str (S sg)), v3, v4, some (.ref b), v6, v7, v8, v9, v10, v11, v12, v13, v14, v15, v16, v17, v18] H0 := by
  have c__law_source := c__law_source (P := P) (w := w) (base := base) T.toTxtC.toTxt
  have c__law_signs := c__law_signs (P := P) (w := w) (base := base) T.toTxtC.toTxt
  have c__law_drawn := c__law_drawn (P := P) (w := w) (base := base) T.toTxtC.toTxt
  have c_X_Book := c_X_Book___init__ (P := P) (w := w) (base := base) T
  have c__law_text := c__law_text (P := P) (w := w) (base := base) T.toTxtC.toTxt
  have c__law_spoilt := c__law_spoilt (P := P) (w := w) (base := base) T.toTxtC.toTxt
  have c__law_pick := c__law_pick (P := P) (w := w) (base := base) T.toTxtC.toTxt
  have c__law_number := c__law_number (P := P) (w := w) (base := base) T
  have c__law_left := c__law_left (P := P) (w := w) (base := base) T.toTxtC.toTxt
  have c_X_Book___call__ := c_X_Book___call__ (P := P) (w := w) (base := base) T
  obtain ⟨tb_many, hb_many, kb_many⟩ := blk_many (P := P) (w := w) (base := base) T f cdv A outer s H E hr hgd
  have hgd : (A.deeper (envOfC "law" (defScope s_law) s.heap.objs.size f cdv)).guards = some [] := hgd
  have hu := hu_of hr
  refine ⟨_, (pss_cons (ps_set (i := 12) sc_law.nd rfl (Or.inl rfl) (pe_ix ix_list (pe_lst (pa_cons pe_str (pa_cons pe_non (pa_cons pe_int (pa_cons (pe_op op_mulStr (pe_ix ix_str (pv 2) pe_int (fun _ _ => rfl)) pe_int) (pa_cons (pe_tup (pa_cons pe_str pa_nil)) (pa_cons pe_str (pa_cons pe_str pa_nil)))))))) (pe_c c__law_pick hr (by decide) rfl (pa_cons (pv 1) (pa_cons pe_int pa_nil))) (fun _ _ => rfl)))
  (pss_cons (ps_tryT rfl rfl sc_law.nd takes0 (fun W pn xe tk po => (pss_cons (ps_expr (pe_instX (pv 5) c_X_Book___call__ hr (by decide) tk (pa_cons (pv 12) pa_nil)))
    (pss_one (ps_ret pe_bl))))
    (HdsA.cons (i := 13) rfl rfl ⟨rfl, by decide, Or.inl T.e_BadText.mgC⟩ (fun a oe cls d pn hz hf => (pss_one (ps_if (PW.pt (pw_or (pt_cmpR (op_neDs hr.units) (pe_xf T.e_BadText.xf T.nf_BadText_thing hz hf (pv 13)) (pv 12) (nomark _)) (pw_or1 (pt_not (pt_val (pe_callB (call_isX T.c_BadText hz hf) (by rfl) T.b_isinstance (by decide +kernel) (pa_cons (pv 13) (pa_cons (pe_glob (v := .ref DT) rfl T.gc_WrongThing rfl) pa_nil))))))))
      (pss_one (ps_ret pe_bl))
      pss_nil)))
    HdsA.nil))
  hb_many)), ?_⟩
  intro D H0 p b sg R v0 v3 v4 v6 v7 v8 v9 v10 v11 v12 v13 v14 v15 v16 v17 v18 hS hm hB kD
  obtain ⟨hlt, hq⟩ := menu_lt sg hm
  obtain ⟨hs1, hs8⟩ := signs_len (menu_signs sg hm)
  obtain ⟨c0, sr, rfl⟩ : ∃ c r, sg = c :: r := by
    cases sg with
    | nil => simp at hs1
    | cons c r => exact ⟨c, r, rfl⟩
  have hsz : (S (c0 :: sr)).length ≤ sizeLine := sz_S (by omega)
  have at0 : atI (S (c0 :: sr)).cps.toList 0 = some c0 := by rw [S_list]; exact atI_at (Int.le_refl 0) rfl
  have hc0 : c0 < 1114112 := by have := hlt c0 (by simp); omega
  have ou : ∀ c, (c < 97 ∨ 122 < c) → c ∉ c0 :: sr := fun c h m => by have := hlt c m; omega
  have ch1 : ∀ c : Nat, c < 1114112 → Chars [c] := fun c h x hx => by rw [List.mem_singleton] at hx; omega
  walk_at "nx"
  refine st_asgJ (fun v H1 => Odd K (c0 :: sr) H1 v ∧ Src H1 p ∧ BookAt K CB H1 b (c0 :: sr) R) (fun Q' hQ => ?_) (fun v H1 ⟨hv, hS1, hB1⟩ => ?_)
  · have st := stay_odd (K := K) (sg := c0 :: sr)
    refine YA.op st (n := 7) (.cons st ?_ (.cons st ?_ (.cons st ?_ (.cons st ?_ (.cons st ?_ (.cons st ?_ (.cons st ?_ .nil))))))) (by decide) (fun pl vs H1 s1 e1 l1 ho => ?_)
    · exact fun H Q k => k _ _ (Same.refl _) (.inr (.inr (.inl ⟨[113], rfl, by decide, isText_out (c := 113) (by simp) hq, ch1 _ (by decide)⟩)))
    · exact fun H Q k => k _ _ (Same.refl _) (.inl rfl)
    · exact fun H Q k => k _ _ (Same.refl _) (.inr (.inl rfl))
    · intro H Q k
      walk_at "rd"
      refine ⟨_, 0, c0, rfl, rfl, hsz, at0, ?_⟩
      walk_at "rd"
      refine ⟨[c0], 201, rfl, rfl, by decide, by decide, by show 1 ≤ 1000; decide, ?_⟩
      refine k _ _ (Same.refl _) (.inr (.inr (.inl ⟨_, rfl, by show 201 ≤ 1000; decide, isText_long (by show 200 < 201; decide), fun x hx => ?_⟩)))
      obtain ⟨l, hl, hxl⟩ := List.mem_flatten.mp hx
      rw [List.mem_replicate] at hl
      rw [hl.2, List.mem_singleton] at hxl
      omega
    · intro H Q k
      walk_at "rd"
      exact fun q1 hq1 => k _ _ (same_new hq1) (.inr (.inr (.inr ⟨q1, rfl, SqT.of upd_same⟩)))
    · exact fun H Q k => k _ _ (Same.refl _) (.inr (.inr (.inl ⟨[65], rfl, by decide, isText_out (c := 65) (by simp) (ou _ (by decide)), ch1 _ (by decide)⟩)))
    · exact fun H Q k => k _ _ (Same.refl _) (.inr (.inr (.inl ⟨[32], rfl, by decide, isText_out (c := 32) (by simp) (ou _ (by decide)), ch1 _ (by decide)⟩)))
    have hS1 := hS.sm s1
    have hna : pl ≠ p := by
      obtain ⟨d, e, c, z⟩ := hS1
      intro q
      rw [q, z] at e1
      cases e1
      simp at l1
    walk_at "rd"
    refine ⟨p, _, rfl, hS1, by decide, by decide, fun r H2 r0 r1 hS2 b2 => ?_⟩
    have r1' : r < 7 := r1
    have hr7 : r.toNat < vs.length := by omega
    refine ⟨pl, vs, r, vs[r.toNat], rfl, rfl, SqL.of (b2 _ _ hna e1), atI_at r0 (List.getElem?_eq_getElem hr7), ?_⟩
    exact hQ _ _ ⟨(ho _ (List.getElem_mem hr7)).keep (Keep.but b2 hS1), hS2, (hB.same s1).but b2 hS1⟩
  obtain ⟨dd, hdp, hsh, heq⟩ := hv.data
  obtain ⟨dx, fs, _, _, _, hb, _⟩ := id hB1
  walk_at "nx"
  refine ⟨_, rfl, b, rfl, _, rfl, ⟨dx, fs, hb⟩, b, c0 :: sr, R, v, rfl, hB1, hv.bad, fun d hd => ?_⟩
  refine ⟨true, T.mm_BadText_BadText, fun _ a0 ha0 => ?_, fun zz => (by cases zz)⟩
  dsimp only [outA]
  have k2 := same_new (o := .xd [("thing", v)]) hd
  obtain ⟨dd, hdp, hsh, heq⟩ := (hv.keep (Keep.same k2)).data
  refine if_KH false (fun H2 => Src H2 p) (fun Q' hQ => ?_) (fun z => by cases z) (fun _ H2 hS2 => ?_)
  · refine ⟨_, rfl, rfl, rfl, d, _, _, rfl, upd_same, lk1, ?_⟩
    refine ⟨_, rfl, dd, dd, hdp, hdp, hsh, hsh, _, rfl, ?_⟩
    rw [heq]
    refine iteF ?_
    walk_at "rd"
    refine ⟨_, _, true, d, _, rfl, rfl, upd_same, fun u h => h, T.ko_BadText_WrongThing, true, rfl, ?_⟩
    exact hQ _ (hS1.sm k2)
  · show tb_many _ _ _
    exact kb_many _ _ p _ _ _ _ _ _ _ _ _ _ _ _ _ _ _ _ _ _ hS2 kD
end
end Sh
set_option Elab.async false
set_option linter.all false
/-! blocks of a def's body, by their places -/
namespace Sh
open PySem PySem.Spec PyProof.Rows L2
def stBody (l : List Stmt) (n : Nat) : List Stmt := match l.drop n with
  | .For _ _ b _ _ :: _ => b
  | .While _ b _ _ :: _ => b
  | .If _ b _ _ :: _ => b
  | _ => []
def stElse (l : List Stmt) (n : Nat) : List Stmt := match l.drop n with
  | .If _ _ b _ :: _ => b
  | _ => []
end Sh
set_option Elab.async false
set_option linter.all false
set_option maxRecDepth 100000
set_option maxHeartbeats 4000000
namespace Sh
open PySem PySem.Spec PyProof.Rows L2
open SX (S S_inj S_len S_cat)
open Bk (Rule firstAt lg bestUp used left drain pushS Wf quarrel)
theorem But.toSame {p : Addr} {H H' : Hp} (b : But p H H') (n : H p = none) : Same H H' := fun c o e => b c o (ne_of_none e n) e
theorem reach_chars {sg : List Nat} {R : List Rule} (h : ∀ r ∈ R, RuleOk sg 4 r) {t u : List Nat} (s : Bk.Reach R t u) : (∀ c ∈ t, c ∈ sg) → ∀ c ∈ u, c ∈ sg := by
  induction s with
  | refl => exact id
  | step x _ ih =>
    intro ht
    refine ih ?_
    cases x with
    | mk x y r hr =>
      intro c hc
      rcases List.mem_append.mp hc with z | z
      · rcases List.mem_append.mp z with z | z
        · exact ht c (List.mem_append_left _ (List.mem_append_left _ z))
        · exact (h r hr).2.2.2.1 c z
      · exact ht c (List.mem_append_right _ z)
theorem left_chars {sg : List Nat} {R : List Rule} (h : ∀ r ∈ R, RuleOk sg 4 r) {t : List Nat} (ht : ∀ c ∈ t, c ∈ sg) : ∀ c ∈ left R t, c ∈ sg := reach_chars h (Bk.left_reach t) ht
theorem ne_refl {z : Str} {H : Hp} {Q : VK} (q : Q (.bl false) H) : rNe (.str z) (.str z) H Q := ⟨rfl, by rw [decide_eq_true rfl]; exact q⟩
local macro_rules | `(tactic| walk_at "nx") => `(tactic| repeat (with_reducible first | refine Sh.gn_mk ?_ | refine Sh.nx_mk ?_ | refine Sh.st_nx ?_ | refine Sh.rt_mk ?_ | refine Sh.ct_mk ?_ | refine Sh.bk_mk ?_))
local macro_rules | `(tactic| walk_at "sq") => `(tactic| first | exact SqL.of upd_same | exact SqT.of upd_same | exact SqL.of (by assumption) | exact SqT.of (by assumption) | assumption | exact Or.inl (SqL.of (by assumption)) | exact Or.inr (SqT.of (by assumption)) | exact Or.inl (by assumption) | exact Or.inr (by assumption))
local macro_rules | `(tactic| walk_at "hp") => `(tactic| first | exact upd_same | assumption)
local macro_rules | `(tactic| walk_at "sz") => `(tactic| first | exact Nat.le_of_ble_eq_true rfl | omega)
local macro_rules | `(tactic| walk_at "sd") => `(tactic| first | omega | exact rfl | assumption | (show (0 : Int) < _; omega) | exact And.intro (by omega) (by omega) | exact Or.inl (And.intro (by omega) (by omega)) | exact Or.inr (And.intro (by omega) (by omega)) | omega | exact Sh.sz_S (by omega) | decide)
local macro_rules | `(tactic| walk_at "rd1") => `(tactic| first
  | (with_reducible first | refine Sh.gn_mk ?_ | refine Sh.nx_mk ?_ | refine Sh.st_nx ?_ | refine Sh.rt_mk ?_ | refine Sh.ct_mk ?_ | refine Sh.bk_mk ?_)
  | refine Exists.intro (α := V) _ (And.intro rfl ?_)
  | refine Exists.intro (α := Bool) _ (And.intro rfl ?_)
  | refine Exists.intro (α := Int) _ (And.intro rfl ?_)
  | refine Exists.intro (α := PySem.Str) _ (And.intro rfl ?_)
  | refine Exists.intro (α := Int) _ (Exists.intro (α := Int) _ (And.intro rfl (And.intro rfl ?_)))
  | refine Exists.intro (α := PySem.Str) _ (Exists.intro (α := PySem.Str) _ (And.intro rfl (And.intro rfl ?_)))
  | refine Exists.intro (α := Int) _ (Exists.intro (α := Int) _ (And.intro rfl ?_))
  | refine Or.inl (Exists.intro (α := Int) _ (And.intro rfl ?_))
  | refine Exists.intro _ (Exists.intro _ (Exists.intro _ (Exists.intro _ (And.intro rfl (And.intro rfl (And.intro (by walk_at "sq") (And.intro rfl ?_)))))))
  | refine Exists.intro _ (Exists.intro _ (Exists.intro _ (Exists.intro _ (And.intro rfl (And.intro rfl (And.intro (by walk_at "hp") (And.intro rfl ?_)))))))
  | refine And.intro (by walk_at "sd") ?_
  )
local macro_rules | `(tactic| walk_at "rd") => `(tactic| repeat walk_at "rd1")
local macro_rules | `(tactic| walk_at "lk") => `(tactic| first | exact rfl | (rw [lookup_putF, if_pos rfl]) | (rw [lookup_putF, if_neg (by decide +kernel)]; walk_at "lk"))

section
variable {P : Program} {w : World} {K : PySem.W.Frag} {mg : Str → Option Value} {base : Heap} {CB XR FE DI XS FT DT XT SE : Addr}
theorem blk_turn (T : TxtX P K mg CB XR FE DI XS FT DT XT SE) (f : Addr) (cdv : Value) (A : Around) (outer : List Env) (s : Shared) (H : Hp) (E : XK) (hr : Room 12 (A.deeper (envOfC "law" (defScope s_law) s.heap.objs.size f cdv))) (hgd : A.guards = some []) :
    ∃ t_, PSs (cxOf CX0 P w K mg base ["_law_script", "_law_source_here", "_law_signs_here", "_law_rules", "_law_given", "_law_book", "_law_same", "_law_more", "_law_turn", "_law_text_here", "_law_thing", "_law_place", "_law_odd", "raised", "_law_many", "_law_letters", "_law_rows", "_law_rule_here", "_law_k"] "law" (defScope s_law) f cdv A outer s H E).nox ((stBody (defBody s_law) 13).drop 0) t_ ∧
    ∀ (D : Ends) (H0 : Hp) (a q b bs : Addr) (ns : List Int) (i : Nat) (sg : List Nat) (R : List Rule) (xs : List V) (v1 v4 v7 v9 v10 v11 v12 v13 v14 v15 v16 v17 v18 : Option V), SqL K H0 a (ns.map V.int) → (∀ z ∈ ns, Builtin.Int.intBits z ≤ 1048576) → ns.length ≤ 63 → i < 3 → sg ∈ sgMenu → RulesAt K H0 q xs R → BookAt K CB H0 b sg R → BookAt K CB H0 bs sg R → R.length ≤ 6 → BookOk sg R →
      (∀ σ' H', (∃ v9 v10 v11 : Option V, σ' = [some (.ref a), v1, some (.str (S sg)), some (.ref q), v4, some (.ref b), some (.ref bs), v7, some (.int (i : Nat)), v9, v10, v11, v12, v13, v14, v15, v16, v17, v18]) → Same H0 H' → D.nx σ' H') →
      t_ D [some (.ref a), v1, some (.str (S sg)), some (.ref q), v4, some (.ref b), some (.ref bs), v7, some (.int (i : Nat)), v9, v10, v11, v12, v13, v14, v15, v16, v17, v18] H0 := by
  have c__law_source := c__law_source (P := P) (w := w) (base := base) T.toTxtC.toTxt
  have c__law_signs := c__law_signs (P := P) (w := w) (base := base) T.toTxtC.toTxt
  have c__law_drawn := c__law_drawn (P := P) (w := w) (base := base) T.toTxtC.toTxt
  have c_X_Book := c_X_Book___init__ (P := P) (w := w) (base := base) T
  have c__law_text := c__law_text (P := P) (w := w) (base := base) T.toTxtC.toTxt
  have c__law_spoilt := c__law_spoilt (P := P) (w := w) (base := base) T.toTxtC.toTxt
  have c__law_pick := c__law_pick (P := P) (w := w) (base := base) T.toTxtC.toTxt
  have c__law_number := c__law_number (P := P) (w := w) (base := base) T
  have c__law_left := c__law_left (P := P) (w := w) (base := base) T.toTxtC.toTxt
  have c_Book___call__ := c_Book___call__ (P := P) (w := w) (base := base) T.toTxtC
  have hgd : (A.deeper (envOfC "law" (defScope s_law) s.heap.objs.size f cdv)).guards = some [] := hgd
  have hu := hu_of hr
  refine ⟨_, (pss_cons (ps_set (i := 9) sc_law.nd rfl (Or.inl rfl) (pe_c c__law_text hr (by decide) rfl (pa_cons (pe_c c__law_source hr (by decide) rfl (pa_cons (pv 0) (pa_cons (pe_op op_add (pv 8) pe_int) pa_nil))) (pa_cons (pv 2) (pa_cons pe_int pa_nil)))))
  (pss_cons (ps_if (PW.pt (pw_or (pt_cmpR op_ne (pe_callB (call_reprD hgd hr.units) (by rfl) T.b_repr (by decide +kernel) (pa_cons (pe_instP (pv 5) c_Book___call__ hr (by decide) (pa_cons (pv 9) pa_nil)) pa_nil)) (pe_callB (call_reprD hgd hr.units) (by rfl) T.b_repr (by decide +kernel) (pa_cons (pe_c c__law_left hr (by decide) rfl (pa_cons (pv 3) (pa_cons (pv 9) pa_nil))) pa_nil)) (nomark _)) (pw_or1 (pt_cmpR op_ne (pe_callB (call_reprD hgd hr.units) (by rfl) T.b_repr (by decide +kernel) (pa_cons (pe_instP (pv 5) c_Book___call__ hr (by decide) (pa_cons (pv 9) pa_nil)) pa_nil)) (pe_callB (call_reprD hgd hr.units) (by rfl) T.b_repr (by decide +kernel) (pa_cons (pe_instP (pv 6) c_Book___call__ hr (by decide) (pa_cons (pv 9) pa_nil)) pa_nil)) (nomark _)))))
    (pss_one (ps_ret pe_bl))
    pss_nil)
  (pss_cons (ps_asg (pe_c c__law_spoilt hr (by decide) rfl (pa_cons (pe_c c__law_source hr (by decide) rfl (pa_cons (pv 0) (pa_cons (pe_op op_add (pv 8) pe_int) pa_nil))) (pa_cons (pv 2) (pa_cons (pv 3) pa_nil)))) (pg_tup (by rfl) (pgs_cons (pg_name (i := 10) sc_law.nd rfl (Or.inl rfl)) (pgs_cons (pg_name (i := 11) sc_law.nd rfl (Or.inl rfl)) pgs_nil))))
  (pss_one (ps_if (pt_cmpR (op_neD hr.units) (pe_c c__law_number hr (by decide) rfl (pa_cons (pv 2) (pa_cons (pv 10) pa_nil))) (pv 11) (nomark _))
    (pss_one (ps_ret pe_bl))
    pss_nil))))), ?_⟩
  intro D H0 a q b bs ns i sg R xs v1 v4 v7 v9 v10 v11 v12 v13 v14 v15 v16 v17 v18 hSa hbits hlen hi hm hR hb hbs h6 hB kD
  obtain ⟨hlt, h113⟩ := menu_lt sg hm
  have hsg := hB.1
  obtain ⟨hs1, hs8⟩ := signs_len hsg
  have hw := hB.wf
  have h4 : ∀ r ∈ R, r.1.length ≤ 4 := fun r m => (hB.2.2.1 r m).2.1
  walk_at "nx"
  walk_at "rd"
  refine ⟨a, ns, _, rfl, hSa, hbits, hlen, by omega, by omega, fun p H1 hp s1 hS1 => ?_⟩
  walk_at "rd"
  refine ⟨p, sg, 9, rfl, hS1, by omega, by omega, by decide, by decide, fun t H2 ht hc hS2 b2 => ?_⟩
  have s2 : Same H0 H2 := ((But.same s1).trans b2).toSame hp
  have hlc := left_chars hB.2.2.1 hc
  have hll := left_len hw t
  have shw := (Shw.str (u := left R t) fun c h => by have := hlt c (hlc c h); omega).ok (by decide) (show 10 * (left R t).length + 2 ≤ 16777216 by omega)
  walk_at "nx"
  refine if_KH false (fun H3 => Same H2 H3) (fun Q' hQ => ?_) (fun z => by cases z) (fun _ H3 s3 => ?_)
  · have hb2 := hb.same s2
    have hbs2 := hbs.same s2
    have hR2 := hR.same s2
    obtain ⟨dx, fs, _, _, _, e2, _⟩ := id hb2
    obtain ⟨dx', fs', _, _, _, e2', _⟩ := id hbs2
    walk_at "rd"
    refine ⟨b, rfl, _, rfl, ⟨dx, fs, e2⟩, b, sg, t, R, rfl, hb2, hw, by omega, hc, fun H3 s3 => ?_⟩
    walk_at "rd"
    refine ⟨_, .str (S (left R t)), rfl, .str _, shw.1, shw.2.1, shw.2.2.1, shw.2.2.2, ?_⟩
    walk_at "rd"
    have hR3 := hR2.same s3
    refine ⟨q, xs, R, t, rfl, .inr hR3.sq, hR3.items, by omega, hw, h4, by omega, fun H4 s4 => ?_⟩
    walk_at "rd"
    refine ⟨_, .str (S (left R t)), rfl, .str _, shw.1, shw.2.1, shw.2.2.1, shw.2.2.2, ?_⟩
    refine ne_refl ?_
    refine ⟨_, rfl, ?_⟩
    refine iteF ?_
    have s24 := s3.trans s4
    walk_at "rd"
    refine ⟨b, rfl, _, rfl, ⟨dx, fs, s24 _ _ e2⟩, b, sg, t, R, rfl, hb2.same s24, hw, by omega, hc, fun H5 s5 => ?_⟩
    walk_at "rd"
    refine ⟨_, .str (S (left R t)), rfl, .str _, shw.1, shw.2.1, shw.2.2.1, shw.2.2.2, ?_⟩
    walk_at "rd"
    have s25 := s24.trans s5
    refine ⟨bs, rfl, _, rfl, ⟨dx', fs', s25 _ _ e2'⟩, bs, sg, t, R, rfl, hbs2.same s25, hw, by omega, hc, fun H6 s6 => ?_⟩
    walk_at "rd"
    refine ⟨_, .str (S (left R t)), rfl, .str _, shw.1, shw.2.1, shw.2.2.1, shw.2.2.2, ?_⟩
    refine ne_refl ?_
    exact ⟨_, rfl, hQ _ (s25.trans s6)⟩
  · have s03 := s2.trans s3
    have hR3 := hR.same s03
    walk_at "nx"
    walk_at "rd"
    refine ⟨a, ns, _, rfl, s03.seq hSa, hbits, hlen, by omega, by omega, fun p2 H4 hp2 s4 hS4 => ?_⟩
    walk_at "rd"
    refine ⟨p2, q, sg, xs, R, rfl, hS4, hR3.same s4, hB, h6, h113, fun qt v z H5 e5 told hS5 b5 => ?_⟩
    have s05 : Same H0 H5 := s03.trans (((But.same s4).trans b5).toSame hp2)
    refine ⟨qt, _, rfl, SqT.of e5, rfl, _, _, rfl, _, _, rfl, rfl, ?_⟩
    walk_at "nx"
    refine if_KH false (fun H6 => Same H5 H6) (fun Q' hQ => ?_) (fun z => by cases z) (fun _ H6 s6 => ?_)
    · walk_at "rd"
      refine ⟨sg, v, rfl, hsg, told _ _ fun H6 s6 => ?_⟩
      walk_at "rd"
      refine ⟨.int z, .int z, .int _, .int _, ?_, ?_, ?_⟩
      · first | rfl | exact decide_eq_true (show (0 : Nat) ≤ 64 by decide)
      · first | rfl | exact decide_eq_true (show (0 : Nat) ≤ 64 by decide)
      · rw [show PyData.eqv (.int z) (.int z) = true from beq_self_eq_true z]
        exact ⟨_, rfl, hQ _ s6⟩
    · show D.nx _ _
      exact kD _ _ ⟨_, _, _, rfl⟩ (s05.trans s6)
end
end Sh
set_option Elab.async false
set_option linter.all false
set_option maxRecDepth 100000
set_option maxHeartbeats 4000000
namespace Sh
open PySem PySem.Spec PyProof.Rows L2
open SX (S S_inj S_len S_cat)
open Bk (Rule firstAt lg bestUp used left drain pushS Wf quarrel)
theorem BookOk.sub {sg : List Nat} {R N : List Rule} (h : BookOk sg R) (s : N.Sublist R) : BookOk sg N := ⟨h.1, Nat.le_trans s.length_le h.2.1, fun r m => h.2.2.1 r (s.subset m), h.2.2.2.sublist s⟩
theorem BookOk.rot {sg : List Nat} {R : List Rule} (h : BookOk sg R) : BookOk sg (R.drop 1 ++ R.take 1) := by
  have p : (R.drop 1 ++ R.take 1).Perm R := by
    have := List.perm_append_comm (l₁ := R.drop 1) (l₂ := R.take 1)
    rw [List.take_append_drop] at this
    exact this
  exact ⟨h.1, by rw [p.length_eq]; exact h.2.1, fun r m => h.2.2.1 r (p.mem_iff.mp m), p.nodup_iff.mpr h.2.2.2⟩
theorem rot_ne {R : List Rule} (h : R.Nodup) (l : 1 < R.length) : ¬ R = R.drop 1 ++ R.take 1 := by
  match R, l with
  | r :: n :: R, _ =>
    intro e
    have e1 : r = n := by
      have := congrArg List.head? e
      simpa using this
    rw [e1] at h
    simp at h
theorem drop_ne {R : List Rule} (h : R ≠ []) : ¬ R = R.drop 1 := fun e => by
  have := congrArg List.length e
  rw [List.length_drop] at this
  have := List.length_pos_iff.mpr h
  omega
theorem menu_z : ∀ sg ∈ sgMenu, (∃ c, sg.getLast? = some c ∧ (c < 122 → isSigns (sg ++ [122]) = true)) := by
  have h1 : ∀ sg ∈ sgMenu, (match sg.getLast? with | some c => (c ≥ 122 || isSigns (sg ++ [122])) | none => false) = true := by decide +kernel
  intro sg hm
  have h := h1 sg hm
  cases e : sg.getLast? with
  | none => rw [e] at h; cases h
  | some c =>
    rw [e] at h
    refine ⟨c, rfl, fun hc => ?_⟩
    simp only [Bool.or_eq_true, decide_eq_true_eq] at h
    rcases h with h | h
    · omega
    · exact h
local macro_rules | `(tactic| walk_at "nx") => `(tactic| repeat (with_reducible first | refine Sh.gn_mk ?_ | refine Sh.nx_mk ?_ | refine Sh.st_nx ?_ | refine Sh.rt_mk ?_ | refine Sh.ct_mk ?_ | refine Sh.bk_mk ?_))
local macro_rules | `(tactic| walk_at "sq") => `(tactic| first | exact SqL.of upd_same | exact SqT.of upd_same | exact SqL.of (by assumption) | exact SqT.of (by assumption) | assumption | exact Or.inl (SqL.of (by assumption)) | exact Or.inr (SqT.of (by assumption)) | exact Or.inl (by assumption) | exact Or.inr (by assumption))
local macro_rules | `(tactic| walk_at "hp") => `(tactic| first | exact upd_same | assumption)
local macro_rules | `(tactic| walk_at "sz") => `(tactic| first | exact Nat.le_of_ble_eq_true rfl | omega)
local macro_rules | `(tactic| walk_at "sd") => `(tactic| first | omega | exact rfl | assumption | (show (0 : Int) < _; omega) | exact And.intro (by omega) (by omega) | exact Or.inl (And.intro (by omega) (by omega)) | exact Or.inr (And.intro (by omega) (by omega)) | omega | exact Sh.sz_S (by omega) | decide)
local macro_rules | `(tactic| walk_at "rd1") => `(tactic| first
  | (with_reducible first | refine Sh.gn_mk ?_ | refine Sh.nx_mk ?_ | refine Sh.st_nx ?_ | refine Sh.rt_mk ?_ | refine Sh.ct_mk ?_ | refine Sh.bk_mk ?_)
  | refine Exists.intro (α := V) _ (And.intro rfl ?_)
  | refine Exists.intro (α := Bool) _ (And.intro rfl ?_)
  | refine Exists.intro (α := Int) _ (And.intro rfl ?_)
  | refine Exists.intro (α := PySem.Str) _ (And.intro rfl ?_)
  | refine Exists.intro (α := Int) _ (Exists.intro (α := Int) _ (And.intro rfl (And.intro rfl ?_)))
  | refine Exists.intro (α := PySem.Str) _ (Exists.intro (α := PySem.Str) _ (And.intro rfl (And.intro rfl ?_)))
  | refine Exists.intro (α := Int) _ (Exists.intro (α := Int) _ (And.intro rfl ?_))
  | refine Or.inl (Exists.intro (α := Int) _ (And.intro rfl ?_))
  | refine Exists.intro _ (Exists.intro _ (Exists.intro _ (Exists.intro _ (And.intro rfl (And.intro rfl (And.intro (by walk_at "sq") (And.intro rfl ?_)))))))
  | refine Exists.intro _ (Exists.intro _ (Exists.intro _ (Exists.intro _ (And.intro rfl (And.intro rfl (And.intro (by walk_at "hp") (And.intro rfl ?_)))))))
  | refine And.intro (by walk_at "sd") ?_
  )
local macro_rules | `(tactic| walk_at "rd") => `(tactic| repeat walk_at "rd1")
local macro_rules | `(tactic| walk_at "lk") => `(tactic| first | exact rfl | (rw [lookup_putF, if_pos rfl]) | (rw [lookup_putF, if_neg (by decide +kernel)]; walk_at "lk"))

section
variable {P : Program} {w : World} {K : PySem.W.Frag} {mg : Str → Option Value} {base : Heap} {CB XR FE DI XS FT DT XT SE : Addr}
/-- what stands from the book on -/
structure Held (K : PySem.W.Frag) (CB : Addr) (H : Hp) (a p q b : Addr) (ns : List Int) (sg : List Nat) (R : List Rule) (xs : List V) : Prop where
  src : Src H p
  scr : SqL K H a (ns.map V.int)
  bits : ∀ z ∈ ns, Builtin.Int.intBits z ≤ 1048576
  len : ns.length ≤ 63
  menu : sg ∈ sgMenu
  rules : RulesAt K H q xs R
  book : BookAt K CB H b sg R
  six : R.length ≤ 6
  ok : BookOk sg R
theorem Held.sm {H H' : Hp} {a p q b : Addr} {ns : List Int} {sg : List Nat} {R : List Rule} {xs : List V} (h : Held K CB H a p q b ns sg R xs) (s : Same H H') : Held K CB H' a p q b ns sg R xs :=
  ⟨h.src.sm s, s.seq h.scr, h.bits, h.len, h.menu, h.rules.same s, h.book.same s, h.six, h.ok⟩
/-- Book(signs, rules) of rules that are right -/
theorem mk_book {H : Hp} {Q : Addr → Hp → Prop} {E : XK} {a : Addr} {xs : List V} {sg : List Nat} {R : List Rule} (hB : BookOk sg R) (hA : SqA K H a xs) (it : Items (RItA K) H xs R) (k : ∀ x H2, Same H H2 → BookAt K CB H2 x sg R → Q x H2) :
    ∀ x dx, H x = none → H dx = none → dx ≠ x → spBookInitX K CB XS XR [.ref x, .str (S sg), .ref a] (upd (upd H dx (.own x)) x (.ins CB dx [])) (fun v H2 => v = .non ∧ Q x H2) E := by
  intro x dx hx hdx hne
  have hl := it.1
  have h64 := hB.2.1
  refine ⟨x, dx, sg, .ref a, rfl, upd_same, by have := (signs_len hB.1).2; omega, fun e => (by rw [hB.1] at e; cases e), fun _ H1 fs b1 e1 => ?_⟩
  have s1 := same_made hx hdx b1
  exact .inr ⟨a, xs, rfl, hA.keep s1, by omega, .inr ⟨by omega, xs, [], R, by simp, it.mono fun x y h => h.sm s1, hB.2.2.1, hB.2.2.2, .inl ⟨rfl, fun H' hb b3 => ⟨rfl, k x H' (same_made hx hdx b3) hb⟩⟩⟩⟩
theorem ritems {H : Hp} {xs : List V} {R : List Rule} (h : Items (RItem K) H xs R) : Items (RItA K) H xs R := ⟨h.1, fun i x y h1 h2 => ritem_a (h.2 i x y h1 h2)⟩
theorem eq_book {H : Hp} {Q : VK} {b x : Addr} {sg su : List Nat} {R N : List Rule} (h1 : BookAt K CB H b sg R) (h2 : BookAt K CB H x su N) (c1 : RChars R) (c2 : RChars N) (q : Q (.bl (decide (sg = su ∧ R = N))) H) : rEqI CB (spBookEq K CB) (.ref b) (.ref x) H Q := by
  obtain ⟨dx, fs, _, _, _, e1, _⟩ := id h1
  obtain ⟨dy, gs, _, _, _, e2, _⟩ := id h2
  exact ⟨b, dx, fs, x, dy, gs, rfl, rfl, e1, e2, .inl ⟨b, x, sg, su, R, N, rfl, h1, h2, c1, c2, _, rfl, q⟩⟩
theorem blk_turns (T : TxtX P K mg CB XR FE DI XS FT DT XT SE) (f : Addr) (cdv : Value) (A : Around) (outer : List Env) (s : Shared) (H : Hp) (E : XK) (hr : Room 12 (A.deeper (envOfC "law" (defScope s_law) s.heap.objs.size f cdv))) (hgd : A.guards = some []) :
    ∃ t_, PSs (cxOf CX0 P w K mg base ["_law_script", "_law_source_here", "_law_signs_here", "_law_rules", "_law_given", "_law_book", "_law_same", "_law_more", "_law_turn", "_law_text_here", "_law_thing", "_law_place", "_law_odd", "raised", "_law_many", "_law_letters", "_law_rows", "_law_rule_here", "_law_k"] "law" (defScope s_law) f cdv A outer s H E).nox ((defBody s_law).drop 13) t_ ∧
    ∀ (D : Ends) (H0 : Hp) (a p q b bs : Addr) (ns : List Int) (sg : List Nat) (R : List Rule) (xs : List V) (v4 v7 v8 v9 v10 v11 v12 v13 v14 v15 v16 v17 v18 : Option V), Held K CB H0 a p q b ns sg R xs → BookAt K CB H0 bs sg R → (∀ H', D.rt (.bl true) H') →
      t_ D [some (.ref a), some (.ref p), some (.str (S sg)), some (.ref q), v4, some (.ref b), some (.ref bs), v7, v8, v9, v10, v11, v12, v13, v14, v15, v16, v17, v18] H0 := by
  have c__law_source := c__law_source (P := P) (w := w) (base := base) T.toTxtC.toTxt
  have c__law_signs := c__law_signs (P := P) (w := w) (base := base) T.toTxtC.toTxt
  have c__law_drawn := c__law_drawn (P := P) (w := w) (base := base) T.toTxtC.toTxt
  have c_X_Book := c_X_Book___init__ (P := P) (w := w) (base := base) T
  have c__law_text := c__law_text (P := P) (w := w) (base := base) T.toTxtC.toTxt
  have c__law_spoilt := c__law_spoilt (P := P) (w := w) (base := base) T.toTxtC.toTxt
  have c__law_pick := c__law_pick (P := P) (w := w) (base := base) T.toTxtC.toTxt
  have c__law_number := c__law_number (P := P) (w := w) (base := base) T
  have c__law_left := c__law_left (P := P) (w := w) (base := base) T.toTxtC.toTxt
  obtain ⟨tb_turn, hb_turn, kb_turn⟩ := blk_turn (P := P) (w := w) (base := base) T f cdv A outer s H E hr hgd
  obtain ⟨tb_odd, hb_odd, kb_odd⟩ := blk_odd (P := P) (w := w) (base := base) T f cdv A outer s H E hr hgd
  have hgd : (A.deeper (envOfC "law" (defScope s_law) s.heap.objs.size f cdv)).guards = some [] := hgd
  have hu := hu_of hr
  refine ⟨_, (pss_cons (ps_for PassesOwn.never rfl (pi_range1 (by rfl) T.b_range (pa_cons pe_int pa_nil)) (pg_name (i := 8) sc_law.nd rfl (Or.inl rfl))
    hb_turn)
  hb_odd), ?_⟩
  intro D H0 a p q b bs ns sg R xs v4 v7 v8 v9 v10 v11 v12 v13 v14 v15 v16 v17 v18 hH hbs kD
  walk_at "nx"
  walk_at "rd"
  refine for_range (lo := 0) (n := (3 : Int).toNat) (fun i σ G => ∃ v8 v9 v10 v11 : Option V, σ = [some (.ref a), some (.ref p), some (.str (S sg)), some (.ref q), v4, some (.ref b), some (.ref bs), v7, v8, v9, v10, v11, v12, v13, v14, v15, v16, v17, v18] ∧ Same H0 G)
    ⟨_, _, _, _, rfl, Same.refl _⟩ ?_ ?_
  · rintro i σ G hi ⟨v8, v9, v10, v11, rfl, s1⟩
    rw [Int.zero_add]
    have hG := hH.sm s1
    show tb_turn _ _ _
    refine kb_turn _ _ a q b bs ns i sg R xs _ _ _ _ _ _ _ _ _ _ _ _ _ hG.scr hG.bits hG.len hi hG.menu hG.rules hG.book (hbs.same s1) hG.six hG.ok fun σ' G2 hσ s2 => ?_
    obtain ⟨w9, w10, w11, rfl⟩ := hσ
    exact ⟨_, _, _, _, rfl, s1.trans s2⟩
  · rintro σ G ⟨v8, v9, v10, v11, rfl, s1⟩
    have hG := hH.sm s1
    show tb_odd _ _ _
    exact kb_odd _ _ p b sg R _ _ _ _ _ _ _ _ _ _ _ _ _ _ _ _ hG.src hG.menu hG.book kD
theorem blk_fewer (T : TxtX P K mg CB XR FE DI XS FT DT XT SE) (f : Addr) (cdv : Value) (A : Around) (outer : List Env) (s : Shared) (H : Hp) (E : XK) (hr : Room 12 (A.deeper (envOfC "law" (defScope s_law) s.heap.objs.size f cdv))) (hgd : A.guards = some []) :
    ∃ t_, PSs (cxOf CX0 P w K mg base ["_law_script", "_law_source_here", "_law_signs_here", "_law_rules", "_law_given", "_law_book", "_law_same", "_law_more", "_law_turn", "_law_text_here", "_law_thing", "_law_place", "_law_odd", "raised", "_law_many", "_law_letters", "_law_rows", "_law_rule_here", "_law_k"] "law" (defScope s_law) f cdv A outer s H E).nox ((defBody s_law).drop 11) t_ ∧
    ∀ (D : Ends) (H0 : Hp) (a p q b bs : Addr) (ns : List Int) (sg : List Nat) (R : List Rule) (xs : List V) (v4 v7 v8 v9 v10 v11 v12 v13 v14 v15 v16 v17 v18 : Option V), Held K CB H0 a p q b ns sg R xs → BookAt K CB H0 bs sg R → (∀ H', D.rt (.bl true) H') →
      t_ D [some (.ref a), some (.ref p), some (.str (S sg)), some (.ref q), v4, some (.ref b), some (.ref bs), v7, v8, v9, v10, v11, v12, v13, v14, v15, v16, v17, v18] H0 := by
  have c__law_source := c__law_source (P := P) (w := w) (base := base) T.toTxtC.toTxt
  have c__law_signs := c__law_signs (P := P) (w := w) (base := base) T.toTxtC.toTxt
  have c__law_drawn := c__law_drawn (P := P) (w := w) (base := base) T.toTxtC.toTxt
  have c_X_Book := c_X_Book___init__ (P := P) (w := w) (base := base) T
  have c__law_text := c__law_text (P := P) (w := w) (base := base) T.toTxtC.toTxt
  have c__law_spoilt := c__law_spoilt (P := P) (w := w) (base := base) T.toTxtC.toTxt
  have c__law_pick := c__law_pick (P := P) (w := w) (base := base) T.toTxtC.toTxt
  have c__law_number := c__law_number (P := P) (w := w) (base := base) T
  have c__law_left := c__law_left (P := P) (w := w) (base := base) T.toTxtC.toTxt
  have c_Book___eq__ := c_Book___eq__ (P := P) (w := w) (base := base) T.toTxtC
  obtain ⟨tb_turns, hb_turns, kb_turns⟩ := blk_turns (P := P) (w := w) (base := base) T f cdv A outer s H E hr hgd
  obtain ⟨tb_turn, hb_turn, kb_turn⟩ := blk_turn (P := P) (w := w) (base := base) T f cdv A outer s H E hr hgd
  have hgd : (A.deeper (envOfC "law" (defScope s_law) s.heap.objs.size f cdv)).guards = some [] := hgd
  have hu := hu_of hr
  refine ⟨_, (pss_cons (ps_if (PW.pt (pw_and (pt_truth (pv 3) (by intro _; rfl)) (pw_and1 (PW.pt (pw_or (pt_cmpR (op_eqI c_Book___eq__ hr (by decide)) (pv 5) (pe_mkXn T.k_Book c_X_Book hr (by decide) rfl (pa_cons (pv 2) (pa_cons (pe_slice sl_tupA (pv 3) (po_some pe_int) po_none) pa_nil))) (nomark _)) (pw_or1 (PW.pt (pw_and (pt_cmpR op_gt (pe_callB call_len_seq (by rfl) T.b_len (by decide +kernel) (pa_cons (pv 3) pa_nil)) pe_int (nomark _)) (pw_and1 (pt_cmpR (op_eqI c_Book___eq__ hr (by decide)) (pv 5) (pe_mkXn T.k_Book c_X_Book hr (by decide) rfl (pa_cons (pv 2) (pa_cons (pe_op op_catA (pe_slice sl_tupA (pv 3) (po_some pe_int) po_none) (pe_slice sl_tupA (pv 3) po_none (po_some pe_int))) pa_nil))) (nomark _)))))))))))
    (pss_one (ps_ret pe_bl))
    pss_nil)
  (pss_cons (ps_if (PW.pt (pw_and (pt_cmpR op_lt_str (pe_ix ix_str (pv 2) (pe_un un_neg pe_int) (fun _ _ => rfl)) pe_str (nomark _)) (pw_and1 (pt_cmpR (op_eqI c_Book___eq__ hr (by decide)) (pv 5) (pe_mkXn T.k_Book c_X_Book hr (by decide) rfl (pa_cons (pe_op op_add_str (pv 2) pe_str) (pa_cons (pv 3) pa_nil))) (nomark _)))))
    (pss_one (ps_ret pe_bl))
    pss_nil)
  hb_turns)), ?_⟩
  intro D H0 a p q b bs ns sg R xs v4 v7 v8 v9 v10 v11 v12 v13 v14 v15 v16 v17 v18 hH hbs kD
  walk_at "nx"
  refine if_KH false (fun H1 => Same H0 H1) (fun Q' hQ => ?_) (fun z => by cases z) (fun _ H1 s1 => ?_)
  · refine ⟨_, rfl, !xs.isEmpty, .inr (.inl ⟨xs, hH.rules.sq, rfl⟩), ?_⟩
    cases hx : xs with
    | nil =>
      refine iteF ?_
      exact hQ _ (Same.refl _)
    | cons x xr =>
      refine iteT ?_
      have hne : R ≠ [] := fun e => by
        have := hH.rules.len
        rw [hx, e] at this
        cases this
      clear hx
      walk_at "rd"
      refine tNoPart_mk ?_
      refine slA_J hH.rules.sq fun q1 H1 s1 hq1 => ?_
      rw [cut_fromV (by decide)] at hq1
      have hA1 := hH.sm s1
      refine mk_book (hH.ok.sub (List.drop_sublist 1 R)) (.inr hq1) (ritems (Items.drop (RulesAt.items hA1.rules) 1)) fun x1 H2 s2 hx2 => ?_
      have hA2 := hA1.sm s2
      refine eq_book hA2.book hx2 hH.ok.chars (hH.ok.sub (List.drop_sublist 1 R)).chars ?_
      rw [decide_eq_false (fun e => drop_ne hne e.2)]
      refine ⟨_, rfl, ?_⟩
      refine iteF ?_
      have s02 := s1.trans s2
      walk_at "rd"
      refine ⟨q, xs, rfl, .inr hA2.rules.sq, ?_⟩
      rw [hA2.rules.len]
      walk_at "rd"
      by_cases hl : 1 < R.length
      · rw [decide_eq_true (show (1 : Int) < (R.length : Nat) by omega)]
        refine iteT ?_
        walk_at "rd"
        refine tNoPart_mk ?_
        refine slA_J hA2.rules.sq fun q3 H3 s3 hq3 => ?_
        rw [cut_fromV (by decide)] at hq3
        have hA3 := hA2.sm s3
        walk_at "rd"
        refine slA_J hA3.rules.sq fun q4 H4 s4 hq4 => ?_
        rw [cut_toV (by decide)] at hq4
        have hA4 := hA3.sm s4
        have hxl := hA4.rules.len
        have h6 := hH.six
        refine catA_J ((Keep.same s4).seq hq3) hq4 (Nat.le_trans (m := 100) (by rw [List.length_drop, List.length_take]; omega) (by decide)) fun q5 H5 s5 hq5 => ?_
        have hA5 := hA4.sm s5
        have it5 := RulesAt.items hA5.rules
        refine mk_book hH.ok.rot (.inr hq5) (ritems (Items.app (Items.drop it5 1) (Items.take it5 1))) fun x6 H6 s6 hx6 => ?_
        have hA6 := hA5.sm s6
        refine eq_book hA6.book hx6 hH.ok.chars hH.ok.rot.chars ?_
        rw [decide_eq_false (fun e => rot_ne hH.ok.2.2.2 hl e.2)]
        refine ⟨_, rfl, ?_⟩
        exact hQ _ (s02.trans (s3.trans (s4.trans (s5.trans s6))))
      · rw [decide_eq_false (show ¬ (1 : Int) < (R.length : Nat) by omega)]
        refine iteF ?_
        exact hQ _ s02
  have hA1 := hH.sm s1
  obtain ⟨c, hc, hz⟩ := menu_z sg hH.menu
  have hsl := signs_len hH.ok.1
  have at9 : atI (S sg).cps.toList (-1) = some c := by
    rw [S_list]
    obtain ⟨ys, e⟩ := List.getLast?_eq_some_iff.mp hc
    rw [e]
    exact atI_last _ _
  walk_at "nx"
  refine if_KH false (fun H2 => Same H1 H2) (fun Q' hQ => ?_) (fun z => by cases z) (fun _ H2 s2 => ?_)
  · walk_at "rd"
    refine ⟨_, -1, c, rfl, rfl, sz_S (by omega), at9, ?_⟩
    refine ⟨_, _, rfl, rfl, ?_⟩
    refine ⟨_, rfl, ?_⟩
    rw [show (⟨#[c]⟩ : Str).cps.toList = [c] from rfl, show (Str.ofString "z").cps.toList = [122] from rfl]
    by_cases hlt : [c] < [122]
    · rw [decide_eq_true hlt]
      refine iteT ?_
      have hc2 : c < 122 := by
        rcases List.cons_lt_cons_iff.mp hlt with h | ⟨_, h⟩
        · exact h
        · simp at h
      walk_at "rd"
      refine ⟨by rw [S_len]; exact Nat.le_trans (m := 1000) (by show sg.length + 1 ≤ 1000; omega) (by decide), ?_⟩
      walk_at "rd"
      rw [show Str.ofString "z" = S [122] from rfl, S_cat]
      have hz2 := hz hc2
      have hB2 : BookOk (sg ++ [122]) R := ⟨hz2, hH.ok.2.1, fun r m => by
        have h := hH.ok.2.2.1 r m
        exact ⟨h.1, h.2.1, fun x hx => List.mem_append_left _ (h.2.2.1 x hx), fun x hx => List.mem_append_left _ (h.2.2.2.1 x hx), h.2.2.2.2⟩, hH.ok.2.2.2⟩
      refine mk_book hB2 (.inr hA1.rules.sq) (ritems (RulesAt.items hA1.rules)) fun x2 H2 s2 hx2 => ?_
      refine eq_book (hA1.sm s2).book hx2 hH.ok.chars hB2.chars ?_
      rw [decide_eq_false (fun e => by have := congrArg List.length e.1; simp at this)]
      exact ⟨_, rfl, hQ _ s2⟩
    · rw [decide_eq_false hlt]
      refine iteF ?_
      exact hQ _ (Same.refl _)
  · show tb_turns _ _ _
    exact kb_turns _ _ a p q b bs ns sg R xs _ _ _ _ _ _ _ _ _ _ _ _ _ (hA1.sm s2) (hbs.same (s1.trans s2)) kD
end
end Sh
set_option Elab.async false
set_option linter.all false
set_option maxRecDepth 100000
set_option maxHeartbeats 4000000
namespace Sh
open PySem PySem.Spec PyProof.Rows L2
open SX (S S_inj S_len S_cat)
open Bk (Rule firstAt lg bestUp used left drain pushS Wf quarrel)
local macro_rules | `(tactic| walk_at "nx") => `(tactic| repeat (with_reducible first | refine Sh.gn_mk ?_ | refine Sh.nx_mk ?_ | refine Sh.st_nx ?_ | refine Sh.rt_mk ?_ | refine Sh.ct_mk ?_ | refine Sh.bk_mk ?_))
local macro_rules | `(tactic| walk_at "sq") => `(tactic| first | exact SqL.of upd_same | exact SqT.of upd_same | exact SqL.of (by assumption) | exact SqT.of (by assumption) | assumption | exact Or.inl (SqL.of (by assumption)) | exact Or.inr (SqT.of (by assumption)) | exact Or.inl (by assumption) | exact Or.inr (by assumption))
local macro_rules | `(tactic| walk_at "hp") => `(tactic| first | exact upd_same | assumption)
local macro_rules | `(tactic| walk_at "sz") => `(tactic| first | exact Nat.le_of_ble_eq_true rfl | omega)
local macro_rules | `(tactic| walk_at "sd") => `(tactic| first | omega | exact rfl | assumption | (show (0 : Int) < _; omega) | exact And.intro (by omega) (by omega) | exact Or.inl (And.intro (by omega) (by omega)) | exact Or.inr (And.intro (by omega) (by omega)) | omega | exact Sh.sz_S (by omega) | decide)
local macro_rules | `(tactic| walk_at "rd1") => `(tactic| first
  | (with_reducible first | refine Sh.gn_mk ?_ | refine Sh.nx_mk ?_ | refine Sh.st_nx ?_ | refine Sh.rt_mk ?_ | refine Sh.ct_mk ?_ | refine Sh.bk_mk ?_)
  | refine Exists.intro (α := V) _ (And.intro rfl ?_)
  | refine Exists.intro (α := Bool) _ (And.intro rfl ?_)
  | refine Exists.intro (α := Int) _ (And.intro rfl ?_)
  | refine Exists.intro (α := PySem.Str) _ (And.intro rfl ?_)
  | refine Exists.intro (α := Int) _ (Exists.intro (α := Int) _ (And.intro rfl (And.intro rfl ?_)))
  | refine Exists.intro (α := PySem.Str) _ (Exists.intro (α := PySem.Str) _ (And.intro rfl (And.intro rfl ?_)))
  | refine Exists.intro (α := Int) _ (Exists.intro (α := Int) _ (And.intro rfl ?_))
  | refine Or.inl (Exists.intro (α := Int) _ (And.intro rfl ?_))
  | refine Exists.intro _ (Exists.intro _ (Exists.intro _ (Exists.intro _ (And.intro rfl (And.intro rfl (And.intro (by walk_at "sq") (And.intro rfl ?_)))))))
  | refine Exists.intro _ (Exists.intro _ (Exists.intro _ (Exists.intro _ (And.intro rfl (And.intro rfl (And.intro (by walk_at "hp") (And.intro rfl ?_)))))))
  | refine And.intro (by walk_at "sd") ?_
  )
local macro_rules | `(tactic| walk_at "rd") => `(tactic| repeat walk_at "rd1")
local macro_rules | `(tactic| walk_at "lk") => `(tactic| first | exact rfl | (rw [lookup_putF, if_pos rfl]) | (rw [lookup_putF, if_neg (by decide +kernel)]; walk_at "lk"))

section
variable {P : Program} {w : World} {K : PySem.W.Frag} {mg : Str → Option Value} {base : Heap} {CB XR FE DI XS FT DT XT SE : Addr}
theorem blk_same (T : TxtX P K mg CB XR FE DI XS FT DT XT SE) (f : Addr) (cdv : Value) (A : Around) (outer : List Env) (s : Shared) (H : Hp) (E : XK) (hr : Room 12 (A.deeper (envOfC "law" (defScope s_law) s.heap.objs.size f cdv))) (hgd : A.guards = some []) :
    ∃ t_, PSs (cxOf CX0 P w K mg base ["_law_script", "_law_source_here", "_law_signs_here", "_law_rules", "_law_given", "_law_book", "_law_same", "_law_more", "_law_turn", "_law_text_here", "_law_thing", "_law_place", "_law_odd", "raised", "_law_many", "_law_letters", "_law_rows", "_law_rule_here", "_law_k"] "law" (defScope s_law) f cdv A outer s H E).nox ((defBody s_law).drop 8) t_ ∧
    ∀ (D : Ends) (H0 : Hp) (a p q b : Addr) (ns : List Int) (sg : List Nat) (R : List Rule) (xs : List V) (v4 v6 v7 v8 v9 v10 v11 v12 v13 v14 v15 v16 v17 v18 : Option V), Held K CB H0 a p q b ns sg R xs → (∀ H', D.rt (.bl true) H') →
      t_ D [some (.ref a), some (.ref p), some (.str (S sg)), some (.ref q), v4, some (.ref b), v6, v7, v8, v9, v10, v11, v12, v13, v14, v15, v16, v17, v18] H0 := by
  have hu65 := hu65_of hr
  have c__law_source := c__law_source (P := P) (w := w) (base := base) T.toTxtC.toTxt
  have c__law_signs := c__law_signs (P := P) (w := w) (base := base) T.toTxtC.toTxt
  have c__law_drawn := c__law_drawn (P := P) (w := w) (base := base) T.toTxtC.toTxt
  have c_X_Book := c_X_Book___init__ (P := P) (w := w) (base := base) T
  have c__law_text := c__law_text (P := P) (w := w) (base := base) T.toTxtC.toTxt
  have c__law_spoilt := c__law_spoilt (P := P) (w := w) (base := base) T.toTxtC.toTxt
  have c__law_pick := c__law_pick (P := P) (w := w) (base := base) T.toTxtC.toTxt
  have c__law_number := c__law_number (P := P) (w := w) (base := base) T
  have c__law_left := c__law_left (P := P) (w := w) (base := base) T.toTxtC.toTxt
  have c_Book___eq__ := c_Book___eq__ (P := P) (w := w) (base := base) T.toTxtC
  obtain ⟨tb_fewer, hb_fewer, kb_fewer⟩ := blk_fewer (P := P) (w := w) (base := base) T f cdv A outer s H E hr hgd
  have hgd : (A.deeper (envOfC "law" (defScope s_law) s.heap.objs.size f cdv)).guards = some [] := hgd
  have hu := hu_of hr
  refine ⟨_, (pss_cons (ps_set (i := 6) sc_law.nd rfl (Or.inl rfl) (pe_mkXn T.k_Book c_X_Book hr (by decide) rfl (pa_cons (pv 2) (pa_cons (pv 3) pa_nil))))
  (pss_cons (ps_set (i := 7) sc_law.nd rfl (Or.inl rfl) (pe_tup (pa_cons (pe_op op_mulStr (pe_ix ix_str (pv 2) pe_int (fun _ _ => rfl)) pe_int) (pa_cons pe_str pa_nil))))
  (pss_cons (ps_if (PW.pt (pw_or (pt_not (pt_cmpR (op_eqI c_Book___eq__ hr (by decide)) (pv 5) (pv 6) (nomark _))) (pw_or (pt_cmpR (op_eqIT c_Book___eq__ T.nb_tuple hr (by decide)) (pv 5) (pv 3) (nomark _)) (pw_or1 (PW.pt (pw_and (pt_cmpR (op_notInDT hu65) (pv 7) (pv 3) (by rfl)) (pw_and1 (pt_cmpR (op_eqI c_Book___eq__ hr (by decide)) (pv 5) (pe_mkXn T.k_Book c_X_Book hr (by decide) rfl (pa_cons (pv 2) (pa_cons (pe_op op_catA (pv 3) (pe_tup (pa_cons (pv 7) pa_nil))) pa_nil))) (nomark _)))))))))
    (pss_one (ps_ret pe_bl))
    pss_nil)
  hb_fewer))), ?_⟩
  intro D H0 a p q b ns sg R xs v4 v6 v7 v8 v9 v10 v11 v12 v13 v14 v15 v16 v17 v18 hH kD
  obtain ⟨hs1, hs8⟩ := signs_len hH.ok.1
  obtain ⟨c0, sr, rfl⟩ : ∃ c r, sg = c :: r := by
    cases sg with
    | nil => simp at hs1
    | cons c r => exact ⟨c, r, rfl⟩
  have hsz : (S (c0 :: sr)).length ≤ sizeLine := sz_S (by omega)
  have at0 : atI (S (c0 :: sr)).cps.toList 0 = some c0 := by rw [S_list]; exact atI_at (Int.le_refl 0) rfl
  walk_at "nx"
  walk_at "rd"
  refine mk_book hH.ok (.inr hH.rules.sq) (ritems (RulesAt.items hH.rules)) fun bs H1 s1 hbs => ?_
  have hA1 := hH.sm s1
  walk_at "nx"
  walk_at "rd"
  refine ⟨_, 0, c0, rfl, rfl, hsz, at0, ?_⟩
  walk_at "rd"
  refine ⟨[c0], 4, rfl, rfl, by decide, by decide, by show 1 ≤ 1000; decide, ?_⟩
  rw [nil_S]
  refine ⟨by walk_at "sz", fun qm hqm => ?_⟩
  have s2 := same_new (o := .tup [V.str (S (List.replicate 4 [c0]).flatten), .str (S [])]) hqm
  have e2 : (upd H1 qm (.tup [V.str (S (List.replicate 4 [c0]).flatten), .str (S [])])) qm = some (.tup (rTup ([c0, c0, c0, c0], []))) := upd_same
  generalize upd H1 qm (.tup [V.str (S (List.replicate 4 [c0]).flatten), .str (S [])]) = H2 at s2 e2 ⊢
  have hA2 := hA1.sm s2
  have hmk : RuleOk (c0 :: sr) 4 ([c0, c0, c0, c0], []) := isR_ok.mp (by
    unfold isR isText
    simp)
  walk_at "nx"
  refine if_KH false (fun H3 => Same H2 H3) (fun Q' hQ => ?_) (fun z => by cases z) (fun _ H3 s3 => ?_)
  · have hc := hH.ok.chars
    obtain ⟨dx, fs, _, _, _, hb1, _⟩ := id hA2.book
    walk_at "rd"
    refine eq_book hA2.book (hbs.same s2) hc hc ?_
    rw [decide_eq_true (show (c0 :: sr) = c0 :: sr ∧ R = R from ⟨rfl, rfl⟩)]
    refine ⟨_, rfl, ?_⟩
    refine iteF ?_
    walk_at "rd"
    refine ⟨b, _, _, q, xs, rfl, rfl, hb1, hA2.rules.sq, .inr ⟨b, q, xs, rfl, hA2.rules.sq, false, rfl, ?_⟩⟩
    refine ⟨_, rfl, ?_⟩
    refine iteF ?_
    walk_at "rd"
    have hcm : Chars (([c0, c0, c0, c0], []) : Rule).1 ∧ Chars (([c0, c0, c0, c0], []) : Rule).2 := ⟨fun c h => signs_chars hH.ok.1 c (hmk.2.2.1 c h), fun c h => (by cases h)⟩
    refine ⟨rD ([c0, c0, c0, c0], []), R.map rD, RItem.dp ⟨qm, rfl, SqT.of e2⟩, .tup hA2.rules.sq (dpAll_rules (RulesAt.items hA2.rules)), shaped_rule hcm, shaped_tup hc, ?_⟩
    rw [any_rules, if_pos rfl]
    refine ⟨_, rfl, ?_⟩
    by_cases hm : (([c0, c0, c0, c0], []) : Rule) ∈ R
    · rw [decide_eq_true hm]
      refine iteF ?_
      exact hQ _ (Same.refl _)
    · rw [decide_eq_false hm]
      refine iteT ?_
      walk_at "rd"
      refine ⟨by walk_at "sz", fun qs hqs => ?_⟩
      have s4 := same_new (o := .tup [V.ref qm]) hqs
      have e4 : (upd H2 qs (.tup [V.ref qm])) qs = some (.tup [V.ref qm]) := upd_same
      generalize upd H2 qs (.tup [V.ref qm]) = H4 at s4 e4 ⊢
      have hA4 := hA2.sm s4
      have hxl := hA4.rules.len
      have h6 := hH.six
      refine catA_J hA4.rules.sq (SqT.of e4) (Nat.le_trans (m := 100) (by show xs.length + 1 ≤ 100; omega) (by decide)) fun q5 H5 s5 hq5 => ?_
      have hA5 := hA4.sm s5
      have hB5 : BookOk (c0 :: sr) (R ++ [([c0, c0, c0, c0], [])]) := by
        refine ⟨hH.ok.1, by rw [List.length_append]; show R.length + 1 ≤ 64; omega, fun r m => ?_, ?_⟩
        · rcases List.mem_append.mp m with m | m
          · exact hH.ok.2.2.1 r m
          · rw [List.mem_singleton.mp m]; exact hmk
        · rw [List.nodup_append]
          refine ⟨hH.ok.2.2.2, by simp, fun x hx y hy => ?_⟩
          rw [List.mem_singleton.mp hy]
          exact fun e => hm (e ▸ hx)
      have it5 : Items (RItem K) H5 (xs ++ [V.ref qm]) (R ++ [([c0, c0, c0, c0], [])]) := Items.snoc (RulesAt.items hA5.rules) (fun _ _ z => z) ⟨qm, rfl, SqT.of (s5 _ _ (s4 _ _ e2))⟩
      refine mk_book hB5 (.inr hq5) (ritems it5) fun x6 H6 s6 hx6 => ?_
      refine eq_book (hA5.sm s6).book hx6 hc hB5.chars ?_
      rw [decide_eq_false (fun e => by have := congrArg List.length e.2; simp at this)]
      exact ⟨_, rfl, hQ _ (s4.trans (s5.trans s6))⟩
  · show tb_fewer _ _ _
    exact kb_fewer _ _ a p q b bs ns _ R xs _ _ _ _ _ _ _ _ _ _ _ _ _ (hA2.sm s3) (hbs.same (s2.trans s3)) kD
end
end Sh
set_option Elab.async false
set_option linter.all false
set_option maxRecDepth 100000
set_option maxHeartbeats 4000000
namespace Sh
open PySem PySem.Spec PyProof.Rows L2
open SX (S S_inj S_len S_cat)
open Bk (Rule firstAt lg bestUp used left drain pushS Wf quarrel)
theorem rule_shw {sg : List Nat} (hs : Lt sg) {r : Rule} (h : RuleOk sg 4 r) : Shw (rD r) 1 91 := by
  refine (Shw.tup (k := 0) (m := 42) fun d hd => ?_).mono (Nat.le_refl _) (by show 2 * 42 + 2 * 2 + 3 ≤ 91; decide)
  simp only [List.mem_cons, List.not_mem_nil, or_false] at hd
  have h2 := h.2.1
  have h5 := h.2.2.2.2.1
  rcases hd with rfl | rfl
  · exact (Shw.str fun c hc => by have := hs c (h.2.2.1 c hc); omega).mono (Nat.le_refl _) (by omega)
  · exact (Shw.str fun c hc => by have := hs c (h.2.2.2.1 c hc); omega).mono (Nat.le_refl _) (by omega)
theorem rules_shw {sg : List Nat} (hs : Lt sg) {R : List Rule} (h : ∀ r ∈ R, RuleOk sg 4 r) (hl : R.length ≤ 6) : Shw (.tuple (R.map rD)) 2 1000 := by
  refine (Shw.tup (k := 1) (m := 91) fun d hd => ?_).mono (Nat.le_refl _) (by rw [List.length_map]; omega)
  obtain ⟨r, hr, rfl⟩ := List.mem_map.mp hd
  exact rule_shw hs (h r hr)
local macro_rules | `(tactic| walk_at "nx") => `(tactic| repeat (with_reducible first | refine Sh.gn_mk ?_ | refine Sh.nx_mk ?_ | refine Sh.st_nx ?_ | refine Sh.rt_mk ?_ | refine Sh.ct_mk ?_ | refine Sh.bk_mk ?_))
local macro_rules | `(tactic| walk_at "sq") => `(tactic| first | exact SqL.of upd_same | exact SqT.of upd_same | exact SqL.of (by assumption) | exact SqT.of (by assumption) | assumption | exact Or.inl (SqL.of (by assumption)) | exact Or.inr (SqT.of (by assumption)) | exact Or.inl (by assumption) | exact Or.inr (by assumption))
local macro_rules | `(tactic| walk_at "hp") => `(tactic| first | exact upd_same | assumption)
local macro_rules | `(tactic| walk_at "sz") => `(tactic| first | exact Nat.le_of_ble_eq_true rfl | omega)
local macro_rules | `(tactic| walk_at "sd") => `(tactic| first | omega | exact rfl | assumption | (show (0 : Int) < _; omega) | exact And.intro (by omega) (by omega) | exact Or.inl (And.intro (by omega) (by omega)) | exact Or.inr (And.intro (by omega) (by omega)) | omega | exact Sh.sz_S (by omega) | decide)
local macro_rules | `(tactic| walk_at "rd1") => `(tactic| first
  | (with_reducible first | refine Sh.gn_mk ?_ | refine Sh.nx_mk ?_ | refine Sh.st_nx ?_ | refine Sh.rt_mk ?_ | refine Sh.ct_mk ?_ | refine Sh.bk_mk ?_)
  | refine Exists.intro (α := V) _ (And.intro rfl ?_)
  | refine Exists.intro (α := Bool) _ (And.intro rfl ?_)
  | refine Exists.intro (α := Int) _ (And.intro rfl ?_)
  | refine Exists.intro (α := PySem.Str) _ (And.intro rfl ?_)
  | refine Exists.intro (α := Int) _ (Exists.intro (α := Int) _ (And.intro rfl (And.intro rfl ?_)))
  | refine Exists.intro (α := PySem.Str) _ (Exists.intro (α := PySem.Str) _ (And.intro rfl (And.intro rfl ?_)))
  | refine Exists.intro (α := Int) _ (Exists.intro (α := Int) _ (And.intro rfl ?_))
  | refine Or.inl (Exists.intro (α := Int) _ (And.intro rfl ?_))
  | refine Exists.intro _ (Exists.intro _ (Exists.intro _ (Exists.intro _ (And.intro rfl (And.intro rfl (And.intro (by walk_at "sq") (And.intro rfl ?_)))))))
  | refine Exists.intro _ (Exists.intro _ (Exists.intro _ (Exists.intro _ (And.intro rfl (And.intro rfl (And.intro (by walk_at "hp") (And.intro rfl ?_)))))))
  | refine And.intro (by walk_at "sd") ?_
  )
local macro_rules | `(tactic| walk_at "rd") => `(tactic| repeat walk_at "rd1")
local macro_rules | `(tactic| walk_at "lk") => `(tactic| first | exact rfl | (rw [lookup_putF, if_pos rfl]) | (rw [lookup_putF, if_neg (by decide +kernel)]; walk_at "lk"))

section
variable {P : Program} {w : World} {K : PySem.W.Frag} {mg : Str → Option Value} {base : Heap} {CB XR FE DI XS FT DT XT SE : Addr}
theorem blk_shown (T : TxtX P K mg CB XR FE DI XS FT DT XT SE) (f : Addr) (cdv : Value) (A : Around) (outer : List Env) (s : Shared) (H : Hp) (E : XK) (hr : Room 12 (A.deeper (envOfC "law" (defScope s_law) s.heap.objs.size f cdv))) (hgd : A.guards = some []) :
    ∃ t_, PSs (cxOf CX0 P w K mg base ["_law_script", "_law_source_here", "_law_signs_here", "_law_rules", "_law_given", "_law_book", "_law_same", "_law_more", "_law_turn", "_law_text_here", "_law_thing", "_law_place", "_law_odd", "raised", "_law_many", "_law_letters", "_law_rows", "_law_rule_here", "_law_k"] "law" (defScope s_law) f cdv A outer s H E).nox ((defBody s_law).drop 6) t_ ∧
    ∀ (D : Ends) (H0 : Hp) (a p q b : Addr) (ns : List Int) (sg : List Nat) (R : List Rule) (xs : List V) (v4 v6 v7 v8 v9 v10 v11 v12 v13 v14 v15 v16 v17 v18 : Option V), Held K CB H0 a p q b ns sg R xs → (∀ H', D.rt (.bl true) H') →
      t_ D [some (.ref a), some (.ref p), some (.str (S sg)), some (.ref q), v4, some (.ref b), v6, v7, v8, v9, v10, v11, v12, v13, v14, v15, v16, v17, v18] H0 := by
  have c__law_source := c__law_source (P := P) (w := w) (base := base) T.toTxtC.toTxt
  have c__law_signs := c__law_signs (P := P) (w := w) (base := base) T.toTxtC.toTxt
  have c__law_drawn := c__law_drawn (P := P) (w := w) (base := base) T.toTxtC.toTxt
  have c_X_Book := c_X_Book___init__ (P := P) (w := w) (base := base) T
  have c__law_text := c__law_text (P := P) (w := w) (base := base) T.toTxtC.toTxt
  have c__law_spoilt := c__law_spoilt (P := P) (w := w) (base := base) T.toTxtC.toTxt
  have c__law_pick := c__law_pick (P := P) (w := w) (base := base) T.toTxtC.toTxt
  have c__law_number := c__law_number (P := P) (w := w) (base := base) T
  have c__law_left := c__law_left (P := P) (w := w) (base := base) T.toTxtC.toTxt
  have c_Book___len__ := c_Book___len__ (P := P) (w := w) (base := base) T.toTxtC
  have c_Book___iter__ := c_Book___iter__ (P := P) (w := w) (base := base) T.toTxtC
  have c_Book___getitem__ := c_Book___getitem__ (P := P) (w := w) (base := base) T.toTxtC
  obtain ⟨tb_same, hb_same, kb_same⟩ := blk_same (P := P) (w := w) (base := base) T f cdv A outer s H E hr hgd
  have hgd : (A.deeper (envOfC "law" (defScope s_law) s.heap.objs.size f cdv)).guards = some [] := hgd
  have hu := hu_of hr
  refine ⟨_, (pss_cons (ps_if (PW.pt (pw_or (pt_cmpR op_ne (pe_callB (call_reprD hgd hr.units) (by rfl) T.b_repr (by decide +kernel) (pa_cons (pe_fld (pv 5) rfl) pa_nil)) (pe_callB (call_reprD hgd hr.units) (by rfl) T.b_repr (by decide +kernel) (pa_cons (pv 2) pa_nil)) (nomark _)) (pw_or (pt_cmpR op_ne (pe_callB (call_reprD hgd hr.units) (by rfl) T.b_repr (by decide +kernel) (pa_cons (pe_fld (pv 5) rfl) pa_nil)) (pe_callB (call_reprD hgd hr.units) (by rfl) T.b_repr (by decide +kernel) (pa_cons (pv 3) pa_nil)) (nomark _)) (pw_or1 (pt_cmpR op_ne (pe_callB (call_lenC c_Book___len__ hr (by decide)) (by rfl) T.b_len (by decide +kernel) (pa_cons (pv 5) pa_nil)) (pe_callB call_len_seq (by rfl) T.b_len (by decide +kernel) (pa_cons (pv 3) pa_nil)) (nomark _))))))
    (pss_one (ps_ret pe_bl))
    pss_nil)
  (pss_cons (ps_if (PW.pt (pw_or (pt_cmpR (op_neD hr.units) (pe_callTy (call_listI rfl c_Book___iter__ c_Book___len__ hr (by decide) (by decide)) (by rfl) T.b_list (by decide +kernel) (pa_cons (pv 5) pa_nil)) (pe_callTy call_list_of (by rfl) T.b_list (by decide +kernel) (pa_cons (pv 3) pa_nil)) (nomark _)) (pw_or1 (pt_cmpR (op_neD hr.units) (pe_lc (own := [("_law_k", 18)]) (g := gName 18) (tt := tYes) rfl sc_law.nd (pi_range1 (by rfl) T.b_range (pa_cons (pe_callB call_len_seq (by rfl) T.b_len (by decide +kernel) (pa_cons (pv 3) pa_nil)) pa_nil)) (blkOk_by (N := ["_law_script", "_law_source_here", "_law_signs_here", "_law_rules", "_law_given", "_law_book", "_law_same", "_law_more", "_law_turn", "_law_text_here", "_law_thing", "_law_place", "_law_odd", "raised", "_law_many", "_law_letters", "_law_rows", "_law_rule_here", "_law_k"]) (sc := defScope s_law) (by decide +kernel)) (fun _ _ _ _ _ => (pg_name (i := 18) sc_law.nd rfl (Or.inl rfl))) (fun _ _ _ _ _ => pts_nil) (fun _ _ _ _ _ => (pe_ixO c_Book___getitem__ hr (by decide) (pv 5) (pv 18) (fun _ _ _ => rfl)))) (pe_callTy call_list_of (by rfl) T.b_list (by decide +kernel) (pa_cons (pv 3) pa_nil)) (nomark _)))))
    (pss_one (ps_ret pe_bl))
    pss_nil)
  hb_same)), ?_⟩
  intro D H0 a p q b ns sg R xs v4 v6 v7 v8 v9 v10 v11 v12 v13 v14 v15 v16 v17 v18 hH kD
  have cl := T.toTxtC.k_Book.cl
  obtain ⟨hlt, h113⟩ := menu_lt sg hH.menu
  obtain ⟨hs1, hs8⟩ := signs_len hH.ok.1
  have h6 := hH.six
  have hxl := hH.rules.len
  have sgw := (Shw.str (u := sg) fun c h => by have := hlt c h; omega).ok (by decide) (show 10 * sg.length + 2 ≤ 16777216 by omega)
  have rsw := (rules_shw hlt hH.ok.2.2.1 hH.six).ok (by decide) (by decide)
  walk_at "nx"
  refine if_KH false (fun H1 => Same H0 H1) (fun Q' hQ => ?_) (fun z => by cases z) (fun _ H1 s1 => ?_)
  · obtain ⟨dx, fs, t, zs, pl, e1, g1, g2, hT, _⟩ := id hH.book
    walk_at "rd"
    refine ⟨b, CB, dx, fs, _, rfl, e1, cl, T.toTxtC.n_Book_signs, g1, ?_⟩
    walk_at "rd"
    refine ⟨_, .str (S sg), rfl, .str _, sgw.1, sgw.2.1, sgw.2.2.1, sgw.2.2.2, ?_⟩
    walk_at "rd"
    refine ⟨_, .str (S sg), rfl, .str _, sgw.1, sgw.2.1, sgw.2.2.1, sgw.2.2.2, ?_⟩
    refine ne_refl ?_
    refine ⟨_, rfl, ?_⟩
    refine iteF ?_
    walk_at "rd"
    refine ⟨b, CB, dx, fs, _, rfl, e1, cl, T.toTxtC.n_Book_rules, g2, ?_⟩
    walk_at "rd"
    refine ⟨_, .tuple (R.map rD), rfl, .tup hT.sq (dpAll_rules hT.items), rsw.1, rsw.2.1, rsw.2.2.1, rsw.2.2.2, ?_⟩
    walk_at "rd"
    refine ⟨_, .tuple (R.map rD), rfl, .tup hH.rules.sq (dpAll_rules (RulesAt.items hH.rules)), rsw.1, rsw.2.1, rsw.2.2.1, rsw.2.2.2, ?_⟩
    refine ne_refl ?_
    refine ⟨_, rfl, ?_⟩
    refine iteF ?_
    walk_at "rd"
    refine ⟨b, dx, fs, rfl, e1, b, sg, R, rfl, hH.book, _, rfl, by omega, by omega, ?_⟩
    walk_at "rd"
    refine ⟨q, xs, rfl, .inr hH.rules.sq, ?_⟩
    rw [hxl]
    refine ⟨rfl, ?_⟩
    rw [decide_eq_true rfl]
    exact ⟨_, rfl, hQ _ (Same.refl _)⟩
  have hA1 := hH.sm s1
  walk_at "nx"
  refine if_KH false (fun H2 => Same H1 H2) (fun Q' hQ => ?_) (fun z => by cases z) (fun _ H2 s2 => ?_)
  · obtain ⟨dx, fs, t, zs, pl, e1, g1, g2, hT, _⟩ := id hA1.book
    have hc := hH.ok.chars
    have hdl : ∀ {H : Hp} {l : Addr} {ys : List V}, H l = some (.lst ys) → Items (RItem K) H ys R → Dp K H (.ref l) (.list (R.map rD)) := fun h it => .lst (SqL.of h) (dpAll_rules it)
    have hself : PyData.eqv (.list (R.map rD)) (.list (R.map rD)) = true := by
      show PyData.eqvAll _ _ = true
      rw [eqv_rules]
      exact decide_eq_true rfl
    walk_at "rd"
    refine ⟨b, dx, fs, t, zs, rfl, e1, hT.sq, fun l1 hl1 => ⟨⟨b, dx, fs, t, zs, rfl, (same_new hl1) _ _ e1, g2, (Keep.same (same_new hl1)).seq hT.sq, fun it hn hb => ⟨it, rfl, hn, hb l1 _ upd_same, rfl⟩⟩, fun it hn => ⟨b, sg, R, rfl, (hA1.book.same (same_new hl1)).same (same_new hn), R.length, rfl, Nat.le_trans (show R.length ≤ 1000 by omega) (by decide), by omega, rfl⟩, ?_⟩⟩
    have s3 := same_new (o := .lst zs) hl1
    have e3 : (upd H1 l1 (.lst zs)) l1 = some (.lst zs) := upd_same
    generalize upd H1 l1 (.lst zs) = H3 at s3 e3 ⊢
    have hA3 := hA1.sm s3
    walk_at "rd"
    refine ⟨q, _, rfl, .inr hA3.rules.sq, fun l2 hl2 => ?_⟩
    have s4 := same_new (o := .lst xs) hl2
    have e4 : (upd H3 l2 (.lst xs)) l2 = some (.lst xs) := upd_same
    generalize upd H3 l2 (.lst xs) = H4 at s4 e4 ⊢
    have hA4 := hA3.sm s4
    have s34 := s3.trans s4
    have hT4 := hT.same s34
    refine ⟨.list (R.map rD), .list (R.map rD), hdl (s4 _ _ e3) hT4.items, hdl e4 (RulesAt.items hA4.rules), shaped_rules hc, shaped_rules hc, ?_⟩
    rw [hself]
    refine ⟨_, rfl, ?_⟩
    refine iteF ?_
    walk_at "rd"
    refine ⟨q, _, rfl, .inr hA4.rules.sq, ?_⟩
    walk_at "rd"
    refine fun D9 hD => lc_range (lo := 0) (n := (((xs.length : Nat) : Int)).toNat) (fun i H5 => H5 D9 = some (.lst (zs.take i)) ∧ Same H4 H5) ⟨upd_same, same_new hD⟩ ?_ ?_
    · rintro i H5 hi ⟨h5, s5⟩
      have hiz : i < zs.length := by rw [hT.len]; omega
      refine ⟨rfl, ty_T ?_⟩
      rw [Int.zero_add]
      refine ⟨_, rfl, _, rfl, b, dx, fs, rfl, (s34.trans s5) _ _ e1, b, dx, fs, t, zs, i, zs[i], rfl, (s34.trans s5) _ _ e1, g2, (Keep.same s5).seq hT4.sq, List.getElem?_eq_getElem hiz, ?_⟩
      refine ⟨_, h5, Nat.lt_of_le_of_lt (m := 100) (by rw [List.length_take]; omega) (by decide), ?_, same_mut s5 hD⟩
      rw [List.take_succ, List.getElem?_eq_getElem hiz]
      exact upd_same
    · rintro H5 ⟨h5, s5⟩
      rw [Int.toNat_natCast, hxl, ← hT.len, List.take_length] at h5
      have hA5 := hA4.sm s5
      walk_at "rd"
      refine ⟨q, _, rfl, .inr hA5.rules.sq, fun l6 hl6 => ?_⟩
      have s6 := same_new (o := .lst xs) hl6
      have e6 : (upd H5 l6 (.lst xs)) l6 = some (.lst xs) := upd_same
      generalize upd H5 l6 (.lst xs) = H6 at s6 e6 ⊢
      have hA6 := hA5.sm s6
      refine ⟨.list (R.map rD), .list (R.map rD), hdl (s6 _ _ h5) (hT4.same (s5.trans s6)).items, hdl e6 (RulesAt.items hA6.rules), shaped_rules hc, shaped_rules hc, ?_⟩
      rw [hself]
      exact ⟨_, rfl, hQ _ (s34.trans (s5.trans s6))⟩
  · show tb_same _ _ _
    exact kb_same _ _ a p q b ns sg R xs _ _ _ _ _ _ _ _ _ _ _ _ _ _ (hA1.sm s2) kD
end
end Sh
set_option Elab.async false
set_option linter.all false
set_option maxRecDepth 100000
set_option maxHeartbeats 4000000
namespace Sh
open PySem PySem.Spec PyProof.Rows L2
open SX (S S_inj S_len S_cat)
open Bk (Rule firstAt lg bestUp used left drain pushS Wf quarrel)
local macro_rules | `(tactic| walk_at "nx") => `(tactic| repeat (with_reducible first | refine Sh.gn_mk ?_ | refine Sh.nx_mk ?_ | refine Sh.st_nx ?_ | refine Sh.rt_mk ?_ | refine Sh.ct_mk ?_ | refine Sh.bk_mk ?_))
local macro_rules | `(tactic| walk_at "sq") => `(tactic| first | exact SqL.of upd_same | exact SqT.of upd_same | exact SqL.of (by assumption) | exact SqT.of (by assumption) | assumption | exact Or.inl (SqL.of (by assumption)) | exact Or.inr (SqT.of (by assumption)) | exact Or.inl (by assumption) | exact Or.inr (by assumption))
local macro_rules | `(tactic| walk_at "hp") => `(tactic| first | exact upd_same | assumption)
local macro_rules | `(tactic| walk_at "sz") => `(tactic| first | exact Nat.le_of_ble_eq_true rfl | omega)
local macro_rules | `(tactic| walk_at "sd") => `(tactic| first | omega | exact rfl | assumption | (show (0 : Int) < _; omega) | exact And.intro (by omega) (by omega) | exact Or.inl (And.intro (by omega) (by omega)) | exact Or.inr (And.intro (by omega) (by omega)) | omega | exact Sh.sz_S (by omega) | decide)
local macro_rules | `(tactic| walk_at "rd1") => `(tactic| first
  | (with_reducible first | refine Sh.gn_mk ?_ | refine Sh.nx_mk ?_ | refine Sh.st_nx ?_ | refine Sh.rt_mk ?_ | refine Sh.ct_mk ?_ | refine Sh.bk_mk ?_)
  | refine Exists.intro (α := V) _ (And.intro rfl ?_)
  | refine Exists.intro (α := Bool) _ (And.intro rfl ?_)
  | refine Exists.intro (α := Int) _ (And.intro rfl ?_)
  | refine Exists.intro (α := PySem.Str) _ (And.intro rfl ?_)
  | refine Exists.intro (α := Int) _ (Exists.intro (α := Int) _ (And.intro rfl (And.intro rfl ?_)))
  | refine Exists.intro (α := PySem.Str) _ (Exists.intro (α := PySem.Str) _ (And.intro rfl (And.intro rfl ?_)))
  | refine Exists.intro (α := Int) _ (Exists.intro (α := Int) _ (And.intro rfl ?_))
  | refine Or.inl (Exists.intro (α := Int) _ (And.intro rfl ?_))
  | refine Exists.intro _ (Exists.intro _ (Exists.intro _ (Exists.intro _ (And.intro rfl (And.intro rfl (And.intro (by walk_at "sq") (And.intro rfl ?_)))))))
  | refine Exists.intro _ (Exists.intro _ (Exists.intro _ (Exists.intro _ (And.intro rfl (And.intro rfl (And.intro (by walk_at "hp") (And.intro rfl ?_)))))))
  | refine And.intro (by walk_at "sd") ?_
  )
local macro_rules | `(tactic| walk_at "rd") => `(tactic| repeat walk_at "rd1")
local macro_rules | `(tactic| walk_at "lk") => `(tactic| first | exact rfl | (rw [lookup_putF, if_pos rfl]) | (rw [lookup_putF, if_neg (by decide +kernel)]; walk_at "lk"))

section
variable {P : Program} {w : World} {K : PySem.W.Frag} {mg : Str → Option Value} {base : Heap} {CB XR FE DI XS FT DT XT SE : Addr}
theorem kit_tup {K : PySem.W.Frag} {C : Addr} (hd : PySem.W.hasDictIn K C = true) (ty : PySem.W.typeIn K (.ref C) = some (.type "type")) (h : PySem.W.subIn K (.type "tuple") (.ref C) = some false) : PySem.W.kitOne K (.type "tuple") (.ref C) = some false := by
  unfold PySem.W.kitOne
  split
  · rename_i z
    cases beq_iff_eq.mp z
  · unfold PySem.W.kitCls
    dsimp only
    rw [if_pos (by rw [inst_cls hd, ty]; rfl)]
    exact h
theorem nf_tup {K : PySem.W.Frag} {C : Addr} (h : PySem.W.subIn K (.type "tuple") (.ref C) = some false) : PySem.W.notFirst K C (.type "tuple") = true := by
  unfold PySem.W.notFirst
  rw [h]
  rfl
/-- a rule as a list of its own, laid after H4 -/
def RItL (H4 : Hp) (D : Addr) (H : Hp) (v : V) (r : Rule) : Prop := ∃ l, v = .ref l ∧ H4 l = none ∧ l ≠ D ∧ H l = some (.lst (rTup r))
theorem RItL.a {H4 H : Hp} {D : Addr} {v : V} {r : Rule} (h : RItL H4 D H v r) : RItA K H v r := let ⟨l, e, _, _, s⟩ := h; ⟨l, e, .inl (SqL.of s)⟩
theorem BookAt.butL {C : Addr} {H H' : Hp} {p a : Addr} {ys : List V} {sg : List Nat} {R : List Rule} (h : BookAt K C H p sg R) (b : But a H H') (z : H a = some (.lst ys)) : BookAt K C H' p sg R := by
  obtain ⟨dx, fs, a2, xs, pl, h1, h2, h3, h4, h5, ⟨kvs, e, k⟩, h7, h8⟩ := h
  refine ⟨dx, fs, a2, xs, pl, b _ _ (ne_of h1 z (by intro q; cases q)) h1, h2, h3, h4.keep (Keep.butL b z), h5, ⟨kvs, b _ _ (ne_of e z (by intro q; cases q)) e, fun l => ⟨(k l).1, fun j r e => ?_⟩⟩, h7, h8⟩
  obtain ⟨q, e1, e2⟩ := (k l).2 j r e
  exact ⟨q, e1, b _ _ (ne_of e2 z (by intro q; cases q)) e2⟩
theorem law_body (T : TxtX P K mg CB XR FE DI XS FT DT XT SE) (f : Addr) (cdv : Value) (A : Around) (outer : List Env) (s : Shared) (H : Hp) (E : XK) (hr : Room 12 (A.deeper (envOfC "law" (defScope s_law) s.heap.objs.size f cdv))) (hgd : A.guards = some [])
    (a : Addr) (ns : List Int) (hS : SqL K H a (ns.map V.int)) (hbits : ∀ z ∈ ns, Builtin.Int.intBits z ≤ 1048576) (hlen : ns.length ≤ 63) :
    ∃ t, PSs (cxOf CX0 P w K mg base ["_law_script", "_law_source_here", "_law_signs_here", "_law_rules", "_law_given", "_law_book", "_law_same", "_law_more", "_law_turn", "_law_text_here", "_law_thing", "_law_place", "_law_odd", "raised", "_law_many", "_law_letters", "_law_rows", "_law_rule_here", "_law_k"] "law" (defScope s_law) f cdv A outer s H E).nox (defBody s_law) t ∧
      t { nx := fun _ _ => V.non = V.bl true, rt := fun v _ => v = .bl true } (start ["_law_script", "_law_source_here", "_law_signs_here", "_law_rules", "_law_given", "_law_book", "_law_same", "_law_more", "_law_turn", "_law_text_here", "_law_thing", "_law_place", "_law_odd", "raised", "_law_many", "_law_letters", "_law_rows", "_law_rule_here", "_law_k"] [.ref a]) H := by
  have c__law_source := c__law_source (P := P) (w := w) (base := base) T.toTxtC.toTxt
  have c__law_signs := c__law_signs (P := P) (w := w) (base := base) T.toTxtC.toTxt
  have c__law_drawn := c__law_drawn (P := P) (w := w) (base := base) T.toTxtC.toTxt
  have c_X_Book := c_X_Book___init__ (P := P) (w := w) (base := base) T
  have c__law_text := c__law_text (P := P) (w := w) (base := base) T.toTxtC.toTxt
  have c__law_spoilt := c__law_spoilt (P := P) (w := w) (base := base) T.toTxtC.toTxt
  have c__law_pick := c__law_pick (P := P) (w := w) (base := base) T.toTxtC.toTxt
  have c__law_number := c__law_number (P := P) (w := w) (base := base) T
  have c__law_left := c__law_left (P := P) (w := w) (base := base) T.toTxtC.toTxt
  obtain ⟨tb_shown, hb_shown, kb_shown⟩ := blk_shown (P := P) (w := w) (base := base) T f cdv A outer s H E hr hgd
  have hgd : (A.deeper (envOfC "law" (defScope s_law) s.heap.objs.size f cdv)).guards = some [] := hgd
  have hu := hu_of hr
  refine ⟨_, (pss_cons (ps_set (i := 1) sc_law.nd rfl (Or.inl rfl) (pe_c c__law_source hr (by decide) rfl (pa_cons (pv 0) (pa_cons pe_int pa_nil))))
  (pss_cons (ps_set (i := 2) sc_law.nd rfl (Or.inl rfl) (pe_c c__law_signs hr (by decide) rfl (pa_cons (pv 1) pa_nil)))
  (pss_cons (ps_set (i := 3) sc_law.nd rfl (Or.inl rfl) (pe_c c__law_drawn hr (by decide) rfl (pa_cons (pv 1) (pa_cons (pv 2) pa_nil))))
  (pss_cons (ps_set (i := 4) sc_law.nd rfl (Or.inl rfl) (pe_ifExp (pt_cmpR op_eq (pe_c c__law_pick hr (by decide) rfl (pa_cons (pv 1) (pa_cons pe_int pa_nil))) pe_int (nomark _)) (pe_lc (own := [("_law_rule_here", 17)]) (g := gName 17) (tt := tYes) rfl sc_law.nd (pi_tup (pv 3)) (blkOk_by (N := ["_law_script", "_law_source_here", "_law_signs_here", "_law_rules", "_law_given", "_law_book", "_law_same", "_law_more", "_law_turn", "_law_text_here", "_law_thing", "_law_place", "_law_odd", "raised", "_law_many", "_law_letters", "_law_rows", "_law_rule_here", "_law_k"]) (sc := defScope s_law) (by decide +kernel)) (fun _ _ _ _ _ => (pg_name (i := 17) sc_law.nd rfl (Or.inl rfl))) (fun _ _ _ _ _ => pts_nil) (fun _ _ _ _ _ => (pe_callTy call_list_ofB (by rfl) T.b_list (by decide +kernel) (pa_cons (pv 17) pa_nil)))) (pv 3)))
  (pss_cons (ps_set (i := 5) sc_law.nd rfl (Or.inr rfl) (pe_mkXn T.k_Book c_X_Book hr (by decide) rfl (pa_cons (pv 2) (pa_cons (pv 4) pa_nil))))
  (pss_cons (ps_if (PW.pt (pw_and (pt_truth (pv 4) (by intro _; rfl)) (pw_and1 (pt_val (pe_callB call_isi (by rfl) T.b_isinstance (by decide +kernel) (pa_cons (pv 4) (pa_cons (pe_bltn (v := .ty "list") (by rfl) T.b_list (by decide +kernel) rfl) pa_nil)))))))
    (pss_cons (ps_asg pe_str (pg_sub (pe_ix ix_seq (pv 4) pe_int (fun _ _ => rfl)) pe_int set_list))
    (pss_one (ps_expr (pe_bm PySem.F.plainAttrs_list PySem.F.slot_list_append PySem.F.type_list_append mt_append (pv 4) (pa_cons pe_non pa_nil)))))
    pss_nil)
  hb_shown)))))), ?_⟩
  have cl := T.toTxtC.k_Book.cl
  refine ⟨_, rfl, a, ns, 0, rfl, hS, hbits, hlen, by decide, by decide, fun p H1 hp s1 hs1 => ?_⟩
  walk_at "nx"
  walk_at "rd"
  refine ⟨p, rfl, hs1, fun sg H2 hm hS2 b2 => ?_⟩
  have hsg := menu_signs sg hm
  have hSl := S_len sg
  obtain ⟨hsa, hs8⟩ := signs_len hsg
  have b02 : But p H H2 := (But.same s1).trans b2
  walk_at "nx"
  walk_at "rd"
  refine ⟨p, sg, rfl, hS2, hsg, fun q xs R H3 hR hB hR6 hS3 b3 => ?_⟩
  have b03 : But p H H3 := b02.trans b3
  have hxl := hR.len
  walk_at "nx"
  refine st_asgJ (fun v H5 => ∃ H4, But p H3 H4 ∧ Src H4 p ∧ Same H4 H5 ∧ (v = .ref q ∨ ∃ l ys, v = .ref l ∧ H4 l = none ∧ H5 l = some (.lst ys) ∧ Items (RItL H4 l) H5 ys R)) (fun Q' hQ => ?_) (fun v H5 ⟨H4, b4, hS4, s5, hv⟩ => ?_)
  · walk_at "rd"
    refine ⟨p, _, rfl, hS3, by decide, by decide, fun r H4 r0 r1 hS4 b4 => ?_⟩
    have hR4 := hR.keep (Keep.but b4 hS3)
    walk_at "rd"
    by_cases hr0 : r = 0
    · subst hr0
      rw [decide_eq_true (show V.int 0 = V.int 0 from rfl)]
      refine iteT ?_
      refine ⟨_, rfl, q, rfl, ⟨_, hR4.sq⟩, fun D9 hD => lc_tupR (K := K) (a := q) (xs := xs) (l := R) (Rel := RItem K) hR4.len
        (fun pre H6 => ∃ ys, H6 D9 = some (.lst ys) ∧ Items (RItL H4 D9) H6 ys pre ∧ Same H4 H6) ⟨[], upd_same, Items.nil, same_new hD⟩ (fun pre H6 ⟨_, _, _, s6⟩ => ⟨(hR4.same s6).sq, (hR4.same s6).it⟩) ?_ ?_⟩
      · rintro pre r post x9 H6 e hx ⟨qr, rfl, sq⟩ ⟨ys, h6, it6, s6⟩
        have hyl := it6.1
        have hpl : pre.length ≤ 6 := by
          have := congrArg List.length e
          rw [List.length_append, List.length_cons] at this
          omega
        refine ⟨rfl, ty_T ?_⟩
        walk_at "rd"
        refine ⟨qr, _, rfl, .inr sq, fun l hl => ?_⟩
        have s7 := same_new (o := .lst (rTup r)) hl
        have e7 : (upd H6 l (.lst (rTup r))) l = some (.lst (rTup r)) := upd_same
        have hl4 : H4 l = none := by
          cases hq : H4 l with
          | none => rfl
          | some o => rw [s6 _ _ hq] at hl; cases hl
        generalize upd H6 l (.lst (rTup r)) = H7 at s7 e7 ⊢
        have nl : l ≠ D9 := fun z => by rw [z, h6] at hl; cases hl
        refine ⟨ys, s7 _ _ h6, Nat.lt_of_le_of_lt (m := 6) (by omega) (by decide), ys ++ [.ref l], upd_same, ?_, same_mut (s6.trans s7) hD⟩
        refine Items.snoc (H := H7) ⟨it6.1, fun i x y h1 h2 => ?_⟩ (fun x y h => ?_) ⟨l, rfl, hl4, nl, by rw [upd_ne nl]; exact e7⟩
        · obtain ⟨li, e1, e2, n2, e3⟩ := it6.2 i x y h1 h2
          exact ⟨li, e1, e2, n2, s7 _ _ e3⟩
        · obtain ⟨li, e1, e2, n2, e3⟩ := h
          exact ⟨li, e1, e2, n2, by rw [upd_ne n2]; exact e3⟩
      · rintro H6 ⟨ys, h6, it6, s6⟩
        exact hQ _ _ ⟨H4, b4, hS4, s6, .inr ⟨D9, ys, rfl, hD, h6, it6⟩⟩
    · rw [decide_eq_false (show ¬ V.int r = V.int 0 from fun e => hr0 (V.int.inj e))]
      refine iteF ?_
      walk_at "rd"
      exact hQ _ _ ⟨H4, b4, hS4, Same.refl _, .inl rfl⟩
  have hR5 := (hR.keep (Keep.but b4 hS3)).same s5
  have hS5 := hS4.sm s5
  have b05 : But p H H5 := b03.trans (b4.trans (But.same s5))
  have hrow : ∃ g gs, v = .ref g ∧ SqA K H5 g gs ∧ Items (RItA K) H5 gs R := by
    rcases hv with rfl | ⟨l, ys, rfl, _, e, it⟩
    · exact ⟨q, xs, rfl, .inr hR5.sq, ritems (RulesAt.items hR5)⟩
    · exact ⟨l, ys, rfl, .inl (SqL.of e), it.1, fun i x y h1 h2 => (it.2 i x y h1 h2).a⟩
  obtain ⟨g, gs, rfl, hg, hit⟩ := hrow
  walk_at "nx"
  walk_at "rd"
  refine mk_book hB hg hit fun b H6 s6 hb => ?_
  walk_at "nx"
  have hR4 := hR.keep (Keep.but b4 hS3)
  have s04 : Same H H4 := (b03.trans b4).toSame hp
  have s46 : Same H4 H6 := s5.trans s6
  have held : ∀ H7, Same H4 H7 → BookAt K CB H7 b sg R → Held K CB H7 a p q b ns sg R xs := fun H7 s7 hb7 =>
    ⟨hS4.sm s7, (s04.trans s7).seq hS, hbits, hlen, hm, hR4.same s7, hb7, hR6, hB⟩
  refine st_J (fun σ H7 => σ = [some (.ref a), some (.ref p), some (.str (S sg)), some (.ref q), some (.ref g), some (.ref b), none, none, none, none, none, none, none, none, none, none, none, none, none] ∧ Held K CB H7 a p q b ns sg R xs) (fun N hN => ?_) (fun σ H7 hv7 => ?_)
  · rcases hv with hv | ⟨l, ys, hv, hl4, e5, it5⟩
    · cases hv
      refine if_K false (fun Q' hQ => ?_) (fun z => by cases z) (fun _ => ?_)
      · refine ⟨_, rfl, !xs.isEmpty, .inr (.inl ⟨xs, (hR5.same s6).sq, rfl⟩), ?_⟩
        cases xs.isEmpty with
        | true => exact iteF hQ
        | false =>
          refine iteT ?_
          walk_at "rd"
          refine ⟨_, _, _, _, _, rfl, .ty _, ty_tup (hR5.same s6).sq, kit_ty (r := false) (by decide +kernel), _, rfl, ?_⟩
          exact hQ
      · exact hN _ _ ⟨rfl, held _ s46 hb⟩
    · cases hv
      have e6 := s6 _ _ e5
      refine if_K (!ys.isEmpty) (fun Q' hQ => ?_) (fun hne => ?_) (fun _ => ?_)
      · refine ⟨_, rfl, !ys.isEmpty, .inl ⟨ys, SqL.of e6, rfl⟩, ?_⟩
        cases hys : ys.isEmpty with
        | true => exact iteF (by rw [hys] at hQ; exact hQ)
        | false =>
          rw [hys] at hQ
          refine iteT ?_
          walk_at "rd"
          refine ⟨_, _, _, _, _, rfl, .ty _, ty_lst (SqL.of e6), kit_ty (r := true) (by decide +kernel), _, rfl, ?_⟩
          exact hQ
      · obtain ⟨y0, yr, rfl⟩ : ∃ y r, ys = y :: r := by
          cases ys with
          | nil => cases hne
          | cons y r => exact ⟨y, r, rfl⟩
        obtain ⟨r0, Rr, rfl⟩ : ∃ y r, R = y :: r := by
          cases R with
          | nil => have := it5.1; cases this
          | cons y r => exact ⟨y, r, rfl⟩
        obtain ⟨l0, rfl, hl04, hl0, e0⟩ := it5.2 0 _ _ rfl rfl
        have e06 := s6 _ _ e0
        walk_at "rd"
        refine .inl ⟨g, _, 0, _, rfl, rfl, SqL.of e6, atI_at (Int.le_refl 0) rfl, ?_⟩
        refine ⟨l0, _, 0, 0, rfl, rfl, e06, rfl, ?_⟩
        generalize hnew : (rTup r0).set 0 (V.str (Str.ofString "spoilt")) = nw
        have b7 : But l0 H6 (upd H6 l0 (.lst nw)) := but_upd
        have hb7 := hb.butL b7 e06
        have s47 : Same H4 (upd H6 l0 (.lst nw)) := same_mut s46 hl04
        have e7 : (upd H6 l0 (.lst nw)) g = some (.lst (V.ref l0 :: yr)) := by rw [upd_ne hl0.symm]; exact e6
        generalize upd H6 l0 (.lst nw) = H7 at b7 hb7 s47 e7 ⊢
        walk_at "nx"
        have hyl := it5.1
        refine ⟨_, rfl, .inl ⟨rfl, _, SqL.of e7⟩, ?_⟩
        walk_at "rd"
        refine ⟨g, _, _, rfl, rfl, e7, Nat.lt_of_le_of_lt (m := 100) (by omega) (by decide), ?_⟩
        exact hN _ _ ⟨rfl, held _ (same_mut s47 hl4) (hb7.butL but_upd e7)⟩
      · exact hN _ _ ⟨rfl, held _ s46 hb⟩
  · obtain ⟨rfl, hH⟩ := hv7
    show tb_shown _ _ _
    exact kb_shown _ _ a p q b ns sg R xs _ _ _ _ _ _ _ _ _ _ _ _ _ _ hH (fun _ => rfl)
end
end Sh
set_option Elab.async false
set_option linter.all false
set_option maxRecDepth 100000
namespace Sh
open PySem PySem.Spec PyProof.Rows L2
section
variable {P : Program} {K : PySem.W.Frag} {h : Heap} {mg : Str → Option Value}
/-- an exception class -/
theorem exc_mk {x : Str} {C f D N : Addr} {nm q : Str} {bs bm : List Value} {sn : List Str} {sub : List Value} {ab : Bool} {col : Option Bool} {dd : Option Addr} {k0 k1 k2 k3 k5 : Option Value} (X : K.In h) (Y : h.Ns mainGlobals mg)
    (a : PySem.W.nsIn K mainGlobals x = some (some (.ref C))) (l : K.lookup C = some (excClassObj nm q C N bs bm true sn sub ab col dd k0 k1 k2 k3 k5 "ValueError.__new__")) (vb : PySem.HandSPX.refsVE bm = true)
    (sa : PySem.W.findIn K (.ref C) "__setattr__" = some (some (.builtin "object.__setattr__"))) (ga : PySem.W.findIn K (.ref C) "__getattribute__" = some (some (.builtin "BaseException.__getattribute__"))) (gg : PySem.W.findIn K (.ref C) "__getattr__" = some none)
    (ic : PySem.W.findIn K (.ref C) "__init__" = some (some (.ref f))) (ti : PySem.W.typeIn K (.ref f) = some (.type "function")) (kc : PySem.W.keepIn K (.ref C) = true) (ex : PySem.W.subIn K (.ref C) (.type "BaseException") = some true)
    (ty : PySem.W.typeIn K (.ref C) = some (.type "type")) (hd : PySem.W.hasDictIn K C = true) (su : PySem.W.mroIn K C (.ref D) = some true) (sp : PySem.W.ks_superIn K C D "__init__" = some (some (.builtin "ValueError.__init__"))) (ve : PySem.W.subIn K (.ref C) (.type "ValueError") = some true) :
    ExcAt K mg x C f D :=
  ⟨⟨⟨nm, q, N, bs, bm, sn, sub, ab, col, dd, k0, k1, k2, k3, k5, l, vb⟩, sa, ex, ty, kc⟩, PySem.W.mg_of X Y a, ic, ti, ⟨su, sp, ve⟩, ⟨ga, gg, ex, hd⟩⟩
/-- its __init__ -/
theorem xinit_mk {q : Str} {st : Stmt} {ps : List Str} {D f cc cda : Addr} {oc kv dc pm ct cl cl2 : Value} {od an cld cld2 : Option Addr} {sl csl csl2 : Array (Option Value)} {vs : Array Value} {file : Str} {tf : Tok} {cd : ClassData}
    (l : K.lookup f = some ⟨oc, od, .func (PySem.W.fnX "__init__" q (defArgs st) (defBody st) (defScope st) [("__class__", cc)] .none kv dc pm an (.ref cda) ct), sl⟩) (c : PySem.W.codeIn K (.ref cda) q = true)
    (hcc : K.lookup cc = some ⟨cl, cld, .cell (some (.ref D)), csl⟩) (hcd : K.lookup cda = some ⟨cl2, cld2, .fields vs, csl2⟩) (hvs : vs[2]? = some (.str file tf)) (hfl : ((P.main.file : Str) == file) = true) (top : (P.main.scope.names.lookup ("super" : Str)).isSome = false)
    (hD : PySem.W.clsIn K D = some cd) (op : PySem.W.nsIn K cStatics "thirdparty.any" = some none) (ms : mg "super" = none) (hp : ∃ ar : Arg, ((defArgs st).posonlyargs ++ (defArgs st).args).head? = some ar ∧ ar.arg = "self") (hks : (defScope st).names.lookup ("super" : Str) = some .globalImplicit)
    (b : ∀ (kV doc pm : Value) (an : Option Addr) (cdv ct : Value) (us : List Value), us.length = ps.length → bindArgs (PySem.W.fnX "__init__" q (defArgs st) (defBody st) (defScope st) [("__class__", cc)] .none kV doc pm an cdv ct) ⟨us, []⟩ = pure (ps.zip us)) : XInit P K mg q st ps D f :=
  ⟨_, ⟨⟨cc, cda, oc, kv, dc, pm, ct, od, an, sl, rfl, l, c, ⟨cl, cld, csl, hcc⟩, ⟨cl2, cld2, vs, csl2, file, tf, hcd, hvs, hfl⟩⟩, top, ms, ⟨cd, hD⟩, op, hp, hks⟩, Binds.all fun us hl => b kv dc pm an (.ref cda) ct us hl⟩
end
end Sh
set_option Elab.async false
set_option linter.all false
set_option maxRecDepth 100000
namespace Sh
open PySem PySem.Spec PyProof.Rows L2
theorem all_cls {K : PySem.W.Frag} {h : Heap} {mg : Str → Option Value} {CB : Addr}
    {f_Book___init__ : Addr} {od_Book___init__ an_Book___init__ : Option Addr} {sl_Book___init__ : Array (Option Value)} {oc_Book___init__ kv_Book___init__ dc_Book___init__ pm_Book___init__ cd_Book___init__ ct_Book___init__ : Value}
    {f_Book___call__ : Addr} {od_Book___call__ an_Book___call__ : Option Addr} {sl_Book___call__ : Array (Option Value)} {oc_Book___call__ kv_Book___call__ dc_Book___call__ pm_Book___call__ cd_Book___call__ ct_Book___call__ : Value}
    {f_Book___eq__ : Addr} {od_Book___eq__ an_Book___eq__ : Option Addr} {sl_Book___eq__ : Array (Option Value)} {oc_Book___eq__ kv_Book___eq__ dc_Book___eq__ pm_Book___eq__ cd_Book___eq__ ct_Book___eq__ : Value}
    {f_Book___len__ : Addr} {od_Book___len__ an_Book___len__ : Option Addr} {sl_Book___len__ : Array (Option Value)} {oc_Book___len__ kv_Book___len__ dc_Book___len__ pm_Book___len__ cd_Book___len__ ct_Book___len__ : Value}
    {f_Book___getitem__ : Addr} {od_Book___getitem__ an_Book___getitem__ : Option Addr} {sl_Book___getitem__ : Array (Option Value)} {oc_Book___getitem__ kv_Book___getitem__ dc_Book___getitem__ pm_Book___getitem__ cd_Book___getitem__ ct_Book___getitem__ : Value}
    {f_Book___iter__ : Addr} {od_Book___iter__ an_Book___iter__ : Option Addr} {sl_Book___iter__ : Array (Option Value)} {oc_Book___iter__ kv_Book___iter__ dc_Book___iter__ pm_Book___iter__ cd_Book___iter__ ct_Book___iter__ : Value}
    (X : K.In h) (Y : h.Ns mainGlobals mg) (T0 : Txt K mg)
    (a_Book : PySem.W.nsIn K mainGlobals "Book" = some (some (.ref CB)))
    (pg_Book : PySem.W.plainGet K CB Str.empty = true) (hd_Book : PySem.W.hasDictIn K CB = true) (po_Book : PySem.W.plainOver K CB = true) (sa_Book : PySem.W.findIn K (.ref CB) "__setattr__" = some (some (.builtin "object.__setattr__")))
    (mk_Book : PySem.W.makesIn K CB = true) (kp_Book : PySem.W.keepIn K (.ref CB) = true)
    (m_Book___init__ : PySem.W.findIn K (.ref CB) "__init__" = some (some (.ref f_Book___init__))) (i_Book___init__ : PySem.W.isFn K (.ref f_Book___init__) = true) (o_Book___init__ : PySem.W.fnIn K f_Book___init__ = true)
    (l_Book___init__ : K.lookup f_Book___init__ = some ⟨oc_Book___init__, od_Book___init__, .func (PySem.W.fnOf "__init__" "Book.__init__" (defArgs s_Book___init__) (defBody s_Book___init__) (defScope s_Book___init__) .none kv_Book___init__ dc_Book___init__ pm_Book___init__ an_Book___init__ cd_Book___init__ ct_Book___init__), sl_Book___init__⟩)
    (c_Book___init__ : PySem.W.codeIn K cd_Book___init__ "Book.__init__" = true) (k_Book___init__ : PySem.W.keepIn K (.ref f_Book___init__) = true)
    (m_Book___call__ : PySem.W.findIn K (.ref CB) "__call__" = some (some (.ref f_Book___call__))) (i_Book___call__ : PySem.W.isFn K (.ref f_Book___call__) = true) (o_Book___call__ : PySem.W.fnIn K f_Book___call__ = true)
    (l_Book___call__ : K.lookup f_Book___call__ = some ⟨oc_Book___call__, od_Book___call__, .func (PySem.W.fnOf "__call__" "Book.__call__" (defArgs s_Book___call__) (defBody s_Book___call__) (defScope s_Book___call__) .none kv_Book___call__ dc_Book___call__ pm_Book___call__ an_Book___call__ cd_Book___call__ ct_Book___call__), sl_Book___call__⟩)
    (c_Book___call__ : PySem.W.codeIn K cd_Book___call__ "Book.__call__" = true) (k_Book___call__ : PySem.W.keepIn K (.ref f_Book___call__) = true)
    (m_Book___eq__ : PySem.W.findIn K (.ref CB) "__eq__" = some (some (.ref f_Book___eq__))) (i_Book___eq__ : PySem.W.isFn K (.ref f_Book___eq__) = true) (o_Book___eq__ : PySem.W.fnIn K f_Book___eq__ = true)
    (l_Book___eq__ : K.lookup f_Book___eq__ = some ⟨oc_Book___eq__, od_Book___eq__, .func (PySem.W.fnOf "__eq__" "Book.__eq__" (defArgs s_Book___eq__) (defBody s_Book___eq__) (defScope s_Book___eq__) .none kv_Book___eq__ dc_Book___eq__ pm_Book___eq__ an_Book___eq__ cd_Book___eq__ ct_Book___eq__), sl_Book___eq__⟩)
    (c_Book___eq__ : PySem.W.codeIn K cd_Book___eq__ "Book.__eq__" = true) (k_Book___eq__ : PySem.W.keepIn K (.ref f_Book___eq__) = true)
    (m_Book___len__ : PySem.W.findIn K (.ref CB) "__len__" = some (some (.ref f_Book___len__))) (i_Book___len__ : PySem.W.isFn K (.ref f_Book___len__) = true) (o_Book___len__ : PySem.W.fnIn K f_Book___len__ = true)
    (l_Book___len__ : K.lookup f_Book___len__ = some ⟨oc_Book___len__, od_Book___len__, .func (PySem.W.fnOf "__len__" "Book.__len__" (defArgs s_Book___len__) (defBody s_Book___len__) (defScope s_Book___len__) .none kv_Book___len__ dc_Book___len__ pm_Book___len__ an_Book___len__ cd_Book___len__ ct_Book___len__), sl_Book___len__⟩)
    (c_Book___len__ : PySem.W.codeIn K cd_Book___len__ "Book.__len__" = true) (k_Book___len__ : PySem.W.keepIn K (.ref f_Book___len__) = true)
    (m_Book___getitem__ : PySem.W.findIn K (.ref CB) "__getitem__" = some (some (.ref f_Book___getitem__))) (i_Book___getitem__ : PySem.W.isFn K (.ref f_Book___getitem__) = true) (o_Book___getitem__ : PySem.W.fnIn K f_Book___getitem__ = true)
    (l_Book___getitem__ : K.lookup f_Book___getitem__ = some ⟨oc_Book___getitem__, od_Book___getitem__, .func (PySem.W.fnOf "__getitem__" "Book.__getitem__" (defArgs s_Book___getitem__) (defBody s_Book___getitem__) (defScope s_Book___getitem__) .none kv_Book___getitem__ dc_Book___getitem__ pm_Book___getitem__ an_Book___getitem__ cd_Book___getitem__ ct_Book___getitem__), sl_Book___getitem__⟩)
    (c_Book___getitem__ : PySem.W.codeIn K cd_Book___getitem__ "Book.__getitem__" = true) (k_Book___getitem__ : PySem.W.keepIn K (.ref f_Book___getitem__) = true)
    (m_Book___iter__ : PySem.W.findIn K (.ref CB) "__iter__" = some (some (.ref f_Book___iter__))) (i_Book___iter__ : PySem.W.isFn K (.ref f_Book___iter__) = true) (o_Book___iter__ : PySem.W.fnIn K f_Book___iter__ = true)
    (l_Book___iter__ : K.lookup f_Book___iter__ = some ⟨oc_Book___iter__, od_Book___iter__, .func (PySem.W.fnOf "__iter__" "Book.__iter__" (defArgs s_Book___iter__) (defBody s_Book___iter__) (defScope s_Book___iter__) .none kv_Book___iter__ dc_Book___iter__ pm_Book___iter__ an_Book___iter__ cd_Book___iter__ ct_Book___iter__), sl_Book___iter__⟩)
    (c_Book___iter__ : PySem.W.codeIn K cd_Book___iter__ "Book.__iter__" = true) (k_Book___iter__ : PySem.W.keepIn K (.ref f_Book___iter__) = true)
    (ia_Book : PySem.W.findIn K (.ref CB) "__class__" = some (some (.builtin "object.__class__"))) (in_Book : PySem.W.specialIn K (.builtin "object.__class__") "__get__" = some (some (.builtin "getset_descriptor.__get__"))) (it_Book : PySem.W.takesIn K (.builtin "object.__class__") = some true) (im_Book : PySem.W.mroIn K CB (.type "object") = some true)
    (tt_Book : PySem.W.typeIn K (.ref CB) = some (.type "type")) (tf_Book : PySem.W.subIn K (.type "tuple") (.ref CB) = some false)
    (n_Book_signs : PySem.W.findIn K (.ref CB) "signs" = some none)
    (n_Book_rules : PySem.W.findIn K (.ref CB) "rules" = some none)
    (n_Book__lefts : PySem.W.findIn K (.ref CB) "_lefts" = some none)
    (n_Book__longest : PySem.W.findIn K (.ref CB) "_longest" = some none)
    (n_Book__quarrel : PySem.W.findIn K (.ref CB) "_quarrel" = some none)
    (n_Book__moves : PySem.W.findIn K (.ref CB) "_moves" = some none) :
    ∃ CB : Addr, TxtC K mg CB :=
  ⟨CB, { T0 with
    k_Book := ⟨⟨pg_Book, hd_Book, po_Book, sa_Book⟩, PySem.W.mg_of X Y a_Book, mk_Book, kp_Book⟩
    m_Book___init__ := meth_mk (ps := ["self", "signs", "rules"]) l_Book___init__ c_Book___init__ k_Book___init__ m_Book___init__ i_Book___init__ o_Book___init__ (fun _ _ _ _ _ _ us hl => match us, hl with | [_, _, _], _ => rfl)
    m_Book___call__ := meth_mk (ps := ["self", "text"]) l_Book___call__ c_Book___call__ k_Book___call__ m_Book___call__ i_Book___call__ o_Book___call__ (fun _ _ _ _ _ _ us hl => match us, hl with | [_, _], _ => rfl)
    m_Book___eq__ := meth_mk (ps := ["self", "other"]) l_Book___eq__ c_Book___eq__ k_Book___eq__ m_Book___eq__ i_Book___eq__ o_Book___eq__ (fun _ _ _ _ _ _ us hl => match us, hl with | [_, _], _ => rfl)
    m_Book___len__ := meth_mk (ps := ["self"]) l_Book___len__ c_Book___len__ k_Book___len__ m_Book___len__ i_Book___len__ o_Book___len__ (fun _ _ _ _ _ _ us hl => match us, hl with | [_], _ => rfl)
    m_Book___getitem__ := meth_mk (ps := ["self", "number"]) l_Book___getitem__ c_Book___getitem__ k_Book___getitem__ m_Book___getitem__ i_Book___getitem__ o_Book___getitem__ (fun _ _ _ _ _ _ us hl => match us, hl with | [_, _], _ => rfl)
    m_Book___iter__ := meth_mk (ps := ["self"]) l_Book___iter__ c_Book___iter__ k_Book___iter__ m_Book___iter__ i_Book___iter__ o_Book___iter__ (fun _ _ _ _ _ _ us hl => match us, hl with | [_], _ => rfl)
    i_Book := ⟨⟨pg_Book, hd_Book, po_Book, sa_Book⟩, ia_Book, in_Book, it_Book, im_Book, kit_self⟩
    kb_tuple := kit_tup hd_Book tt_Book tf_Book
    nb_tuple := nf_tup tf_Book
    n_Book_signs := n_Book_signs
    n_Book_rules := n_Book_rules
    n_Book__lefts := n_Book__lefts
    n_Book__longest := n_Book__longest
    n_Book__quarrel := n_Book__quarrel
    n_Book__moves := n_Book__moves }⟩
theorem all_exc {P : Program} {K : PySem.W.Frag} {h : Heap} {mg : Str → Option Value} {CB XR FE DI XS FT DT XT SE : Addr}
    {N_BadRule : Addr} {nm_BadRule q_BadRule : Str} {bs_BadRule bm_BadRule : List Value} {sn_BadRule : List Str} {sub_BadRule : List Value} {ab_BadRule : Bool} {col_BadRule : Option Bool} {dd_BadRule : Option Addr} {k0_BadRule k1_BadRule k2_BadRule k3_BadRule k5_BadRule : Option Value}
    {cc_WrongItem ca_WrongItem : Addr} {oc_WrongItem kv_WrongItem dc_WrongItem pm_WrongItem ct_WrongItem cl_WrongItem cm_WrongItem : Value} {od_WrongItem an_WrongItem ce_WrongItem cf_WrongItem : Option Addr} {sl_WrongItem cs_WrongItem ct2_WrongItem : Array (Option Value)} {fv_WrongItem : Array Value} {fi_WrongItem : Str} {tf_WrongItem : Tok} {cd_WrongItem : ClassData}
    {N_BadSigns : Addr} {nm_BadSigns q_BadSigns : Str} {bs_BadSigns bm_BadSigns : List Value} {sn_BadSigns : List Str} {sub_BadSigns : List Value} {ab_BadSigns : Bool} {col_BadSigns : Option Bool} {dd_BadSigns : Option Addr} {k0_BadSigns k1_BadSigns k2_BadSigns k3_BadSigns k5_BadSigns : Option Value}
    {cc_WrongThing ca_WrongThing : Addr} {oc_WrongThing kv_WrongThing dc_WrongThing pm_WrongThing ct_WrongThing cl_WrongThing cm_WrongThing : Value} {od_WrongThing an_WrongThing ce_WrongThing cf_WrongThing : Option Addr} {sl_WrongThing cs_WrongThing ct2_WrongThing : Array (Option Value)} {fv_WrongThing : Array Value} {fi_WrongThing : Str} {tf_WrongThing : Tok} {cd_WrongThing : ClassData}
    {N_BadText : Addr} {nm_BadText q_BadText : Str} {bs_BadText bm_BadText : List Value} {sn_BadText : List Str} {sub_BadText : List Value} {ab_BadText : Bool} {col_BadText : Option Bool} {dd_BadText : Option Addr} {k0_BadText k1_BadText k2_BadText k3_BadText k5_BadText : Option Value}
    (KX : K.In h) (G : h.Ns mainGlobals mg) (TC : TxtC K mg CB)
    (op : PySem.W.nsIn K cStatics "thirdparty.any" = some none)
    (a_BadRule : PySem.W.nsIn K mainGlobals "BadRule" = some (some (.ref XR)))
    (xl_BadRule : K.lookup XR = some (excClassObj nm_BadRule q_BadRule XR N_BadRule bs_BadRule bm_BadRule true sn_BadRule sub_BadRule ab_BadRule col_BadRule dd_BadRule k0_BadRule k1_BadRule k2_BadRule k3_BadRule k5_BadRule "ValueError.__new__"))
    (vb_BadRule : PySem.HandSPX.refsVE bm_BadRule = true)
    (sa_BadRule : PySem.W.findIn K (.ref XR) "__setattr__" = some (some (.builtin "object.__setattr__")))
    (ga_BadRule : PySem.W.findIn K (.ref XR) "__getattribute__" = some (some (.builtin "BaseException.__getattribute__")))
    (gg_BadRule : PySem.W.findIn K (.ref XR) "__getattr__" = some none)
    (ic_BadRule : PySem.W.findIn K (.ref XR) "__init__" = some (some (.ref FE)))
    (ti_BadRule : PySem.W.typeIn K (.ref FE) = some (.type "function"))
    (kc_BadRule : PySem.W.keepIn K (.ref XR) = true)
    (ex_BadRule : PySem.W.subIn K (.ref XR) (.type "BaseException") = some true)
    (ty_BadRule : PySem.W.typeIn K (.ref XR) = some (.type "type"))
    (hd_BadRule : PySem.W.hasDictIn K XR = true)
    (l_WrongItem : K.lookup FE = some ⟨oc_WrongItem, od_WrongItem, .func (PySem.W.fnX "__init__" "WrongItem.__init__" (defArgs s_WrongItem___init__) (defBody s_WrongItem___init__) (defScope s_WrongItem___init__) [("__class__", cc_WrongItem)] .none kv_WrongItem dc_WrongItem pm_WrongItem an_WrongItem (.ref ca_WrongItem) ct_WrongItem), sl_WrongItem⟩)
    (c_WrongItem : PySem.W.codeIn K (.ref ca_WrongItem) "WrongItem.__init__" = true)
    (cl1_WrongItem : K.lookup cc_WrongItem = some ⟨cl_WrongItem, ce_WrongItem, .cell (some (.ref DI)), cs_WrongItem⟩)
    (cl2_WrongItem : K.lookup ca_WrongItem = some ⟨cm_WrongItem, cf_WrongItem, .fields fv_WrongItem, ct2_WrongItem⟩)
    (fv1_WrongItem : fv_WrongItem[2]? = some (.str fi_WrongItem tf_WrongItem))
    (fl_WrongItem : ((P.main.file : Str) == fi_WrongItem) = true)
    (cD_WrongItem : PySem.W.clsIn K DI = some cd_WrongItem)
    (top : (P.main.scope.names.lookup ("super" : Str)).isSome = false)
    (su_BadRule : PySem.W.mroIn K XR (.ref DI) = some true)
    (sp_BadRule : PySem.W.ks_superIn K XR DI "__init__" = some (some (.builtin "ValueError.__init__")))
    (ve_BadRule : PySem.W.subIn K (.ref XR) (.type "ValueError") = some true)
    (nf_BadRule_place : PySem.W.findIn K (.ref XR) "place" = some none)
    (a_BadSigns : PySem.W.nsIn K mainGlobals "BadSigns" = some (some (.ref XS)))
    (xl_BadSigns : K.lookup XS = some (excClassObj nm_BadSigns q_BadSigns XS N_BadSigns bs_BadSigns bm_BadSigns true sn_BadSigns sub_BadSigns ab_BadSigns col_BadSigns dd_BadSigns k0_BadSigns k1_BadSigns k2_BadSigns k3_BadSigns k5_BadSigns "ValueError.__new__"))
    (vb_BadSigns : PySem.HandSPX.refsVE bm_BadSigns = true)
    (sa_BadSigns : PySem.W.findIn K (.ref XS) "__setattr__" = some (some (.builtin "object.__setattr__")))
    (ga_BadSigns : PySem.W.findIn K (.ref XS) "__getattribute__" = some (some (.builtin "BaseException.__getattribute__")))
    (gg_BadSigns : PySem.W.findIn K (.ref XS) "__getattr__" = some none)
    (ic_BadSigns : PySem.W.findIn K (.ref XS) "__init__" = some (some (.ref FT)))
    (ti_BadSigns : PySem.W.typeIn K (.ref FT) = some (.type "function"))
    (kc_BadSigns : PySem.W.keepIn K (.ref XS) = true)
    (ex_BadSigns : PySem.W.subIn K (.ref XS) (.type "BaseException") = some true)
    (ty_BadSigns : PySem.W.typeIn K (.ref XS) = some (.type "type"))
    (hd_BadSigns : PySem.W.hasDictIn K XS = true)
    (l_WrongThing : K.lookup FT = some ⟨oc_WrongThing, od_WrongThing, .func (PySem.W.fnX "__init__" "WrongThing.__init__" (defArgs s_WrongThing___init__) (defBody s_WrongThing___init__) (defScope s_WrongThing___init__) [("__class__", cc_WrongThing)] .none kv_WrongThing dc_WrongThing pm_WrongThing an_WrongThing (.ref ca_WrongThing) ct_WrongThing), sl_WrongThing⟩)
    (c_WrongThing : PySem.W.codeIn K (.ref ca_WrongThing) "WrongThing.__init__" = true)
    (cl1_WrongThing : K.lookup cc_WrongThing = some ⟨cl_WrongThing, ce_WrongThing, .cell (some (.ref DT)), cs_WrongThing⟩)
    (cl2_WrongThing : K.lookup ca_WrongThing = some ⟨cm_WrongThing, cf_WrongThing, .fields fv_WrongThing, ct2_WrongThing⟩)
    (fv1_WrongThing : fv_WrongThing[2]? = some (.str fi_WrongThing tf_WrongThing))
    (fl_WrongThing : ((P.main.file : Str) == fi_WrongThing) = true)
    (cD_WrongThing : PySem.W.clsIn K DT = some cd_WrongThing)
    (su_BadSigns : PySem.W.mroIn K XS (.ref DT) = some true)
    (sp_BadSigns : PySem.W.ks_superIn K XS DT "__init__" = some (some (.builtin "ValueError.__init__")))
    (ve_BadSigns : PySem.W.subIn K (.ref XS) (.type "ValueError") = some true)
    (nf_BadSigns_thing : PySem.W.findIn K (.ref XS) "thing" = some none)
    (a_BadText : PySem.W.nsIn K mainGlobals "BadText" = some (some (.ref XT)))
    (xl_BadText : K.lookup XT = some (excClassObj nm_BadText q_BadText XT N_BadText bs_BadText bm_BadText true sn_BadText sub_BadText ab_BadText col_BadText dd_BadText k0_BadText k1_BadText k2_BadText k3_BadText k5_BadText "ValueError.__new__"))
    (vb_BadText : PySem.HandSPX.refsVE bm_BadText = true)
    (sa_BadText : PySem.W.findIn K (.ref XT) "__setattr__" = some (some (.builtin "object.__setattr__")))
    (ga_BadText : PySem.W.findIn K (.ref XT) "__getattribute__" = some (some (.builtin "BaseException.__getattribute__")))
    (gg_BadText : PySem.W.findIn K (.ref XT) "__getattr__" = some none)
    (ic_BadText : PySem.W.findIn K (.ref XT) "__init__" = some (some (.ref FT)))
    (ti_BadText : PySem.W.typeIn K (.ref FT) = some (.type "function"))
    (kc_BadText : PySem.W.keepIn K (.ref XT) = true)
    (ex_BadText : PySem.W.subIn K (.ref XT) (.type "BaseException") = some true)
    (ty_BadText : PySem.W.typeIn K (.ref XT) = some (.type "type"))
    (hd_BadText : PySem.W.hasDictIn K XT = true)
    (su_BadText : PySem.W.mroIn K XT (.ref DT) = some true)
    (sp_BadText : PySem.W.ks_superIn K XT DT "__init__" = some (some (.builtin "ValueError.__init__")))
    (ve_BadText : PySem.W.subIn K (.ref XT) (.type "ValueError") = some true)
    (nf_BadText_thing : PySem.W.findIn K (.ref XT) "thing" = some none)
    (h_BadRule_BadRule : PySem.W.subIn K (.ref XR) (.ref XR) = some true)
    (h_BadSigns_BadSigns : PySem.W.subIn K (.ref XS) (.ref XS) = some true)
    (h_BadText_BadText : PySem.W.subIn K (.ref XT) (.ref XT) = some true)
    (cg_ : PySem.W.specialIn K (.builtin "object.__class__") "__get__" = some (some (.builtin "getset_descriptor.__get__")))
    (ct_ : PySem.W.takesIn K (.builtin "object.__class__") = some true)
    (co_BadRule : PySem.W.findIn K (.ref XR) "__class__" = some (some (.builtin "object.__class__")))
    (cm_o_BadRule : PySem.W.mroIn K XR (.type "object") = some true)
    (co_BadText : PySem.W.findIn K (.ref XT) "__class__" = some (some (.builtin "object.__class__")))
    (cm_o_BadText : PySem.W.mroIn K XT (.type "object") = some true)
    (ag_WrongItem : PySem.W.nsIn K mainGlobals "WrongItem" = some (some (.ref DI)))
    (hdb_WrongItem : PySem.W.hasDictIn K DI = true)
    (tyb_WrongItem : PySem.W.typeIn K (.ref DI) = some (.type "type"))
    (ag_ShrunkError : PySem.W.nsIn K mainGlobals "ShrunkError" = some (some (.ref SE)))
    (hdb_ShrunkError : PySem.W.hasDictIn K SE = true)
    (tyb_ShrunkError : PySem.W.typeIn K (.ref SE) = some (.type "type"))
    (ag_WrongThing : PySem.W.nsIn K mainGlobals "WrongThing" = some (some (.ref DT)))
    (hdb_WrongThing : PySem.W.hasDictIn K DT = true)
    (tyb_WrongThing : PySem.W.typeIn K (.ref DT) = some (.type "type"))
    (sb_BadRule_WrongItem : PySem.W.subIn K (.ref XR) (.ref DI) = some true)
    (sb_BadRule_ShrunkError : PySem.W.subIn K (.ref XR) (.ref SE) = some true)
    (sb_BadRule_WrongThing : PySem.W.subIn K (.ref XR) (.ref DT) = some false)
    (sl_WrongThing : PySem.W.subIn K (.ref DT) (.ref DT) = some true)
    (sb_BadText_WrongThing : PySem.W.subIn K (.ref XT) (.ref DT) = some true) :
    ∃ XR FE DI XS FT DT XT SE : Addr, TxtX P K mg CB XR FE DI XS FT DT XT SE :=
  ⟨XR, FE, DI, XS, FT, DT, XT, SE, { TC with
    e_BadRule := exc_mk KX G a_BadRule xl_BadRule vb_BadRule sa_BadRule ga_BadRule gg_BadRule ic_BadRule ti_BadRule kc_BadRule ex_BadRule ty_BadRule hd_BadRule su_BadRule sp_BadRule ve_BadRule
    q_WrongItem := xinit_mk l_WrongItem c_WrongItem cl1_WrongItem cl2_WrongItem fv1_WrongItem fl_WrongItem top cD_WrongItem op TC.b_super ⟨_, rfl, rfl⟩ (by decide +kernel) (fun _ _ _ _ _ _ us hl => match us, hl with | [_, _], _ => rfl)
    nf_BadRule_place := nf_BadRule_place
    e_BadSigns := exc_mk KX G a_BadSigns xl_BadSigns vb_BadSigns sa_BadSigns ga_BadSigns gg_BadSigns ic_BadSigns ti_BadSigns kc_BadSigns ex_BadSigns ty_BadSigns hd_BadSigns su_BadSigns sp_BadSigns ve_BadSigns
    q_WrongThing := xinit_mk l_WrongThing c_WrongThing cl1_WrongThing cl2_WrongThing fv1_WrongThing fl_WrongThing top cD_WrongThing op TC.b_super ⟨_, rfl, rfl⟩ (by decide +kernel) (fun _ _ _ _ _ _ us hl => match us, hl with | [_, _], _ => rfl)
    nf_BadSigns_thing := nf_BadSigns_thing
    e_BadText := exc_mk KX G a_BadText xl_BadText vb_BadText sa_BadText ga_BadText gg_BadText ic_BadText ti_BadText kc_BadText ex_BadText ty_BadText hd_BadText su_BadText sp_BadText ve_BadText
    nf_BadText_thing := nf_BadText_thing
    mm_BadRule_BadRule := PySem.W.exm_ref ex_BadRule hd_BadRule ty_BadRule h_BadRule_BadRule
    mm_BadSigns_BadSigns := PySem.W.exm_ref ex_BadSigns hd_BadSigns ty_BadSigns h_BadSigns_BadSigns
    mm_BadText_BadText := PySem.W.exm_ref ex_BadText hd_BadText ty_BadText h_BadText_BadText
    c_BadRule := ⟨ga_BadRule, gg_BadRule, ex_BadRule, hd_BadRule, co_BadRule, cg_, ct_, cm_o_BadRule⟩
    c_BadText := ⟨ga_BadText, gg_BadText, ex_BadText, hd_BadText, co_BadText, cg_, ct_, cm_o_BadText⟩
    gc_WrongItem := PySem.W.mg_of KX G ag_WrongItem
    gc_ShrunkError := PySem.W.mg_of KX G ag_ShrunkError
    gc_WrongThing := PySem.W.mg_of KX G ag_WrongThing
    ko_BadRule_WrongItem := kit_true hdb_WrongItem tyb_WrongItem sb_BadRule_WrongItem
    ko_BadRule_ShrunkError := kit_true hdb_ShrunkError tyb_ShrunkError sb_BadRule_ShrunkError
    ko_BadRule_WrongThing := kit_false hdb_WrongThing tyb_WrongThing sl_WrongThing sb_BadRule_WrongThing
    ko_BadText_WrongThing := kit_true hdb_WrongThing tyb_WrongThing sb_BadText_WrongThing }⟩
end Sh
open PySem PySem.W PyProof.Rows
set_option maxRecDepth 100000 in
set_option maxHeartbeats 0 in
theorem PySem.Challenge.cw_shrunkalike_k04_books_made_holds : PySem.Challenge.rw_shrunkalike_k04_books_made.Holds := by
  w_on; o_law; k_head; (case hw => w_witness2)
  k_fill
  refine Sh.walk_law (l := PySem.Challenge.rw_shrunkalike_k04_books_made) (n := 63) (k := 12) (x := "law") (p1 := "_law_script") (st := Sh.s_law) (N := ["_law_script", "_law_source_here", "_law_signs_here", "_law_rules", "_law_given", "_law_book", "_law_same", "_law_more", "_law_turn", "_law_text_here", "_law_thing", "_law_place", "_law_odd", "raised", "_law_many", "_law_letters", "_law_rows", "_law_rule_here", "_law_k"]) rfl (by decide) rfl ⟨rfl, by decide, by decide⟩ Sh.sc_law (fun w h Y => PySem.W.kIn_of Y) ?F
  case F =>
    intro w mg fa h KX G hmg
    have b_len : mg "len" = none := by refine' PySem.W.mg_none_of KX G ?z; (case z => k_is)
    have b_range : mg "range" = none := by refine' PySem.W.mg_none_of KX G ?z; (case z => k_is)
    have b_min : mg "min" = none := by refine' PySem.W.mg_none_of KX G ?z; (case z => k_is)
    have b_max : mg "max" = none := by refine' PySem.W.mg_none_of KX G ?z; (case z => k_is)
    have b_any : mg "any" = none := by refine' PySem.W.mg_none_of KX G ?z; (case z => k_is)
    have b_isinstance : mg "isinstance" = none := by refine' PySem.W.mg_none_of KX G ?z; (case z => k_is)
    have b_abs : mg "abs" = none := by refine' PySem.W.mg_none_of KX G ?z; (case z => k_is)
    have b_int : mg "int" = none := by refine' PySem.W.mg_none_of KX G ?z; (case z => k_is)
    have b_str : mg "str" = none := by refine' PySem.W.mg_none_of KX G ?z; (case z => k_is)
    have b_tuple : mg "tuple" = none := by refine' PySem.W.mg_none_of KX G ?z; (case z => k_is)
    have b_list : mg "list" = none := by refine' PySem.W.mg_none_of KX G ?z; (case z => k_is)
    have b_repr : mg "repr" = none := by refine' PySem.W.mg_none_of KX G ?z; (case z => k_is)
    have b_iter : mg "iter" = none := by refine' PySem.W.mg_none_of KX G ?z; (case z => k_is)
    have b_super : mg "super" = none := by refine' PySem.W.mg_none_of KX G ?z; (case z => k_is)
    have g_LETTERS : ∃ u, mg "LETTERS" = some u ∧ L2.RelV (.str "abcdefghijklmnopqrstuvwxyz") u := by refine' Sh.con_mk KX G ?a ?r; (case a => k_is); (case r => exact ⟨_, rfl⟩)
    have g_LONGEST_TEXT : ∃ u, mg "LONGEST_TEXT" = some u ∧ L2.RelV (.int 200) u := by refine' Sh.con_mk KX G ?a ?r; (case a => k_is); (case r => exact ⟨_, rfl⟩)
    have g_MOST_RULES : ∃ u, mg "MOST_RULES" = some u ∧ L2.RelV (.int 64) u := by refine' Sh.con_mk KX G ?a ?r; (case a => k_is); (case r => exact ⟨_, rfl⟩)
    have g_LONGEST_LEFT : ∃ u, mg "LONGEST_LEFT" = some u ∧ L2.RelV (.int 4) u := by refine' Sh.con_mk KX G ?a ?r; (case a => k_is); (case r => exact ⟨_, rfl⟩)
    have d_is_listed : Sh.DefAt (L2.KOf KX) mg "is_listed" Sh.s_is_listed ["thing"] := by delta L2.KOf; refine' Sh.def_mk KX G ?a ?l ?c ?k ?b; (case a => k_is); (case l => k_is); (case c => k_is); (case k => k_is); (case b => exact fun _ _ _ _ _ _ us hl => match us, hl with | [_], _ => rfl)
    have d_is_signs : Sh.DefAt (L2.KOf KX) mg "is_signs" Sh.s_is_signs ["thing"] := by delta L2.KOf; refine' Sh.def_mk KX G ?a ?l ?c ?k ?b; (case a => k_is); (case l => k_is); (case c => k_is); (case k => k_is); (case b => exact fun _ _ _ _ _ _ us hl => match us, hl with | [_], _ => rfl)
    have d_check_signs : Sh.DefAt (L2.KOf KX) mg "check_signs" Sh.s_check_signs ["thing"] := by delta L2.KOf; refine' Sh.def_mk KX G ?a ?l ?c ?k ?b; (case a => k_is); (case l => k_is); (case c => k_is); (case k => k_is); (case b => exact fun _ _ _ _ _ _ us hl => match us, hl with | [_], _ => rfl)
    have d_is_text : Sh.DefAt (L2.KOf KX) mg "is_text" Sh.s_is_text ["signs", "thing", "low", "high"] := by delta L2.KOf; refine' Sh.def_mk KX G ?a ?l ?c ?k ?b; (case a => k_is); (case l => k_is); (case c => k_is); (case k => k_is); (case b => exact fun _ _ _ _ _ _ us hl => match us, hl with | [_, _, _, _], _ => rfl)
    have d_check_text : Sh.DefAt (L2.KOf KX) mg "check_text" Sh.s_check_text ["signs", "thing"] := by delta L2.KOf; refine' Sh.def_mk KX G ?a ?l ?c ?k ?b; (case a => k_is); (case l => k_is); (case c => k_is); (case k => k_is); (case b => exact fun _ _ _ _ _ _ us hl => match us, hl with | [_, _], _ => rfl)
    have d_text_key : Sh.DefAt (L2.KOf KX) mg "text_key" Sh.s_text_key ["text"] := by delta L2.KOf; refine' Sh.def_mk KX G ?a ?l ?c ?k ?b; (case a => k_is); (case l => k_is); (case c => k_is); (case k => k_is); (case b => exact fun _ _ _ _ _ _ us hl => match us, hl with | [_], _ => rfl)
    have d_first_rules : Sh.DefAt (L2.KOf KX) mg "first_rules" Sh.s_first_rules ["rules"] := by delta L2.KOf; refine' Sh.def_mk KX G ?a ?l ?c ?k ?b; (case a => k_is); (case l => k_is); (case c => k_is); (case k => k_is); (case b => exact fun _ _ _ _ _ _ us hl => match us, hl with | [_], _ => rfl)
    have d_longest_left : Sh.DefAt (L2.KOf KX) mg "longest_left" Sh.s_longest_left ["rules"] := by delta L2.KOf; refine' Sh.def_mk KX G ?a ?l ?c ?k ?b; (case a => k_is); (case l => k_is); (case c => k_is); (case k => k_is); (case b => exact fun _ _ _ _ _ _ us hl => match us, hl with | [_], _ => rfl)
    have d_used_at_end : Sh.DefAt (L2.KOf KX) mg "used_at_end" Sh.s_used_at_end ["lefts", "longest", "pile"] := by delta L2.KOf; refine' Sh.def_mk KX G ?a ?l ?c ?k ?b; (case a => k_is); (case l => k_is); (case c => k_is); (case k => k_is); (case b => exact fun _ _ _ _ _ _ us hl => match us, hl with | [_, _, _], _ => rfl)
    have d_left_over : Sh.DefAt (L2.KOf KX) mg "left_over" Sh.s_left_over ["lefts", "longest", "text"] := by delta L2.KOf; refine' Sh.def_mk KX G ?a ?l ?c ?k ?b; (case a => k_is); (case l => k_is); (case c => k_is); (case k => k_is); (case b => exact fun _ _ _ _ _ _ us hl => match us, hl with | [_, _, _], _ => rfl)
    have d_overlap_rows : Sh.DefAt (L2.KOf KX) mg "overlap_rows" Sh.s_overlap_rows ["rules"] := by delta L2.KOf; refine' Sh.def_mk KX G ?a ?l ?c ?k ?b; (case a => k_is); (case l => k_is); (case c => k_is); (case k => k_is); (case b => exact fun _ _ _ _ _ _ us hl => match us, hl with | [_], _ => rfl)
    have d_both_results : Sh.DefAt (L2.KOf KX) mg "both_results" Sh.s_both_results ["rules", "overlap"] := by delta L2.KOf; refine' Sh.def_mk KX G ?a ?l ?c ?k ?b; (case a => k_is); (case l => k_is); (case c => k_is); (case k => k_is); (case b => exact fun _ _ _ _ _ _ us hl => match us, hl with | [_, _], _ => rfl)
    have d_quarrel_of : Sh.DefAt (L2.KOf KX) mg "quarrel_of" Sh.s_quarrel_of ["rules", "lefts", "longest"] := by delta L2.KOf; refine' Sh.def_mk KX G ?a ?l ?c ?k ?b; (case a => k_is); (case l => k_is); (case c => k_is); (case k => k_is); (case b => exact fun _ _ _ _ _ _ us hl => match us, hl with | [_, _, _], _ => rfl)
    have d_end_moves : Sh.DefAt (L2.KOf KX) mg "end_moves" Sh.s_end_moves ["signs", "rules"] := by delta L2.KOf; refine' Sh.def_mk KX G ?a ?l ?c ?k ?b; (case a => k_is); (case l => k_is); (case c => k_is); (case k => k_is); (case b => exact fun _ _ _ _ _ _ us hl => match us, hl with | [_, _], _ => rfl)
    have d_kept_tail : Sh.DefAt (L2.KOf KX) mg "kept_tail" Sh.s_kept_tail ["lefts", "longest", "text"] := by delta L2.KOf; refine' Sh.def_mk KX G ?a ?l ?c ?k ?b; (case a => k_is); (case l => k_is); (case c => k_is); (case k => k_is); (case b => exact fun _ _ _ _ _ _ us hl => match us, hl with | [_, _, _], _ => rfl)
    have d_is_rule : Sh.DefAt (L2.KOf KX) mg "is_rule" Sh.s_is_rule ["signs", "thing"] := by delta L2.KOf; refine' Sh.def_mk KX G ?a ?l ?c ?k ?b; (case a => k_is); (case l => k_is); (case c => k_is); (case k => k_is); (case b => exact fun _ _ _ _ _ _ us hl => match us, hl with | [_, _], _ => rfl)
    have d_checked_rules : Sh.DefAt (L2.KOf KX) mg "checked_rules" Sh.s_checked_rules ["signs", "thing"] := by delta L2.KOf; refine' Sh.def_mk KX G ?a ?l ?c ?k ?b; (case a => k_is); (case l => k_is); (case c => k_is); (case k => k_is); (case b => exact fun _ _ _ _ _ _ us hl => match us, hl with | [_, _], _ => rfl)
    have d__law_source : Sh.DefAt (L2.KOf KX) mg "_law_source" Sh.s__law_source ["_law_script", "_law_place"] := by delta L2.KOf; refine' Sh.def_mk KX G ?a ?l ?c ?k ?b; (case a => k_is); (case l => k_is); (case c => k_is); (case k => k_is); (case b => exact fun _ _ _ _ _ _ us hl => match us, hl with | [_, _], _ => rfl)
    have d__law_pick : Sh.DefAt (L2.KOf KX) mg "_law_pick" Sh.s__law_pick ["_law_source_here", "_law_many"] := by delta L2.KOf; refine' Sh.def_mk KX G ?a ?l ?c ?k ?b; (case a => k_is); (case l => k_is); (case c => k_is); (case k => k_is); (case b => exact fun _ _ _ _ _ _ us hl => match us, hl with | [_, _], _ => rfl)
    have d__law_signs : Sh.DefAt (L2.KOf KX) mg "_law_signs" Sh.s__law_signs ["_law_source_here"] := by delta L2.KOf; refine' Sh.def_mk KX G ?a ?l ?c ?k ?b; (case a => k_is); (case l => k_is); (case c => k_is); (case k => k_is); (case b => exact fun _ _ _ _ _ _ us hl => match us, hl with | [_], _ => rfl)
    have d__law_text : Sh.DefAt (L2.KOf KX) mg "_law_text" Sh.s__law_text ["_law_source_here", "_law_signs_here", "_law_most"] := by delta L2.KOf; refine' Sh.def_mk KX G ?a ?l ?c ?k ?b; (case a => k_is); (case l => k_is); (case c => k_is); (case k => k_is); (case b => exact fun _ _ _ _ _ _ us hl => match us, hl with | [_, _, _], _ => rfl)
    have d__law_left : Sh.DefAt (L2.KOf KX) mg "_law_left" Sh.s__law_left ["_law_rules", "_law_text_here"] := by delta L2.KOf; refine' Sh.def_mk KX G ?a ?l ?c ?k ?b; (case a => k_is); (case l => k_is); (case c => k_is); (case k => k_is); (case b => exact fun _ _ _ _ _ _ us hl => match us, hl with | [_, _], _ => rfl)
    have d__law_rule : Sh.DefAt (L2.KOf KX) mg "_law_rule" Sh.s__law_rule ["_law_source_here", "_law_signs_here", "_law_longest"] := by delta L2.KOf; refine' Sh.def_mk KX G ?a ?l ?c ?k ?b; (case a => k_is); (case l => k_is); (case c => k_is); (case k => k_is); (case b => exact fun _ _ _ _ _ _ us hl => match us, hl with | [_, _, _], _ => rfl)
    have d__law_drawn : Sh.DefAt (L2.KOf KX) mg "_law_drawn" Sh.s__law_drawn ["_law_source_here", "_law_signs_here"] := by delta L2.KOf; refine' Sh.def_mk KX G ?a ?l ?c ?k ?b; (case a => k_is); (case l => k_is); (case c => k_is); (case k => k_is); (case b => exact fun _ _ _ _ _ _ us hl => match us, hl with | [_, _], _ => rfl)
    have d__law_number : Sh.DefAt (L2.KOf KX) mg "_law_number" Sh.s__law_number ["_law_signs_here", "_law_rules"] := by delta L2.KOf; refine' Sh.def_mk KX G ?a ?l ?c ?k ?b; (case a => k_is); (case l => k_is); (case c => k_is); (case k => k_is); (case b => exact fun _ _ _ _ _ _ us hl => match us, hl with | [_, _], _ => rfl)
    have d__law_spoilt : Sh.DefAt (L2.KOf KX) mg "_law_spoilt" Sh.s__law_spoilt ["_law_source_here", "_law_signs_here", "_law_rules"] := by delta L2.KOf; refine' Sh.def_mk KX G ?a ?l ?c ?k ?b; (case a => k_is); (case l => k_is); (case c => k_is); (case k => k_is); (case b => exact fun _ _ _ _ _ _ us hl => match us, hl with | [_, _, _], _ => rfl)
    have T0 : Sh.Txt (L2.KOf KX) mg := ⟨b_len, b_range, b_min, b_max, b_any, b_isinstance, b_abs, b_int, b_str, b_tuple, b_list, b_repr, b_iter, b_super, g_LETTERS, g_LONGEST_TEXT, g_MOST_RULES, g_LONGEST_LEFT, d_is_listed, d_is_signs, d_check_signs, d_is_text, d_check_text, d_text_key, d_first_rules, d_longest_left, d_used_at_end, d_left_over, d_overlap_rows, d_both_results, d_quarrel_of, d_end_moves, d_kept_tail, d_is_rule, d_checked_rules, d__law_source, d__law_pick, d__law_signs, d__law_text, d__law_left, d__law_rule, d__law_drawn, d__law_number, d__law_spoilt⟩
    obtain ⟨CB, T⟩ : ∃ CB : Addr, Sh.TxtC (L2.KOf KX) mg CB := by
      delta L2.KOf at T0 ⊢; refine' Sh.all_cls KX G T0 ?a_Book ?pg_Book ?hd_Book ?po_Book ?sa_Book ?mk_Book ?kp_Book ?m_Book___init__ ?i_Book___init__ ?o_Book___init__ ?l_Book___init__ ?c_Book___init__ ?k_Book___init__ ?m_Book___call__ ?i_Book___call__ ?o_Book___call__ ?l_Book___call__ ?c_Book___call__ ?k_Book___call__ ?m_Book___eq__ ?i_Book___eq__ ?o_Book___eq__ ?l_Book___eq__ ?c_Book___eq__ ?k_Book___eq__ ?m_Book___len__ ?i_Book___len__ ?o_Book___len__ ?l_Book___len__ ?c_Book___len__ ?k_Book___len__ ?m_Book___getitem__ ?i_Book___getitem__ ?o_Book___getitem__ ?l_Book___getitem__ ?c_Book___getitem__ ?k_Book___getitem__ ?m_Book___iter__ ?i_Book___iter__ ?o_Book___iter__ ?l_Book___iter__ ?c_Book___iter__ ?k_Book___iter__ ?ia_Book ?in_Book ?it_Book ?im_Book ?tt_Book ?tf_Book ?n_Book_signs ?n_Book_rules ?n_Book__lefts ?n_Book__longest ?n_Book__quarrel ?n_Book__moves
      (case a_Book => k_is)
      (case pg_Book => k_is)
      (case hd_Book => k_is)
      (case po_Book => k_is)
      (case sa_Book => k_is)
      (case mk_Book => k_is)
      (case kp_Book => k_is)
      (case m_Book___init__ => k_is)
      (case i_Book___init__ => k_is)
      (case o_Book___init__ => k_is)
      (case l_Book___init__ => k_is)
      (case c_Book___init__ => k_is)
      (case k_Book___init__ => k_is)
      (case m_Book___call__ => k_is)
      (case i_Book___call__ => k_is)
      (case o_Book___call__ => k_is)
      (case l_Book___call__ => k_is)
      (case c_Book___call__ => k_is)
      (case k_Book___call__ => k_is)
      (case m_Book___eq__ => k_is)
      (case i_Book___eq__ => k_is)
      (case o_Book___eq__ => k_is)
      (case l_Book___eq__ => k_is)
      (case c_Book___eq__ => k_is)
      (case k_Book___eq__ => k_is)
      (case m_Book___len__ => k_is)
      (case i_Book___len__ => k_is)
      (case o_Book___len__ => k_is)
      (case l_Book___len__ => k_is)
      (case c_Book___len__ => k_is)
      (case k_Book___len__ => k_is)
      (case m_Book___getitem__ => k_is)
      (case i_Book___getitem__ => k_is)
      (case o_Book___getitem__ => k_is)
      (case l_Book___getitem__ => k_is)
      (case c_Book___getitem__ => k_is)
      (case k_Book___getitem__ => k_is)
      (case m_Book___iter__ => k_is)
      (case i_Book___iter__ => k_is)
      (case o_Book___iter__ => k_is)
      (case l_Book___iter__ => k_is)
      (case c_Book___iter__ => k_is)
      (case k_Book___iter__ => k_is)
      (case ia_Book => k_is)
      (case in_Book => k_is)
      (case it_Book => k_is)
      (case im_Book => k_is)
      (case tt_Book => k_is)
      (case tf_Book => first | rfl | k_is)
      (case n_Book_signs => k_is)
      (case n_Book_rules => k_is)
      (case n_Book__lefts => k_is)
      (case n_Book__longest => k_is)
      (case n_Book__quarrel => k_is)
      (case n_Book__moves => k_is)
    obtain ⟨XR, FE, DI, XS, FT, DT, XT, SE, T⟩ : ∃ XR FE DI XS FT DT XT SE : Addr, Sh.TxtX (PySem.Challenge.rw_shrunkalike_k04_books_made).prog (L2.KOf KX) mg CB XR FE DI XS FT DT XT SE := by
      delta L2.KOf at T ⊢; refine' Sh.all_exc KX G T ?op ?a_BadRule ?xl_BadRule ?vb_BadRule ?sa_BadRule ?ga_BadRule ?gg_BadRule ?ic_BadRule ?ti_BadRule ?kc_BadRule ?ex_BadRule ?ty_BadRule ?hd_BadRule ?l_WrongItem ?c_WrongItem ?cl1_WrongItem ?cl2_WrongItem ?fv1_WrongItem ?fl_WrongItem ?cD_WrongItem ?top ?su_BadRule ?sp_BadRule ?ve_BadRule ?nf_BadRule_place ?a_BadSigns ?xl_BadSigns ?vb_BadSigns ?sa_BadSigns ?ga_BadSigns ?gg_BadSigns ?ic_BadSigns ?ti_BadSigns ?kc_BadSigns ?ex_BadSigns ?ty_BadSigns ?hd_BadSigns ?l_WrongThing ?c_WrongThing ?cl1_WrongThing ?cl2_WrongThing ?fv1_WrongThing ?fl_WrongThing ?cD_WrongThing ?su_BadSigns ?sp_BadSigns ?ve_BadSigns ?nf_BadSigns_thing ?a_BadText ?xl_BadText ?vb_BadText ?sa_BadText ?ga_BadText ?gg_BadText ?ic_BadText ?ti_BadText ?kc_BadText ?ex_BadText ?ty_BadText ?hd_BadText ?su_BadText ?sp_BadText ?ve_BadText ?nf_BadText_thing ?h_BadRule_BadRule ?h_BadSigns_BadSigns ?h_BadText_BadText ?cg_ ?ct_ ?co_BadRule ?cm_o_BadRule ?co_BadText ?cm_o_BadText ?ag_WrongItem ?hdb_WrongItem ?tyb_WrongItem ?ag_ShrunkError ?hdb_ShrunkError ?tyb_ShrunkError ?ag_WrongThing ?hdb_WrongThing ?tyb_WrongThing ?sb_BadRule_WrongItem ?sb_BadRule_ShrunkError ?sb_BadRule_WrongThing ?sl_WrongThing ?sb_BadText_WrongThing
      (case op => k_is)
      (case a_BadRule => k_is)
      (case xl_BadRule => k_is)
      (case vb_BadRule => first | rfl | decide +kernel)
      (case sa_BadRule => k_is)
      (case ga_BadRule => k_is)
      (case gg_BadRule => k_is)
      (case ic_BadRule => k_is)
      (case ti_BadRule => k_is)
      (case kc_BadRule => k_is)
      (case ex_BadRule => k_is)
      (case ty_BadRule => k_is)
      (case hd_BadRule => k_is)
      (case l_WrongItem => k_is)
      (case c_WrongItem => k_is)
      (case cl1_WrongItem => k_is)
      (case cl2_WrongItem => k_is)
      (case fv1_WrongItem => rfl)
      (case fl_WrongItem => first | rfl | decide +kernel)
      (case cD_WrongItem => k_is)
      (case top => first | rfl | decide +kernel)
      (case su_BadRule => k_is)
      (case sp_BadRule => ks_is)
      (case ve_BadRule => k_is)
      (case nf_BadRule_place => k_is)
      (case a_BadSigns => k_is)
      (case xl_BadSigns => k_is)
      (case vb_BadSigns => first | rfl | decide +kernel)
      (case sa_BadSigns => k_is)
      (case ga_BadSigns => k_is)
      (case gg_BadSigns => k_is)
      (case ic_BadSigns => k_is)
      (case ti_BadSigns => k_is)
      (case kc_BadSigns => k_is)
      (case ex_BadSigns => k_is)
      (case ty_BadSigns => k_is)
      (case hd_BadSigns => k_is)
      (case l_WrongThing => k_is)
      (case c_WrongThing => k_is)
      (case cl1_WrongThing => k_is)
      (case cl2_WrongThing => k_is)
      (case fv1_WrongThing => rfl)
      (case fl_WrongThing => first | rfl | decide +kernel)
      (case cD_WrongThing => k_is)
      (case su_BadSigns => k_is)
      (case sp_BadSigns => ks_is)
      (case ve_BadSigns => k_is)
      (case nf_BadSigns_thing => k_is)
      (case a_BadText => k_is)
      (case xl_BadText => k_is)
      (case vb_BadText => first | rfl | decide +kernel)
      (case sa_BadText => k_is)
      (case ga_BadText => k_is)
      (case gg_BadText => k_is)
      (case ic_BadText => k_is)
      (case ti_BadText => k_is)
      (case kc_BadText => k_is)
      (case ex_BadText => k_is)
      (case ty_BadText => k_is)
      (case hd_BadText => k_is)
      (case su_BadText => k_is)
      (case sp_BadText => ks_is)
      (case ve_BadText => k_is)
      (case nf_BadText_thing => k_is)
      (case h_BadRule_BadRule => first | rfl | k_is)
      (case h_BadSigns_BadSigns => first | rfl | k_is)
      (case h_BadText_BadText => first | rfl | k_is)
      (case cg_ => k_is)
      (case ct_ => k_is)
      (case co_BadRule => k_is)
      (case cm_o_BadRule => k_is)
      (case co_BadText => k_is)
      (case cm_o_BadText => k_is)
      (case ag_WrongItem => k_is)
      (case hdb_WrongItem => k_is)
      (case tyb_WrongItem => k_is)
      (case ag_ShrunkError => k_is)
      (case hdb_ShrunkError => k_is)
      (case tyb_ShrunkError => k_is)
      (case ag_WrongThing => k_is)
      (case hdb_WrongThing => k_is)
      (case tyb_WrongThing => k_is)
      (case sb_BadRule_WrongItem => first | rfl | k_is)
      (case sb_BadRule_ShrunkError => first | rfl | k_is)
      (case sb_BadRule_WrongThing => first | rfl | k_is)
      (case sl_WrongThing => first | rfl | k_is)
      (case sb_BadText_WrongThing => first | rfl | k_is)
    obtain ⟨fd, Fn, bi⟩ : ∃ fd : FuncData, L2.Fun (L2.KOf KX) "law" "law" Sh.s_law fa fd ∧ ∀ (s : Shared) (u : Value), BindsTo s fd ⟨[u], []⟩ [("_law_script", u)] := by
      delta L2.KOf; refine' Sh.law_mk KX G hmg ?a ?l ?c ?k ?b; (case a => k_is); (case l => k_is); (case c => k_is); (case k => k_is); (case b => exact fun _ _ _ _ _ _ s u => .of_eq rfl)
    exact ⟨fd, Fn, bi, fun s1 a zs base H cdv hl hb hr hS => Sh.law_body T fa cdv callerA [] s1 H _ hr rfl a zs hS hb hl⟩
#print axioms PySem.Challenge.cw_shrunkalike_k04_books_made_holds
