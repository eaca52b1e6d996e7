import PyProof.Rows.All
import Wide.All
import OpenK.AllK
import Wide.FinOn
import HandS.ForMost
import HandS.Codes
import HandS.IsInst
import HandS.TupLe
import HandS.TupAny
import HandS.Deep
import HandS.Wide
import HandS.WideBits
import HandS.WideMore
import HandS.EndBits
import HandS.Star
import HandS.StrMore
import HandS.Walk
import PySem.Challenge.RW_shrunkalike_k68_whole_written_and_read
import PyProof.ReprRoads
import PyProof.Rows.Range3
import HandS.SortKw
import HandS.Keys
import HandS.Conv
import HandS.Property
import HandS.DictComp
import KE.KExcSuper
import HandS.ExcInit
import HandS.Nested
import HandS.WordsExc
import HandS.ExcField
import HandS.RaiseMore
import HandS.TryMany
import HandS.ExcIs
import KE.KExcIs
import HandS.More
import HandS.Dict
import PyProof.ReprLen
import PyProof.P3In
import KE.KRevSl
import HandS.Style
import HandS.Text
import PyProof.StrBlock2
set_option Elab.async false
set_option linter.all false
set_option maxRecDepth 100000
/-! My base over the hand layer: callables, heaps but for one object, the law's source of draws, the lacking rules -/
namespace Sh
open PySem PySem.Spec PyProof.Rows L2
open SX (S S_inj S_len S_cat)

/-- all that was tracked is as it was, but for the object at a -/
def But (a : Addr) (H H' : Hp) : Prop := ∀ b o, b ≠ a → H b = some o → H' b = some o
theorem But.refl (a : Addr) (H : Hp) : But a H H := fun _ _ _ h => h
theorem But.trans {a : Addr} {H H1 H2 : Hp} (x : But a H H1) (y : But a H1 H2) : But a H H2 := fun b o n h => y b o n (x b o n h)
theorem But.same {a : Addr} {H H1 : Hp} (x : Same H H1) : But a H H1 := fun b o _ h => x b o h
theorem same_new {H : Hp} {p : Addr} {o : HO} (h : H p = none) : Same H (upd H p o) := fun b u e => by
  rw [upd_ne (ne_of_none e h)]
  exact e
theorem but_upd {H : Hp} {p : Addr} {o : HO} : But p H (upd H p o) := fun b u n e => by
  rw [upd_ne n]
  exact e
/-- a fresh object may change -/
theorem same_mut {H H1 : Hp} {p : Addr} {o : HO} (s : Same H H1) (h : H p = none) : Same H (upd H1 p o) := fun b u e => by
  rw [upd_ne (ne_of_none e h)]
  exact s b u e
theorem but_mut {a : Addr} {H H1 : Hp} {p : Addr} {o : HO} (s : But a H H1) (h : H p = none) : But a H (upd H1 p o) := fun b u n e => by
  rw [upd_ne (ne_of_none e h)]
  exact s b u n e
theorem But.none_of {a : Addr} {H H1 : Hp} (s : But a H H1) {p : Addr} (n : p ≠ a) (h : H1 p = none) : H p = none := by
  cases e : H p with
  | none => rfl
  | some o => rw [s p o n e] at h; cases h

/-- the law's source of draws: a list of three ints -/
def Src (H : Hp) (a : Addr) : Prop := ∃ d s c : Int, H a = some (.lst [.int d, .int s, .int c])

/-- a def that may be called by its name -/
structure Cal (P : Program) (w : World) (K : PySem.W.Frag) (mg : Str → Option Value) (base : Heap) (CX : CXT) (k : Nat) (x : Str) (sp : Sp) : Prop where
  ex : ∃ (f : Addr) (fd : FuncData) (ps : List Str), FnOk P w K mg base CX k f fd ps sp ∧ mg x = some (.ref f) ∧ PySem.W.keepIn K (.ref f) = true ∧ Binds K fd ps []
/-- a def of the text under its name, its parameters bound by place -/
structure DefAt (K : PySem.W.Frag) (mg : Str → Option Value) (x : Str) (st : Stmt) (ps : List Str) : Prop where
  ex : ∃ (f : Addr) (fd : FuncData), L2.Fun K x x st f fd ∧ mg x = some (.ref f) ∧ Binds K fd ps []
section
variable {P : Program} {w : World} {K : PySem.W.Frag} {mg : Str → Option Value} {base : Heap}
theorem Cal.mk0 {x : Str} {st : Stmt} {N ps : List Str} {k : Nat} {sp : Sp} (D : DefAt K mg x st ps) (S : FnScope N ps (defScope st)) (len : ∀ vs H Q E, sp vs H Q E → vs.length = ps.length)
    (hbody : ∀ (f : Addr) (cdv : Value) (A : Around) (outer : List Env) (s : Shared) (H : Hp) (vs : List V) (Q : VK) (E : XK), Room k (A.deeper (envOfC x (defScope st) s.heap.objs.size f cdv)) → sp vs H Q E →
      ∃ t, PSs (cxOf CX0 P w K mg base N x (defScope st) f cdv A outer s H E).nox (defBody st) t ∧ t { nx := fun _ H' => Q .non H', rt := Q } (start N vs) H) : Cal P w K mg base CX0 (k + 1) x sp := by
  obtain ⟨f, fd, F, m, b⟩ := D.ex
  exact ⟨f, fd, ps, F.ok S len (hbody f), m, F.kp, b⟩
end
section
variable {X : Cx} {k j : Nat} {x : Str} {sp : Sp} {p pos : Pos} {e : Expr} {es : List Expr} {t : TA}
theorem pe_c (c : Cal X.prog X.w X.K X.mg X.base CX0 k x sp) (hr : Room j X.A) (hk : k ≤ j) (hg : Gl X x) (ha : PA X (e :: es) t)
    (hdb : (x == ("__debug__" : Str)) = false := by decide) (he : starEach (e :: es) X.env = (false, eval e X.env) :: starEach es X.env := by rfl) (hpl : (backTo pos (starEach es X.env)).any (·.1) = false := by rfl) :
    PE X (.Call (.Name x p) (e :: es) [] pos) (tCall sp [] E0 t) := by
  obtain ⟨f, fd, ps, F, hm, kp, b⟩ := c.ex
  exact pe_call F (hr.mono hk) hg hm kp b .nil pass0 ha hdb he hpl
end

/-! ### walks by what has been taken -/
section
variable {J : It} {G : Hp → Prop} {Y : Nat → Hp → V → Hp → Prop} {α : Type}
theorem take_succ_of {l : List α} {i : Nat} {a : α} (h : l[i]? = some a) : l.take (i + 1) = l.take i ++ [a] ∧ l = l.take i ++ a :: l.drop (i + 1) := by
  obtain ⟨hi, rfl⟩ := List.getElem?_eq_some_iff.mp h
  refine ⟨?_, ?_⟩
  · rw [List.take_succ, h]; rfl
  · rw [← List.drop_eq_getElem_cons hi, List.take_append_drop]
/-- a for over l: Pv by the part that was taken -/
theorem for_pre {l : List α} (w : Walk J l.length G Y) (Rel : α → V → Hp → Prop) (hY : ∀ i H x H', i < l.length → G H → Y i H x H' → H' = H ∧ ∃ a, l[i]? = some a ∧ Rel a x H) {g : TG} {tb : TS} {D : Ends} {σ : L2.St} {H : Hp}
    (Pv : List α → L2.St → Hp → Prop) (h0 : Pv [] σ H) (hG : ∀ pre σ H, Pv pre σ H → G H)
    (hs : ∀ pre a post x σ H, l = pre ++ a :: post → Rel a x H → Pv pre σ H → g x σ H fun σ2 H2 => tb { D with nx := Pv (pre ++ [a]), ct := Pv (pre ++ [a]), bk := D.nx } σ2 H2) (hd : ∀ σ H, Pv l σ H → D.nx σ H) :
    ∃ W : Nat → Nat → L2.St → Hp → Prop, (∃ m, W 0 m σ H) ∧ ∀ i m σ H, W i m σ H →
      (J.stop i H ∧ D.nx σ H) ∨ (J.go i H ∧ ∃ N : L2.St → Hp → Prop, (∀ σ' H', N σ' H' → ∃ m', m' < m ∧ W (i + 1) m' σ' H') ∧ ∀ x H', J.yld i H x H' → g x σ H' fun σ2 H2 => tb { D with nx := N, ct := N, bk := D.nx } σ2 H2) := by
  refine for_it w (fun i σ H => Pv (l.take i) σ H) (by simpa using h0) (fun i σ H _ p => hG _ σ H p) (fun i x σ H H' hi p y => ?_) (fun σ H p => hd σ H (by simpa using p))
  obtain ⟨rfl, a, ha, r⟩ := hY i H x H' hi (hG _ _ _ p) y
  obtain ⟨e1, e2⟩ := take_succ_of ha
  have q := hs _ a _ x σ H' e2 r p
  rw [← e1] at q
  exact q
/-- a comprehension over l -/
theorem lc_pre {l : List α} (w : Walk J l.length G Y) (Rel : α → V → Hp → Prop) (hY : ∀ i H x H', i < l.length → G H → Y i H x H' → H' = H ∧ ∃ a, l[i]? = some a ∧ Rel a x H) {g : TG} {tt : TT} {te : TE} {vs : List Nat} {σ : L2.St} {H1 : Hp} {D : Addr} {Qd : Hp → Prop}
    (Pv : List α → Hp → Prop) (h0 : Pv [] (upd H1 D (.lst []))) (hG : ∀ pre H, Pv pre H → G H)
    (hs : ∀ pre a post x H, l = pre ++ a :: post → Rel a x H → Pv pre H → g x (wipe σ vs) H fun σ2 H2 => wipe σ2 vs = wipe σ vs ∧ tt σ2 H2 fun b H3 =>
      if b = true then te σ2 H3 fun y H4 => ∃ acc, H4 D = some (.lst acc) ∧ acc.length < sizeLine ∧ Pv (pre ++ [a]) (upd H4 D (.lst (acc ++ [y]))) else Pv (pre ++ [a]) H3) (hd : ∀ H, Pv l H → Qd H) :
    ∃ W : Nat → Nat → Hp → Prop, (∃ m, W 0 m (upd H1 D (.lst []))) ∧ ∀ i m H, W i m H →
      (J.stop i H ∧ Qd H) ∨ (J.go i H ∧ ∃ Nx : Hp → Prop, (∀ H', Nx H' → ∃ m', m' < m ∧ W (i + 1) m' H') ∧ ∀ x H', J.yld i H x H' → g x (wipe σ vs) H' fun σ2 H2 => wipe σ2 vs = wipe σ vs ∧ tt σ2 H2 fun b H3 =>
        if b = true then te σ2 H3 fun y H4 => ∃ acc, H4 D = some (.lst acc) ∧ acc.length < sizeLine ∧ Nx (upd H4 D (.lst (acc ++ [y]))) else Nx H3) := by
  refine lc_it w (fun i H => Pv (l.take i) H) (by simpa using h0) (fun i H _ p => hG _ H p) (fun i x H H' hi p y => ?_) (fun H p => hd H (by simpa using p))
  obtain ⟨rfl, a, ha, r⟩ := hY i H x H' hi (hG _ _ p) y
  obtain ⟨e1, e2⟩ := take_succ_of ha
  have q := hs _ a _ x H' e2 r p
  rw [← e1] at q
  exact q
theorem yStr {l : List Nat} : ∀ (i : Nat) (H : Hp) (x : V) (H' : Hp), i < l.length → True → (H' = H ∧ ∃ c, (S l).cps[i]? = some c ∧ x = V.str ⟨#[c]⟩) → H' = H ∧ ∃ a, l[i]? = some a ∧ x = V.str (S [a]) := by
  rintro i H x H' _ _ ⟨rfl, c, hc, rfl⟩
  exact ⟨rfl, c, by simpa using hc, rfl⟩
theorem wStr {l : List Nat} : Walk (Its (S l)) l.length (fun _ => True) (fun i H v H' => H' = H ∧ ∃ c, (S l).cps[i]? = some c ∧ v = .str ⟨#[c]⟩) := by
  have h := walk_str (z := S l)
  simpa using h
end
/-! ### data of None, bools, ints, texts and tuples -/
mutual
inductive Tp (K : PySem.W.Frag) (H : Hp) : V → PyData → Prop
  | non : Tp K H .non .none
  | bl (b : Bool) : Tp K H (.bl b) (.bool b)
  | int (i : Int) : Tp K H (.int i) (.int i)
  | str (x : Str) : Tp K H (.str x) (.str x)
  | tup {a : Addr} {xs : List V} {ds : List PyData} : SqT K H a xs → TpAll K H xs ds → Tp K H (.ref a) (.tuple ds)
inductive TpAll (K : PySem.W.Frag) (H : Hp) : List V → List PyData → Prop
  | nil : TpAll K H [] []
  | cons {v : V} {vs : List V} {d : PyData} {ds : List PyData} : Tp K H v d → TpAll K H vs ds → TpAll K H (v :: vs) (d :: ds)
end
/-- what was a tuple is one -/
def Keep (H H' : Hp) : Prop := ∀ b xs, Rd H b (.tup xs) → Rd H' b (.tup xs)
theorem Keep.refl (H : Hp) : Keep H H := fun _ _ h => h
theorem Keep.trans {H H1 H2 : Hp} (a : Keep H H1) (b : Keep H1 H2) : Keep H H2 := fun x y h => b x y (a x y h)
theorem Keep.same {H H' : Hp} (s : Same H H') : Keep H H' := fun b xs h => by
  rcases h with h | ⟨o, h⟩
  · exact .inl (s _ _ h)
  · exact .inr ⟨o, s _ _ h⟩
theorem Keep.but {H H' : Hp} {a : Addr} (s : But a H H') (z : Src H a) : Keep H H' := fun b xs h => by
  obtain ⟨d, e, c, z⟩ := z
  rcases h with h | ⟨o, h⟩
  · exact .inl (s _ _ (ne_of h z (by intro q; cases q)) h)
  · exact .inr ⟨o, s _ _ (ne_of h z (by intro q; cases q)) h⟩
theorem Keep.butL {H H' : Hp} {a : Addr} {ys : List V} (s : But a H H') (z : H a = some (.lst ys)) : Keep H H' := fun b xs h => by
  rcases h with h | ⟨o, h⟩
  · exact .inl (s _ _ (ne_of h z (by intro q; cases q)) h)
  · exact .inr ⟨o, s _ _ (ne_of h z (by intro q; cases q)) h⟩
theorem Keep.seq {K : PySem.W.Frag} {H H' : Hp} {a : Addr} {xs : List V} (k : Keep H H') (h : SqT K H a xs) : SqT K H' a xs := by
  rcases h with h | h
  · exact .inl (k _ _ h)
  · exact .inr h
mutual
theorem Tp.keep {K : PySem.W.Frag} {H H' : Hp} (k : Keep H H') : ∀ {v : V} {d : PyData}, Tp K H v d → Tp K H' v d
  | _, _, .non => .non
  | _, _, .bl b => .bl b
  | _, _, .int i => .int i
  | _, _, .str x => .str x
  | _, _, .tup h t => .tup (k.seq h) (TpAll.keep k t)
theorem TpAll.keep {K : PySem.W.Frag} {H H' : Hp} (k : Keep H H') : ∀ {vs : List V} {ds : List PyData}, TpAll K H vs ds → TpAll K H' vs ds
  | _, _, .nil => .nil
  | _, _, .cons h t => .cons (Tp.keep k h) (TpAll.keep k t)
end
mutual
theorem Tp.dp {K : PySem.W.Frag} {H : Hp} : ∀ {v : V} {d : PyData}, Tp K H v d → Dp K H v d
  | _, _, .non => .non
  | _, _, .bl b => .bl b
  | _, _, .int i => .int i
  | _, _, .str x => .str x
  | _, _, .tup h t => .tup h (TpAll.dp t)
theorem TpAll.dp {K : PySem.W.Frag} {H : Hp} : ∀ {vs : List V} {ds : List PyData}, TpAll K H vs ds → DpAll K H vs ds
  | _, _, .nil => .nil
  | _, _, .cons h t => .cons (Tp.dp h) (TpAll.dp t)
end
section
variable {K : PySem.W.Frag} {H : Hp} {v : V} {d : PyData} {vs ws : List V} {ds es : List PyData}
theorem Tp.inv (h : Tp K H v (.tuple ds)) : ∃ a xs, v = .ref a ∧ SqT K H a xs ∧ TpAll K H xs ds := by
  cases h with
  | tup h t => exact ⟨_, _, rfl, h, t⟩
theorem TpAll.len : ∀ {vs : List V} {ds : List PyData}, TpAll K H vs ds → vs.length = ds.length
  | _, _, .nil => rfl
  | _, _, .cons _ t => congrArg (· + 1) (TpAll.len t)
theorem TpAll.get : ∀ {vs : List V} {ds : List PyData}, TpAll K H vs ds → ∀ {i : Nat} {d : PyData}, ds[i]? = some d → ∃ v, vs[i]? = some v ∧ Tp K H v d
  | _, _, .nil, _, _, e => by simp at e
  | _, _, .cons h _, 0, _, e => by simp at e; subst e; exact ⟨_, rfl, h⟩
  | _, _, .cons _ t, i + 1, d, e => by
    obtain ⟨v, h1, h2⟩ := TpAll.get t (i := i) (d := d) (by simpa using e)
    exact ⟨v, by simpa using h1, h2⟩
theorem TpAll.getV : ∀ {vs : List V} {ds : List PyData}, TpAll K H vs ds → ∀ {i : Nat} {v : V}, vs[i]? = some v → ∃ d, ds[i]? = some d ∧ Tp K H v d
  | _, _, .nil, _, _, e => by simp at e
  | _, _, .cons h _, 0, _, e => by simp at e; subst e; exact ⟨_, rfl, h⟩
  | _, _, .cons _ t, i + 1, v, e => by
    obtain ⟨d, h1, h2⟩ := TpAll.getV t (i := i) (v := v) (by simpa using e)
    exact ⟨d, by simpa using h1, h2⟩
theorem TpAll.app (h : TpAll K H vs ds) (k : TpAll K H ws es) : TpAll K H (vs ++ ws) (ds ++ es) := by
  induction h using TpAll.rec (motive_1 := fun _ _ _ => True) with
  | nil => exact k
  | cons a _ _ ih => exact .cons a ih
  | _ => trivial
end
end Sh
namespace Sh
open PySem PySem.Spec PyProof.Rows L2
theorem pe_gK {X : Cx} {x : Str} {pos : Pos} {v : V} (hg : Gl X x) (h : ∃ u, X.mg x = some u ∧ RelV v u) (hd : (x == ("__debug__" : Str)) = false := by decide) : PE X (.Name x pos) (tC v) := by
  obtain ⟨u, hu, r⟩ := h
  exact pe_glob hg hu r hd
end Sh
namespace Sh
open PySem PySem.Spec PyProof.Rows L2
/-- the ways through an assignment's expression meet in P -/
theorem st_asgJ {te : TE} {g : TG} {u : TS} {D : Ends} {σ : L2.St} {H : Hp} (P : V → Hp → Prop) (h : ∀ Q : VK, (∀ v H', P v H' → Q v H') → te σ H Q) (k : ∀ v H', P v H' → g v σ H' (u D)) : tSeq (tAsg te g) u D σ H := h _ k
/-- the ways through an if meet in P -/
theorem st_ifJ {c : TT} {t v u : TS} {D : Ends} {σ : L2.St} {H : Hp} (P : L2.St → Hp → Prop) (h : ∀ N : L2.St → Hp → Prop, (∀ σ' H', P σ' H' → N σ' H') → tIfS c t v { D with nx := N } σ H) (k : ∀ σ' H', P σ' H' → u D σ' H') : tSeq (tIfS c t v) u D σ H := h _ k
/-- any statement's ways meet in P -/
theorem st_J {t u : TS} {D : Ends} {σ : L2.St} {H : Hp} (P : L2.St → Hp → Prop) (h : ∀ N : L2.St → Hp → Prop, (∀ σ' H', P σ' H' → N σ' H') → t { D with nx := N } σ H) (k : ∀ σ' H', P σ' H' → u D σ' H') : tSeq t u D σ H := h _ k
/-- the ways through an expression meet in P -/
theorem ev_J {te : TE} {σ : L2.St} {H : Hp} {Q : VK} (P : V → Hp → Prop) (h : ∀ Q : VK, (∀ v H', P v H' → Q v H') → te σ H Q) (k : ∀ v H', P v H' → Q v H') : te σ H Q := h _ k
theorem tt_J {te : TT} {σ : L2.St} {H : Hp} {Q : Bool → Hp → Prop} (P : Bool → Hp → Prop) (h : ∀ Q : Bool → Hp → Prop, (∀ v H', P v H' → Q v H') → te σ H Q) (k : ∀ v H', P v H' → Q v H') : te σ H Q := h _ k
end Sh
namespace Sh
open PySem PySem.Spec PyProof.Rows L2
theorem atI_at {α : Type} {xs : List α} {i : Int} {v : α} (h0 : 0 ≤ i) (h : xs[i.toNat]? = some v) : atI xs i = some v := by
  have := atI_nat h
  rwa [Int.toNat_of_nonneg h0] at this
theorem rList {α : Type} {f : α → V} {l : List α} : ∀ (i : Nat) (H : Hp) (x : V) (H' : Hp), i < l.length → True → (YAt (l.map f) i H x H') → H' = H ∧ ∃ a, l[i]? = some a ∧ x = f a := by
  rintro i H x H' hi _ ⟨rfl, h⟩
  refine ⟨rfl, l[i], by simp [hi], ?_⟩
  rw [List.getElem?_map, List.getElem?_eq_getElem hi] at h
  exact (Option.some.inj h).symm
/-- a for over a list of l's values -/
theorem for_lst {α : Type} {f : α → V} {l : List α} {K : PySem.W.Frag} {a : Addr} {g : TG} {tb : TS} {D : Ends} {σ : L2.St} {H : Hp}
    (Pv : List α → L2.St → Hp → Prop) (h0 : Pv [] σ H) (hG : ∀ pre σ H, Pv pre σ H → SqL K H a (l.map f))
    (hs : ∀ pre x post σ H, l = pre ++ x :: post → Pv pre σ H → g (f x) σ H fun σ2 H2 => tb { D with nx := Pv (pre ++ [x]), ct := Pv (pre ++ [x]), bk := D.nx } σ2 H2) (hd : ∀ σ H, Pv l σ H → D.nx σ H) :
    ∃ W : Nat → Nat → L2.St → Hp → Prop, (∃ m, W 0 m σ H) ∧ ∀ i m σ H, W i m σ H →
      ((Itl K a).stop i H ∧ D.nx σ H) ∨ ((Itl K a).go i H ∧ ∃ N : L2.St → Hp → Prop, (∀ σ' H', N σ' H' → ∃ m', m' < m ∧ W (i + 1) m' σ' H') ∧ ∀ x H', (Itl K a).yld i H x H' → g x σ H' fun σ2 H2 => tb { D with nx := N, ct := N, bk := D.nx } σ2 H2) := by
  have w := walk_list (K := K) (a := a) (xs := l.map f)
  rw [List.length_map] at w
  refine for_pre w (fun x v _ => v = f x) (fun i H x H' hi _ y => rList i H x H' hi trivial y) Pv h0 hG (fun pre x post v σ H e r p => ?_) hd
  subst r
  exact hs pre x post σ H e p
/-- a for over a text's signs -/
theorem for_str {l : List Nat} {g : TG} {tb : TS} {D : Ends} {σ : L2.St} {H : Hp}
    (Pv : List Nat → L2.St → Hp → Prop) (h0 : Pv [] σ H)
    (hs : ∀ pre x post σ H, l = pre ++ x :: post → Pv pre σ H → g (.str (SX.S [x])) σ H fun σ2 H2 => tb { D with nx := Pv (pre ++ [x]), ct := Pv (pre ++ [x]), bk := D.nx } σ2 H2) (hd : ∀ σ H, Pv l σ H → D.nx σ H) :
    ∃ W : Nat → Nat → L2.St → Hp → Prop, (∃ m, W 0 m σ H) ∧ ∀ i m σ H, W i m σ H →
      ((Its (SX.S l)).stop i H ∧ D.nx σ H) ∨ ((Its (SX.S l)).go i H ∧ ∃ N : L2.St → Hp → Prop, (∀ σ' H', N σ' H' → ∃ m', m' < m ∧ W (i + 1) m' σ' H') ∧ ∀ x H', (Its (SX.S l)).yld i H x H' → g x σ H' fun σ2 H2 => tb { D with nx := N, ct := N, bk := D.nx } σ2 H2) := by
  refine for_pre wStr (fun x v _ => v = .str (SX.S [x])) (fun i H x H' hi _ y => yStr i H x H' hi trivial y) Pv h0 (fun _ _ _ _ => trivial) (fun pre x post v σ H e r p => ?_) hd
  subst r
  exact hs pre x post σ H e p
/-- tuples whose items are told by l -/
theorem for_tupR {α : Type} {Rel : Hp → V → α → Prop} {l : List α} {xs : List V} {K : PySem.W.Frag} {a : Addr} {g : TG} {tb : TS} {D : Ends} {σ : L2.St} {H : Hp} (hlen : xs.length = l.length)
    (Pv : List α → L2.St → Hp → Prop) (h0 : Pv [] σ H) (hG : ∀ pre σ H, Pv pre σ H → SqT K H a xs ∧ ∀ (i : Nat) x y, xs[i]? = some x → l[i]? = some y → Rel H x y)
    (hs : ∀ pre y post x σ H, l = pre ++ y :: post → xs[pre.length]? = some x → Rel H x y → Pv pre σ H → g x σ H fun σ2 H2 => tb { D with nx := Pv (pre ++ [y]), ct := Pv (pre ++ [y]), bk := D.nx } σ2 H2) (hd : ∀ σ H, Pv l σ H → D.nx σ H) :
    ∃ W : Nat → Nat → L2.St → Hp → Prop, (∃ m, W 0 m σ H) ∧ ∀ i m σ H, W i m σ H →
      ((Itt K a).stop i H ∧ D.nx σ H) ∨ ((Itt K a).go i H ∧ ∃ N : L2.St → Hp → Prop, (∀ σ' H', N σ' H' → ∃ m', m' < m ∧ W (i + 1) m' σ' H') ∧ ∀ x H', (Itt K a).yld i H x H' → g x σ H' fun σ2 H2 => tb { D with nx := N, ct := N, bk := D.nx } σ2 H2) := by
  have w := walk_tup (K := K) (a := a) (xs := xs)
  refine for_it w (fun i σ H => Pv (l.take i) σ H) (by simpa using h0) (fun i σ H _ p => (hG _ σ H p).1) (fun i x σ H H' hi p y => ?_) (fun σ H p => hd σ H (by simpa [hlen] using p))
  obtain ⟨rfl, hx⟩ := y
  have hi' : i < l.length := hlen ▸ hi
  have hl : l[i]? = some l[i] := by simp [hi']
  obtain ⟨e1, e2⟩ := take_succ_of hl
  have q := hs _ l[i] _ x σ H' e2 (by rw [List.length_take, Nat.min_eq_left (Nat.le_of_lt hi')]; exact hx) ((hG _ σ H' p).2 i x l[i] hx hl) p
  rw [← e1] at q
  exact q
end Sh
namespace Sh
open PySem PySem.Spec PyProof.Rows L2
theorem st_nx {D : Ends} {σ : L2.St} {H : Hp} (q : D.nx σ H) : tNext D σ H := q
end Sh
namespace Sh
open PySem PySem.Spec PyProof.Rows L2
theorem nx_mk {a c d : L2.St → Hp → Prop} {b : VK} {σ : L2.St} {H : Hp} (h : a σ H) : (Ends.mk a b c d).nx σ H := h
theorem rt_mk {a c d : L2.St → Hp → Prop} {b : VK} {v : V} {H : Hp} (h : b v H) : (Ends.mk a b c d).rt v H := h
theorem bk_mk {a c d : L2.St → Hp → Prop} {b : VK} {σ : L2.St} {H : Hp} (h : c σ H) : (Ends.mk a b c d).bk σ H := h
theorem ct_mk {a c d : L2.St → Hp → Prop} {b : VK} {σ : L2.St} {H : Hp} (h : d σ H) : (Ends.mk a b c d).ct σ H := h
end Sh
namespace Sh
open PySem PySem.Spec PyProof.Rows L2
theorem gn_mk {i : Nat} {v : V} {σ : L2.St} {H : Hp} {Q : L2.St → Hp → Prop} (h : Q (σ.set i (some v)) H) : gName i v σ H Q := h
theorem sz_S {t : List Nat} (h : t.length ≤ 1000000) : (SX.S t).length ≤ sizeLine := by
  rw [SX.S_len]
  exact Nat.le_trans h (by decide)
end Sh
namespace Sh
open PySem PySem.Spec PyProof.Rows L2
theorem ty_T {A B : Hp → Prop} {σ : L2.St} {H : Hp} (h : A H) : tYes σ H (fun b H3 => if b = true then A H3 else B H3) := h
end Sh
namespace Sh
open PySem PySem.Spec PyProof.Rows L2
/-- a comprehension over a tuple whose items are told by l -/
theorem lc_tupR {α : Type} {Rel : Hp → V → α → Prop} {l : List α} {xs : List V} {K : PySem.W.Frag} {a : Addr} {g : TG} {tt : TT} {te : TE} {vs : List Nat} {σ : L2.St} {H1 : Hp} {D : Addr} {Qd : Hp → Prop} (hlen : xs.length = l.length)
    (Pv : List α → Hp → Prop) (h0 : Pv [] (upd H1 D (.lst []))) (hG : ∀ pre H, Pv pre H → SqT K H a xs ∧ ∀ (i : Nat) x y, xs[i]? = some x → l[i]? = some y → Rel H x y)
    (hs : ∀ pre y post x H, l = pre ++ y :: post → xs[pre.length]? = some x → Rel H x y → Pv pre H → g x (wipe σ vs) H fun σ2 H2 => wipe σ2 vs = wipe σ vs ∧ tt σ2 H2 fun b H3 =>
      if b = true then te σ2 H3 fun y' H4 => ∃ acc, H4 D = some (.lst acc) ∧ acc.length < sizeLine ∧ Pv (pre ++ [y]) (upd H4 D (.lst (acc ++ [y']))) else Pv (pre ++ [y]) H3) (hd : ∀ H, Pv l H → Qd H) :
    ∃ W : Nat → Nat → Hp → Prop, (∃ m, W 0 m (upd H1 D (.lst []))) ∧ ∀ i m H, W i m H →
      ((Itt K a).stop i H ∧ Qd H) ∨ ((Itt K a).go i H ∧ ∃ Nx : Hp → Prop, (∀ H', Nx H' → ∃ m', m' < m ∧ W (i + 1) m' H') ∧ ∀ x H', (Itt K a).yld i H x H' → g x (wipe σ vs) H' fun σ2 H2 => wipe σ2 vs = wipe σ vs ∧ tt σ2 H2 fun b H3 =>
        if b = true then te σ2 H3 fun y H4 => ∃ acc, H4 D = some (.lst acc) ∧ acc.length < sizeLine ∧ Nx (upd H4 D (.lst (acc ++ [y]))) else Nx H3) := by
  have w := walk_tup (K := K) (a := a) (xs := xs)
  refine lc_it w (fun i H => Pv (l.take i) H) (by simpa using h0) (fun i H _ p => (hG _ H p).1) (fun i x H H' hi p y => ?_) (fun H p => hd H (by simpa [hlen] using p))
  obtain ⟨rfl, hx⟩ := y
  have hi' : i < l.length := hlen ▸ hi
  have hl : l[i]? = some l[i] := by simp [hi']
  obtain ⟨e1, e2⟩ := take_succ_of hl
  have q := hs _ l[i] _ x H' e2 (by rw [List.length_take, Nat.min_eq_left (Nat.le_of_lt hi')]; exact hx) ((hG _ H' p).2 i x l[i] hx hl) p
  rw [← e1] at q
  exact q
end Sh
namespace Sh
open PySem PySem.Spec PyProof.Rows L2
section
variable {X : Cx} {s : Shared} {H : Hp} {sc : Scope} {ce : Env} {fp : List Addr}
theorem ix_tupB : IxR (X.blk s H sc ce fp) (rIxT X.K) := ix_tup
theorem ix_listB : IxR (X.blk s H sc ce fp) (rIxL X.K) := ix_list
theorem sl_tupAB : SlR (X.blk s H sc ce fp) (rSlA X.K) := sl_tupA
theorem sl_listB : SlR (X.blk s H sc ce fp) (rSlL X.K) := sl_list
theorem call_len_seqB : CallR (X.blk s H sc ce fp) (.builtin "len") (fun xs H Q => ∃ p ys, xs = [.ref p] ∧ (SqL X.K H p ys ∨ SqT X.K H p ys) ∧ Q (.int ys.length) H) := call_len_seq
theorem call_list_ofB : CallR (X.blk s H sc ce fp) (.type "list") (fun xs H Q => ∃ p ys, xs = [.ref p] ∧ (SqL X.K H p ys ∨ SqT X.K H p ys) ∧ ∀ l, H l = none → Q (.ref l) (upd H l (.lst ys))) := call_list_of
end
end Sh
namespace Sh
open PySem PySem.Spec PyProof.Rows L2
/-- the values xs tell the list l -/
def Items {α : Type} (Rel : Hp → V → α → Prop) (H : Hp) (xs : List V) (l : List α) : Prop := xs.length = l.length ∧ ∀ (i : Nat) x y, xs[i]? = some x → l[i]? = some y → Rel H x y
section
variable {α : Type} {Rel : Hp → V → α → Prop} {H H' : Hp} {xs : List V} {l : List α}
theorem Items.nil : Items Rel H [] [] := ⟨rfl, fun i x y h _ => by simp at h⟩
theorem Items.mono (h : Items Rel H xs l) (m : ∀ x y, Rel H x y → Rel H' x y) : Items Rel H' xs l := ⟨h.1, fun i x y h1 h2 => m x y (h.2 i x y h1 h2)⟩
theorem Items.snoc (h : Items Rel H xs l) (m : ∀ x y, Rel H x y → Rel H' x y) {x : V} {y : α} (r : Rel H' x y) : Items Rel H' (xs ++ [x]) (l ++ [y]) := by
  refine ⟨by simp [h.1], fun i a b h1 h2 => ?_⟩
  rcases Nat.lt_or_ge i xs.length with q | q
  · rw [List.getElem?_append_left q] at h1
    rw [List.getElem?_append_left (h.1 ▸ q)] at h2
    exact m a b (h.2 i a b h1 h2)
  · rw [List.getElem?_append_right q] at h1
    rw [List.getElem?_append_right (h.1 ▸ q)] at h2
    have e : i - xs.length = i - l.length := by rw [h.1]
    rcases Nat.eq_zero_or_pos (i - xs.length) with z | z
    · rw [z] at h1
      rw [← e, z] at h2
      simp at h1 h2
      subst h1; subst h2
      exact r
    · rw [List.getElem?_eq_none (by simp; omega)] at h1
      cases h1
theorem Items.get (h : Items Rel H xs l) {i : Nat} {y : α} (hy : l[i]? = some y) : ∃ x, xs[i]? = some x ∧ Rel H x y := by
  obtain ⟨hi, _⟩ := List.getElem?_eq_some_iff.mp hy
  have hi2 : i < xs.length := by rw [h.1]; exact hi
  exact ⟨xs[i], List.getElem?_eq_getElem hi2, h.2 i _ y (List.getElem?_eq_getElem hi2) hy⟩
end
/-- a for over a list whose items are told by l -/
theorem for_lstR {α : Type} {Rel : Hp → V → α → Prop} {l : List α} {xs : List V} {K : PySem.W.Frag} {a : Addr} {g : TG} {tb : TS} {D : Ends} {σ : L2.St} {H : Hp} (hlen : xs.length = l.length)
    (Pv : List α → L2.St → Hp → Prop) (h0 : Pv [] σ H) (hG : ∀ pre σ H, Pv pre σ H → SqL K H a xs ∧ ∀ (i : Nat) x y, xs[i]? = some x → l[i]? = some y → Rel H x y)
    (hs : ∀ pre y post x σ H, l = pre ++ y :: post → xs[pre.length]? = some x → Rel H x y → Pv pre σ H → g x σ H fun σ2 H2 => tb { D with nx := Pv (pre ++ [y]), ct := Pv (pre ++ [y]), bk := D.nx } σ2 H2) (hd : ∀ σ H, Pv l σ H → D.nx σ H) :
    ∃ W : Nat → Nat → L2.St → Hp → Prop, (∃ m, W 0 m σ H) ∧ ∀ i m σ H, W i m σ H →
      ((Itl K a).stop i H ∧ D.nx σ H) ∨ ((Itl K a).go i H ∧ ∃ N : L2.St → Hp → Prop, (∀ σ' H', N σ' H' → ∃ m', m' < m ∧ W (i + 1) m' σ' H') ∧ ∀ x H', (Itl K a).yld i H x H' → g x σ H' fun σ2 H2 => tb { D with nx := N, ct := N, bk := D.nx } σ2 H2) := by
  have w := walk_list (K := K) (a := a) (xs := xs)
  refine for_it w (fun i σ H => Pv (l.take i) σ H) (by simpa using h0) (fun i σ H _ p => (hG _ σ H p).1) (fun i x σ H H' hi p y => ?_) (fun σ H p => hd σ H (by simpa [hlen] using p))
  obtain ⟨rfl, hx⟩ := y
  have hi' : i < l.length := hlen ▸ hi
  have hl : l[i]? = some l[i] := by simp [hi']
  obtain ⟨e1, e2⟩ := take_succ_of hl
  have q := hs _ l[i] _ x σ H' e2 (by rw [List.length_take, Nat.min_eq_left (Nat.le_of_lt hi')]; exact hx) ((hG _ σ H' p).2 i x l[i] hx hl) p
  rw [← e1] at q
  exact q
end Sh
namespace Sh
open PySem PySem.Spec PyProof.Rows L2
/-- an if whose test is known -/
theorem st_ifK {c : TT} {t u v : TS} {D : Ends} {σ : L2.St} {H : Hp} (b : Bool) (h : ∀ Q : Bool → Hp → Prop, Q b H → c σ H Q) (k1 : b = true → t { D with nx := v D } σ H) (k2 : b = false → u { D with nx := v D } σ H) : tSeq (tIfS c t u) v D σ H := by
  refine h _ ?_
  cases b with
  | true => exact iteT (k1 rfl)
  | false => exact iteF (k2 rfl)
theorem if_K {c : TT} {t u : TS} {D : Ends} {σ : L2.St} {H : Hp} (b : Bool) (h : ∀ Q : Bool → Hp → Prop, Q b H → c σ H Q) (k1 : b = true → t D σ H) (k2 : b = false → u D σ H) : tIfS c t u D σ H := by
  refine h _ ?_
  cases b with
  | true => exact iteT (k1 rfl)
  | false => exact iteF (k2 rfl)
/-- .. which may lay new objects -/
theorem if_KH {c : TT} {t u : TS} {D : Ends} {σ : L2.St} {H : Hp} (b : Bool) (P : Hp → Prop) (h : ∀ Q : Bool → Hp → Prop, (∀ H', P H' → Q b H') → c σ H Q) (k1 : b = true → ∀ H', P H' → t D σ H') (k2 : b = false → ∀ H', P H' → u D σ H') : tIfS c t u D σ H := by
  refine h _ fun H' p => ?_
  cases b with
  | true => exact iteT (k1 rfl H' p)
  | false => exact iteF (k2 rfl H' p)
theorem st_ifKH {c : TT} {t u v : TS} {D : Ends} {σ : L2.St} {H : Hp} (b : Bool) (P : Hp → Prop) (h : ∀ Q : Bool → Hp → Prop, (∀ H', P H' → Q b H') → c σ H Q) (k1 : b = true → ∀ H', P H' → t { D with nx := v D } σ H') (k2 : b = false → ∀ H', P H' → u { D with nx := v D } σ H') : tSeq (tIfS c t u) v D σ H := by
  refine h _ fun H' p => ?_
  cases b with
  | true => exact iteT (k1 rfl H' p)
  | false => exact iteF (k2 rfl H' p)
theorem q_of {b c : Bool} {Q : Bool → Hp → Prop} {H : Hp} (h : Q b H) (e : c = b) : Q c H := e ▸ h
end Sh
set_option Elab.async false
set_option linter.all false
set_option maxRecDepth 100000
namespace Sh
open PySem PySem.Spec PyProof.Rows L2
def top (i : Nat) : Stmt := PySem.Challenge.pw_shrunkalike_k68_whole_written_and_read.main.body.getD i (.Pass ⟨0, 0, 0, 0⟩)
abbrev s_WrongThing___init__ : Stmt := inClass (top 2) 0
abbrev s_WrongItem___init__ : Stmt := inClass (top 3) 0
abbrev s_TooMany___init__ : Stmt := inClass (top 7) 0
abbrev s_is_listed : Stmt := top 11
abbrev s_is_signs : Stmt := top 12
abbrev s_check_signs : Stmt := top 13
abbrev s_split_up : Stmt := top 20
abbrev s_folded : Stmt := top 21
abbrev s_tree_from : Stmt := top 22
abbrev s_depth_of : Stmt := top 23
abbrev s_parse : Stmt := top 24
abbrev s_checked_tree : Stmt := top 25
abbrev s_rank_of : Stmt := top 26
abbrev s_wrapped : Stmt := top 27
abbrev s_written : Stmt := top 28
abbrev s_write : Stmt := top 29
abbrev s__law_source : Stmt := top 31
abbrev s__law_pick : Stmt := top 32
abbrev s__law_signs : Stmt := top 33
abbrev s__law_tree : Stmt := top 34
abbrev s__law_written : Stmt := top 35
abbrev s__law_first_bad : Stmt := top 36
abbrev s__law_idle : Stmt := top 37
abbrev s__law_tall : Stmt := top 38
abbrev s__law_without : Stmt := top 39
abbrev s__law_refused : Stmt := top 40
abbrev s_law : Stmt := top 41
theorem sc_is_listed : FnScope ["thing"] ["thing"] (defScope s_is_listed) := ⟨rfl, rfl, rfl, by decide +kernel, rfl, by decide +kernel, by decide +kernel⟩
theorem sc_is_signs : FnScope ["thing", "k"] ["thing"] (defScope s_is_signs) := ⟨rfl, rfl, rfl, by decide +kernel, rfl, by decide +kernel, by decide +kernel⟩
theorem sc_check_signs : FnScope ["thing"] ["thing"] (defScope s_check_signs) := ⟨rfl, rfl, rfl, by decide +kernel, rfl, by decide +kernel, by decide +kernel⟩
theorem sc_split_up : FnScope ["signs", "text", "words", "opened", "wanting", "k", "letter", "double"] ["signs", "text"] (defScope s_split_up) := ⟨rfl, rfl, rfl, by decide +kernel, rfl, by decide +kernel, by decide +kernel⟩
theorem sc_folded : FnScope ["trees", "operators", "rank", "word", "last"] ["trees", "operators", "rank"] (defScope s_folded) := ⟨rfl, rfl, rfl, by decide +kernel, rfl, by decide +kernel, by decide +kernel⟩
theorem sc_tree_from : FnScope ["signs", "words", "trees", "operators", "opened", "most", "word"] ["signs", "words"] (defScope s_tree_from) := ⟨rfl, rfl, rfl, by decide +kernel, rfl, by decide +kernel, by decide +kernel⟩
theorem sc_depth_of : FnScope ["tree", "level", "depth", "one", "part"] ["tree"] (defScope s_depth_of) := ⟨rfl, rfl, rfl, by decide +kernel, rfl, by decide +kernel, by decide +kernel⟩
theorem sc_parse : FnScope ["signs", "text", "tree", "most"] ["signs", "text"] (defScope s_parse) := ⟨rfl, rfl, rfl, by decide +kernel, rfl, by decide +kernel, by decide +kernel⟩
theorem sc_checked_tree : FnScope ["signs", "thing", "left", "word"] ["signs", "thing", "left"] (defScope s_checked_tree) := ⟨rfl, rfl, rfl, by decide +kernel, rfl, by decide +kernel, by decide +kernel⟩
theorem sc_rank_of : FnScope ["tree"] ["tree"] (defScope s_rank_of) := ⟨rfl, rfl, rfl, by decide +kernel, rfl, by decide +kernel, by decide +kernel⟩
theorem sc_wrapped : FnScope ["tree", "rank", "text"] ["tree", "rank"] (defScope s_wrapped) := ⟨rfl, rfl, rfl, by decide +kernel, rfl, by decide +kernel, by decide +kernel⟩
theorem sc_written : FnScope ["tree", "word", "rank"] ["tree"] (defScope s_written) := ⟨rfl, rfl, rfl, by decide +kernel, rfl, by decide +kernel, by decide +kernel⟩
theorem sc_write : FnScope ["signs", "tree"] ["signs", "tree"] (defScope s_write) := ⟨rfl, rfl, rfl, by decide +kernel, rfl, by decide +kernel, by decide +kernel⟩
theorem sc__law_source : FnScope ["_law_script", "_law_place", "_law_cell", "_law_seed", "_law_one", "_law_number"] ["_law_script", "_law_place"] (defScope s__law_source) := ⟨rfl, rfl, rfl, by decide +kernel, rfl, by decide +kernel, by decide +kernel⟩
theorem sc__law_pick : FnScope ["_law_source_here", "_law_many", "_law_digit", "_law_mixed"] ["_law_source_here", "_law_many"] (defScope s__law_pick) := ⟨rfl, rfl, rfl, by decide +kernel, rfl, by decide +kernel, by decide +kernel⟩
theorem sc__law_signs : FnScope ["_law_source_here", "_law_menu"] ["_law_source_here"] (defScope s__law_signs) := ⟨rfl, rfl, rfl, by decide +kernel, rfl, by decide +kernel, by decide +kernel⟩
theorem sc__law_tree : FnScope ["_law_source_here", "_law_signs_here", "_law_depth", "_law_way", "_law_atoms", "_law_word"] ["_law_source_here", "_law_signs_here", "_law_depth"] (defScope s__law_tree) := ⟨rfl, rfl, rfl, by decide +kernel, rfl, by decide +kernel, by decide +kernel⟩
theorem sc__law_written : FnScope ["_law_tree_here", "_law_word", "_law_ranks", "_law_rank", "_law_parts", "_law_told", "_law_k", "_law_text", "_law_near", "_law_part"] ["_law_tree_here"] (defScope s__law_written) := ⟨rfl, rfl, rfl, by decide +kernel, rfl, by decide +kernel, by decide +kernel⟩
theorem sc__law_first_bad : FnScope ["_law_signs_here", "_law_text", "_law_state", "_law_opened", "_law_k", "_law_letter"] ["_law_signs_here", "_law_text"] (defScope s__law_first_bad) := ⟨rfl, rfl, rfl, by decide +kernel, rfl, by decide +kernel, by decide +kernel⟩
theorem sc__law_idle : FnScope ["_law_source_here", "_law_tree_here", "_law_word", "_law_text", "_law_parts", "_law_part"] ["_law_source_here", "_law_tree_here"] (defScope s__law_idle) := ⟨rfl, rfl, rfl, by decide +kernel, rfl, by decide +kernel, by decide +kernel⟩
theorem sc__law_tall : FnScope ["_law_source_here", "_law_signs_here", "_law_depth", "_law_tree_here", "_law_k", "_law_word", "_law_atom"] ["_law_source_here", "_law_signs_here", "_law_depth"] (defScope s__law_tall) := ⟨rfl, rfl, rfl, by decide +kernel, rfl, by decide +kernel, by decide +kernel⟩
theorem sc__law_without : FnScope ["_law_text", "_law_at", "_law_opened", "_law_k"] ["_law_text", "_law_at"] (defScope s__law_without) := ⟨rfl, rfl, rfl, by decide +kernel, rfl, by decide +kernel, by decide +kernel⟩
theorem sc__law_refused : FnScope ["_law_signs_here", "_law_tree_here", "raised"] ["_law_signs_here", "_law_tree_here"] (defScope s__law_refused) := ⟨rfl, rfl, rfl, by decide +kernel, rfl, by decide +kernel, by decide +kernel⟩
theorem sc_law : FnScope ["_law_script", "_law_source_here", "_law_signs_here", "_law_tree_here", "_law_due", "_law_listed", "_law_told", "_law_idle_here", "_law_text", "_law_pairs", "_law_less", "_law_depth", "_law_tall_here", "raised", "_law_odd", "_law_lost", "_law_k"] ["_law_script"] (defScope s_law) := ⟨rfl, rfl, rfl, by decide +kernel, rfl, by decide +kernel, by decide +kernel⟩
structure Txt (K : PySem.W.Frag) (mg : Str → Option Value) : Prop where
  b_len : mg "len" = none
  b_range : mg "range" = none
  b_max : mg "max" = none
  b_isinstance : mg "isinstance" = none
  b_abs : mg "abs" = none
  b_int : mg "int" = none
  b_str : mg "str" = none
  b_tuple : mg "tuple" = none
  b_list : mg "list" = none
  b_repr : mg "repr" = none
  b_super : mg "super" = none
  g_LETTERS : ∃ u, mg "LETTERS" = some u ∧ RelV (.str "abcdefghijklmnopqrstuvwxyz") u
  g_MOST_LONG : ∃ u, mg "MOST_LONG" = some u ∧ RelV (.int 400) u
  g_MOST_DEEP : ∃ u, mg "MOST_DEEP" = some u ∧ RelV (.int 20) u
  g_MOST_OPEN : ∃ u, mg "MOST_OPEN" = some u ∧ RelV (.int 20) u
  d_is_listed : DefAt K mg "is_listed" s_is_listed ["thing"]
  d_is_signs : DefAt K mg "is_signs" s_is_signs ["thing"]
  d_check_signs : DefAt K mg "check_signs" s_check_signs ["thing"]
  d_split_up : DefAt K mg "split_up" s_split_up ["signs", "text"]
  d_folded : DefAt K mg "folded" s_folded ["trees", "operators", "rank"]
  d_tree_from : DefAt K mg "tree_from" s_tree_from ["signs", "words"]
  d_depth_of : DefAt K mg "depth_of" s_depth_of ["tree"]
  d_parse : DefAt K mg "parse" s_parse ["signs", "text"]
  d_checked_tree : DefAt K mg "checked_tree" s_checked_tree ["signs", "thing", "left"]
  d_rank_of : DefAt K mg "rank_of" s_rank_of ["tree"]
  d_wrapped : DefAt K mg "wrapped" s_wrapped ["tree", "rank"]
  d_written : DefAt K mg "written" s_written ["tree"]
  d_write : DefAt K mg "write" s_write ["signs", "tree"]
  d__law_source : DefAt K mg "_law_source" s__law_source ["_law_script", "_law_place"]
  d__law_pick : DefAt K mg "_law_pick" s__law_pick ["_law_source_here", "_law_many"]
  d__law_signs : DefAt K mg "_law_signs" s__law_signs ["_law_source_here"]
  d__law_tree : DefAt K mg "_law_tree" s__law_tree ["_law_source_here", "_law_signs_here", "_law_depth"]
  d__law_written : DefAt K mg "_law_written" s__law_written ["_law_tree_here"]
  d__law_first_bad : DefAt K mg "_law_first_bad" s__law_first_bad ["_law_signs_here", "_law_text"]
  d__law_idle : DefAt K mg "_law_idle" s__law_idle ["_law_source_here", "_law_tree_here"]
  d__law_tall : DefAt K mg "_law_tall" s__law_tall ["_law_source_here", "_law_signs_here", "_law_depth"]
  d__law_without : DefAt K mg "_law_without" s__law_without ["_law_text", "_law_at"]
  d__law_refused : DefAt K mg "_law_refused" s__law_refused ["_law_signs_here", "_law_tree_here"]
end Sh
set_option Elab.async false
set_option linter.all false
set_option maxRecDepth 100000
set_option maxHeartbeats 4000000
namespace Sh
open PySem PySem.Spec PyProof.Rows L2
open SX (S S_inj S_len S_cat)
local macro_rules | `(tactic| walk_at "nx") => `(tactic| repeat (with_reducible first | refine Sh.gn_mk ?_ | refine Sh.nx_mk ?_ | refine Sh.st_nx ?_ | refine Sh.rt_mk ?_ | refine Sh.ct_mk ?_ | refine Sh.bk_mk ?_))
local macro_rules | `(tactic| walk_at "sq") => `(tactic| first | exact SqL.of upd_same | exact SqT.of upd_same | exact SqL.of (by assumption) | exact SqT.of (by assumption) | assumption | exact Or.inl (SqL.of (by assumption)) | exact Or.inr (SqT.of (by assumption)) | exact Or.inl (by assumption) | exact Or.inr (by assumption))
local macro_rules | `(tactic| walk_at "hp") => `(tactic| first | exact upd_same | assumption)
local macro_rules | `(tactic| walk_at "sz") => `(tactic| first | exact Nat.le_of_ble_eq_true rfl | omega)
local macro_rules | `(tactic| walk_at "sd") => `(tactic| first | omega | exact rfl | assumption | (show (0 : Int) < _; omega) | exact And.intro (by omega) (by omega) | exact Or.inl (And.intro (by omega) (by omega)) | exact Or.inr (And.intro (by omega) (by omega)) | omega | exact Sh.sz_S (by omega) | decide)
local macro_rules | `(tactic| walk_at "rd1") => `(tactic| first
  | (with_reducible first | refine Sh.gn_mk ?_ | refine Sh.nx_mk ?_ | refine Sh.st_nx ?_ | refine Sh.rt_mk ?_ | refine Sh.ct_mk ?_ | refine Sh.bk_mk ?_)
  | refine Exists.intro (α := V) _ (And.intro rfl ?_)
  | refine Exists.intro (α := Bool) _ (And.intro rfl ?_)
  | refine Exists.intro (α := Int) _ (And.intro rfl ?_)
  | refine Exists.intro (α := PySem.Str) _ (And.intro rfl ?_)
  | refine Exists.intro (α := Int) _ (Exists.intro (α := Int) _ (And.intro rfl (And.intro rfl ?_)))
  | refine Exists.intro (α := PySem.Str) _ (Exists.intro (α := PySem.Str) _ (And.intro rfl (And.intro rfl ?_)))
  | refine Exists.intro (α := Int) _ (Exists.intro (α := Int) _ (And.intro rfl ?_))
  | refine Or.inl (Exists.intro (α := Int) _ (And.intro rfl ?_))
  | refine Exists.intro _ (Exists.intro _ (Exists.intro _ (Exists.intro _ (And.intro rfl (And.intro rfl (And.intro (by walk_at "sq") (And.intro rfl ?_)))))))
  | refine Exists.intro _ (Exists.intro _ (Exists.intro _ (Exists.intro _ (And.intro rfl (And.intro rfl (And.intro (by walk_at "hp") (And.intro rfl ?_)))))))
  | refine And.intro (by walk_at "sd") ?_
  )
local macro_rules | `(tactic| walk_at "rd") => `(tactic| repeat walk_at "rd1")
local macro_rules | `(tactic| walk_at "lk") => `(tactic| first | exact rfl | (rw [lookup_putF, if_pos rfl]) | (rw [lookup_putF, if_neg (by decide +kernel)]; walk_at "lk"))

section
variable {P : Program} {w : World} {K : PySem.W.Frag} {mg : Str → Option Value} {base : Heap}
/-- _law_pick(source, many): any number from 0 to many - 1; the source changes alone -/
def spPick : Sp := fun vs H Q _ => ∃ (a : Addr) (m : Int), vs = [.ref a, .int m] ∧ Src H a ∧ 0 < m ∧ m < 1000000 ∧ ∀ (r : Int) (H' : Hp), 0 ≤ r → r < m → Src H' a → But a H H' → Q (.int r) H'
theorem c__law_pick (T : Txt K mg) : Cal P w K mg base CX0 1 "_law_pick" spPick := by
  refine Cal.mk0 T.d__law_pick sc__law_pick (fun vs H Q E h => ?_) (fun f cdv A outer s H vs Q E hr h => ?_)
  · obtain ⟨a, m, rfl, _⟩ := h
    rfl
  · obtain ⟨a, m, rfl, ⟨d, sd, c, ha⟩, h0, h1, k⟩ := h
    refine ⟨_, (pss_cons (ps_if (pt_cmpR op_gt (pe_ix ix_list (pv 0) pe_int (fun _ _ => rfl)) pe_int (nomark _))
    (pss_cons (ps_set (i := 2) sc__law_pick.nd rfl (Or.inl rfl) (pe_op op_mod (pe_callTy call_int1 (by rfl) T.b_int (by decide +kernel) (pa_cons (pe_ix ix_list (pv 0) pe_int (fun _ _ => rfl)) pa_nil)) (pv 1)))
    (pss_cons (ps_asg (pe_op op_fdiv (pe_ix ix_list (pv 0) pe_int (fun _ _ => rfl)) (pv 1)) (pg_sub (pv 0) pe_int set_list))
    (pss_one (ps_ret (pv 2)))))
    pss_nil)
  (pss_cons (ps_asg (pe_op op_add (pe_ix ix_list (pv 0) pe_int (fun _ _ => rfl)) pe_int) (pg_sub (pv 0) pe_int set_list))
  (pss_cons (ps_set (i := 3) sc__law_pick.nd rfl (Or.inl rfl) (pe_op op_mod (pe_callTy call_int1 (by rfl) T.b_int (by decide +kernel) (pa_cons (pe_op op_mul (pe_op op_add (pe_ix ix_list (pv 0) pe_int (fun _ _ => rfl)) (pe_op op_mul pe_int (pe_ix ix_list (pv 0) pe_int (fun _ _ => rfl)))) pe_int) pa_nil)) pe_int))
  (pss_cons (ps_set (i := 3) sc__law_pick.nd rfl (Or.inl rfl) (pe_op op_mod (pe_callTy call_int1 (by rfl) T.b_int (by decide +kernel) (pa_cons (pe_op op_add (pe_op op_add (pe_op op_mul (pv 3) (pv 3)) (pe_op op_mul pe_int (pe_ix ix_list (pv 0) pe_int (fun _ _ => rfl)))) (pe_ix ix_list (pv 0) pe_int (fun _ _ => rfl))) pa_nil)) pe_int))
  (pss_cons (ps_set (i := 3) sc__law_pick.nd rfl (Or.inl rfl) (pe_op op_mod (pe_callTy call_int1 (by rfl) T.b_int (by decide +kernel) (pa_cons (pe_op op_add (pe_op op_mul (pv 3) pe_int) pe_int) pa_nil)) pe_int))
  (pss_cons (ps_set (i := 3) sc__law_pick.nd rfl (Or.inl rfl) (pe_op op_mod (pe_callTy call_int1 (by rfl) T.b_int (by decide +kernel) (pa_cons (pe_op op_add (pe_op op_mul (pv 3) (pv 3)) (pv 3)) pa_nil)) pe_int))
  (pss_one (ps_ret (pe_op op_mod (pe_callTy call_int1 (by rfl) T.b_int (by decide +kernel) (pa_cons (pe_op op_fdiv (pv 3) pe_int) pa_nil)) (pv 1)))))))))), ?_⟩
    walk_at "rd"
    refine ite2 (fun c0 => ?_) (fun c0 => ?_)
    · walk_at "rd"
      exact k _ _ (Int.emod_nonneg _ (by omega)) (Int.emod_lt_of_pos _ h0) ⟨_, _, _, upd_same⟩ but_upd
    · walk_at "rd"
      exact k _ _ (Int.emod_nonneg _ (by omega)) (Int.emod_lt_of_pos _ h0) ⟨_, _, _, upd_same⟩ but_upd
/-- _law_source(script, place): a new source -/
def spSource (K : PySem.W.Frag) : Sp := fun vs H Q _ => ∃ (a : Addr) (ns : List Int) (i : Int), vs = [.ref a, .int i] ∧ SqL K H a (ns.map V.int) ∧ (∀ z ∈ ns, Builtin.Int.intBits z ≤ 1048576) ∧ ns.length ≤ 63 ∧ 0 ≤ i ∧ i < 100 ∧
  ∀ (p : Addr) (H' : Hp), H p = none → Same H H' → Src H' p → Q (.ref p) H'
theorem cut_ints (ns : List Int) : ∃ ms : List Int, cutV (ns.map V.int) none (some 4) = ms.map V.int := ⟨_, by unfold cutV; rw [← List.map_drop, ← List.map_take]⟩
theorem c__law_source (T : Txt K mg) : Cal P w K mg base CX0 1 "_law_source" (spSource K) := by
  refine Cal.mk0 T.d__law_source sc__law_source (fun vs H Q E h => ?_) (fun f cdv A outer s H vs Q E hr h => ?_)
  · obtain ⟨a, ns, i, rfl, _⟩ := h
    rfl
  · obtain ⟨a, ns, i, rfl, hS, hb, hl, hi0, hi1, k⟩ := h
    obtain ⟨ms, hms⟩ := cut_ints ns
    refine ⟨_, (pss_cons (ps_set (i := 2) sc__law_source.nd rfl (Or.inl rfl) (pe_ifExp (pt_cmpR op_lt (pv 1) (pe_callB call_len_seq (by rfl) T.b_len (by decide +kernel) (pa_cons (pv 0) pa_nil)) (nomark _)) (pe_ix ix_list (pv 0) (pv 1) (fun _ _ => rfl)) (pe_op op_add (pe_op op_mul pe_int (pv 1)) pe_int)))
  (pss_cons (ps_set (i := 3) sc__law_source.nd rfl (Or.inl rfl) (pe_op op_add (pe_op op_mul pe_int (pv 1)) pe_int))
  (pss_cons (ps_for PassesOwn.never rfl (pi_list (pe_slice sl_list (pv 0) po_none (po_some pe_int))) (pg_name (i := 4) sc__law_source.nd rfl (Or.inl rfl))
    (pss_one (ps_set (i := 3) sc__law_source.nd rfl (Or.inl rfl) (pe_op op_mod (pe_callTy call_int1 (by rfl) T.b_int (by decide +kernel) (pa_cons (pe_op op_add (pe_op op_mul (pv 3) pe_int) (pe_op op_mod (pe_callTy call_int1 (by rfl) T.b_int (by decide +kernel) (pa_cons (pv 4) pa_nil)) pe_int)) pa_nil)) pe_int))))
  (pss_cons (ps_set (i := 3) sc__law_source.nd rfl (Or.inl rfl) (pe_op op_mod (pe_callTy call_int1 (by rfl) T.b_int (by decide +kernel) (pa_cons (pe_op op_add (pe_op op_mul (pv 3) pe_int) (pe_op op_mod (pe_callTy call_int1 (by rfl) T.b_int (by decide +kernel) (pa_cons (pv 2) pa_nil)) pe_int)) pa_nil)) pe_int))
  (pss_cons (ps_set (i := 5) sc__law_source.nd rfl (Or.inl rfl) (pe_callB call_abs (by rfl) T.b_abs (by decide +kernel) (pa_cons (pv 2) pa_nil)))
  (pss_cons (ps_if (pt_cmpR op_lt (pv 5) (pe_op op_pow pe_int pe_int) (nomark _))
    (pss_one (ps_ret (pe_lst (pa_cons pe_int (pa_cons (pv 3) (pa_cons pe_int pa_nil))))))
    pss_nil)
  (pss_cons (ps_if (pt_cmpR op_gt (pe_op op_shr (pv 5) pe_int) pe_int (nomark _))
    (pss_one (ps_set (i := 5) sc__law_source.nd rfl (Or.inl rfl) (pe_op op_sub (pv 5) (pe_op op_shlW (pe_op op_shr (pv 5) pe_int) pe_int))))
    pss_nil)
  (pss_one (ps_ret (pe_lst (pa_cons (pv 5) (pa_cons (pv 3) (pa_cons pe_int pa_nil))))))))))))), ?_⟩
    -- cell
    refine st_asgJ (fun v H' => H' = H ∧ ∃ z, v = V.int z ∧ Builtin.Int.intBits z ≤ 1048576) (fun Q' kQ => ?_) ?_
    · refine ⟨_, rfl, _, rfl, _, _, rfl, .inl hS, _, _, rfl, rfl, _, rfl, ?_⟩
      refine ite2 (fun c0 => ?_) (fun c0 => ?_)
      · have c1 : i < (ns.map V.int).length := of_decide_eq_true c0
        rw [List.length_map] at c1
        have c2 : i.toNat < ns.length := by omega
        refine ⟨_, rfl, _, rfl, _, _, _, .int ns[i.toNat], rfl, rfl, hS, ?_, kQ _ _ ⟨rfl, _, rfl, hb _ (List.getElem_mem c2)⟩⟩
        exact atI_at hi0 (by simp [c2])
      · walk_at "rd"
        refine kQ _ _ ⟨rfl, _, rfl, ?_⟩
        refine Nat.le_trans ((PySem.intBits_le_iff (m := 20)).mpr ?_) (by decide)
        show (7 * i + 5).natAbs < 2 ^ 20
        omega
    · rintro v H' ⟨rfl, cell, rfl, hcell⟩
      walk_at "rd"
      -- script[:4]
      refine ⟨_, _, rfl, hS, fun p hp => ?_⟩
      rw [hms]
      refine ⟨p, rfl, ⟨_, SqL.of upd_same⟩, for_lst (K := K) (a := p) (f := V.int) (l := ms) (fun pre σ H2 => ∃ (sd : Int) (v : Option V), σ = [some (.ref a), some (.int i), some (.int cell), some (.int sd), v, none] ∧ H2 = upd H' p (.lst (ms.map V.int)))
        ⟨_, _, rfl, rfl⟩ (fun pre σ H2 ⟨_, _, _, e⟩ => e ▸ SqL.of upd_same) ?_ ?_⟩
      · rintro pre x post σ H2 e ⟨sd, v, rfl, rfl⟩
        walk_at "rd"
        exact ⟨_, _, rfl, rfl⟩
      · rintro σ H2 ⟨sd, v, rfl, rfl⟩
        walk_at "rd"
        refine ite2 (fun c0 => ?_) (fun c0 => ?_)
        · walk_at "rd"
          refine ⟨by walk_at "sz", fun q hq => ?_⟩
          have s1 : Same H' (upd H' p (.lst (ms.map V.int))) := same_new hp
          exact k q _ (s1.free hq) (s1.trans (same_new hq)) ⟨_, _, _, upd_same⟩
        · walk_at "nx"
          refine st_ifJ (fun σ' H3 => H3 = upd H' p (.lst (ms.map V.int)) ∧ ∃ n sd v, σ' = [some (.ref a), some (.int i), some (.int cell), some (.int sd), v, some (.int n)]) (fun N kN => ?_) ?_
          · walk_at "rd"
            refine ite2 (fun c1 => ?_) (fun c1 => ?_)
            · walk_at "rd"
              have hn : Builtin.Int.intBits (if cell < 0 then -cell else cell) ≤ 1048576 := by
                split
                · exact PySem.intBits_neg_le hcell
                · exact hcell
              refine ⟨?_, ?_⟩
              · have h2 := PySem.intBits_le_of_natAbs (x := (if cell < 0 then -cell else cell) / 2 ^ Int.toNat 2500) (y := if cell < 0 then -cell else cell) (by first | exact Int.natAbs_ediv_le_natAbs _ _ | exact Int.natAbs_div_le_natAbs _ _) hn
                refine ⟨by decide, ?_⟩
                show _ + (2500 : Int) ≤ 134217728
                omega
              · walk_at "rd"
                exact kN _ _ ⟨rfl, _, _, _, rfl⟩
            · walk_at "rd"
              exact kN _ _ ⟨rfl, _, _, _, rfl⟩
          · rintro σ' H3 ⟨rfl, n, sd', v', rfl⟩
            walk_at "rd"
            refine ⟨by walk_at "sz", fun q hq => ?_⟩
            have s1 : Same H' (upd H' p (.lst (ms.map V.int))) := same_new hp
            exact k q _ (s1.free hq) (s1.trans (same_new hq)) ⟨_, _, _, upd_same⟩
end
end Sh
set_option Elab.async false
set_option linter.all false
namespace Sh
open PySem PySem.Spec PyProof.Rows L2
open SX (S S_inj S_len S_cat)
theorem cut_from {t : List Nat} {i : Int} (h : 0 ≤ i) : cutS (S t) (some i) none = S (t.drop i.toNat) := by
  rw [C8.cutS_slice]; exact SX.slice_from h
theorem cut_to {t : List Nat} {i : Int} (h : 0 ≤ i) : cutS (S t) none (some i) = S (t.take i.toNat) := by
  rw [C8.cutS_slice]; exact SX.slice_to h
theorem cut_mid {t : List Nat} {i j : Int} (h : 0 ≤ i) (k : 0 ≤ j) : cutS (S t) (some i) (some j) = S ((t.drop i.toNat).take (j.toNat - i.toNat)) := by
  unfold cutS
  have e : (S t).length = t.length := S_len t
  have h1 : HT.sIx t.length 0 (some i) = min i.toNat t.length := by
    show (if i < 0 then _ else min i.toNat t.length) = _
    rw [if_neg (by omega)]
  have h2 : HT.sIx t.length t.length (some j) = min j.toNat t.length := by
    show (if j < 0 then _ else min j.toNat t.length) = _
    rw [if_neg (by omega)]
  rw [e, h1, h2]
  show S ((t.drop (min i.toNat t.length)).take (min j.toNat t.length - min i.toNat t.length)) = _
  congr 1
  apply List.ext_getElem?
  intro n
  simp only [List.getElem?_take, List.getElem?_drop]
  by_cases hi : i.toNat ≤ t.length
  · rw [Nat.min_eq_left hi]
    by_cases hn : n < j.toNat - i.toNat
    · rw [if_pos hn]
      by_cases hn2 : n < min j.toNat t.length - i.toNat
      · rw [if_pos hn2]
      · rw [if_neg hn2, List.getElem?_eq_none (by omega)]
    · rw [if_neg hn, if_neg (by omega)]
  · have e1 : min i.toNat t.length = t.length := by omega
    rw [e1, List.getElem?_eq_none (l := t) (i := t.length + n) (by omega), List.getElem?_eq_none (l := t) (i := i.toNat + n) (by omega)]
    simp
theorem endswith_S (a b : List Nat) : Txt.endswith (S a) (S b) = b.isSuffixOf a := by
  unfold Txt.endswith
  rw [PySem.StrLaws.subAt_eq, S_len, S_len, Bool.eq_iff_iff, List.isSuffixOf_iff_suffix, List.suffix_iff_eq_drop]
  simp only [Bool.and_eq_true, decide_eq_true_eq, beq_iff_eq]
  constructor
  · rintro ⟨h1, h2⟩
    rw [List.take_of_length_le (by rw [List.length_drop]; omega)] at h2
    exact h2.symm
  · intro h
    have hl := congrArg List.length h
    rw [List.length_drop] at hl
    refine ⟨by omega, ?_⟩
    rw [List.take_of_length_le (by rw [List.length_drop]; omega)]
    exact h.symm
theorem startswith_S (a b : List Nat) : Txt.startswith (S a) (S b) = b.isPrefixOf a := by
  unfold Txt.startswith
  rw [PySem.StrLaws.subAt_eq, S_len, S_len, Bool.eq_iff_iff, List.isPrefixOf_iff_prefix, List.prefix_iff_eq_take]
  simp only [Bool.and_eq_true, decide_eq_true_eq, beq_iff_eq, List.drop_zero]
  constructor
  · rintro ⟨h1, h2⟩
    exact h2.symm
  · intro h
    have hl := congrArg List.length h
    rw [List.length_take] at hl
    exact ⟨by omega, h.symm⟩
theorem join_nil (l : List (List Nat)) : Txt.join (S []) (l.map S) = S l.flatten := by
  rw [SX.join_S]
  congr 1
  induction l with
  | nil => rfl
  | cons x l ih =>
    cases l with
    | nil => simp [TL.joinL]
    | cons y l =>
      rw [List.flatten_cons, ← ih]
      simp [TL.joinL]
theorem flat_one (l : List Nat) : (l.map fun c => [c]).flatten = l := by
  induction l with
  | nil => rfl
  | cons x l ih => rw [List.map_cons, List.flatten_cons, ih]; rfl
end Sh
set_option Elab.async false
set_option linter.all false
set_option maxRecDepth 100000
set_option maxHeartbeats 4000000
namespace Sh
open PySem PySem.Spec PyProof.Rows L2
open SX (S S_inj S_len S_cat)
local macro_rules | `(tactic| walk_at "nx") => `(tactic| repeat (with_reducible first | refine Sh.gn_mk ?_ | refine Sh.nx_mk ?_ | refine Sh.st_nx ?_ | refine Sh.rt_mk ?_ | refine Sh.ct_mk ?_ | refine Sh.bk_mk ?_))
local macro_rules | `(tactic| walk_at "sq") => `(tactic| first | exact SqL.of upd_same | exact SqT.of upd_same | exact SqL.of (by assumption) | exact SqT.of (by assumption) | assumption | exact Or.inl (SqL.of (by assumption)) | exact Or.inr (SqT.of (by assumption)) | exact Or.inl (by assumption) | exact Or.inr (by assumption))
local macro_rules | `(tactic| walk_at "hp") => `(tactic| first | exact upd_same | assumption)
local macro_rules | `(tactic| walk_at "sz") => `(tactic| first | exact Nat.le_of_ble_eq_true rfl | omega)
local macro_rules | `(tactic| walk_at "sd") => `(tactic| first | omega | exact rfl | assumption | (show (0 : Int) < _; omega) | exact And.intro (by omega) (by omega) | exact Or.inl (And.intro (by omega) (by omega)) | exact Or.inr (And.intro (by omega) (by omega)) | omega | exact Sh.sz_S (by omega) | decide)
local macro_rules | `(tactic| walk_at "rd1") => `(tactic| first
  | (with_reducible first | refine Sh.gn_mk ?_ | refine Sh.nx_mk ?_ | refine Sh.st_nx ?_ | refine Sh.rt_mk ?_ | refine Sh.ct_mk ?_ | refine Sh.bk_mk ?_)
  | refine Exists.intro (α := V) _ (And.intro rfl ?_)
  | refine Exists.intro (α := Bool) _ (And.intro rfl ?_)
  | refine Exists.intro (α := Int) _ (And.intro rfl ?_)
  | refine Exists.intro (α := PySem.Str) _ (And.intro rfl ?_)
  | refine Exists.intro (α := Int) _ (Exists.intro (α := Int) _ (And.intro rfl (And.intro rfl ?_)))
  | refine Exists.intro (α := PySem.Str) _ (Exists.intro (α := PySem.Str) _ (And.intro rfl (And.intro rfl ?_)))
  | refine Exists.intro (α := Int) _ (Exists.intro (α := Int) _ (And.intro rfl ?_))
  | refine Or.inl (Exists.intro (α := Int) _ (And.intro rfl ?_))
  | refine Exists.intro _ (Exists.intro _ (Exists.intro _ (Exists.intro _ (And.intro rfl (And.intro rfl (And.intro (by walk_at "sq") (And.intro rfl ?_)))))))
  | refine Exists.intro _ (Exists.intro _ (Exists.intro _ (Exists.intro _ (And.intro rfl (And.intro rfl (And.intro (by walk_at "hp") (And.intro rfl ?_)))))))
  | refine And.intro (by walk_at "sd") ?_
  )
local macro_rules | `(tactic| walk_at "rd") => `(tactic| repeat walk_at "rd1")
local macro_rules | `(tactic| walk_at "lk") => `(tactic| first | exact rfl | (rw [lookup_putF, if_pos rfl]) | (rw [lookup_putF, if_neg (by decide +kernel)]; walk_at "lk"))

section
variable {P : Program} {w : World} {K : PySem.W.Frag} {mg : Str → Option Value} {base : Heap}
/-- the signs that the law draws -/
def sgMenu : List (List Nat) := [[97, 98], [97, 98, 99], [97, 98], [97, 99], [97, 98, 99], [98, 122], [97], [98, 99, 100], [97, 98], [107, 109, 122], [97, 98, 99], [120, 121]]
def spSigns : Sp := fun vs H Q _ => ∃ (a : Addr), vs = [.ref a] ∧ Src H a ∧ ∀ (sg : List Nat) (H' : Hp), sg ∈ sgMenu → Src H' a → But a H H' → Q (.str (S sg)) H'
theorem sgMenu_V : ([V.str "ab", V.str "abc", V.str "ab", V.str "ac", V.str "abc", V.str "bz", V.str "a", V.str "bcd", V.str "ab", V.str "kmz", V.str "abc", V.str "xy"] : List V) = sgMenu.map fun l => V.str (S l) := by decide +kernel
theorem c__law_signs (T : Txt K mg) : Cal P w K mg base CX0 2 "_law_signs" spSigns := by
  have c__law_pick := c__law_pick (P := P) (w := w) (base := base) T
  refine Cal.mk0 T.d__law_signs sc__law_signs (fun vs H Q E h => ?_) (fun f cdv A outer s H vs Q E hr h => ?_)
  · obtain ⟨a, rfl, _⟩ := h
    rfl
  · obtain ⟨a, rfl, hs, k⟩ := h
    refine ⟨_, (pss_cons (ps_set (i := 1) sc__law_signs.nd rfl (Or.inl rfl) (pe_lst (pa_cons pe_str (pa_cons pe_str (pa_cons pe_str (pa_cons pe_str (pa_cons pe_str (pa_cons pe_str (pa_cons pe_str (pa_cons pe_str (pa_cons pe_str (pa_cons pe_str (pa_cons pe_str (pa_cons pe_str pa_nil))))))))))))))
  (pss_one (ps_ret (pe_ix ix_list (pv 1) (pe_c c__law_pick hr (by decide) rfl (pa_cons (pv 0) (pa_cons (pe_callB call_len_seq (by rfl) T.b_len (by decide +kernel) (pa_cons (pv 1) pa_nil)) pa_nil))) (fun _ _ => rfl))))), ?_⟩
    refine ⟨by walk_at "sz", fun p hp => ?_⟩
    rw [sgMenu_V]
    have ns := same_new (o := .lst (sgMenu.map fun l => V.str (S l))) hp
    obtain ⟨d, sd, c, ha⟩ := id hs
    have hs1 : Src (upd H p (.lst (sgMenu.map fun l => V.str (S l)))) a := ⟨d, sd, c, ns _ _ ha⟩
    have npa : p ≠ a := (ne_of_none ha hp).symm
    refine ⟨_, rfl, _, rfl, _, rfl, p, _, rfl, .inl (SqL.of upd_same), ?_⟩
    refine ⟨_, _, rfl, hs1, by decide, by decide, fun r H2 r0 r1 s2 b2 => ?_⟩
    have r1' : r < 12 := r1
    have hr2 : r.toNat < sgMenu.length := by show _ < 12; omega
    refine ⟨p, _, r, .str (S sgMenu[r.toNat]), rfl, rfl, SqL.of (b2 _ _ npa upd_same), atI_at r0 (by rw [List.getElem?_map, List.getElem?_eq_getElem hr2]; rfl), ?_⟩
    exact k _ _ (List.getElem_mem hr2) s2 (But.trans (But.same ns) b2)
/-- a drawn text -/
def spText : Sp := fun vs H Q _ => ∃ (a : Addr) (sg : List Nat) (m : Int), vs = [.ref a, .str (S sg), .int m] ∧ Src H a ∧ 0 < sg.length ∧ sg.length ≤ 1000 ∧ 0 ≤ m ∧ m < 1000 ∧
  ∀ (t : List Nat) (H' : Hp), (t.length : Int) ≤ m → (∀ c ∈ t, c ∈ sg) → Src H' a → But a H H' → Q (.str (S t)) H'
/-- (len(text), text) -/
def spKey : Sp := fun vs H Q _ => ∃ t : List Nat, vs = [.str (S t)] ∧ t.length ≤ 1000000 ∧ ∀ p, H p = none → Q (.ref p) (upd H p (.tup [.int t.length, .str (S t)]))
/-- a drawn rule: its left side has 1 to longest signs, its right side none, or one and the left side two or more -/
def RuleOk (sg : List Nat) (m : Nat) (r : List Nat × List Nat) : Prop :=
  1 ≤ r.1.length ∧ r.1.length ≤ m ∧ (∀ c ∈ r.1, c ∈ sg) ∧ (∀ c ∈ r.2, c ∈ sg) ∧ r.2.length ≤ 1 ∧ r.2.length < r.1.length
def rTup (r : List Nat × List Nat) : List V := [.str (S r.1), .str (S r.2)]
def spRule : Sp := fun vs H Q _ => ∃ (a : Addr) (sg : List Nat) (m : Int), vs = [.ref a, .str (S sg), .int m] ∧ Src H a ∧ 0 < sg.length ∧ sg.length ≤ 1000 ∧ 1 ≤ m ∧ m ≤ 4 ∧
  ∀ (r : List Nat × List Nat) (p : Addr) (H' : Hp), RuleOk sg m.toNat r → Src H' a → But a H H' → H p = none → H' p = some (.tup (rTup r)) → Q (.ref p) H'
end
end Sh
/-! texts, rules, piles, ends: plain Lean -/
namespace Bk
abbrev T := List Nat
abbrev Rule := T × T

def fits (p : T) (r : Rule) : Bool := r.1.isSuffixOf p
def useR (p : T) (r : Rule) : T := p.take (p.length - r.1.length) ++ r.2
def used (R : List Rule) (p : T) : Option T := (R.find? (fits p)).map (useR p)
def drain (R : List Rule) : Nat → T → T
  | 0, p => p
  | n + 1, p => match used R p with
    | none => p
    | some q => drain R n q
def pushS (R : List Rule) (p : T) (c : Nat) : T := drain R (p.length + 1) (p ++ [c])
def left (R : List Rule) (t : T) : T := t.foldl (pushS R) []

/-- every right side is shorter than its left side and has at most one sign -/
def Wf (R : List Rule) : Prop := ∀ r ∈ R, r.2.length < r.1.length ∧ r.2.length ≤ 1

inductive Step (R : List Rule) : T → T → Prop where
  | mk (x y : T) (r : Rule) (h : r ∈ R) : Step R (x ++ r.1 ++ y) (x ++ r.2 ++ y)
inductive Reach (R : List Rule) : T → T → Prop where
  | refl (t : T) : Reach R t t
  | step {a b c : T} : Step R a b → Reach R b c → Reach R a c
def IsEnd (R : List Rule) (t : T) : Prop := ∀ u, ¬ Step R t u

theorem Reach.trans {R : List Rule} {a b c : T} (h : Reach R a b) (k : Reach R b c) : Reach R a c := by
  induction h with
  | refl => exact k
  | step s _ ih => exact .step s (ih k)
theorem Step.ctx {R : List Rule} {a b : T} (x y : T) (h : Step R a b) : Step R (x ++ a ++ y) (x ++ b ++ y) := by
  cases h with
  | mk p q r hr =>
    have := Step.mk (R := R) (x ++ p) (q ++ y) r hr
    simpa [List.append_assoc] using this
theorem Reach.ctx {R : List Rule} {a b : T} (x y : T) (h : Reach R a b) : Reach R (x ++ a ++ y) (x ++ b ++ y) := by
  induction h with
  | refl => exact .refl _
  | step s _ ih => exact .step (s.ctx x y) ih
theorem Step.len {R : List Rule} (w : Wf R) {a b : T} (h : Step R a b) : b.length < a.length := by
  cases h with
  | mk p q r hr => have := (w r hr).1; simp; omega
theorem Reach.len {R : List Rule} (w : Wf R) {a b : T} (h : Reach R a b) : b.length ≤ a.length := by
  induction h with
  | refl => exact Nat.le_refl _
  | step s _ ih => have := s.len w; omega

theorem fits_iff {p : T} {r : Rule} : fits p r = true ↔ ∃ x, p = x ++ r.1 := by
  unfold fits
  rw [List.isSuffixOf_iff_suffix]
  constructor
  · rintro ⟨x, h⟩; exact ⟨x, h.symm⟩
  · rintro ⟨x, h⟩; exact ⟨x, h.symm⟩
theorem useR_app {x : T} {r : Rule} : useR (x ++ r.1) r = x ++ r.2 := by
  unfold useR
  simp
theorem used_some {R : List Rule} {p q : T} (h : used R p = some q) : ∃ x r, r ∈ R ∧ p = x ++ r.1 ∧ q = x ++ r.2 := by
  unfold used at h
  cases e : R.find? (fits p) with
  | none => rw [e] at h; cases h
  | some r =>
    rw [e] at h
    have hr := List.mem_of_find?_eq_some e
    have hf := List.find?_some e
    obtain ⟨x, hx⟩ := fits_iff.mp hf
    subst hx
    simp only [Option.map_some, Option.some.injEq] at h
    rw [useR_app] at h
    exact ⟨x, r, hr, rfl, h.symm⟩
theorem used_none {R : List Rule} {p : T} (h : used R p = none) : ∀ r ∈ R, ∀ x, p ≠ x ++ r.1 := by
  intro r hr x e
  unfold used at h
  rw [Option.map_eq_none_iff, List.find?_eq_none] at h
  exact h r hr (fits_iff.mpr ⟨x, e⟩)
theorem used_step {R : List Rule} {p q : T} (h : used R p = some q) : Step R p q := by
  obtain ⟨x, r, hr, rfl, rfl⟩ := used_some h
  have := Step.mk (R := R) x [] r hr
  simpa using this
theorem drain_reach {R : List Rule} : ∀ (n : Nat) (p : T), Reach R p (drain R n p)
  | 0, p => .refl _
  | n + 1, p => by
    unfold drain
    split
    · exact .refl _
    · next q h => exact .step (used_step h) (drain_reach n q)
theorem drain_none {R : List Rule} (w : Wf R) : ∀ (n : Nat) (p : T), p.length ≤ n → used R (drain R n p) = none
  | 0, p, h => by
    have : p = [] := by cases p with | nil => rfl | cons => simp at h
    subst this
    unfold drain
    cases e : used R [] with
    | none => rfl
    | some q => have := (used_step e).len w; simp at this
  | n + 1, p, h => by
    unfold drain
    split
    · next e => exact e
    · next q e =>
      have := (used_step e).len w
      exact drain_none w n q (by omega)
/-- all but the last sign is an end -/
def Near (R : List Rule) (p : T) : Prop := ∃ x y, p = x ++ y ∧ y.length ≤ 1 ∧ IsEnd R x
theorem isEnd_iff {R : List Rule} {t : T} : IsEnd R t ↔ ∀ r ∈ R, ∀ x y, t ≠ x ++ r.1 ++ y := by
  constructor
  · intro h r hr x y e
    exact h (x ++ r.2 ++ y) (e ▸ Step.mk x y r hr)
  · intro h u s
    cases s with
    | mk x y r hr => exact h r hr x y rfl
theorem IsEnd.pre {R : List Rule} {x y : T} (h : IsEnd R (x ++ y)) : IsEnd R x := by
  rw [isEnd_iff] at h ⊢
  intro r hr a b e
  refine h r hr a (b ++ y) ?_
  rw [e]; simp [List.append_assoc]
theorem IsEnd.infix {R : List Rule} {x y z : T} (h : IsEnd R (x ++ y ++ z)) : IsEnd R y := by
  rw [isEnd_iff] at h ⊢
  intro r hr a b e
  refine h r hr (x ++ a) (b ++ z) ?_
  rw [e]; simp [List.append_assoc]
theorem near_end {R : List Rule} (w : Wf R) {p : T} (h : Near R p) (hu : used R p = none) : IsEnd R p := by
  obtain ⟨x, y, rfl, hy, hx⟩ := h
  rw [isEnd_iff] at hx ⊢
  intro r hr a b e
  rcases List.append_eq_append_iff.mp e with ⟨c, e1, e2⟩ | ⟨c, e1, e2⟩
  · -- a ++ r.1 = x ++ c, y = c ++ b
    cases b with
    | nil => exact used_none hu r hr a (by rw [e]; simp)
    | cons b0 b' =>
      have : c = [] := by
        cases c with
        | nil => rfl
        | cons c0 c' =>
          have q := congrArg List.length e2
          simp at q
          omega
      subst this
      exact hx r hr a [] (by simpa using e1.symm)
  · exact hx r hr a c e1
theorem near_used {R : List Rule} (w : Wf R) {p q : T} (h : Near R p) (hu : used R p = some q) : Near R q := by
  obtain ⟨x, y, rfl, hy, hx⟩ := h
  obtain ⟨a, r, hr, e, rfl⟩ := used_some hu
  refine ⟨a, r.2, rfl, (w r hr).2, ?_⟩
  have hl := (w r hr).1
  rcases List.append_eq_append_iff.mp e with ⟨c, e1, e2⟩ | ⟨c, e1, e2⟩
  · -- a = x ++ c, y = c ++ r.1
    have : c = [] := by
      cases c with
      | nil => rfl
      | cons c0 c' =>
        have q := congrArg List.length e2
        simp at q
        omega
    subst this
    simp at e1
    rw [e1]; exact hx
  · rw [e1] at hx; exact hx.pre
theorem near_drain {R : List Rule} (w : Wf R) : ∀ (n : Nat) (p : T), Near R p → p.length ≤ n → IsEnd R (drain R n p)
  | 0, p, h, hn => by
    have hu := drain_none w 0 p hn
    exact near_end w h hu
  | n + 1, p, h, hn => by
    unfold drain
    split
    · next e => exact near_end w h e
    · next q e =>
      have := (used_step e).len w
      exact near_drain w n q (near_used w h e) (by omega)
theorem push_end {R : List Rule} (w : Wf R) {p : T} {c : Nat} (h : IsEnd R p) : IsEnd R (pushS R p c) :=
  near_drain w _ _ ⟨p, [c], rfl, Nat.le_refl _, h⟩ (by simp)
theorem foldl_end {R : List Rule} (w : Wf R) : ∀ (t p : T), IsEnd R p → IsEnd R (t.foldl (pushS R) p)
  | [], _, h => h
  | c :: t, p, h => foldl_end w t _ (push_end w h)
theorem end_nil {R : List Rule} (w : Wf R) : IsEnd R [] := by
  intro u s
  have := s.len w
  simp at this
theorem left_end {R : List Rule} (w : Wf R) (t : T) : IsEnd R (left R t) := foldl_end w t [] (end_nil w)
theorem foldl_reach {R : List Rule} : ∀ (t p : T), Reach R (p ++ t) (t.foldl (pushS R) p)
  | [], p => by simpa using Reach.refl (R := R) p
  | c :: t, p => by
    have h1 : Reach R (p ++ [c]) (pushS R p c) := drain_reach _ _
    have h2 := h1.ctx [] t
    have h3 := foldl_reach (R := R) t (pushS R p c)
    simp only [List.nil_append, List.append_assoc, List.singleton_append] at h2
    exact h2.trans h3
theorem left_reach {R : List Rule} (t : T) : Reach R t (left R t) := by
  exact foldl_reach (R := R) t []
theorem reach_end {R : List Rule} {a b : T} (h : IsEnd R a) (k : Reach R a b) : b = a := by
  cases k with
  | refl => rfl
  | step s _ => exact absurd s (h _)
theorem left_of_end {R : List Rule} {t : T} (h : IsEnd R t) : left R t = t := reach_end h (left_reach t)

/-! ### overlaps -/
def Join (R : List Rule) (a b : T) : Prop := ∃ c, Reach R a c ∧ Reach R b c
theorem Join.symm {R : List Rule} {a b : T} (h : Join R a b) : Join R b a := by
  obtain ⟨c, h1, h2⟩ := h; exact ⟨c, h2, h1⟩
theorem Join.ctx {R : List Rule} {a b : T} (x y : T) (h : Join R a b) : Join R (x ++ a ++ y) (x ++ b ++ y) := by
  obtain ⟨c, h1, h2⟩ := h; exact ⟨_, h1.ctx x y, h2.ctx x y⟩

/-- the overlap of a with b at a place below the length of a: the text, if they agree -/
def over (a b : T) (k : Nat) : Option T :=
  if (a.drop k).take (min (a.length - k) b.length) = b.take (min (a.length - k) b.length) then some (a ++ b.drop (min (a.length - k) b.length)) else none
/-- both results -/
def res1 (r : Rule) (t : T) : T := r.2 ++ t.drop r.1.length
def res2 (r : Rule) (t : T) (k : Nat) : T := t.take k ++ r.2 ++ t.drop (k + r.1.length)
/-- the overlaps of all pairs of rules, each with equal ends -/
def Meets (R : List Rule) : Prop := ∀ r ∈ R, ∀ q ∈ R, ∀ k, k < r.1.length → ∀ t, over r.1 q.1 k = some t → left R (res1 r t) = left R (res2 q t k)

theorem over_app {p b y a z : T} (h : p ++ b ++ y = a ++ z) (hk : p.length < a.length) :
    ∃ t y', over a b p.length = some t ∧ p ++ b ++ y = t ++ y' ∧ t.drop a.length ++ y' = z ∧ t.drop (p.length + b.length) ++ y' = y ∧ t.take p.length = p := by
  have hlen : (p ++ b ++ y).length = (a ++ z).length := by rw [h]
  simp at hlen
  rw [List.append_assoc] at h
  rcases List.append_eq_append_iff.mp h with ⟨c, e1, e2⟩ | ⟨c, e1, e2⟩
  · -- a = p ++ c, b ++ y = c ++ z
    subst e1
    rcases List.append_eq_append_iff.mp e2 with ⟨d, e3, e4⟩ | ⟨d, e3, e4⟩
    · -- c = b ++ d, y = d ++ z : b within a
      subst e3; subst e4
      refine ⟨p ++ (b ++ d), z, ?_, ?_, ?_, ?_, ?_⟩
      · unfold over
        have : min ((p ++ (b ++ d)).length - p.length) b.length = b.length := by simp
        rw [this]
        simp
      · simp [List.append_assoc]
      · simp
      · rw [← List.append_assoc p b d, ← List.length_append, List.drop_left]
      · simp
    · -- b = c ++ d, z = d ++ y
      subst e3; subst e4
      refine ⟨p ++ c ++ d, y, ?_, ?_, ?_, ?_, ?_⟩
      · unfold over
        have : min ((p ++ c).length - p.length) (c ++ d).length = c.length := by simp
        rw [this]
        simp
      · simp [List.append_assoc]
      · rw [List.drop_left]
      · simp [← Nat.add_assoc]
      · simp [List.append_assoc]
  · -- p = a ++ c
    subst e1
    simp at hk
    omega
theorem local_le {R : List Rule} (M : Meets R) {x1 y1 x2 y2 : T} {r q : Rule} (hr : r ∈ R) (hq : q ∈ R) (e : x1 ++ r.1 ++ y1 = x2 ++ q.1 ++ y2) (hl : x1.length ≤ x2.length) :
    Join R (x1 ++ r.2 ++ y1) (x2 ++ q.2 ++ y2) := by
  have e' : x1 ++ (r.1 ++ y1) = x2 ++ (q.1 ++ y2) := by simpa [List.append_assoc] using e
  obtain ⟨p, hp⟩ : ∃ p, x2 = x1 ++ p := by
    rcases List.append_eq_append_iff.mp e' with ⟨c, e1, _⟩ | ⟨c, e1, _⟩
    · exact ⟨c, e1⟩
    · have : c = [] := by
        have := congrArg List.length e1
        simp at this
        cases c with
        | nil => rfl
        | cons => simp at this; omega
      subst this
      exact ⟨[], by simpa using e1.symm⟩
  subst hp
  have e2 : r.1 ++ y1 = p ++ (q.1 ++ y2) := by
    rw [List.append_assoc] at e'
    exact List.append_cancel_left e'
  by_cases hk : p.length < r.1.length
  · obtain ⟨t, y', ho, _, hz, hy, htk⟩ := over_app (p := p) (b := q.1) (y := y2) (a := r.1) (z := y1) (by rw [e2, List.append_assoc]) hk
    have m := M r hr q hq p.length hk t ho
    have j : Join R (res1 r t) (res2 q t p.length) := ⟨_, left_reach _, m ▸ left_reach _⟩
    have j2 := j.ctx x1 y'
    have a1 : x1 ++ res1 r t ++ y' = x1 ++ r.2 ++ y1 := by
      unfold res1; rw [← hz]; simp [List.append_assoc]
    have a2 : x1 ++ res2 q t p.length ++ y' = x1 ++ p ++ q.2 ++ y2 := by
      unfold res2; rw [← hy, htk]; simp [List.append_assoc]
    rw [a1, a2] at j2
    exact j2
  · -- apart
    obtain ⟨m, hm⟩ : ∃ m, p = r.1 ++ m := by
      rcases List.append_eq_append_iff.mp e2 with ⟨c, e1, _⟩ | ⟨c, e1, _⟩
      · exact ⟨c, e1⟩
      · have : c = [] := by
          have := congrArg List.length e1
          simp at this
          cases c with
          | nil => rfl
          | cons => simp at this; omega
        subst this
        exact ⟨[], by simpa using e1.symm⟩
    subst hm
    have hy1 : y1 = m ++ (q.1 ++ y2) := by
      rw [List.append_assoc] at e2
      exact List.append_cancel_left e2
    subst hy1
    refine ⟨x1 ++ r.2 ++ m ++ q.2 ++ y2, ?_, ?_⟩
    · have := Step.mk (R := R) (x1 ++ r.2 ++ m) y2 q hq
      refine .step ?_ (.refl _)
      simpa [List.append_assoc] using this
    · have := Step.mk (R := R) x1 (m ++ q.2 ++ y2) r hr
      refine .step ?_ (.refl _)
      simpa [List.append_assoc] using this
theorem local_conf {R : List Rule} (M : Meets R) {s a b : T} (h : Step R s a) (k : Step R s b) : Join R a b := by
  generalize hs : s = s' at k
  cases h with
  | mk x1 y1 r hr =>
    cases k with
    | mk x2 y2 q hq =>
      by_cases hl : x1.length ≤ x2.length
      · exact local_le M hr hq hs hl
      · exact (local_le M hq hr hs.symm (by omega)).symm
/-- in a book whose overlaps meet each text has one end -/
theorem one_end {R : List Rule} (w : Wf R) (M : Meets R) : ∀ (n : Nat) (s : T), s.length ≤ n → ∀ a b, Reach R s a → Reach R s b → IsEnd R a → IsEnd R b → a = b
  | n, s, hn, a, b, ha, hb, ea, eb => by
    cases ha with
    | refl => exact (reach_end ea hb).symm
    | step s1 r1 =>
      cases hb with
      | refl => exact absurd s1 (eb _)
      | step s2 r2 =>
        rename_i u v
        cases n with
        | zero => have := s1.len w; omega
        | succ n =>
          have l1 := s1.len w
          have l2 := s2.len w
          obtain ⟨c, c1, c2⟩ := local_conf M s1 s2
          have z1 := one_end w M n u (by omega) a (left R c) r1 (c1.trans (left_reach c)) ea (left_end w c)
          have z2 := one_end w M n v (by omega) b (left R c) r2 (c2.trans (left_reach c)) eb (left_end w c)
          rw [z1, z2]
theorem left_eq {R : List Rule} (w : Wf R) (M : Meets R) {s a : T} (h : Reach R s a) : left R s = left R a :=
  one_end w M s.length s (Nat.le_refl _) _ _ (left_reach s) (h.trans (left_reach a)) (left_end w s) (left_end w a)
/-- pieces may be shrunk apart -/
theorem left_app {R : List Rule} (w : Wf R) (M : Meets R) (x y : T) : left R (x ++ y) = left R (left R x ++ left R y) := by
  refine left_eq w M ?_
  have h1 := (left_reach (R := R) x).ctx [] y
  have h2 := (left_reach (R := R) y).ctx (left R x) []
  simp only [List.nil_append, List.append_nil] at h1 h2
  exact h1.trans h2
theorem left_congr {R : List Rule} (w : Wf R) (M : Meets R) {x x' y y' : T} (h : left R x = left R x') (k : left R y = left R y') : left R (x ++ y) = left R (x' ++ y') := by
  rw [left_app w M x y, left_app w M x' y', h, k]

/-! ### exchanging signs -/
def Swap (R : List Rule) (x y : T) : Prop := left R (x ++ y) = left R (y ++ x)
theorem Swap.app {R : List Rule} (w : Wf R) (M : Meets R) {x y z : T} (h : Swap R x z) (k : Swap R y z) : Swap R (x ++ y) z := by
  unfold Swap at *
  have e1 : left R (x ++ y ++ z) = left R (x ++ z ++ y) := by
    rw [List.append_assoc, List.append_assoc]
    exact left_congr w M rfl k
  have e2 : left R (x ++ z ++ y) = left R (z ++ x ++ y) := left_congr w M h rfl
  rw [e1, e2, List.append_assoc]
theorem Swap.symm {R : List Rule} {x y : T} (h : Swap R x y) : Swap R y x := Eq.symm h
theorem swap_all {R : List Rule} (w : Wf R) (M : Meets R) {s : List Nat} (h : ∀ a ∈ s, ∀ b ∈ s, Swap R [a] [b]) :
    ∀ x y : T, (∀ c ∈ x, c ∈ s) → (∀ c ∈ y, c ∈ s) → Swap R x y := by
  have one : ∀ (a : Nat), a ∈ s → ∀ y : T, (∀ c ∈ y, c ∈ s) → Swap R y [a] := by
    intro a ha y
    induction y with
    | nil => intro _; unfold Swap; simp
    | cons b y ih =>
      intro hy
      exact Swap.app (x := [b]) (y := y) w M (h b (hy b List.mem_cons_self) a ha) (ih fun c hc => hy c (List.mem_cons_of_mem _ hc))
  intro x
  induction x with
  | nil => intro y _ _; unfold Swap; simp
  | cons a x ih =>
    intro y hx hy
    exact Swap.app (x := [a]) (y := x) w M (one a (hx a List.mem_cons_self) y hy).symm (ih y (fun c hc => hx c (List.mem_cons_of_mem _ hc)) hy)
end Bk
/-! the pile of the program: rules by their left sides; plain Lean -/
namespace Bk
def firstAt : List Rule → Nat → T → Option (Nat × T)
  | [], _, _ => none
  | r :: R, k, l => if r.1 = l then some (k, r.2) else firstAt R (k + 1) l
theorem firstAt_app (R Q : List Rule) (k : Nat) (l : T) : firstAt (R ++ Q) k l = match firstAt R k l with
    | some z => some z
    | none => firstAt Q (k + R.length) l := by
  induction R generalizing k with
  | nil => simp [firstAt]
  | cons r R ih =>
    simp only [List.cons_append, firstAt]
    by_cases h : r.1 = l
    · simp [h]
    · simp only [h, if_false]
      rw [ih (k + 1)]
      have : k + 1 + R.length = k + (r :: R).length := by simp; omega
      rw [this]
theorem firstAt_snoc (R : List Rule) (r : Rule) (l : T) : firstAt (R ++ [r]) 0 l = match firstAt R 0 l with
    | some z => some z
    | none => if r.1 = l then some (R.length, r.2) else none := by
  rw [firstAt_app]
  simp [firstAt]
theorem firstAt_snoc_some {R : List Rule} (r : Rule) {l : T} {z : Nat × T} (h : firstAt R 0 l = some z) : firstAt (R ++ [r]) 0 l = some z := by
  rw [firstAt_snoc, h]
theorem firstAt_snoc_none {R : List Rule} (r : Rule) {l : T} (h : firstAt R 0 l = none) : firstAt (R ++ [r]) 0 l = if r.1 = l then some (R.length, r.2) else none := by
  rw [firstAt_snoc, h]
theorem firstAt_none {R : List Rule} {k : Nat} {l : T} : firstAt R k l = none ↔ ∀ r ∈ R, r.1 ≠ l := by
  induction R generalizing k with
  | nil => simp [firstAt]
  | cons r R ih =>
    simp only [firstAt, List.mem_cons, forall_eq_or_imp]
    by_cases h : r.1 = l
    · simp [h]
    · simp [h, ih]
theorem firstAt_some {R : List Rule} {k j : Nat} {l s : T} (h : firstAt R k l = some (j, s)) : k ≤ j ∧ R[j - k]? = some (l, s) ∧ ∀ i, i < j - k → ∀ r, R[i]? = some r → r.1 ≠ l := by
  induction R generalizing k with
  | nil => simp [firstAt] at h
  | cons r R ih =>
    simp only [firstAt] at h
    by_cases hr : r.1 = l
    · rw [if_pos hr] at h
      simp only [Option.some.injEq, Prod.mk.injEq] at h
      obtain ⟨rfl, rfl⟩ := h
      refine ⟨Nat.le_refl _, by simp [← hr], fun i hi => by omega⟩
    · rw [if_neg hr] at h
      obtain ⟨h1, h2, h3⟩ := ih h
      have e : j - k = (j - (k + 1)) + 1 := by omega
      refine ⟨by omega, by rw [e]; simpa using h2, fun i hi q hq => ?_⟩
      cases i with
      | zero => simp at hq; rw [← hq]; exact hr
      | succ i => exact h3 i (by omega) q (by simpa using hq)
/-- the length of the longest left side -/
def lg (R : List Rule) : Nat := (R.map (·.1.length)).foldl max 0
theorem foldl_max_le {l : List Nat} {a : Nat} : a ≤ l.foldl max a ∧ ∀ x ∈ l, x ≤ l.foldl max a := by
  induction l generalizing a with
  | nil => simp
  | cons b l ih =>
    obtain ⟨h1, h2⟩ := ih (a := max a b)
    simp only [List.foldl_cons, List.mem_cons, forall_eq_or_imp]
    exact ⟨Nat.le_trans (Nat.le_max_left _ _) h1, Nat.le_trans (Nat.le_max_right _ _) h1, h2⟩
theorem foldl_max_mem {l : List Nat} {a : Nat} : l.foldl max a = a ∨ l.foldl max a ∈ l := by
  induction l generalizing a with
  | nil => simp
  | cons b l ih =>
    simp only [List.foldl_cons, List.mem_cons]
    rcases ih (a := max a b) with h | h
    · rw [h]
      rcases Nat.le_total a b with q | q
      · right; left; exact Nat.max_eq_right q
      · left; exact Nat.max_eq_left q
    · exact .inr (.inr h)
theorem lg_le {R : List Rule} {r : Rule} (h : r ∈ R) : r.1.length ≤ lg R := foldl_max_le.2 _ (List.mem_map_of_mem h)
theorem lg_eq {R : List Rule} {m : Nat} (h1 : m ∈ 0 :: R.map (·.1.length)) (h2 : ∀ y ∈ 0 :: R.map (·.1.length), y ≤ m) : m = lg R := by
  have a : lg R ≤ m := by
    rcases foldl_max_mem (l := R.map (·.1.length)) (a := 0) with h | h
    · unfold lg; rw [h]; exact Nat.zero_le _
    · exact h2 _ (List.mem_cons_of_mem _ h)
  have b : m ≤ lg R := by
    rcases List.mem_cons.mp h1 with h | h
    · rw [h]; exact Nat.zero_le _
    · exact foldl_max_le.2 _ h
  omega
/-- the best rule of left sides up to i signs: its number, its size, its right side -/
def bestUp (R : List Rule) (t : T) : Nat → Option (Nat × Nat × T)
  | 0 => none
  | i + 1 => match firstAt R 0 (t.drop (t.length - (i + 1))) with
    | none => bestUp R t i
    | some (k, r) => match bestUp R t i with
      | none => some (k, i + 1, r)
      | some b => if k < b.1 then some (k, i + 1, r) else some b
/-- rules with at most i signs that stand at the end -/
def Fit (R : List Rule) (t : T) (i k : Nat) (r : Rule) : Prop := R[k]? = some r ∧ 1 ≤ r.1.length ∧ r.1.length ≤ i ∧ ∃ x, t = x ++ r.1
theorem suffix_drop {t x l : T} (h : t = x ++ l) : t.drop (t.length - l.length) = l := by
  subst h; simp
theorem bestUp_spec (R : List Rule) (t : T) : ∀ i, i ≤ t.length → match bestUp R t i with
    | none => ∀ k r, ¬ Fit R t i k r
    | some (k, s, r) => (∃ l, Fit R t i k (l, r) ∧ l.length = s) ∧ ∀ k' r', Fit R t i k' r' → k ≤ k'
  | 0, _ => by
    simp only [bestUp]
    rintro k r ⟨_, h1, h2, _⟩
    omega
  | i + 1, hi => by
    have ih := bestUp_spec R t i (by omega)
    have wide : ∀ (k : Nat) (r : Rule), Fit R t (i + 1) k r → Fit R t i k r ∨ (r.1.length = i + 1 ∧ R[k]? = some r ∧ r.1 = t.drop (t.length - (i + 1))) := by
      rintro k r ⟨h1, h2, h3, x, hx⟩
      by_cases e : r.1.length = i + 1
      · exact .inr ⟨e, h1, by rw [← e]; exact (suffix_drop hx).symm⟩
      · exact .inl ⟨h1, h2, by omega, x, hx⟩
    have mono : ∀ (k : Nat) (r : Rule), Fit R t i k r → Fit R t (i + 1) k r := fun k r ⟨h1, h2, h3, h4⟩ => ⟨h1, h2, by omega, h4⟩
    simp only [bestUp]
    cases hf : firstAt R 0 (t.drop (t.length - (i + 1))) with
    | none =>
      have hn := firstAt_none.mp hf
      have no : ∀ (k : Nat) (r : Rule), R[k]? = some r → r.1 ≠ t.drop (t.length - (i + 1)) := fun k r h => hn r (List.mem_of_getElem? h)
      cases hb : bestUp R t i with
      | none =>
        rw [hb] at ih
        intro k r h
        rcases wide k r h with q | ⟨_, q1, q2⟩
        · exact ih k r q
        · exact no k r q1 q2
      | some b =>
        obtain ⟨k, s, r⟩ := b
        rw [hb] at ih
        obtain ⟨⟨l, h1, h2⟩, h3⟩ := ih
        refine ⟨⟨l, mono _ _ h1, h2⟩, fun k' r' h => ?_⟩
        rcases wide k' r' h with q | ⟨_, q1, q2⟩
        · exact h3 k' r' q
        · exact absurd q2 (no k' r' q1)
    | some z =>
      obtain ⟨k, r⟩ := z
      obtain ⟨_, f2, f3⟩ := firstAt_some hf
      rw [Nat.sub_zero] at f2 f3
      have hl : (t.drop (t.length - (i + 1))).length = i + 1 := by rw [List.length_drop]; omega
      have new : Fit R t (i + 1) k (t.drop (t.length - (i + 1)), r) := ⟨f2, by simp only; omega, by simp only; omega, t.take (t.length - (i + 1)), by simp⟩
      have least : ∀ (k' : Nat) (r' : Rule), R[k']? = some r' → r'.1 = t.drop (t.length - (i + 1)) → k ≤ k' := fun k' r' h e => by
        rcases Nat.lt_or_ge k' k with q | q
        · exact absurd e (f3 k' q r' h)
        · exact q
      cases hb : bestUp R t i with
      | none =>
        rw [hb] at ih
        refine ⟨⟨_, new, hl⟩, fun k' r' h => ?_⟩
        rcases wide k' r' h with q | ⟨_, q1, q2⟩
        · exact absurd q (ih k' r')
        · exact least k' r' q1 q2
      | some b =>
        obtain ⟨kb, sb, rb⟩ := b
        rw [hb] at ih
        obtain ⟨⟨l, h1, h2⟩, h3⟩ := ih
        simp only
        by_cases hk : k < kb
        · rw [if_pos hk]
          refine ⟨⟨_, new, hl⟩, fun k' r' h => ?_⟩
          rcases wide k' r' h with q | ⟨_, q1, q2⟩
          · have := h3 k' r' q; omega
          · exact least k' r' q1 q2
        · rw [if_neg hk]
          refine ⟨⟨l, mono _ _ h1, h2⟩, fun k' r' h => ?_⟩
          rcases wide k' r' h with q | ⟨_, q1, q2⟩
          · exact h3 k' r' q
          · have := least k' r' q1 q2; omega
theorem find_least {R : List Rule} {p : Rule → Bool} {k : Nat} {r : Rule} (h1 : R[k]? = some r) (h2 : p r = true) (h3 : ∀ k' r', R[k']? = some r' → p r' = true → k ≤ k') : R.find? p = some r := by
  induction R generalizing k with
  | nil => simp at h1
  | cons a R ih =>
    cases k with
    | zero =>
      simp at h1
      subst h1
      simp [h2]
    | succ k =>
      have ha : p a = false := by
        cases e : p a with
        | false => rfl
        | true => have := h3 0 a (by simp) e; omega
      rw [List.find?_cons, ha]
      exact ih (k := k) (by simpa using h1) (fun k' r' q1 q2 => by have := h3 (k' + 1) r' (by simpa using q1) q2; omega)
/-- what the program finds is what the first fitting rule gives -/
theorem used_best {R : List Rule} (w : Wf R) (t : T) : used R t = (bestUp R t (min (lg R) t.length)).map fun b => t.take (t.length - b.2.1) ++ b.2.2 := by
  have sp := bestUp_spec R t (min (lg R) t.length) (by omega)
  have full : ∀ (k : Nat) (r : Rule), R[k]? = some r → fits t r = true → Fit R t (min (lg R) t.length) k r := by
    intro k r h f
    obtain ⟨x, hx⟩ := fits_iff.mp f
    have hm := List.mem_of_getElem? h
    have h1 := (w r hm).1
    have h2 := lg_le hm
    have h3 : r.1.length ≤ t.length := by rw [hx]; simp
    exact ⟨h, by omega, by omega, x, hx⟩
  cases hb : bestUp R t (min (lg R) t.length) with
  | none =>
    rw [hb] at sp
    simp only [Option.map_none]
    unfold used
    rw [Option.map_eq_none_iff, List.find?_eq_none]
    intro r hr f
    obtain ⟨k, hk, rfl⟩ := List.mem_iff_getElem.mp hr
    exact sp k R[k] (full k R[k] (by simp [hk]) f)
  | some b =>
    obtain ⟨k, s, r⟩ := b
    rw [hb] at sp
    obtain ⟨⟨l, ⟨h1, h2, h3, x, hx⟩, hs⟩, h4⟩ := sp
    have hf : R.find? (fits t) = some (l, r) := find_least h1 (fits_iff.mpr ⟨x, hx⟩) (fun k' r' q1 q2 => h4 k' r' (full k' r' q1 q2))
    unfold used
    rw [hf]
    simp only [Option.map_some, useR, hs]
end Bk
-- OWN
set_option Elab.async false
set_option linter.all false
set_option maxRecDepth 100000
set_option maxHeartbeats 4000000
namespace Sh
open PySem PySem.Spec PyProof.Rows L2
open SX (S S_inj S_len S_cat)
open Bk (Rule firstAt lg bestUp used left drain pushS Wf)
local macro_rules | `(tactic| walk_at "nx") => `(tactic| repeat (with_reducible first | refine Sh.gn_mk ?_ | refine Sh.nx_mk ?_ | refine Sh.st_nx ?_ | refine Sh.rt_mk ?_ | refine Sh.ct_mk ?_ | refine Sh.bk_mk ?_))
local macro_rules | `(tactic| walk_at "sq") => `(tactic| first | exact SqL.of upd_same | exact SqT.of upd_same | exact SqL.of (by assumption) | exact SqT.of (by assumption) | assumption | exact Or.inl (SqL.of (by assumption)) | exact Or.inr (SqT.of (by assumption)) | exact Or.inl (by assumption) | exact Or.inr (by assumption))
local macro_rules | `(tactic| walk_at "hp") => `(tactic| first | exact upd_same | assumption)
local macro_rules | `(tactic| walk_at "sz") => `(tactic| first | exact Nat.le_of_ble_eq_true rfl | omega)
local macro_rules | `(tactic| walk_at "sd") => `(tactic| first | omega | exact rfl | assumption | (show (0 : Int) < _; omega) | exact And.intro (by omega) (by omega) | exact Or.inl (And.intro (by omega) (by omega)) | exact Or.inr (And.intro (by omega) (by omega)) | omega | exact Sh.sz_S (by omega) | decide)
local macro_rules | `(tactic| walk_at "rd1") => `(tactic| first
  | (with_reducible first | refine Sh.gn_mk ?_ | refine Sh.nx_mk ?_ | refine Sh.st_nx ?_ | refine Sh.rt_mk ?_ | refine Sh.ct_mk ?_ | refine Sh.bk_mk ?_)
  | refine Exists.intro (α := V) _ (And.intro rfl ?_)
  | refine Exists.intro (α := Bool) _ (And.intro rfl ?_)
  | refine Exists.intro (α := Int) _ (And.intro rfl ?_)
  | refine Exists.intro (α := PySem.Str) _ (And.intro rfl ?_)
  | refine Exists.intro (α := Int) _ (Exists.intro (α := Int) _ (And.intro rfl (And.intro rfl ?_)))
  | refine Exists.intro (α := PySem.Str) _ (Exists.intro (α := PySem.Str) _ (And.intro rfl (And.intro rfl ?_)))
  | refine Exists.intro (α := Int) _ (Exists.intro (α := Int) _ (And.intro rfl ?_))
  | refine Or.inl (Exists.intro (α := Int) _ (And.intro rfl ?_))
  | refine Exists.intro _ (Exists.intro _ (Exists.intro _ (Exists.intro _ (And.intro rfl (And.intro rfl (And.intro (by walk_at "sq") (And.intro rfl ?_)))))))
  | refine Exists.intro _ (Exists.intro _ (Exists.intro _ (Exists.intro _ (And.intro rfl (And.intro rfl (And.intro (by walk_at "hp") (And.intro rfl ?_)))))))
  | refine And.intro (by walk_at "sd") ?_
  )
local macro_rules | `(tactic| walk_at "rd") => `(tactic| repeat walk_at "rd1")
local macro_rules | `(tactic| walk_at "lk") => `(tactic| first | exact rfl | (rw [lookup_putF, if_pos rfl]) | (rw [lookup_putF, if_neg (by decide +kernel)]; walk_at "lk"))

section
variable {P : Program} {w : World} {K : PySem.W.Frag} {mg : Str → Option Value} {base : Heap}
/-! ### kinds of values -/
def tys : List String := ["NoneType", "bool", "int", "str", "list", "tuple", "dict"]
def isaB (n m : String) : Bool := n == m || (n == "bool" && m == "int")
theorem kit_all : ∀ n ∈ tys, ∀ m ∈ ["tuple", "list", "str", "int", "bool"], kitB n m = some (isaB n m) := by decide +kernel
theorem ty_tup {H : Hp} {a : Addr} {xs : List V} (h : SqT K H a xs) : TyX K H (.ref a) (.type "tuple") := by
  rcases h with (h | ⟨o, h⟩) | ⟨o, its, n, hk, hc, _⟩
  · exact .base (.tup h)
  · exact .fTuple h
  · exact .kTuple hk hc
theorem ty_lst {H : Hp} {a : Addr} {xs : List V} (h : SqL K H a xs) : TyX K H (.ref a) (.type "list") := by
  rcases h with (h | ⟨o, h⟩) | ⟨o, its, n, hk, hc, _⟩
  · exact .base (.lst h)
  · exact .base (.frz h)
  · exact .kList hk hc
def spListed (K : PySem.W.Frag) : Sp := fun vs H Q _ => ∃ (v : V) (n : String), vs = [v] ∧ TyX K H v (.type n) ∧ n ∈ tys ∧ Q (.bl (n == "tuple" || n == "list")) H
theorem isaB_tup {n : String} (h : n ∈ tys) : isaB n "tuple" = (n == "tuple") := by
  simp only [tys, List.mem_cons, List.not_mem_nil, or_false] at h
  rcases h with rfl | rfl | rfl | rfl | rfl | rfl | rfl <;> decide
theorem isaB_lst {n : String} (h : n ∈ tys) : isaB n "list" = (n == "list") := by
  simp only [tys, List.mem_cons, List.not_mem_nil, or_false] at h
  rcases h with rfl | rfl | rfl | rfl | rfl | rfl | rfl <;> decide
theorem isaB_str {n : String} (h : n ∈ tys) : isaB n "str" = (n == "str") := by
  simp only [tys, List.mem_cons, List.not_mem_nil, or_false] at h
  rcases h with rfl | rfl | rfl | rfl | rfl | rfl | rfl <;> decide
theorem c_is_listed (T : Txt K mg) : Cal P w K mg base CX0 1 "is_listed" (spListed K) := by
  refine Cal.mk0 T.d_is_listed sc_is_listed (fun vs H Q E h => ?_) (fun f cdv A outer s H vs Q E hr h => ?_)
  · obtain ⟨v, n, rfl, _⟩ := h
    rfl
  · obtain ⟨v, n, rfl, ht, hn, k⟩ := h
    refine ⟨_, (pss_one (ps_ret (pe_or (pe_callB call_isi (by rfl) T.b_isinstance (by decide +kernel) (pa_cons (pv 0) (pa_cons (pe_bltn (v := .ty "tuple") (by rfl) T.b_tuple (by decide +kernel) rfl) pa_nil))) (pe_one (pe_callB call_isi (by rfl) T.b_isinstance (by decide +kernel) (pa_cons (pv 0) (pa_cons (pe_bltn (v := .ty "list") (by rfl) T.b_list (by decide +kernel) rfl) pa_nil))))))), ?_⟩
    walk_at "rd"
    refine ⟨_, _, _, _, _, rfl, .ty _, ht, kit_ty (kit_all _ hn _ (by decide)), _, rfl, ?_⟩
    rw [isaB_tup hn]
    by_cases c : (n == "tuple") = true
    · rw [c] at k ⊢
      exact iteT k
    · rw [Bool.not_eq_true] at c
      rw [c] at k ⊢
      refine iteF ?_
      walk_at "rd"
      refine ⟨_, _, _, _, _, rfl, .ty _, ht, kit_ty (kit_all _ hn _ (by decide)), ?_⟩
      rw [isaB_lst hn]
      exact k
/-! ### signs -/
def letters : List Nat := (Str.ofString "abcdefghijklmnopqrstuvwxyz").cps.toList
def okAt (sg : List Nat) (k : Nat) : Bool := decide (sg.getD k 0 ∈ letters) && (k == 0 || decide ([sg.getD (k - 1) 0] < [sg.getD k 0]))
def isSigns (sg : List Nat) : Bool := decide (1 ≤ sg.length) && decide (sg.length ≤ 8) && (List.range sg.length).all (okAt sg)
theorem menu_signs : ∀ sg ∈ sgMenu, isSigns sg = true := by decide +kernel
theorem menu_len : ∀ sg ∈ sgMenu, 0 < sg.length ∧ sg.length ≤ 3 := by decide +kernel
/-- a value that is no text -/
def NotStr (K : PySem.W.Frag) (H : Hp) (v : V) : Prop := ∃ n, TyX K H v (.type n) ∧ n ∈ tys ∧ n ≠ "str"
/-- is_signs of a text, or of what is none -/
def spIsSigns (K : PySem.W.Frag) : Sp := fun vs H Q _ => (∃ sg : List Nat, vs = [.str (S sg)] ∧ sg.length ≤ 1000000 ∧ Q (.bl (isSigns sg)) H) ∨ ∃ v : V, vs = [v] ∧ NotStr K H v ∧ Q (.bl false) H
theorem getD_some {l : List Nat} {k : Nat} (h : k < l.length) : l[k]? = some (l.getD k 0) := by
  rw [List.getD_eq_getElem?_getD, List.getElem?_eq_getElem h]; rfl
theorem c_is_signs (T : Txt K mg) : Cal P w K mg base CX0 1 "is_signs" (spIsSigns K) := by
  refine Cal.mk0 T.d_is_signs sc_is_signs (fun vs H Q E h => ?_) (fun f cdv A outer s H vs Q E hr h => ?_)
  · rcases h with ⟨sg, rfl, _⟩ | ⟨v, rfl, _⟩ <;> rfl
  · rcases h with ⟨sg, rfl, hl, k⟩ | ⟨v, rfl, ⟨n, ht, hn, hs⟩, k⟩
    rotate_left
    · refine ⟨_, (pss_cons (ps_if (PW.pt (pw_or (pt_not (pt_val (pe_callB call_isi (by rfl) T.b_isinstance (by decide +kernel) (pa_cons (pv 0) (pa_cons (pe_bltn (v := .ty "str") (by rfl) T.b_str (by decide +kernel) rfl) pa_nil))))) (pw_or1 (pt_not (pt_chain op_le op_le pe_int (pe_callB call_len_str (by rfl) T.b_len (by decide +kernel) (pa_cons (pv 0) pa_nil)) pe_int)))))
    (pss_one (ps_ret pe_bl))
    pss_nil)
  (pss_cons (ps_for PassesOwn.never rfl (pi_range1 (by rfl) T.b_range (pa_cons (pe_callB call_len_str (by rfl) T.b_len (by decide +kernel) (pa_cons (pv 0) pa_nil)) pa_nil)) (pg_name (i := 1) sc_is_signs.nd rfl (Or.inl rfl))
    (pss_one (ps_if (PW.pt (pw_or (pt_cmpR op_notIn_sign (pe_ix ix_str (pv 0) (pv 1) (fun _ _ => rfl)) (pe_gK rfl T.g_LETTERS) (by rfl)) (pw_or1 (PW.pt (pw_and (pt_cmpR op_gt (pv 1) pe_int (nomark _)) (pw_and1 (pt_cmpR op_ge_str (pe_ix ix_str (pv 0) (pe_op op_sub (pv 1) pe_int) (fun _ _ => rfl)) (pe_ix ix_str (pv 0) (pv 1) (fun _ _ => rfl)) (nomark _))))))))
      (pss_one (ps_ret pe_bl))
      pss_nil)))
  (pss_one (ps_ret pe_bl)))), ?_⟩
      walk_at "rd"
      refine ⟨_, _, _, _, _, rfl, .ty _, ht, kit_ty (kit_all _ hn _ (by decide)), _, rfl, ?_⟩
      rw [isaB_str hn, show (n == "str") = false from by simp [hs]]
      refine iteT ?_
      walk_at "rd"
      exact k
    refine ⟨_, (pss_cons (ps_if (PW.pt (pw_or (pt_not (pt_val (pe_callB call_isi (by rfl) T.b_isinstance (by decide +kernel) (pa_cons (pv 0) (pa_cons (pe_bltn (v := .ty "str") (by rfl) T.b_str (by decide +kernel) rfl) pa_nil))))) (pw_or1 (pt_not (pt_chain op_le op_le pe_int (pe_callB call_len_str (by rfl) T.b_len (by decide +kernel) (pa_cons (pv 0) pa_nil)) pe_int)))))
    (pss_one (ps_ret pe_bl))
    pss_nil)
  (pss_cons (ps_for PassesOwn.never rfl (pi_range1 (by rfl) T.b_range (pa_cons (pe_callB call_len_str (by rfl) T.b_len (by decide +kernel) (pa_cons (pv 0) pa_nil)) pa_nil)) (pg_name (i := 1) sc_is_signs.nd rfl (Or.inl rfl))
    (pss_one (ps_if (PW.pt (pw_or (pt_cmpR op_notIn_sign (pe_ix ix_str (pv 0) (pv 1) (fun _ _ => rfl)) (pe_gK rfl T.g_LETTERS) (by rfl)) (pw_or1 (PW.pt (pw_and (pt_cmpR op_gt (pv 1) pe_int (nomark _)) (pw_and1 (pt_cmpR op_ge_str (pe_ix ix_str (pv 0) (pe_op op_sub (pv 1) pe_int) (fun _ _ => rfl)) (pe_ix ix_str (pv 0) (pv 1) (fun _ _ => rfl)) (nomark _))))))))
      (pss_one (ps_ret pe_bl))
      pss_nil)))
  (pss_one (ps_ret pe_bl)))), ?_⟩
    walk_at "rd"
    refine ⟨_, _, _, _, _, rfl, .ty _, .base (.str _), kit_ty (r := true) (by decide +kernel), _, rfl, ?_⟩
    refine iteF ?_
    have hSl := S_len sg
    have bad : ∀ b : Bool, isSigns sg = b → Q (.bl b) H := fun b e => e ▸ k
    walk_at "rd"
    refine ite2 (fun c0 => ?_) (fun c0 => ?_)
    · have c0' : (1 : Int) ≤ (S sg).length := of_decide_eq_true c0
      walk_at "rd"
      refine ite2 (fun c1 => ?_) (fun c1 => ?_)
      · walk_at "rd"
        refine bad false ?_
        have c1' : ¬ ((S sg).length : Int) ≤ 8 := by simpa using c1
        have c2 : ¬ sg.length ≤ 8 := by omega
        simp only [isSigns, c2, decide_false, Bool.and_false, Bool.false_and]
      · have c1' : ((S sg).length : Int) ≤ 8 := by simpa using c1
        walk_at "rd"
        refine for_range (lo := 0) (n := (((S sg).length : Int)).toNat) (fun i σ H2 => (∃ v, σ = [some (.str (S sg)), v]) ∧ H2 = H ∧ ∀ j, j < i → okAt sg j = true)
          ⟨⟨_, rfl⟩, rfl, fun j hj => by omega⟩ ?_ ?_
        · rintro i σ H2 hi ⟨⟨v, rfl⟩, rfl, ok⟩
          have hi2 : i < sg.length := by omega
          have e1 : atI sg ((0 : Int) + i) = some (sg.getD i 0) := atI_at (by omega) (by rw [show ((0 : Int) + i).toNat = i by omega]; exact getD_some hi2)
          walk_at "rd"
          refine ⟨_, _, _, rfl, rfl, sz_S hl, e1, ?_⟩
          refine ⟨_, _, rfl, rfl, ?_⟩
          have notOk : okAt sg i = false → isSigns sg = false := fun e => by
            cases hb : isSigns sg with
            | false => rfl
            | true =>
              simp only [isSigns, Bool.and_eq_true, List.all_eq_true] at hb
              rw [hb.2 i (List.mem_range.mpr hi2)] at e
              cases e
          have more : okAt sg i = true → ∀ j, j < i + 1 → okAt sg j = true := fun e j hj => by
            rcases Nat.lt_succ_iff_lt_or_eq.mp hj with q | q
            · exact ok j q
            · rw [q]; exact e
          walk_at "rd"
          refine ite2 (fun d0 => ?_) (fun d0 => ?_)
          · refine iteT ?_
            walk_at "rd"
            refine bad false (notOk ?_)
            have d1 : ¬ sg.getD i 0 ∈ letters := by
              intro hm
              have : decide (sg.getD i 0 ∈ letters) = true := decide_eq_true hm
              rw [show (PySem.Str.cps (Str.ofString "abcdefghijklmnopqrstuvwxyz")).toList = letters from rfl, this] at d0
              cases d0
            simp only [okAt, d1, decide_false, Bool.false_and]
          · have d1 : sg.getD i 0 ∈ letters := by
              by_cases hm : sg.getD i 0 ∈ letters
              · exact hm
              · exact absurd (by rw [show (PySem.Str.cps (Str.ofString "abcdefghijklmnopqrstuvwxyz")).toList = letters from rfl, decide_eq_false hm]; rfl) d0
            walk_at "rd"
            refine ite2 (fun d2 => ?_) (fun d2 => ?_)
            · have d3 : (0 : Int) < 0 + i := of_decide_eq_true d2
              have e2 : atI sg ((0 : Int) + i - 1) = some (sg.getD (i - 1) 0) := atI_at (by omega) (by rw [show ((0 : Int) + i - 1).toNat = i - 1 by omega]; exact getD_some (by omega))
              walk_at "rd"
              refine ⟨_, _, _, rfl, rfl, sz_S hl, e2, ?_⟩
              walk_at "rd"
              refine ⟨_, _, _, rfl, rfl, sz_S hl, e1, ?_⟩
              refine ⟨_, _, rfl, rfl, ?_⟩
              walk_at "rd"
              refine ite2 (fun d4 => ?_) (fun d4 => ?_)
              · walk_at "rd"
                refine bad false (notOk ?_)
                have d5 : decide ([sg.getD (i - 1) 0] < [sg.getD i 0]) = false := by
                  cases hd : decide ([sg.getD (i - 1) 0] < [sg.getD i 0]) with
                  | false => rfl
                  | true =>
                    have d4' : (!decide ([sg.getD (i - 1) 0] < [sg.getD i 0])) = true := d4
                    rw [hd] at d4'; cases d4'
                have d6 : (i == 0) = false := by rw [beq_eq_false_iff_ne]; omega
                simp only [okAt, d5, d6, Bool.or_false, Bool.and_false]
              · walk_at "rd"
                refine ⟨⟨_, rfl⟩, rfl, more ?_⟩
                have d5 : decide ([sg.getD (i - 1) 0] < [sg.getD i 0]) = true := by
                  cases hd : decide ([sg.getD (i - 1) 0] < [sg.getD i 0]) with
                  | true => rfl
                  | false =>
                    refine absurd ?_ d4
                    show (!decide ([sg.getD (i - 1) 0] < [sg.getD i 0])) = true
                    rw [hd]; rfl
                simp only [okAt, d1, d5, decide_true, Bool.or_true, Bool.and_true]
            · have d3 : i = 0 := by
                have : ¬ (0 : Int) < 0 + i := by simpa using d2
                omega
              refine iteF ?_
              walk_at "rd"
              refine ⟨⟨_, rfl⟩, rfl, more ?_⟩
              subst d3
              simp only [okAt, d1, decide_true, Bool.true_and, beq_self_eq_true, Bool.true_or]
        · rintro σ H2 ⟨⟨v, rfl⟩, rfl, ok⟩
          walk_at "rd"
          refine bad true ?_
          have c2 : 1 ≤ sg.length := by omega
          have c3 : sg.length ≤ 8 := by omega
          simp only [isSigns, c2, c3, decide_true, Bool.true_and, List.all_eq_true]
          intro j hj
          exact ok j (by have := List.mem_range.mp hj; omega)
    · have c0' : ¬ (1 : Int) ≤ (S sg).length := by simpa using c0
      walk_at "rd"
      refine iteT ?_
      walk_at "rd"
      refine bad false ?_
      have c2 : ¬ 1 ≤ sg.length := by omega
      simp only [isSigns, c2, decide_false, Bool.false_and]
/-- check_signs: what are signs passes -/
def spCheckSigns : Sp := fun vs H Q _ => ∃ sg : List Nat, vs = [.str (S sg)] ∧ isSigns sg = true ∧ Q .non H
theorem signs_len {sg : List Nat} (h : isSigns sg = true) : 1 ≤ sg.length ∧ sg.length ≤ 8 := by
  simp only [isSigns, Bool.and_eq_true, decide_eq_true_eq] at h
  exact h.1
theorem c_check_signs (T : Txt K mg) : Cal P w K mg base CX0 2 "check_signs" spCheckSigns := by
  have c_is_signs := c_is_signs (P := P) (w := w) (base := base) T
  refine Cal.mk0 T.d_check_signs sc_check_signs (fun vs H Q E h => ?_) (fun f cdv A outer s H vs Q E hr h => ?_)
  · obtain ⟨sg, rfl, _⟩ := h
    rfl
  · obtain ⟨sg, rfl, hs, k⟩ := h
    have hl := signs_len hs
    refine ⟨_, (pss_one (ps_if (pt_not (pt_truth (pe_c c_is_signs hr (by decide) rfl (pa_cons (pv 0) pa_nil)) (by intro _; rfl)))
    (pss_one ps_never)
    pss_nil)), ?_⟩
    walk_at "rd"
    refine .inl ⟨sg, rfl, by omega, ?_⟩
    rw [hs]
    walk_at "rd"
    refine iteF ?_
    walk_at "rd"
    exact k
/-- is_text of a text -/
def isText (sg t : List Nat) (lo hi : Int) : Bool := decide (lo ≤ t.length) && decide ((t.length : Int) ≤ hi) && t.all fun c => decide (c ∈ sg)
def spIsText (K : PySem.W.Frag) : Sp := fun vs H Q _ => (∃ (sg t : List Nat) (lo hi : Int), vs = [.str (S sg), .str (S t), .int lo, .int hi] ∧ t.length ≤ 1000000 ∧ Q (.bl (isText sg t lo hi)) H) ∨ ∃ (u v a b : V), vs = [u, v, a, b] ∧ NotStr K H v ∧ Q (.bl false) H
def spCheckText : Sp := fun vs H Q _ => ∃ (sg t : List Nat), vs = [.str (S sg), .str (S t)] ∧ t.length ≤ 200 ∧ (∀ c ∈ t, c ∈ sg) ∧ Q .non H
end
end Sh
set_option Elab.async false
set_option linter.all false
set_option maxRecDepth 100000
namespace Sh
open PySem PySem.Spec PyProof.Rows L2
structure TxtC (K : PySem.W.Frag) (mg : Str → Option Value) (C0 : Addr) : Prop extends Txt K mg
end Sh
set_option Elab.async false
set_option linter.all false
set_option maxRecDepth 100000
namespace Sh
open PySem PySem.Spec PyProof.Rows L2
/-! ### t < u of tuples of ints and texts -/
def sameK : V → V → Bool
  | .int _, .int _ => true
  | .str _, .str _ => true
  | _, _ => false
def sameKs : List V → List V → Bool
  | x :: xs, y :: ys => sameK x y && sameKs xs ys
  | _, _ => true
def vLt : V → V → Bool
  | .int i, .int j => decide (i < j)
  | .str a, .str b => decide (a.cps.toList < b.cps.toList)
  | _, _ => false
def tupLt : List V → List V → Bool
  | [], [] => false
  | [], _ :: _ => true
  | _ :: _, [] => false
  | x :: xs, y :: ys => if x = y then tupLt xs ys else vLt x y
theorem lexAt_tup : ∀ (xs ys : List V) (e r : Nat → Bool) (k : Nat), sameKs xs ys = true →
    (∀ j x y, xs[j]? = some x → ys[j]? = some y → e (k + j) = decide (x = y)) → (∀ j x y, xs[j]? = some x → ys[j]? = some y → r (k + j) = vLt x y) →
    Ob.lexAt e r (decide (xs.length < ys.length)) k (min xs.length ys.length) = tupLt xs ys
  | [], [], e, r, k, _, _, _ => rfl
  | [], _ :: _, e, r, k, _, _, _ => by
    show Ob.lexAt e r (decide (0 < _ + 1)) k 0 = true
    rw [Ob.lexAt_zero]
    exact decide_eq_true (by omega)
  | _ :: _, [], e, r, k, _, _, _ => by
    show Ob.lexAt e r (decide (_ + 1 < 0)) k 0 = false
    rw [Ob.lexAt_zero]
    exact decide_eq_false (by omega)
  | x :: xs, y :: ys, e, r, k, hs, he, hr => by
    have e0 := he 0 x y rfl rfl
    have r0 := hr 0 x y rfl rfl
    rw [Nat.add_zero] at e0 r0
    have hs2 : sameKs xs ys = true := by
      have : (sameK x y && sameKs xs ys) = true := hs
      rw [Bool.and_eq_true] at this
      exact this.2
    have ih := lexAt_tup xs ys e r (k + 1) hs2 (fun j a b h1 h2 => by have := he (j + 1) a b (by simpa using h1) (by simpa using h2); rw [← this]; congr 1; omega)
      (fun j a b h1 h2 => by have := hr (j + 1) a b (by simpa using h1) (by simpa using h2); rw [← this]; congr 1; omega)
    have em : min (x :: xs).length (y :: ys).length = min xs.length ys.length + 1 := by simp only [List.length_cons]; omega
    have el : decide ((x :: xs).length < (y :: ys).length) = decide (xs.length < ys.length) := by
      simp only [List.length_cons]
      exact decide_eq_decide.mpr (by omega)
    rw [em, el, Ob.lexAt_succ, e0, r0, ih]
    show _ = if x = y then tupLt xs ys else vLt x y
    by_cases h : x = y
    · rw [if_pos h, if_pos (decide_eq_true h)]
    · rw [if_neg h, if_neg (by simpa using h)]
theorem sameKs_get : ∀ {xs ys : List V}, sameKs xs ys = true → ∀ {j : Nat} {x y : V}, xs[j]? = some x → ys[j]? = some y → sameK x y = true
  | [], _, _, j, _, _, h, _ => by simp at h
  | _ :: _, [], _, j, _, _, _, h => by simp at h
  | x :: xs, y :: ys, hs, j, a, b, h1, h2 => by
    have hs' : (sameK x y && sameKs xs ys) = true := hs
    rw [Bool.and_eq_true] at hs'
    cases j with
    | zero => simp at h1 h2; subst h1; subst h2; exact hs'.1
    | succ j => exact sameKs_get hs'.2 (by simpa using h1) (by simpa using h2)
def rLtTM (K : PySem.W.Frag) : R2 := fun x y H Q => ∃ a b xs ys, x = .ref a ∧ y = .ref b ∧ SqT K H a xs ∧ SqT K H b ys ∧ sameKs xs ys = true ∧ Q (.bl (tupLt xs ys)) H
theorem op_ltTM {X : Cx} (hu : X.A.units + 64 < cLine) : OpR X (compareOp .Lt) (rLtTM X.K) := by
  intro pins s σ H x y v u Q I rx ry h
  obtain ⟨a, b, xs, ys, rfl, rfl, ha, hb, hk, q⟩ := h
  cases rx
  cases ry
  obtain ⟨its, r1, p1, _⟩ := I.tuple ha
  obtain ⟨its2, r2, p2, _⟩ := I.tuple hb
  have l1 : its.toArray.size = xs.length := by rw [List.size_toArray]; exact r1.length.symm
  have l2 : its2.toArray.size = ys.length := by rw [List.size_toArray]; exact r2.length.symm
  have get : ∀ (j : Nat) (h1 : j < its.toArray.size) (h2 : j < its2.toArray.size), ∃ x y, xs[j]? = some x ∧ ys[j]? = some y ∧ RelV x its.toArray[j] ∧ RelV y its2.toArray[j] ∧ sameK x y = true := by
    intro j h1 h2
    have g1 : j < xs.length := l1 ▸ h1
    have g2 : j < ys.length := l2 ▸ h2
    obtain ⟨u1, e1, q1⟩ := r1.get (List.getElem?_eq_getElem g1)
    obtain ⟨u2, e2, q2⟩ := r2.get (List.getElem?_eq_getElem g2)
    have f1 : its.toArray[j] = u1 := by
      have : its[j]? = some its[j] := List.getElem?_eq_getElem (by simpa using h1)
      rw [this] at e1
      simpa using Option.some.inj e1
    have f2 : its2.toArray[j] = u2 := by
      have : its2[j]? = some its2[j] := List.getElem?_eq_getElem (by simpa using h2)
      rw [this] at e2
      simpa using Option.some.inj e2
    exact ⟨xs[j], ys[j], List.getElem?_eq_getElem g1, List.getElem?_eq_getElem g2, f1 ▸ q1, f2 ▸ q2, sameKs_get hk (List.getElem?_eq_getElem g1) (List.getElem?_eq_getElem g2)⟩
  let e : Nat → Bool := fun j => match xs[j]?, ys[j]? with
    | some x, some y => decide (x = y)
    | _, _ => false
  let r : Nat → Bool := fun j => match xs[j]?, ys[j]? with
    | some x, some y => vLt x y
    | _, _ => false
  have key := Ob.RcOp.tuples_lt (A := X.A) (s := s) (e := e) (r := r) p1 p2 (by omega) (fun j h1 h2 => ?_) (fun j h1 h2 _ => ?_)
  · rw [l1, l2, lexAt_tup xs ys e r 0 hk (fun j x y h1 h2 => by rw [Nat.zero_add]; simp only [e, h1, h2]) (fun j x y h1 h2 => by rw [Nat.zero_add]; simp only [r, h1, h2])] at key
    exact key X.prog X.w X.xe _ ⟨.bl (tupLt xs ys), H, I, rfl, q⟩
  · obtain ⟨x, y, g1, g2, q1, q2, hk2⟩ := get j h1 h2
    have he : e j = decide (x = y) := by simp only [e, g1, g2]
    rw [he]
    cases x <;> cases y <;> first | cases hk2 | skip
    · obtain ⟨t1, z1⟩ := q1
      obtain ⟨t2, z2⟩ := q2
      rw [z1, z2]
      have := SeqAt.EqAt.int_int (A := X.A.in1) (s := s)
      rename_i i k
      have w1 := this i t1 k t2
      have w2 : (i == k) = decide (V.int i = V.int k) := by
        by_cases hh : i = k
        · subst hh; simp
        · rw [decide_eq_false (fun z => hh (V.int.inj z))]; exact beq_eq_false_iff_ne.mpr hh
      rw [w2] at w1
      exact w1
    · obtain ⟨t1, z1⟩ := q1
      obtain ⟨t2, z2⟩ := q2
      rw [z1, z2]
      have := SeqAt.EqAt.str_str (A := X.A.in1) (s := s)
      rename_i i k
      have w1 := this i t1 k t2
      have w2 : (i == k) = decide (V.str i = V.str k) := by
        by_cases hh : i = k
        · subst hh; simp
        · rw [decide_eq_false (fun z => hh (V.str.inj z))]; exact beq_eq_false_iff_ne.mpr hh
      rw [w2] at w1
      exact w1
  · obtain ⟨x, y, g1, g2, q1, q2, hk2⟩ := get j h1 h2
    have he : r j = vLt x y := by simp only [r, g1, g2]
    rw [he]
    cases x <;> cases y <;> first | cases hk2 | skip
    · obtain ⟨t1, z1⟩ := q1
      obtain ⟨t2, z2⟩ := q2
      rw [z1, z2]
      exact Ob.RcOp.lt_int _ _ _ _
    · obtain ⟨t1, z1⟩ := q1
      obtain ⟨t2, z2⟩ := q2
      rw [z1, z2]
      exact fun _ _ _ _ h => PyProof.Rows.lt_str h
/-! ### repr of data of None, bools, ints, texts and tuples -/
theorem call_reprD {X : Cx} (hg : X.A.guards = some []) (hu : X.A.units + 64 < cLine) :
    CallR X (.builtin "repr") (fun xs H Q => ∃ v d, xs = [v] ∧ Dp X.K H v d ∧ d.showable = true ∧ d.hasDict = false ∧ d.depth ≤ 60 ∧ d.shown.length ≤ sizeLine ∧ Q (.str d.shown) H) := by
  intro pins s σ H xs us Q I r h
  obtain ⟨v, d, rfl, hd, h1, h2, h3, h4, q⟩ := h
  cases r with
  | cons rv rn =>
    cases rn
    rename_i u
    obtain ⟨as, hr⟩ := Dp.reads I d v u hd rv
    have big : ∀ a : Addr, u = .ref a → wpAny (model X.prog X.w) X.A (call (.builtin "repr") [u]) (EP X pins σ Q) X.xe s := fun a e => by
      subst e
      exact PySem.repr_of_reads' hr h1 (fun z => by rw [h2] at z; cases z) hg (by omega) (fun _ _ e => e) (fun h' w tk k => ⟨.str d.shown, H, I.kept k, ⟨_, rfl⟩, q⟩) h4
    cases hd with
    | non =>
      cases (show u = Value.none from rv)
      exact PySem.P.repr_of_none ⟨.str _, H, I.tok _, ⟨_, rfl⟩, q⟩
    | bl b =>
      cases (show u = Value.bool b from rv)
      refine PySem.P.repr_of_bool ⟨.str _, H, I.tok _, ⟨_, rfl⟩, q⟩
    | int i =>
      obtain ⟨t, e⟩ := (show ∃ t, u = Value.int i t from rv)
      subst e
      have h1' : i.natAbs.log2 < 1920 := by simpa [PyData.showable] using h1
      exact PySem.P.repr_of_int h1' ⟨.str _, H, I.tok _, ⟨_, rfl⟩, q⟩
    | str x =>
      obtain ⟨t, e⟩ := (show ∃ t, u = Value.str x t from rv)
      subst e
      exact PySem.P.repr_of_str ⟨.str _, H, I.tok _, ⟨_, rfl⟩, q⟩ h4
    | lst hs ha => exact big _ rv
    | tup hs ha => exact big _ rv
end Sh
set_option Elab.async false
set_option linter.all false
set_option maxRecDepth 100000
set_option maxHeartbeats 2000000
namespace Sh
open PySem PySem.Spec PyProof.Rows
section
variable {prog : Program} {w : World} {A : Around} {E : Value → Shared → Prop} {s : Shared} {K : PySem.W.Frag} {x C f : Addr} {ox : Obj} {odd : Option Obj}
theorem truthy_own {Q : Bool → Shared → Prop} (X : K.In s.heap) (I : PySem.W.InstAt s.heap x ox C odd) (hs : PySem.W.findIn K (.ref C) "__bool__" = some (some (.ref f))) (hf : PySem.W.isFn K (.ref f) = true)
    (h : wpAny (model prog w) A (call (.ref f) [.ref x]) (fun r s₁ => ∃ b, r = Value.bool b ∧ Q b s₁) E s) : wpAny (model prog w) A (truthy (.ref x)) Q E s := by
  unfold truthy
  first
    | refine wpAny_bind (m := callSpecial? (.ref x) (Str.ofString "__bool__")) (PySem.W.special_fn X I hs (beq_iff_eq.mp hf) (wpAny_mono h (fun r s' hr => ?_) fun _ _ y => y))
    | refine wpAny_bind (wpAny_pure (wpAny_bind (m := callSpecial? (.ref x) (Str.ofString "__bool__")) (PySem.W.special_fn X I hs (beq_iff_eq.mp hf) (wpAny_mono h (fun r s' hr => ?_) fun _ _ y => y))))
  obtain ⟨b, rfl, hq⟩ := hr
  first
    | exact wpAny_pure hq
    | exact wpAny_bind (wpAny_pure hq)
theorem meets_bool_own : MeetsIn prog w (Builtin.«bool.__new__» ⟨[.type "bool", .ref x], []⟩) (fun A R s => K.In s.heap ∧ PySem.W.InstAt s.heap x ox C odd ∧ PySem.W.findIn K (.ref C) "__bool__" = some (some (.ref f)) ∧ PySem.W.isFn K (.ref f) = true ∧
    wpAny (model prog w) A.in1 (call (.ref f) [.ref x]) (fun r s₁ => ∃ b, r = Value.bool b ∧ R (.ok (.ret (.bool b))) s₁) (fun e s' => R (.error e) s') s) :=
  MeetsIn.of_wp fun A R s hs => by
    obtain ⟨X, I, h1, h2, h⟩ := hs
    have f1 := F.conv_sub_bool
    have key : ∀ Q : Bool → Shared → Prop, (∀ b s₁, R (.ok (.ret (.bool b))) s₁ → Q b s₁) → wpAny (model prog w) A.in1 (truthy (.ref x)) Q (fun e s' => R (.error e) s') s := fun Q hq =>
      truthy_own X I h1 h2 (wpAny_mono h (fun r s₁ ⟨b, e, k⟩ => ⟨b, e, hq b s₁ k⟩) fun _ _ z => z)
    obtain ⟨hp, g, d, tk, os⟩ := s
    repeat (any_goals (first | assumption | (with_reducible refine key _ fun b s₁ k => ?_) | wp_step))
    all_goals first | exact ⟨_, rfl, by assumption⟩ | skip
theorem call_bool_own {Q : Value → Shared → Prop} (X : K.In s.heap) (I : PySem.W.InstAt s.heap x ox C odd) (hs : PySem.W.findIn K (.ref C) "__bool__" = some (some (.ref f))) (hf : PySem.W.isFn K (.ref f) = true)
    (h : wpAny (model prog w) A.in1.in1 (call (.ref f) [.ref x]) (fun r s₁ => ∃ b, r = Value.bool b ∧ Q r s₁) E s) : wpAny (model prog w) A (call (.type "bool") [.ref x]) Q E s := by
  refine callType_newIn F.called_bool F.newNe_bool (F.typeCall_bool_1 _) (F.newCall_bool_1 _) (fun obj => F.args_object_init_2 obj _) F.entry_bool_new (meets_bool_own (K := K) (C := C) (f := f) (ox := ox) (odd := odd)) ⟨X, I, hs, hf, ?_⟩
  refine wpAny_mono h (fun r s₁ ⟨b, e, k⟩ => ⟨b, e, ?_⟩) fun _ _ z => z
  subst e
  exact ⟨rfl, k⟩
end
end Sh
namespace Sh
open PySem PySem.Spec PyProof.Rows L2
section
variable {X : Cx} {CX : CXT} {C g : Addr} {n : Nat} {sp : Sp} {E : XK}
theorem fnR_of {P : Program} {w : World} {K : PySem.W.Frag} {mg : Str → Option Value} {base : Heap} {k : Nat} {f : Addr} {fd : FuncData} {ps : List Str} (F : FnOk P w K mg base CX k f fd ps sp) (b : Binds K fd ps []) : FnR P w K mg base CX k f sp := by
  intro A outer s H us vs Q E hr e0 r h
  have hl := F.len _ _ _ _ h
  have KX : K.In s.heap := e0.mod.kin.keeps fun b o e => (e0.bs b o e).1
  have hul : (us ++ []).length = ps.length := by rw [List.append_nil, ← r.length]; exact hl
  have hb := b s us KX hul
  rw [List.append_nil] at hb
  exact F.run A outer s H ⟨us, []⟩ us vs Q E hr e0 hb r h
/-- the callee runs below the running body -/
theorem run_in {pins : List (Addr × Obj)} {σ : L2.St} {H : Hp} {s : Shared} {A : Around} {Q : VK} {us : List Value} {ws : List V} (F : FnR X.prog X.w X.K X.mg X.base CX n g sp) (hr : Room n A) (e0 : Env0 X.prog X.w X.K X.mg X.base A X.stack s H) (hx : Passes CX X E)
    (I : Inv X pins σ H s) (r : Vals ws us) (h : sp ws H Q E) : wpAny (model X.prog X.w) A (call (.ref g) us) (EP X pins σ Q) X.xe s := by
  refine wpAny_call (codeAny_mono (F A X.stack s H us ws Q E hr e0 r h) fun r s' hq => ?_)
  cases r with
  | error e => exact hx pins σ H s e s' I hq
  | ok fl =>
    cases fl with
    | ret u => exact I.after hq
    | next => exact False.elim hq
    | brk => exact False.elim hq
    | cont => exact False.elim hq
/-- bool(x), x an instance of the class at C with an own __bool__ -/
def rBoolO (C : Addr) (sp : Sp) (E : XK) : List V → Hp → VK → Prop := fun xs H Q => ∃ a dx fs, xs = [V.ref a] ∧ H a = some (.ins C dx fs) ∧ sp [.ref a] H (fun z H' => ∃ b, z = .bl b ∧ Q z H') E
theorem call_boolO (hs : PySem.W.findIn X.K (.ref C) "__bool__" = some (some (.ref g))) (hf : PySem.W.isFn X.K (.ref g) = true) (F : FnR X.prog X.w X.K X.mg X.base CX n g sp) (hr : Room (n + 2) X.A) (hx : Passes CX X E) : CallR X (.type "bool") (rBoolO C sp E) := by
  intro pins s σ H xs us Q I r h
  obtain ⟨a, dx, fs, rfl, ha, q⟩ := h
  obtain rfl := Vals.ref1 r
  obtain ⟨ox, od, J, _⟩ := StX.insC_at (C := C) I (.inr ⟨dx, fs, ha⟩)
  have hr2 : Room n X.A.in1.in1 := (show Room (n + 1) X.A.in1 from Room.in1 hr).in1
  refine call_bool_own I.kIn J hs hf (wpAny_mono (run_in (us := [.ref a]) (ws := [.ref a]) F hr2 I.env0.in1.in1 hx I (.cons rfl .nil) q) (fun v s' z => ?_) fun _ _ x => x)
  obtain ⟨z', H', I', rz, b, eb, qz⟩ := z
  subst eb
  cases (show v = Value.bool b from rz)
  exact ⟨b, rfl, .bl b, H', I', rfl, qz⟩
end
end Sh
set_option Elab.async false
set_option linter.all false
set_option maxRecDepth 100000
set_option maxHeartbeats 2000000
namespace Sh
open PySem PySem.Spec PyProof.Rows L2
/-- a class of the text -/
structure ClassAt (K : PySem.W.Frag) (mg : Str → Option Value) (x : Str) (C : Addr) : Prop where
  cl : Cls K C
  mgC : mg x = some (.ref C)
  makes : PySem.W.makesIn K C = true
  kp : PySem.W.keepIn K (.ref C) = true
/-- a method of the class at C -/
structure MethAt (K : PySem.W.Frag) (C : Addr) (m q : Str) (st : Stmt) (ps : List Str) : Prop where
  ex : ∃ (f : Addr) (fd : FuncData), L2.Fun K m q st f fd ∧ Binds K fd ps [] ∧ PySem.W.findIn K (.ref C) m = some (some (.ref f)) ∧ PySem.W.isFn K (.ref f) = true ∧ PySem.W.fnIn K f = true
structure MetC (P : Program) (w : World) (K : PySem.W.Frag) (mg : Str → Option Value) (base : Heap) (k : Nat) (C : Addr) (m : Str) (sp : Sp) : Prop where
  ex : ∃ (f : Addr) (fd : FuncData) (ps : List Str), FnOk P w K mg base CX0 k f fd ps sp ∧ Binds K fd ps [] ∧ PySem.W.findIn K (.ref C) m = some (some (.ref f)) ∧ PySem.W.isFn K (.ref f) = true ∧ PySem.W.fnIn K f = true
section
variable {P : Program} {w : World} {K : PySem.W.Frag} {mg : Str → Option Value} {base : Heap}
theorem MetC.mk0 {m q : Str} {C : Addr} {st : Stmt} {N ps : List Str} {k : Nat} {sp : Sp} (D : MethAt K C m q st ps) (S : FnScope N ps (defScope st)) (len : ∀ vs H Q E, sp vs H Q E → vs.length = ps.length)
    (hbody : ∀ (f : Addr) (cdv : Value) (A : Around) (outer : List Env) (s : Shared) (H : Hp) (vs : List V) (Q : VK) (E : XK), Room k (A.deeper (envOfC q (defScope st) s.heap.objs.size f cdv)) → sp vs H Q E →
      ∃ t, PSs (cxOf CX0 P w K mg base N q (defScope st) f cdv A outer s H E).nox (defBody st) t ∧ t { nx := fun _ H' => Q .non H', rt := Q } (start N vs) H) : MetC P w K mg base (k + 1) C m sp := by
  obtain ⟨f, fd, F, b, i, n, o⟩ := D.ex
  exact ⟨f, fd, ps, F.ok S len (hbody f), b, i, n, o⟩
end
section
variable {X : Cx} {k j : Nat} {x m : Str} {C : Addr} {sp : Sp} {p pos : Pos} {e fe : Expr} {es : List Expr} {t : TA} {tf : TE}
/-- C(e, ..) -/
theorem pe_mkC (c : ClassAt X.K X.mg x C) (d : MetC X.prog X.w X.K X.mg X.base k C "__init__" sp) (hr : Room j X.A) (hk : k + 1 ≤ j) (hg : Gl X x) (ha : PA X (e :: es) t)
    (hdb : (x == ("__debug__" : Str)) = false := by decide) (he : starEach (e :: es) X.env = (false, eval e X.env) :: starEach es X.env := by rfl) (hpl : (backTo pos (starEach es X.env)).any (·.1) = false := by rfl) :
    PE X (.Call (.Name x p) (e :: es) [] pos) (tMake C sp [] E0 t) := by
  obtain ⟨f, fd, ps, F, b, i, n, o⟩ := d.ex
  exact pe_make ⟨c.makes, i, n, c.kp⟩ F (hr.mono hk) hg c.mgC b .nil pass0 ha hdb he hpl
/-- o(e, ..), o an instance -/
theorem pe_instC (hf : PE X fe tf) (d : MetC X.prog X.w X.K X.mg X.base k C "__call__" sp) (hr : Room j X.A) (hk : k ≤ j) (ha : PA X (e :: es) t)
    (ht : eval (.Call fe (e :: es) [] pos) X.env = (do callWith pos (← eval fe X.env) [] (backTo pos (starEach (e :: es) X.env)) (backToKw pos (keywordEach [] X.env))) := by rfl)
    (he : starEach (e :: es) X.env = (false, eval e X.env) :: starEach es X.env := by rfl) (hpl : (backTo pos (starEach es X.env)).any (·.1) = false := by rfl) : PE X (.Call fe (e :: es) [] pos) (StX.tCallO X C sp E0 tf t) := by
  obtain ⟨f, fd, ps, F, b, i, n, o⟩ := d.ex
  exact StX.pe_callO hf ⟨i, n, o⟩ (fnR_of F b) (hr.mono hk) pass0 ha ht he hpl
/-- bool(o) -/
theorem call_boolC (d : MetC X.prog X.w X.K X.mg X.base k C "__bool__" sp) (hr : Room j X.A) (hk : k + 2 ≤ j) : CallR X (.type "bool") (rBoolO C sp E0) := by
  obtain ⟨f, fd, ps, F, b, i, n, o⟩ := d.ex
  exact call_boolO i n (fnR_of F b) (hr.mono hk) pass0
end
theorem putF_le (f : Str) (v : V) : ∀ fs : List (Str × V), (putF f v fs).length ≤ fs.length + 1
  | [] => Nat.le_refl _
  | (g, x) :: r => by
    show (if g = f then (g, v) :: r else (g, x) :: putF f v r).length ≤ _
    have := putF_le f v r
    split <;> simp <;> omega
theorem Keep.butI {H H' : Hp} {a C dx : Addr} {fs : List (Str × V)} (s : But a H H') (z : H a = some (.ins C dx fs)) : Keep H H' := fun b xs h => by
  rcases h with h | ⟨o, h⟩
  · exact .inl (s _ _ (ne_of h z (by intro q; cases q)) h)
  · exact .inr ⟨o, s _ _ (ne_of h z (by intro q; cases q)) h⟩
end Sh
set_option Elab.async false
set_option linter.all false
set_option maxRecDepth 100000
set_option maxHeartbeats 2000000
/-! The law's own call, known to be the outermost one: no repr runs around it (guards = some []), which FnOk does not tell. -/
namespace Sh
open PySem PySem.Spec PyProof.Rows L2
section
variable {P : Program} {w : World} {K : PySem.W.Frag} {mg mb : Str → Option Value}
/-- one def run at one place B: what fn_of says for every place -/
theorem run_at {base : Heap} {j : Nat} {g : Addr} {q : Str} {st : Stmt} {fd : FuncData} {N ps : List Str} {B : Around} {out : List Env} {s0 : Shared} {H0 : Hp} {ar : Args} {us : List Value} {zs : List V} {R : VK} {X0 : XK}
    (F : L2.Fun K q q st g fd) (S : FnScope N ps (defScope st)) (hl : zs.length = ps.length) (room : Room (j + 1) B) (en : Env0 P w K mg base B out s0 H0) (bi : BindsTo s0 fd ar (ps.zip us)) (rv : Vals zs us)
    (body : ∀ cdv : Value, Room j (B.deeper (envOfC q (defScope st) s0.heap.objs.size g cdv)) →
      ∃ t, PSs (cxOf CX0 P w K mg base N q (defScope st) g cdv B out s0 H0 X0).nox (defBody st) t ∧ t { nx := fun _ H' => R .non H', rt := R } (start N zs) H0) :
    codeAny (model P w) B (.call (.ref g) ar) (CR CX0 out P w H0 s0 R X0) s0 := by
  obtain ⟨oc, od, kV, doc, pm, an, cdv, ct, osl, rfl, look, code⟩ := F.ex
  have inK : K.In s0.heap := en.mod.kin.keeps fun b o z => (en.bs b o z).1
  have noL : s0.heap.NoLimit := en.mod.nolimit.keeps fun b o z => (en.bs b o z).1
  refine codeAny_call_function room.depth (inK _ _ look) rfl S.co S.gen rfl (PySem.W.codeRec_of inK code) (bi _ _ _ _ ?_)
  refine wpAny_newFunctionEnv_cells S.kind ?_ fun env same s2 at2 => ?_
  · rintro ⟨n, v⟩ mem
    exact (S.par n (List.of_mem_zip mem).1).imp id fun z => ⟨z, PySem.W.cellsFrom_some _ _ _ (.inl z)⟩
  · subst same
    refine ⟨noL.keeps at2.toInCall.keep, codeAny_func ?_⟩
    obtain ⟨t, run, val⟩ := body cdv (room.deeper _)
    have I0 := inv_start (CX := CX0) (E := X0) S room.hd en hl rv at2
    refine wpAny_mono (run.nox.run [] s2 _ H0 _ I0 val) (fun fl s3 out3 => ?_) fun e s3 z => z
    match fl, out3 with
    | .ret u, ⟨v, _, H3, J, r3, z⟩ => exact ⟨v, H3, J.os, J.bare, J.base, J.hok, r3, z⟩
    | .next, ⟨_, H3, J, z⟩ => exact ⟨.non, H3, J.os, J.bare, J.base, J.hok, rfl, z⟩
    | .brk, ⟨_, _, _, z⟩ => exact z.elim
    | .cont, ⟨_, _, _, z⟩ => exact z.elim
/-- at most the script is tracked, as an object that keeps -/
def OnlyA (a : Addr) (ls : List V) (vs : List Value) (H : Hp) : Prop := ∀ b u, H b = some u → b = a ∧ u = .frz { cls := .type "list", data := .seq vs.toArray } (.lst ls)
theorem law_in {k : Nat} {fa a : Addr} {x p1 : Str} {st : Stmt} {fd : FuncData} {N : List Str} {s1 : Shared} {vs : List Value} {zs : List Int}
    (kin : K.In s1.heap) (glob : s1.heap.Ns mainGlobals mg) (bltn : s1.heap.Ns builtinsNs mb) (bboot : ∀ y : Str, y ≠ "__name__" → mb y = bootBuiltins y) (noL : s1.heap.NoLimit) (noG : s1.gens = #[])
    (scr : s1.heap.get? a = some { cls := .type "list", data := .seq vs.toArray }) (isI : IntsAre vs zs) (small : zs.length ≤ sizeLine) (room : Room (k + 1) callerA)
    (F : L2.Fun K x x st fa fd) (S : FnScope N [p1] (defScope st)) (bi : ∀ (s : Shared) (u : Value), BindsTo s fd ⟨[u], []⟩ [(p1, u)])
    (body : ∀ (base : Heap) (H : Hp) (cdv : Value), Room k (callerA.deeper (envOfC x (defScope st) s1.heap.objs.size fa cdv)) → SqL K H a (zs.map V.int) →
      ∃ t, PSs (cxOf CX0 P w K mg base N x (defScope st) fa cdv callerA [] s1 H fun _ _ _ => False).nox (defBody st) t ∧ t { nx := fun _ _ => V.non = V.bl true, rt := fun v _ => v = .bl true } (start N [.ref a]) H) :
    codeAny (model P w) callerA (.call (.ref fa) ⟨[.ref a], []⟩) (fun r s' => r = .ok (.ret (.bool true)) ∧ OldK s1.heap s'.heap ∧ s'.os = s1.os ∧ AllBare s'.gens) s1 := by
  have isV := vals_ints isI
  have sameL := isI.length
  have main : ∀ H : Hp, OnlyA a (zs.map V.int) vs H → SqL K H a (zs.map V.int) → HOk P w H s1.heap → (K.lookup a ≠ none → H a = none) →
      codeAny (model P w) callerA (.call (.ref fa) ⟨[.ref a], []⟩) (fun r s' => r = .ok (.ret (.bool true)) ∧ OldK s1.heap s'.heap ∧ s'.os = s1.os ∧ AllBare s'.gens) s1 := by
    intro H lone sq good apart
    -- what is not the script is not tracked
    have free : ∀ {b : Addr}, b ≠ a → H b = none := fun {b} n => by
      cases z : H b with
      | none => rfl
      | some u => exact absurd (lone b u z).1 n
    have nsF : ∀ {b : Addr} {m : Str → Option Value}, s1.heap.Ns b m → (hidT s1.heap H).Ns b m := by
      rintro b m ⟨o, es, ep, z, dat, rest⟩
      refine ⟨o, es, ep, hidT_get z (free ?_), dat, rest⟩
      rintro rfl
      rw [scr] at z
      cases z
      cases (show Data.seq vs.toArray _ = Data.dict es ep from dat)
    have kinF : K.In (hidT s1.heap H) := fun b o z => by
      by_cases n : b = a
      · subst n
        exact hidT_get (kin _ _ z) (apart (by rw [z]; simp))
      · exact hidT_get (kin b o z) (free n)
    obtain ⟨mc, c1, c2⟩ := noL
    have en : Env0 P w K mg (hidT s1.heap H) callerA [] s1 H := by
      refine ⟨rfl, ⟨kinF, nsF glob, ⟨mb, nsF bltn, bboot⟩, ⟨mc, nsF c1, c2⟩⟩, fun b o z => of_hidT z, Nat.le_of_eq (hidT_size _ _), trivial, fun b z => ?_, good, .of_eq noG⟩
      cases z
    refine codeAny_mono (run_at (R := fun v _ => v = .bl true) (zs := [.ref a]) (us := [.ref a]) F S rfl room en (bi s1 (.ref a)) (.cons rfl .nil) fun cdv r => body _ H cdv r sq) fun res s2 h => ?_
    match res, h with
    | .error e, h => exact (show False from h).elim
    | .ok .next, h => exact (show False from h).elim
    | .ok .brk, h => exact (show False from h).elim
    | .ok .cont, h => exact (show False from h).elim
    | .ok (.ret u), ⟨v, H2, os, bare, un, good2, rv, ev⟩ =>
      obtain rfl : v = .bl true := ev
      obtain rfl : u = Value.bool true := rv
      refine ⟨rfl, OldK.of_keep fun b o z => ?_, os, bare⟩
      cases q : H b with
      | none => exact un.keep b o z q (fun m => by cases m) (by simp)
      | some u =>
        obtain ⟨rfl, rfl⟩ := lone b u q
        have g1 := (good _ _ q).1
        rw [z] at g1
        cases g1
        exact (good2 _ _ (un.frzs _ _ _ q)).1
  by_cases own : K.lookup a = none
  · refine main (fun b => if b = a then some (.frz { cls := .type "list", data := .seq vs.toArray } (.lst (zs.map V.int))) else none) ?_ (.inl (.inr ⟨_, if_pos rfl⟩)) ?_ fun n => absurd own n
    · intro b u z
      by_cases n : b = a
      · exact ⟨n, (Option.some.inj ((if_pos n).symm.trans z)).symm⟩
      · cases (if_neg n).symm.trans z
    · intro b u z
      by_cases n : b = a
      · subst n
        cases (if_pos rfl).symm.trans z
        exact ⟨scr, by rw [List.length_map]; exact small, vs, _, isV, scr⟩
      · cases (if_neg n).symm.trans z
  · obtain ⟨o, z⟩ := Option.ne_none_iff_exists'.mp own
    have same := kin a o z
    rw [scr] at same
    cases same
    exact main (fun _ => none) (fun _ _ z => by cases z) (.inr ⟨_, vs.toArray, _, z, rfl, rfl, rfl, by rw [List.size_toArray, sameL]; exact small, by simpa using isV⟩) (fun _ _ z => by cases z) fun _ => rfl
end
/-- the law's claim from its body, walked where no repr runs around it -/
theorem walk_law {l : PySem.W.OpenLaw} {n k : Nat} {q : Program} {loose : List Str} {XP : (Str → Option Value) → Heap → Prop} {YP : World → Heap → Prop} {d : DefRec} {K : Params → PySem.W.Frag} {x p1 : Str} {st : Stmt} {N : List Str}
    (hn : l.most = some n) (hn2 : n ≤ sizeLine) (hdf : d.params.defaults = []) (room : Room (k + 1) callerA) (S : FnScope N [p1] (defScope st))
    (hY : ∀ (w : World) (h : Heap), YP w h → (K w.params).In h)
    (F : ∀ (w : World) (mg : Str → Option Value) (fa : Addr) (h : Heap), (K w.params).In h → h.Ns mainGlobals mg → mg d.name = some (.ref fa) →
      ∃ fd : FuncData, L2.Fun (K w.params) x x st fa fd ∧ (∀ (s : Shared) (u : Value), BindsTo s fd ⟨[u], []⟩ [(p1, u)]) ∧
        ∀ (s1 : Shared) (a : Addr) (zs : List Int) (base : Heap) (H : Hp) (cdv : Value), zs.length ≤ n → (∀ z ∈ zs, Builtin.Int.intBits z ≤ 1048576) → Room k (callerA.deeper (envOfC x (defScope st) s1.heap.objs.size fa cdv)) → SqL (K w.params) H a (zs.map V.int) →
          ∃ t, PSs (cxOf CX0 l.prog w (K w.params) mg base N x (defScope st) fa cdv callerA [] s1 H fun _ _ _ => False).nox (defBody st) t ∧ t { nx := fun _ _ => V.non = V.bl true, rt := fun v _ => v = .bl true } (start N [.ref a]) H) :
    PySem.W.WalkO q loose XP YP l.row.toRowW d [] (fun f vs => PySem.call f vs) := by
  refine Att.attach_callB hn hdf fun w s0 s1 mg mb fa o pm cd doc a vs zs G Y ho hd hcd hmg hobj isI len bits noG => ?_
  have kin := hY w _ Y
  obtain ⟨fd, Fn, bi, body⟩ := F w mg fa _ kin G.T.g hmg
  exact law_in kin G.T.g G.T.b G.T.builtins G.T.nolimit noG hobj isI (Nat.le_trans len hn2) room Fn S bi fun base H cdv r sq => body s1 a zs base H cdv len bits r sq
end Sh
set_option Elab.async false
set_option linter.all false
set_option maxRecDepth 100000
namespace Sh
open PySem PySem.Spec PyProof.Rows L2
section
variable {K : PySem.W.Frag} {h : Heap} {mg : Str → Option Value}
/-- a constant that the top has written -/
theorem con_mk {x : Str} {u : Value} {v : V} (X : K.In h) (Y : h.Ns mainGlobals mg) (a : PySem.W.nsIn K mainGlobals x = some (some u)) (r : RelV v u) : ∃ u, mg x = some u ∧ RelV v u := ⟨u, PySem.W.mg_of X Y a, r⟩
/-- a def -/
theorem def_mk {x : Str} {st : Stmt} {ps : List Str} {f : Addr} {oc kv dc pm cd ct : Value} {od an : Option Addr} {sl : Array (Option Value)} (X : K.In h) (Y : h.Ns mainGlobals mg) (a : PySem.W.nsIn K mainGlobals x = some (some (.ref f)))
    (l : K.lookup f = some ⟨oc, od, .func (PySem.W.fnOf x x (defArgs st) (defBody st) (defScope st) .none kv dc pm an cd ct), sl⟩) (c : PySem.W.codeIn K cd x = true) (k : PySem.W.keepIn K (.ref f) = true)
    (b : ∀ (kV doc pm : Value) (an : Option Addr) (cdv ct : Value) (us : List Value), us.length = ps.length → bindArgs (PySem.W.fnOf x x (defArgs st) (defBody st) (defScope st) .none kV doc pm an cdv ct) ⟨us, []⟩ = pure (ps.zip us)) : DefAt K mg x st ps := by
  have F := fun_mk (st := st) l c k
  exact ⟨f, _, F, PySem.W.mg_of X Y a, F.binds b⟩
/-- a method -/
theorem meth_mk {C : Addr} {m q : Str} {st : Stmt} {ps : List Str} {f : Addr} {oc kv dc pm cd ct : Value} {od an : Option Addr} {sl : Array (Option Value)}
    (l : K.lookup f = some ⟨oc, od, .func (PySem.W.fnOf m q (defArgs st) (defBody st) (defScope st) .none kv dc pm an cd ct), sl⟩) (c : PySem.W.codeIn K cd q = true) (k : PySem.W.keepIn K (.ref f) = true)
    (i : PySem.W.findIn K (.ref C) m = some (some (.ref f))) (n : PySem.W.isFn K (.ref f) = true) (o : PySem.W.fnIn K f = true)
    (b : ∀ (kV doc pm : Value) (an : Option Addr) (cdv ct : Value) (us : List Value), us.length = ps.length → bindArgs (PySem.W.fnOf m q (defArgs st) (defBody st) (defScope st) .none kV doc pm an cdv ct) ⟨us, []⟩ = pure (ps.zip us)) : MethAt K C m q st ps := by
  have F := fun_mk (st := st) l c k
  exact ⟨f, _, F, F.binds b, i, n, o⟩
/-- the law's def -/
theorem law_mk {x p1 : Str} {st : Stmt} {fa f : Addr} {oc kv dc pm cd ct : Value} {od an : Option Addr} {sl : Array (Option Value)} (X : K.In h) (Y : h.Ns mainGlobals mg) (g : mg x = some (.ref fa)) (a : PySem.W.nsIn K mainGlobals x = some (some (.ref f)))
    (l : K.lookup f = some ⟨oc, od, .func (PySem.W.fnOf x x (defArgs st) (defBody st) (defScope st) .none kv dc pm an cd ct), sl⟩) (c : PySem.W.codeIn K cd x = true) (k : PySem.W.keepIn K (.ref f) = true)
    (b : ∀ (kV doc pm : Value) (an : Option Addr) (cdv ct : Value) (s : Shared) (u : Value), BindsTo s (PySem.W.fnOf x x (defArgs st) (defBody st) (defScope st) .none kV doc pm an cdv ct) ⟨[u], []⟩ [(p1, u)]) :
    ∃ fd : FuncData, L2.Fun K x x st fa fd ∧ ∀ (s : Shared) (u : Value), BindsTo s fd ⟨[u], []⟩ [(p1, u)] := by
  cases g.symm.trans (PySem.W.mg_of X Y a)
  exact ⟨_, fun_mk l c k, b _ _ _ _ _ _⟩
end
end Sh
set_option Elab.async false
set_option linter.all false
set_option maxRecDepth 100000
set_option maxHeartbeats 2000000
namespace Sh
open PySem PySem.Spec PyProof.Rows L2
section
variable {X : Cx} {C : Addr} {k j : Nat} {sp : Sp} {a : Expr} {ta : TE} {pos : Pos}
/-- not o, o an instance of the class at C with an own __bool__ -/
def tNotI (C : Addr) (sp : Sp) (ta : TE) : TE := fun σ H Q => ta σ H fun x H1 => ∃ p dx fs, x = .ref p ∧ H1 p = some (.ins C dx fs) ∧ sp [.ref p] H1 (fun z H2 => ∃ b, z = .bl b ∧ Q (.bl (!b)) H2) E0
theorem pe_notI (d : MetC X.prog X.w X.K X.mg X.base k C "__bool__" sp) (hr : Room j X.A) (hk : k ≤ j) (ha : PE X a ta) : PE X (.UnaryOp .Not a pos) (tNotI C sp ta) := by
  obtain ⟨f, fd, ps, F, b, i, n, o⟩ := d.ex
  refine ⟨fun pins s σ H Q I h => ?_⟩
  refine UnaryOp_ (thn (ha.run pins s σ H _ I h) fun v s1 ⟨x, H1, I1, r1, p, dx, fs, ex, hH, q⟩ => ?_)
  subst ex
  obtain rfl : v = .ref p := r1
  obtain ⟨ox, od, J, _⟩ := StX.insC_at (C := C) I1 (.inr ⟨dx, fs, hH⟩)
  refine not_of (truthy_own I1.kIn J i n (wpAny_mono (run_in (us := [.ref p]) (ws := [.ref p]) (fnR_of F b) (hr.mono hk) I1.env0 pass0 I1 (.cons rfl .nil) q) (fun v s' z => ?_) fun _ _ x => x))
  obtain ⟨z', H', I', rz, c, ec, qz⟩ := z
  subst ec
  obtain rfl : v = .bool c := rz
  exact ⟨c, rfl, .bl (!c), H', I', rfl, qz⟩
end
end Sh
set_option Elab.async false
set_option linter.all false
set_option maxRecDepth 100000
set_option maxHeartbeats 2000000
namespace Sh
open PySem PySem.Spec PyProof.Rows L2
section
variable {X : Cx} {k j : Nat} {C : Addr} {sp : Sp} {pos : Pos} {e fe : Expr} {es : List Expr} {t : TA} {tf : TE}
/-- o(e, ..), o an instance with fields: a reading that does not name the frame (for comprehensions) -/
def tInst (C : Addr) (sp : Sp) (tf : TE) (t : TA) : TE := fun σ H Q => tf σ H fun y H1 => ∃ a, y = V.ref a ∧ t σ H1 fun zs H2 => (∃ dx fs, H2 a = some (.ins C dx fs)) ∧ sp (V.ref a :: zs) H2 Q E0
theorem pe_instP (hf : PE X fe tf) (d : MetC X.prog X.w X.K X.mg X.base k C "__call__" sp) (hr : Room j X.A) (hk : k ≤ j) (ha : PA X (e :: es) t)
    (h1 : eval (.Call fe (e :: es) [] pos) X.env = (do callWith pos (← eval fe X.env) [] (backTo pos (starEach (e :: es) X.env)) (backToKw pos (keywordEach [] X.env))) := by rfl)
    (h2 : starEach (e :: es) X.env = (false, eval e X.env) :: starEach es X.env := by rfl) (h3 : (backTo pos (starEach es X.env)).any (·.1) = false := by rfl) : PE X (.Call fe (e :: es) [] pos) (tInst C sp tf t) := by
  obtain ⟨f, fd, ps, F, b, i, n, o⟩ := d.ex
  constructor
  intro pins s σ H Q I h
  refine Call_ (thn (hf.run pins s σ H _ I h) ?_) h1
  rintro u s1 ⟨_, H1, I1, ry, a, rfl, q⟩
  obtain rfl : u = .ref a := ry
  refine StX.callO_with (thn (ha.run pos pins s1 σ H1 _ I1 q) ?_) h2 h3
  rintro us s2 ⟨zs, H2, I2, rz, isC, q2⟩
  obtain ⟨ox, od, J, dat⟩ := StX.insC_at (C := C) I2 (.inr isC)
  exact ⟨⟨C, ox, od, J, dat⟩, StX.run_callO ⟨i, n, o⟩ (fnR_of F b) (hr.mono hk) pass0 I2 (.inr isC) rz q2⟩
end
end Sh
set_option Elab.async false
set_option linter.all false
set_option maxRecDepth 100000
set_option maxHeartbeats 2000000
/-! sorted of tuples of ints and texts, of any length, without and with a key def -/
namespace Sh
open PySem PySem.Spec PyProof.Rows L2
/-! ### a total order -/
def cd : V → List Int
  | .int i => [0, i]
  | .str s => 1 :: s.cps.toList.map Int.ofNat
  | _ => [2]
def cLt (a b : List V) : Bool := decide (a.map cd < b.map cd)
theorem ofNat_lt (a b : List Nat) : (a.map Int.ofNat < b.map Int.ofNat) ↔ a < b := by
  induction a generalizing b with
  | nil => cases b <;> simp
  | cons x a ih =>
    cases b with
    | nil => simp
    | cons y b =>
      rw [List.map_cons, List.map_cons, List.cons_lt_cons_iff, List.cons_lt_cons_iff, ih]
      constructor
      · rintro (h | ⟨h, k⟩)
        · exact .inl (Int.ofNat_lt.mp h)
        · exact .inr ⟨Int.ofNat.inj h, k⟩
      · rintro (h | ⟨h, k⟩)
        · exact .inl (Int.ofNat_lt.mpr h)
        · exact .inr ⟨congrArg Int.ofNat h, k⟩
theorem cd_lt {x y : V} (h : sameK x y = true) : vLt x y = decide (cd x < cd y) := by
  cases x <;> cases y <;> first | cases h | skip
  · rename_i i j
    show decide (i < j) = decide ([0, i] < [0, j])
    refine decide_eq_decide.mpr ?_
    simp [List.cons_lt_cons_iff]
  · rename_i a b
    show decide (a.cps.toList < b.cps.toList) = decide ((1 : Int) :: a.cps.toList.map Int.ofNat < 1 :: b.cps.toList.map Int.ofNat)
    refine decide_eq_decide.mpr ?_
    rw [List.cons_lt_cons_iff, ofNat_lt]
    simp
theorem cd_eq {x y : V} (h : sameK x y = true) : (x = y) ↔ (cd x = cd y) := by
  cases x <;> cases y <;> first | cases h | skip
  · rename_i i j
    simp [cd]
  · rename_i a b
    refine ⟨fun e => by rw [e], fun e => ?_⟩
    have e' : a.cps.toList.map Int.ofNat = b.cps.toList.map Int.ofNat := (List.cons.inj e).2
    have inj : Function.Injective Int.ofNat := fun a b h => Int.ofNat.inj h
    have e2 : a.cps.toList = b.cps.toList := by
      have := congrArg (List.map Int.toNat) e'
      simpa [List.map_map, Function.comp_def] using this
    have e3 : a.cps = b.cps := Array.toList_inj.mp e2
    cases a; cases b
    simp only at e3
    rw [e3]
theorem tup_cLt : ∀ {a b : List V}, sameKs a b = true → tupLt a b = cLt a b
  | [], [], _ => by simp [tupLt, cLt]
  | [], _ :: _, _ => by simp [tupLt, cLt]
  | _ :: _, [], _ => by simp [tupLt, cLt]
  | x :: xs, y :: ys, h => by
    have h' : (sameK x y && sameKs xs ys) = true := h
    rw [Bool.and_eq_true] at h'
    have ih := tup_cLt h'.2
    unfold tupLt cLt
    by_cases e : x = y
    · subst e
      rw [if_pos rfl, ih]
      unfold cLt
      refine decide_eq_decide.mpr ?_
      rw [List.map_cons, List.map_cons, List.cons_lt_cons_iff]
      constructor
      · exact fun k => .inr ⟨rfl, k⟩
      · rintro (k | ⟨_, k⟩)
        · exact absurd k (List.lt_irrefl _)
        · exact k
    · rw [if_neg e, cd_lt h'.1]
      refine decide_eq_decide.mpr ?_
      rw [List.map_cons, List.map_cons, List.cons_lt_cons_iff]
      constructor
      · exact fun k => .inl k
      · rintro (k | ⟨k, _⟩)
        · exact k
        · exact absurd ((cd_eq h'.1).mpr k) e
theorem swo_cLt {α : Type} (k : α → List V) : SrtO.Swo fun u v => cLt (k u) (k v) := by
  refine ⟨fun x y h => ?_, fun x y z h1 h2 => ?_⟩
  · have a := of_decide_eq_true h
    exact decide_eq_false fun b => List.lt_irrefl _ (List.lt_trans a b)
  · have a := of_decide_eq_false h1
    have b := of_decide_eq_false h2
    refine decide_eq_false fun c => ?_
    rcases Classical.em ((k y).map cd < (k x).map cd) with q | q
    · exact a q
    · -- x ≤ y, y ≤ z, z < x
      rcases Classical.em ((k x).map cd < (k y).map cd) with p | p
      · exact b (List.lt_trans c p)
      · have e : (k x).map cd = (k y).map cd := by
          have h1 : (k x).map cd ≤ (k y).map cd := List.not_lt.mp q
          have h2 : (k y).map cd ≤ (k x).map cd := List.not_lt.mp p
          exact List.le_antisymm h1 h2
        rw [e] at c
        exact b c
/-! ### tuples in a heap -/
def TupV (h : Heap) (v : Value) (ks : List V) : Prop := ∃ (a : Addr) (o : Obj) (its : List Value) (n : Nat), v = .ref a ∧ h.get? a = some o ∧ o.cls = .type "tuple" ∧ o.data = .seq its.toArray n ∧ Vals ks its
theorem TupV.keeps {h h' : Heap} {v : Value} {ks : List V} (x : TupV h v ks) (k : ∀ b o, h.get? b = some o → o.cls = .type "tuple" → h'.get? b = some o) : TupV h' v ks := by
  obtain ⟨a, o, its, n, e, ho, hc, hd, r⟩ := x
  exact ⟨a, o, its, n, e, k _ _ ho hc, hc, hd, r⟩
inductive First : String → V → Prop
  | int (i : Int) : First "int" (.int i)
  | str (s : Str) : First "str" (.str s)
def Head (T : String) (ks : List V) : Prop := ∃ x r, ks = x :: r ∧ First T x
section
variable {prog : Program} {w : World} {A : Around} {s : Shared} {E : Value → Shared → Prop} {Q : Bool → Shared → Prop}
theorem oneLt_str' (c : Bool) {p q : Str} {t u : Tok} (h : Q (decide (p.cps.toList < q.cps.toList)) s) : wpAny (model prog w) A (oneLt' c (.str p t) (.str q u)) Q E s := by
  cases c with
  | true => exact oneLt_str h
  | false => exact PySem.W.kat_one _ _ (PyProof.Rows.lt_str (Q := PySem.W.BoolBack Q) h)
theorem lex_mixed {b fin : Bool} : ∀ {ks ms : List V} {xs ys : List Value} (i : Nat), Vals ks xs → Vals ms ys → sameKs ks ms = true → fin = decide (ks.length < ms.length) → Q (tupLt ks ms) s → PySem.W.KatLex prog w A b fin Q (xs.zip ys) i s
  | [], [], _, _, i, .nil, .nil, _, e, h => by
    subst e
    exact PySem.W.kat_nil h
  | [], y :: ms, _, _, i, .nil, .cons _ _, _, e, h => by
    refine PySem.W.kat_nil ?_
    rw [e, show decide (([] : List V).length < (y :: ms).length) = true from decide_eq_true (by simp)]
    exact h
  | x :: ks, [], _, _, i, .cons _ _, .nil, _, e, h => by
    refine PySem.W.kat_nil ?_
    rw [e, show decide ((x :: ks).length < ([] : List V).length) = false from decide_eq_false (by simp)]
    exact h
  | x :: ks, y :: ms, _, _, i, .cons rx rxs, .cons ry rys, hs, e, h => by
    have h' : (sameK x y && sameKs ks ms) = true := hs
    rw [Bool.and_eq_true] at h'
    have e' : fin = decide (ks.length < ms.length) := by
      rw [e]
      exact decide_eq_decide.mpr (by simp)
    have hq : Q (if x = y then tupLt ks ms else vLt x y) s := h
    cases x <;> cases y <;> first | cases h'.1 | skip
    · rename_i i1 i2
      obtain ⟨t1, rfl⟩ := rx
      obtain ⟨t2, rfl⟩ := ry
      refine PySem.W.kat_cons (SeqAt.EqAt.int_int i1 t1 i2 t2 prog w _ _ ?_)
      by_cases c : i1 = i2
      · subst c
        rw [if_pos rfl] at hq
        rw [beq_self_eq_true]
        exact PySem.W.kat_yes (lex_mixed (i + 1) rxs rys h'.2 e' hq)
      · rw [if_neg (fun z => c (V.int.inj z))] at hq
        rw [show (i1 == i2) = false from beq_eq_false_iff_ne.mpr c]
        exact PySem.W.kat_no (TS.oneLt_ints _ hq)
    · rename_i s1 s2
      obtain ⟨t1, rfl⟩ := rx
      obtain ⟨t2, rfl⟩ := ry
      refine PySem.W.kat_cons (SeqAt.EqAt.str_str s1 t1 s2 t2 prog w _ _ ?_)
      by_cases c : s1 = s2
      · subst c
        rw [if_pos rfl] at hq
        rw [beq_self_eq_true]
        exact PySem.W.kat_yes (lex_mixed (i + 1) rxs rys h'.2 e' hq)
      · rw [if_neg (fun z => c (V.str.inj z))] at hq
        rw [show (s1 == s2) = false from beq_eq_false_iff_ne.mpr c]
        exact PySem.W.kat_no (oneLt_str' _ hq)
theorem tup_cmp {b : Bool} {vs : List Value} {k : Value → List V} (hp : ∀ v ∈ vs, TupV s.heap v (k v)) (hs : ∀ v ∈ vs, ∀ u ∈ vs, sameKs (k v) (k u) = true) : SrtO.Cmp prog w A s (tuples' b) (fun p => p.1 ∈ vs) (SrtO.lt2 fun v u => cLt (k v) (k u)) := by
  intro p q hm hm'
  show wpAny (model prog w) A (keyLt' (tuples' b) p.1 q.1) (fun r s' => s' = s ∧ r = cLt (k p.1) (k q.1)) (fun _ _ => False) s
  rw [← tup_cLt (hs _ hm _ hm')]
  have h2 := hs _ hm _ hm'
  obtain ⟨a, o, its, n, e, ho, hc, hd, r⟩ := hp _ hm
  obtain ⟨a', o', its', n', e', ho', hc', hd', r'⟩ := hp _ hm'
  generalize k p.1 = kp at r h2 ⊢
  generalize k q.1 = kq at r' h2 ⊢
  rw [e, e']
  refine PySem.W.kat_lt ho hd ho' hd' ?_
  refine lex_mixed (Q := fun b s' => s' = s ∧ b = tupLt kp kq) 0 r r' h2 ?_ ⟨rfl, rfl⟩
  rw [List.size_toArray, List.size_toArray, r.length, r'.length]
theorem tups_first {h : Heap} {T : String} {k : Value → List V} : ∀ (vs : List Value), (∀ v ∈ vs, TupV h v (k v)) → (∀ v ∈ vs, Head T (k v)) → ∃ fs, PySem.W.KatTups h vs fs ∧ fs.length = vs.length ∧ ∀ f ∈ fs, ∃ x, First T x ∧ RelV x f
  | [], _, _ => ⟨[], PySem.W.KatTups.nil, rfl, fun f hf => by simp at hf⟩
  | v :: vs, h1, h2 => by
    obtain ⟨fs, g1, g2, g3⟩ := tups_first vs (fun u hu => h1 u (List.mem_cons_of_mem _ hu)) (fun u hu => h2 u (List.mem_cons_of_mem _ hu))
    obtain ⟨a, o, its, n, e, ho, hc, hd, r⟩ := h1 v List.mem_cons_self
    obtain ⟨x, rr, ek, fx⟩ := h2 v List.mem_cons_self
    rw [ek] at r
    cases r with
    | cons rx rest =>
      rename_i u us
      refine ⟨u :: fs, ?_, by simp [g2], fun f hf => ?_⟩
      · rw [e]
        exact PySem.W.KatTups.cons ho hc hd (by simp) g1
      · rcases List.mem_cons.mp hf with q | q
        · rw [q]; exact ⟨x, fx, rx⟩
        · exact g3 f q
theorem tup_kind {T : String} {vs : List Value} {k : Value → List V} {Q : SortKind → Shared → Prop} (h0 : 0 < vs.length) (hp : ∀ v ∈ vs, TupV s.heap v (k v)) (ht : ∀ v ∈ vs, Head T (k v)) (hq : Q (tuples' (Value.type T != Value.type "tuple")) s) : wpAny (model prog w) A (keyKind' vs.toArray) Q E s := by
  obtain ⟨fs, g1, g2, g3⟩ := tups_first vs hp ht
  refine PySem.W.kat_kind (T := .type T) g1 (by omega) (fun f hm => ?_) (by
    have : T = "int" ∨ T = "str" := by
      cases fs with
      | nil => simp at g2; omega
      | cons f fs =>
        obtain ⟨x, fx, _⟩ := g3 f List.mem_cons_self
        cases fx
        · exact .inl rfl
        · exact .inr rfl
    rcases this with rfl | rfl <;> rfl) hq
  obtain ⟨x, fx, rx⟩ := g3 f hm
  cases fx with
  | int i => obtain ⟨t, rfl⟩ := rx; exact PySem.W.Looks.of_pure rfl
  | str z => obtain ⟨t, rfl⟩ := rx; exact PySem.W.Looks.of_pure rfl
end
/-! ### rows that stand beside each other -/
theorem paired_perm {α β : Type} {R : α → β → Prop} {l l' : List α} (p : l'.Perm l) : ∀ {m : List β}, Paired R l m → ∃ m', m'.Perm m ∧ Paired R l' m' := by
  induction p with
  | nil => intro m h; exact ⟨m, List.Perm.refl _, h⟩
  | cons x _ ih =>
    intro m h
    cases h with
    | cons r t =>
      obtain ⟨m', p', h'⟩ := ih t
      exact ⟨_ :: m', p'.cons _, .cons r h'⟩
  | swap x y l =>
    intro m h
    cases h with
    | cons r t =>
      cases t with
      | cons r2 t2 => exact ⟨_, List.Perm.swap _ _ _, .cons r2 (.cons r t2)⟩
  | trans _ _ ih1 ih2 =>
    intro m h
    obtain ⟨m1, p1, h1⟩ := ih2 h
    obtain ⟨m2, p2, h2⟩ := ih1 h1
    exact ⟨m2, p2.trans p1, h2⟩
end Sh
set_option Elab.async false
set_option linter.all false
set_option maxRecDepth 100000
set_option maxHeartbeats 2000000
namespace Sh
open PySem PySem.Spec PyProof.Rows L2
theorem paired_pairwise {α β : Type} {R : α → β → Prop} {P : α → α → Prop} {P' : β → β → Prop} (h : ∀ a a' b b', R a b → R a' b' → P a a' → P' b b') : ∀ {l : List α} {m : List β}, Paired R l m → l.Pairwise P → m.Pairwise P'
  | _, _, .nil, _ => List.Pairwise.nil
  | _, _, .cons r t, p => by
    obtain ⟨p1, p2⟩ := List.pairwise_cons.mp p
    refine List.pairwise_cons.mpr ⟨fun b' hb => ?_, paired_pairwise h t p2⟩
    have key : ∀ {l : List α} {m : List β}, Paired R l m → ∀ b ∈ m, ∃ a ∈ l, R a b := by
      intro l m hp
      induction hp with
      | nil => intro b hb; cases hb
      | cons r t ih =>
        intro b hb
        rcases List.mem_cons.mp hb with e | hb
        · subst e; exact ⟨_, List.mem_cons_self, r⟩
        · obtain ⟨a, ha, hr⟩ := ih b hb
          exact ⟨a, List.mem_cons_of_mem _ ha, hr⟩
    obtain ⟨a', ha, ra⟩ := key t b' hb
    exact h _ _ _ _ r ra (p1 a' ha)
theorem paired_mem {α β : Type} {R : α → β → Prop} {l : List α} {m : List β} (h : Paired R l m) : ∀ a ∈ l, ∃ b ∈ m, R a b := by
  induction h with
  | nil => intro b hb; cases hb
  | cons r t ih =>
    intro b hb
    rcases List.mem_cons.mp hb with e | hb
    · subst e; exact ⟨_, List.mem_cons_self, r⟩
    · obtain ⟨a, ha, hr⟩ := ih b hb
      exact ⟨a, List.mem_cons_of_mem _ ha, hr⟩
theorem paired_imp {α β : Type} {R S : α → β → Prop} {l : List α} {m : List β} (h : Paired R l m) (k : ∀ a b, R a b → S a b) : Paired S l m := by
  induction h with
  | nil => exact .nil
  | cons r t ih => exact .cons (k _ _ r) ih
theorem paired_snoc {α β : Type} {R : α → β → Prop} {l : List α} {m : List β} (h : Paired R l m) {a : α} {b : β} (r : R a b) : Paired R (l ++ [a]) (m ++ [b]) := by
  induction h with
  | nil => exact .cons r .nil
  | cons r0 t ih => exact .cons r0 ih
theorem paired_at {α β : Type} {R : α → β → Prop} : ∀ {l : List α} {m : List β}, l.length = m.length → (∀ (i : Nat) a b, l[i]? = some a → m[i]? = some b → R a b) → Paired R l m
  | [], [], _, _ => .nil
  | [], _ :: _, h, _ => by simp at h
  | _ :: _, [], h, _ => by simp at h
  | a :: l, b :: m, h, k => .cons (k 0 a b rfl rfl) (paired_at (by simpa using h) fun i x y h1 h2 => k (i + 1) x y (by simpa using h1) (by simpa using h2))
theorem paired_get {α β : Type} {R : α → β → Prop} {l : List α} {m : List β} (h : Paired R l m) : l.length = m.length ∧ ∀ (i : Nat) a b, l[i]? = some a → m[i]? = some b → R a b := by
  induction h with
  | nil => exact ⟨rfl, fun i a b e => by simp at e⟩
  | cons r t ih =>
    refine ⟨by simp [ih.1], fun i a b h1 h2 => ?_⟩
    cases i with
    | zero => simp at h1 h2; subst h1; subst h2; exact r
    | succ i => exact ih.2 i a b (by simpa using h1) (by simpa using h2)
/-- what stands at a value -/
def kvH (H : Hp) : Value → List V
  | .ref q => match H q with
    | some (.tup ks) => ks
    | _ => []
  | _ => []
theorem kvH_at {H : Hp} {q : Addr} {ks : List V} (h : H q = some (.tup ks)) : kvH H (.ref q) = ks := by
  unfold kvH
  simp only [h]
/-- a tuple of y's stands at v -/
def TupAt {α : Type} (g : α → List V) (H : Hp) (v : V) (y : α) : Prop := ∃ q, v = .ref q ∧ H q = some (.tup (g y))
theorem TupAt.sm {α : Type} {g : α → List V} {H H' : Hp} {v : V} {y : α} (h : TupAt g H v y) (s : Same H H') : TupAt g H' v y := let ⟨q, e, k⟩ := h; ⟨q, e, s _ _ k⟩
section
variable {X : Cx}
theorem Inv.tupV {pins : List (Addr × Obj)} {σ : L2.St} {H : Hp} {s : Shared} (I : Inv X pins σ H s) {q : Addr} {ks : List V} (h : H q = some (.tup ks)) : TupV s.heap (.ref q) ks := by
  obtain ⟨_, its, r, o, ho, hc, n, hd⟩ := I.hok q _ h
  exact ⟨q, o, its, n, rfl, ho, hc, hd, r⟩
def rSortM (K : PySem.W.Frag) : List V → Hp → VK → Prop := fun vs H Q => ∃ (α : Type) (g : α → List V) (T : String) (a : Addr) (xs : List V) (l : List α), vs = [.ref a] ∧ SqL K H a xs ∧ Items (TupAt g) H xs l ∧ (∀ y ∈ l, Head T (g y)) ∧ (∀ y ∈ l, ∀ z ∈ l, sameKs (g y) (g z) = true) ∧
  ∀ (l' : List α) (ys : List V) (p : Addr) (H' : Hp), l'.Perm l → l'.Pairwise (fun y z => cLt (g z) (g y) = false) → H p = none → Same H H' → H' p = some (.lst ys) → Items (TupAt g) H' ys l' → Q (.ref p) H'
theorem cr_sortM : CallR X (.builtin "sorted") (rSortM X.K) := by
  intro pins s σ H vs us Q I r h
  obtain ⟨α, g, T, a, xs, l, rfl, hs, it, ht, hsk, q⟩ := h
  obtain ⟨its, rv, hl, hz⟩ := I.list hs
  obtain ⟨u, rfl, ru⟩ := vals1 r
  obtain rfl : u = Value.ref a := ru
  have pr : Paired (fun u y => ∃ q, u = Value.ref q ∧ H q = some (.tup (g y))) its l := by
    refine paired_at (by rw [← rv.length, it.1]) fun i u y h1 h2 => ?_
    obtain ⟨x, hx, q', e, hq⟩ := it.get h2
    obtain ⟨u', hu, ru⟩ := rv.get hx
    rw [hu] at h1
    cases h1
    subst e
    obtain rfl : u = Value.ref q' := ru
    exact ⟨q', rfl, hq⟩
  have hk : ∀ v ∈ its, ∃ y ∈ l, kvH H v = g y ∧ TupV s.heap v (kvH H v) := by
    intro v hv
    obtain ⟨y, hy, q', e, hq⟩ := paired_mem pr v hv
    subst e
    refine ⟨y, hy, kvH_at hq, ?_⟩
    rw [kvH_at hq]
    exact Inv.tupV I hq
  have hsame : ∀ v ∈ its, ∀ u ∈ its, sameKs (kvH H v) (kvH H u) = true := by
    intro v hv u hu
    obtain ⟨y, hy, e1, _⟩ := hk v hv
    obtain ⟨z, hz', e2, _⟩ := hk u hu
    rw [e1, e2]
    exact hsk y hy z hz'
  refine SrtO.sorted_ord (swo_cLt (kvH H)) hl.isList (by rw [← rv.length]; exact hz) (fun h2 h₁ a' ha kk => ?_) fun out h1 h2 => ?_
  · intro h' keep
    have hp' : ∀ v ∈ its, TupV h' v (kvH H v) := fun v hv => by
      obtain ⟨_, _, _, tv⟩ := hk v hv
      exact tv.keeps fun b o e _ => keep b o (kk b o e).1 (kk b o e).2
    refine ⟨tuples' (Value.type T != Value.type "tuple"), fun Q' E' hq => ?_, tup_cmp (s := { s with heap := h' }) hp' hsame⟩
    refine tup_kind (s := { s with heap := h' }) (T := T) (k := kvH H) (by omega) hp' (fun v hv => ?_) hq
    obtain ⟨y, hy, e, _⟩ := hk v hv
    rw [e]
    exact ht y hy
  · obtain ⟨l', pl, pr'⟩ := paired_perm h2.perm pr
    have h3 : ∀ u ∈ out, ∃ a, u = Value.ref a := fun u hu => by
      obtain ⟨y, _, q', e, _⟩ := paired_mem pr' u hu
      exact ⟨q', e⟩
    obtain ⟨ep, he'⟩ := PyProof.Rows.sortedAll_at s.heap its out.toArray
    have hp : H (s.heap.objs.size + 1) = none := I.hok.fresh (Nat.le_succ _)
    have hlen : (out.map backV).length ≤ sizeLine := by
      rw [List.length_map, h2.perm.length_eq, ← rv.length]
      exact hz
    refine ⟨.ref (s.heap.objs.size + 1), upd H (s.heap.objs.size + 1) (.lst (out.map backV)), I.laid (t' := s.toks) (fun _ _ => PyProof.Rows.sortedAll_old) (Nat.le_succ _) ⟨hlen, out, ep, vals_back h3, he'⟩, rfl, ?_⟩
    refine q l' _ _ _ pl ?_ hp (same_new hp) upd_same ?_
    · refine paired_pairwise (R := fun u y => ∃ q, u = Value.ref q ∧ H q = some (.tup (g y))) ?_ pr' h1
      rintro u u' y y' ⟨q1, rfl, e1⟩ ⟨q2, rfl, e2⟩ h
      have h' : cLt (kvH H (.ref q2)) (kvH H (.ref q1)) = false := h
      rw [kvH_at e1, kvH_at e2] at h'
      exact h'
    · obtain ⟨e1, e2⟩ := paired_get pr'
      refine ⟨by rw [List.length_map]; exact e1, fun i x y hx hy => ?_⟩
      rw [List.getElem?_map] at hx
      cases hu : out[i]? with
      | none => rw [hu] at hx; cases hx
      | some u =>
        rw [hu] at hx
        obtain ⟨q', rfl, hq⟩ := e2 i u y hu hy
        cases hx
        exact ⟨q', rfl, same_new hp _ _ hq⟩
end
/-! ### with a key def -/
section
variable {X : Cx} {pins : List (Addr × Obj)} {σ : L2.St} {H : Hp} {s : Shared} {a g : Addr} {n N : Nat} {sp : Sp} {α : Type} {f : α → V} {gk : α → List V} {l : List α} {vs : List Value} {T : String} {P : PySem.Fin → Shared → Prop}
theorem list_sort_keyX (I : Inv X pins σ H s) (F : FnR X.prog X.w X.K X.mg X.base CX0 n g sp) (hr : Room n X.A.in1.in1)
    (ho : s.heap.get? a = some (seqObj "list" vs.toArray N)) (fpa : FpOk X pins H a) (rv : Vals (l.map f) vs) (hz : l.length ≤ sizeLine)
    (hk : ∀ y ∈ l, ∀ H1, Same H H1 → ∀ Q' : VK, (∀ q H2, Same H1 H2 → H2 q = some (.tup (gk y)) → Q' (.ref q) H2) → sp [f y] H1 Q' E0)
    (ht : ∀ y ∈ l, Head T (gk y)) (hs : ∀ y ∈ l, ∀ z ∈ l, sameKs (gk y) (gk z) = true)
    (h : ∀ (l' : List α) (s' : Shared) (H' : Hp), l'.Perm l → l'.Pairwise (fun y z => cLt (gk z) (gk y) = false) → Inv X pins σ H' s' → Same H H' → H' a = some (.lst (l'.map f)) → P (.done (.ret .none)) s') :
    wpAny (model X.prog X.w) X.A.in1.in1 (ksk_tree a (.ref g) false) P X.xe s := by
  have hlen : vs.length = l.length := by rw [← rv.length, List.length_map]
  obtain ⟨hn, hL, hfs, hex, hcell, hpin⟩ := id fpa
  have ha : a < s.heap.objs.size := Heap.lt_size ho
  have s1 := Heap.SameBut.update s.heap a (Obj.mapSeq fun _ => (#[] : Array Value))
  obtain ⟨e1, ho1⟩ : ∃ e1, (s.heap.update a (Obj.mapSeq fun _ => (#[] : Array Value))).get? a = some (seqObj "list" #[] e1) := ⟨_, get?_update_seq ho fun _ => #[]⟩
  unfold ksk_tree
  refine wpAny_bind (listItems_at ho rfl ?_)
  refine wpAny_bind (listUpdate_at ho rfl ?_ (by rw [List.size_toArray, hlen]; exact hz) (Nat.zero_le _))
  refine wpAny_bind (seqEpoch_at ho1 rfl ?_)
  refine wpAny_bind (wpAny_newTuple ?_ (by show vs.length ≤ _; rw [hlen]; exact hz))
  refine wpAny_bind (wpAny_newList ?_ (Nat.zero_le _))
  refine wpAny_holding ?_
  have J1 : Inv X pins σ H { s with heap := s.heap.update a (Obj.mapSeq fun _ => (#[] : Array Value)), toks := s.toks } := I.turned (fun b o hb e => (s1.2 b hb).trans e) hn hL hex hcell hpin
  have z1 : (s.heap.update a (Obj.mapSeq fun _ => (#[] : Array Value))).objs.size = s.heap.objs.size := Heap.size_update _ _ _
  show wpAny _ _ (ksk_rest a (.ref g) false vs.toArray e1 (.ref (((s.heap.update a (Obj.mapSeq fun _ => (#[] : Array Value))).push (seqObj "tuple" vs.toArray 0)).objs.size))) P X.xe { s with heap := ((s.heap.update a (Obj.mapSeq fun _ => (#[] : Array Value))).push (seqObj "tuple" vs.toArray 0)).push (seqObj "list" #[] 0) }
  generalize s.heap.update a (Obj.mapSeq fun _ => (#[] : Array Value)) = h1 at J1 ho1 z1 ⊢
  have z2 : (h1.push (seqObj "tuple" vs.toArray 0)).objs.size = h1.objs.size + 1 := size_push' _ _
  have J2 : Inv X pins σ (upd H (h1.push (seqObj "tuple" vs.toArray 0)).objs.size (.lst [])) { s with heap := (h1.push (seqObj "tuple" vs.toArray 0)).push (seqObj "list" #[] 0), toks := s.toks } :=
    J1.laid (fun b o e => Heap.get?_push_of_some _ (Heap.get?_push_of_some _ e)) (by rw [z2]; exact Nat.le_succ _) ⟨Nat.zero_le _, [], 0, .nil, Heap.get?_push_size _ rfl⟩
  have hk0 : H (h1.push (seqObj "tuple" vs.toArray 0)).objs.size = none := J1.hok.fresh (by rw [z2]; exact Nat.le_succ _)
  have hne : a ≠ (h1.push (seqObj "tuple" vs.toArray 0)).objs.size := by rw [z2, z1]; exact Nat.ne_of_lt (Nat.lt_succ_of_lt ha)
  have J3 : Inv X (pins ++ [(a, seqObj "list" #[] e1)]) σ (upd H (h1.push (seqObj "tuple" vs.toArray 0)).objs.size (.lst [])) { s with heap := (h1.push (seqObj "tuple" vs.toArray 0)).push (seqObj "list" #[] 0), toks := s.toks } :=
    J2.pins_of fun p hp => (List.mem_append.mp hp).elim (fun z => J2.pin p (List.mem_append_right _ z)) fun z => by
      rw [List.mem_singleton.mp z]
      exact ⟨Heap.get?_push_of_some _ (Heap.get?_push_of_some _ ho1), by rw [upd_ne hne]; exact hn, hL, hfs, fun v e => by cases e⟩
  generalize (h1.push (seqObj "tuple" vs.toArray 0)).objs.size = kS at J2 J3 hk0 hne ⊢
  generalize hs0 : ({ s with heap := (h1.push (seqObj "tuple" vs.toArray 0)).push (seqObj "list" #[] 0) } : Shared) = s0 at J3 ⊢
  clear hs0 J2 z2 J1 z1 ho1 h1
  unfold ksk_rest
  refine wpAny_bind (wpAny_rule ?_)
  first
    | rw [List.forIn_toArray]
    | (rw [← Array.forIn_toList]; simp only [List.toList_toArray])
    | rw [← Array.forIn_toList]
  refine wpAny_bind (ksk_fold (fun i s' => ∃ H' ys, Inv X (pins ++ [(a, seqObj "list" #[] e1)]) σ H' s' ∧ Same H H' ∧ H' kS = some (.lst ys) ∧ Paired (fun v y => ∃ q, v = V.ref q ∧ H' q = some (.tup (gk y))) ys (l.take i)) vs 0 s0
    ⟨_, [], J3, same_new hk0, upd_same, .nil⟩ ?step ?done)
  case step =>
    rintro j x s' hx ⟨H', ys, J, sm, hkS, pr⟩
    simp only [Nat.zero_add] at pr ⊢
    have hj : j < vs.length := (List.getElem?_eq_some_iff.mp hx).1
    have hjl : j < l.length := by omega
    have hy : l[j]? = some l[j] := List.getElem?_eq_getElem hjl
    have hym : l[j] ∈ l := List.getElem_mem hjl
    have rx : RelV (f l[j]) x := by
      obtain ⟨u, hu, ru⟩ := rv.get (i := j) (x := f l[j]) (by rw [List.getElem?_map, hy]; rfl)
      rw [hx] at hu
      cases hu
      exact ru
    have yl : ys.length = j := by
      have := Paired.length pr
      rw [List.length_take] at this
      omega
    refine wpAny_bind (wpAny_attempt (wpAny_mono (run_in (X := X.wish fun _ _ => False) (us := [x]) (ws := [f l[j]]) (Q := fun v H2 => ∃ q, v = .ref q ∧ Same H' H2 ∧ H2 q = some (.tup (gk l[j]))) F hr (J.wish _).env0.in1.in1 pass0 (J.wish _) (.cons rx .nil)
      (hk _ hym H' sm _ fun q H2 sm2 hq => ⟨q, rfl, sm2, hq⟩)) (fun v s'' he => ?_) fun _ _ hF => hF.elim))
    obtain ⟨v', H2, J', rv', q, rfl, sm2, hq⟩ := he
    obtain rfl : v = .ref q := rv'
    have J2 := J'.unwish
    have hkS2 := sm2 _ _ hkS
    obtain ⟨hzz, its, n2, rvi, hli, hget⟩ := J2.lstM hkS2
    try dsimp only
    have s2 := Heap.SameBut.update s''.heap kS (Obj.mapSeq (·.push (Value.ref q)))
    obtain ⟨c2, hc2⟩ : ∃ c2, (s''.heap.update kS (Obj.mapSeq (·.push (Value.ref q)))).get? kS = some (seqObj "list" (its.toArray.push (Value.ref q)) c2) := ⟨_, get?_update_seq hget (·.push (Value.ref q))⟩
    refine wpAny_bind (listUpdate_at hget rfl ?_ (by rw [List.size_toArray, ← hli]; exact hzz) (by rw [Array.size_push, List.size_toArray, ← hli]; omega))
    have et : l.take (j + 1) = l.take j ++ [l[j]] := by rw [List.take_succ, hy]; rfl
    refine wpAny_pure ⟨rfl, upd H2 kS (.lst (ys ++ [.ref q])), ys ++ [.ref q], ?_, same_mut (sm.trans sm2) hk0, upd_same, ?_⟩
    · refine J2.write (t' := s''.toks) (by rw [hkS2]; trivial) (.inl rfl) (fun b u hb e => (s2.2 b hb).trans e) ⟨_, hc2⟩ ⟨by rw [List.length_append, yl]; show j + 1 ≤ _; omega, its ++ [.ref q], c2, ?_, ?_⟩
      · exact paired_snoc rvi (show RelV (.ref q) (.ref q) from rfl)
      · rw [hc2, List.push_toArray]
    · rw [et]
      have up : ∀ q0 ks, H2 q0 = some (.tup ks) → upd H2 kS (.lst (ys ++ [.ref q])) q0 = some (.tup ks) := fun q0 ks e => by
        rw [upd_ne (ne_of e hkS2 (by intro z; cases z))]
        exact e
      exact paired_snoc (paired_imp pr fun v y ⟨q0, e, hq0⟩ => ⟨q0, e, up q0 _ (sm2 _ _ hq0)⟩) ⟨q, rfl, up q _ hq⟩
  case done =>
    rintro s' ⟨H', ys, J, sm, hkS, pr⟩
    rw [show l.take (0 + vs.length) = l from List.take_of_length_le (by omega)] at pr
    obtain ⟨hzz, its, n2, rvi, hli, hget⟩ := J.lstM hkS
    have pa := J.pin (a, seqObj "list" #[] e1) (List.mem_append_right _ (List.mem_append_right _ (List.mem_singleton.mpr rfl)))
    have hH'a : H' a = none := pa.2.1
    have hga : s'.heap.get? a = some (seqObj "list" #[] e1) := pa.1
    try dsimp only
    refine wpAny_bind (listItems_at hget rfl ?_)
    have hil : its.length = l.length := by rw [← hli, Paired.length pr]
    -- the keys
    have pk : Paired (fun u y => ∃ q, u = Value.ref q ∧ H' q = some (.tup (gk y))) its l := by
      obtain ⟨e1, e2⟩ := paired_get pr
      refine paired_at hil fun i u y h1 h2 => ?_
      have hi : i < ys.length := by
        have := (List.getElem?_eq_some_iff.mp h2).1
        omega
      obtain ⟨u', hu, ru⟩ := rvi.get (List.getElem?_eq_getElem hi)
      rw [h1] at hu
      cases hu
      obtain ⟨q, e, hq⟩ := e2 i _ y (List.getElem?_eq_getElem hi) h2
      rw [e] at ru
      exact ⟨q, ru, hq⟩
    have hkk : ∀ v ∈ its, ∃ y ∈ l, kvH H' v = gk y ∧ TupV s'.heap v (kvH H' v) := by
      intro v hv
      obtain ⟨y, hy, q', e, hq⟩ := paired_mem pk v hv
      subst e
      refine ⟨y, hy, kvH_at hq, ?_⟩
      rw [kvH_at hq]
      exact Inv.tupV J hq
    have hsame : ∀ v ∈ its, ∀ u ∈ its, sameKs (kvH H' v) (kvH H' u) = true := by
      intro v hv u hu
      obtain ⟨y, hy, e1, _⟩ := hkk v hv
      obtain ⟨z, hz', e2, _⟩ := hkk u hu
      rw [e1, e2]
      exact hs y hy z hz'
    have p2 : Paired (fun (p : Value × Value) y => kvH H' p.1 = gk y ∧ RelV (f y) p.2) (its.zip vs) l := by
      obtain ⟨_, e2⟩ := paired_get pk
      refine paired_at (by rw [List.length_zip]; omega) fun i p y h1 h2 => ?_
      rw [List.getElem?_zip_eq_some] at h1
      obtain ⟨q, e, hq⟩ := e2 i _ y h1.1 h2
      obtain ⟨u, hu, ru⟩ := rv.get (i := i) (x := f y) (by rw [List.getElem?_map, h2]; rfl)
      rw [h1.2] at hu
      cases hu
      refine ⟨?_, ru⟩
      rw [e]
      exact kvH_at hq
    have tail : ∀ st : SortSt, SrtO.Srtd (SrtO.lt2 fun v u => cLt (kvH H' v) (kvH H' u)) (arrOf st).toList → (arrOf st).toList.Perm (its.zip vs) → failedOf st = none → wpAny (model X.prog X.w) X.A.in1.in1 (ksk_tail a false e1 (.ref kS) st) P X.xe s' := by
      intro st hso hpe hfl
      obtain ⟨l', pl, pr'⟩ := paired_perm hpe p2
      have hkne : a ≠ kS := fun z => by rw [← z, hH'a] at hkS; cases hkS
      have s2 := Heap.SameBut.update s'.heap kS (Obj.mapSeq fun _ => (#[] : Array Value))
      obtain ⟨c2, hc2⟩ : ∃ c2, (s'.heap.update kS (Obj.mapSeq fun _ => (#[] : Array Value))).get? kS = some (seqObj "list" #[] c2) := ⟨_, get?_update_seq hget fun _ => #[]⟩
      have hga2 : (s'.heap.update kS (Obj.mapSeq fun _ => (#[] : Array Value))).get? a = some (seqObj "list" #[] e1) := (s2.2 a hkne).trans hga
      have K1 : Inv X (pins ++ [(a, seqObj "list" #[] e1)]) σ (upd H' kS (.lst [])) { s' with heap := s'.heap.update kS (Obj.mapSeq fun _ => (#[] : Array Value)), toks := s'.toks } :=
        J.write (by rw [hkS]; trivial) (.inl rfl) (fun b u hb e => (s2.2 b hb).trans e) ⟨_, hc2⟩ ⟨Nat.zero_le _, [], c2, .nil, hc2⟩
      unfold ksk_tail
      try dsimp only
      refine wpAny_bind (listUpdate_at hget rfl ?_ (by rw [List.size_toArray, ← hli]; exact hzz) (Nat.zero_le _))
      refine wpAny_bind (wpAny_letGo ?_)
      refine wpAny_bind (seqEpoch_at hga2 rfl ?_)
      have hsz : ((arrOf st).map (·.2)).size ≤ sizeLine := by
        have := hpe.length_eq
        rw [Array.length_toList, List.length_zip] at this
        rw [Array.size_map, this]
        omega
      simp only [Bool.false_eq_true, if_false]
      refine wpAny_bind (listUpdate_at hga2 rfl ?_ (Nat.zero_le _) (by omega))
      rw [hfl]
      simp only [bne_self_eq_false, Bool.false_eq_true, if_false]
      generalize hh2 : s'.heap.update kS (Obj.mapSeq fun _ => (#[] : Array Value)) = h2 at K1 hga2 ⊢
      have s3 := Heap.SameBut.update h2 a (Obj.mapSeq fun _ => (arrOf st).map (·.2))
      obtain ⟨c3, hc3⟩ : ∃ c3, (h2.update a (Obj.mapSeq fun _ => (arrOf st).map (·.2))).get? a = some (seqObj "list" ((arrOf st).map (·.2)) c3) := ⟨_, get?_update_seq hga2 fun _ => (arrOf st).map (·.2)⟩
      have hupa : upd H' kS (.lst []) a = none := by rw [upd_ne hkne]; exact hH'a
      have hvals : Vals (l'.map f) (((arrOf st).map (·.2)).toList) := by
        rw [Array.toList_map]
        have key : ∀ {ps : List (Value × Value)} {m : List α}, Paired (fun (p : Value × Value) y => kvH H' p.1 = gk y ∧ RelV (f y) p.2) ps m → Vals (m.map f) (ps.map (·.2)) := by
          intro ps m hp
          induction hp with
          | nil => exact .nil
          | cons r t ih => exact .cons r.2 ih
        exact key pr'
      have K3 : Inv X pins σ (upd (upd H' kS (.lst [])) a (.lst (l'.map f))) { s' with heap := h2.update a (Obj.mapSeq fun _ => (arrOf st).map (·.2)), toks := s'.toks } := by
        refine Inv.take (s := { s' with heap := h2, toks := s'.toks }) (Inv.unpinned K1) (fun b ob hb e => (s3.2 b hb).trans e) ⟨hupa, hL, hfs, hex, hcell, hpin⟩ ⟨?_, _, c3, hvals, ?_⟩
        · rw [List.length_map, pl.length_eq]; exact hz
        · rw [hc3, Array.toArray_toList]
      refine wpAny_pure (h l' _ _ pl ?_ K3 ?_ upd_same)
      · refine paired_pairwise (R := fun (p : Value × Value) y => kvH H' p.1 = gk y ∧ RelV (f y) p.2) ?_ pr' hso
        rintro p p' y y' ⟨k1, _⟩ ⟨k2, _⟩ hlt
        have hlt' : cLt (kvH H' p'.1) (kvH H' p.1) = false := hlt
        rw [k1, k2] at hlt'
        exact hlt'
      · exact fun b o e => by
          rw [upd_ne (ne_of_none e hn)]
          exact same_mut sm hk0 b o e
    have hzip : (its.toArray.zip vs.toArray).toList = its.zip vs := by simp
    unfold ksk_end
    try dsimp only
    simp only [Bool.false_eq_true, if_false]
    by_cases h2 : vs.toArray.size < 2
    · rw [if_pos h2, if_pos h2]
      refine wpAny_bind (wpAny_pure ?_)
      rw [StateT.run_pure]
      refine wpAny_bind (wpAny_pure ?_)
      try dsimp only
      rw [List.size_toArray] at h2
      refine tail (SortSt.mk' general' (its.toArray.zip vs.toArray) #[] 7 none) ?_ (by show (its.toArray.zip vs.toArray).toList.Perm _; rw [hzip]) rfl
      show SrtO.Srtd _ (its.toArray.zip vs.toArray).toList
      rw [hzip]
      have hl2 : (its.zip vs).length < 2 := by rw [List.length_zip]; omega
      match its.zip vs, hl2 with
      | [], _ => exact List.Pairwise.nil
      | [v], _ => exact List.pairwise_singleton _ _
      | _ :: _ :: l, h => exact absurd h (by simp)
    · rw [if_neg h2, if_neg h2]
      rw [List.size_toArray] at h2
      refine wpAny_bind (tup_kind (T := T) (vs := its) (k := kvH H') (by omega) (fun v hv => (hkk v hv).choose_spec.2.2) (fun v hv => ?_) ?_)
      · obtain ⟨y, hy, e, _⟩ := hkk v hv
        rw [e]
        exact ht y hy
      refine wpAny_bind (wpAny_mono (SrtO.wpS_sortO (st0 := SortSt.mk' (tuples' (Value.type T != Value.type "tuple")) (its.toArray.zip vs.toArray) #[] 7 none)
        (Q := fun _ st' => SrtO.Srtd (SrtO.lt2 fun v u => cLt (kvH H' v) (kvH H' u)) (arrOf st').toList ∧ (arrOf st').toList.Perm (its.zip vs) ∧ failedOf st' = none) (SrtO.swo2 (swo_cLt (kvH H'))) (tup_cmp (s := s') (fun v hv => (hkk v hv).choose_spec.2.2) hsame) rfl
        (fun p hp => ?_) rfl rfl fun st' a1 a2 a3 => ⟨a1, ?_, a3⟩) ?_ fun _ _ e => e)
      · have hp' : p ∈ (its.toArray.zip vs.toArray).toList := hp
        rw [hzip] at hp'
        exact (List.of_mem_zip (a := p.1) (b := p.2) hp').1
      · have := a2.perm
        have e : (arrOf (SortSt.mk' (tuples' (Value.type T != Value.type "tuple")) (its.toArray.zip vs.toArray) #[] 7 none)).toList = its.zip vs := hzip
        rw [e] at this
        exact this
      · rintro ⟨⟨⟩, st'⟩ s2 ⟨rfl, hp1, hp2, hf⟩
        try dsimp only
        exact tail st' hp1 hp2 hf
end
end Sh
set_option Elab.async false
set_option linter.all false
set_option maxRecDepth 100000
set_option maxHeartbeats 2000000
namespace Sh
open PySem PySem.Spec PyProof.Rows L2
/-- a list of these, or a dict whose keys they are -/
def KSrc (K : PySem.W.Frag) (H : Hp) (v : V) (xs : List V) : Prop := ∃ a, v = .ref a ∧ (SqL K H a xs ∨ ∃ kvs : List (Key × V), Rd H a (.dK kvs) ∧ xs = kvs.map fun p => kV p.1)
def rSortK (K : PySem.W.Frag) (sp : Sp) : List V → Hp → VK → Prop := fun vs H Q => ∃ (α : Type) (f : α → V) (gk : α → List V) (T : String) (l : List α) (v : V), vs = [v] ∧ KSrc K H v (l.map f) ∧
  (∀ y ∈ l, ∀ H1, Same H H1 → ∀ Q' : VK, (∀ q H2, Same H1 H2 → H2 q = some (.tup (gk y)) → Q' (.ref q) H2) → sp [f y] H1 Q' E0) ∧
  (∀ y ∈ l, Head T (gk y)) ∧ (∀ y ∈ l, ∀ z ∈ l, sameKs (gk y) (gk z) = true) ∧
  ∀ (l' : List α) (p : Addr) (H' : Hp), l'.Perm l → l'.Pairwise (fun y z => cLt (gk z) (gk y) = false) → H p = none → Same H H' → H' p = some (.lst (l'.map f)) → Q (.ref p) H'
section
variable {X : Cx} {n : Nat} {g : Addr} {sp : Sp}
theorem cr_sortKey (F : FnR X.prog X.w X.K X.mg X.base CX0 n g sp) (hr : Room (n + 2) X.A) (hc : X.calm = true) : CallRK X (.builtin "sorted") [Str.ofString "key"] (fun vs zs H Q => zs = [.ref g] ∧ rSortK X.K sp vs H Q) := by
  intro pins s σ H vs zs us ws Q I r rz h
  obtain ⟨rfl, α, f, gk, T, l, v, rfl, ⟨a, rfl, src⟩, hk, ht, hs, q⟩ := h
  obtain ⟨w1, rfl, e1⟩ := vals1 rz
  obtain rfl : w1 = Value.ref g := e1
  obtain ⟨u, rfl, ru⟩ := vals1 r
  obtain rfl : u = Value.ref a := ru
  have hr2 : Room n X.A.in1.in1 := (show Room (n + 1) X.A.in1 from Room.in1 hr).in1
  refine call_function_entry_kw kind_sorted plain_sorted entry_sorted (ksk_s1 _ _) ?_
  unfold Builtin.«sorted»
  refine wpAny_bind (m := checkCount "sorted" 1 1 _) (wpAny_pure ?_)
  have col : ∀ R : List Value → Shared → Prop, (∀ h' tk us, (∀ b o, s.heap.get? b = some o → h'.get? b = some o) → Vals (l.map f) us → l.length ≤ sizeLine → R us { s with heap := h', toks := tk }) → wpAny (model X.prog X.w) X.A.in1 (collect (.ref a)) R X.xe s := by
    intro R hR
    rcases src with hL | ⟨kvs, hD, ek⟩
    · obtain ⟨its, rv, hl, hz⟩ := I.list hL
      refine collect_list hl.isList (hR _ s.toks its (fun b o e => ?_) rv (by rw [List.length_map] at hz; exact hz)) (by rw [← rv.length]; exact hz)
      have hlt : b < s.heap.objs.size := Heap.lt_size e
      rw [Heap.get?_update_ne _ _ _ _ (Nat.ne_of_lt hlt)]
      exact Heap.get?_push_of_some _ e
    · obtain ⟨z, lo, vs, rel, dd⟩ := dk_rd I.hok hD
      obtain ⟨ep, hat⟩ := dd.dictAt
      have hl : kvs.length = vs.length := Paired.length rel
      refine PySem.W.kdu_collect (A := X.A.in1) (PySem.W.kdl_dict (knd := mixKind X.prog X.w) (kvs := vs) (ep := ep) lo) (I.ok.hd hc) hat (by rw [← hl]; exact z) fun h' tk acc hk hacc => ?_
      have ll : l.length = kvs.length := by
        have := congrArg List.length ek
        rw [List.length_map, List.length_map] at this
        exact this
      refine hR h' tk acc.toList hk ?_ (by rw [ll]; exact z)
      rw [ek]
      have el : acc.toList.length = acc.size := by simp
      refine vals_of_at (by rw [List.length_map, el, hacc.1, hl]) fun j x w h1 h2 => ?_
      obtain ⟨k, y, hky, hi⟩ := hacc.2 j w (by rw [← Array.getElem?_toList]; exact h2)
      have e1 : (kvs.map (·.1))[j]? = some k := by
        rw [KV.keys rel, List.getElem?_map, hky] <;> rfl
      have e2 : (kvs.map fun kv => kV kv.1)[j]? = some (kV k) := by
        have e3 : (kvs.map fun kv => kV kv.1) = (kvs.map (·.1)).map kV := by rw [List.map_map] <;> rfl
        rw [e3, List.getElem?_map, e1] <;> rfl
      rw [e2] at h1
      cases h1
      exact keyIs_rel hi
  refine wpAny_bind (col _ fun h' tk us hkp rv hz => ?_)
  have hul : us.length = l.length := by rw [← rv.length, List.length_map]
  refine wpAny_bind (wpAny_newList ?_ (by rw [hul]; exact hz))
  have I1 : Inv X pins σ H { s with heap := h', toks := tk } := I.kept hkp
  have hoL : (h'.push (seqObj "list" us.toArray 0)).get? h'.objs.size = some (seqObj "list" us.toArray 0) := Heap.get?_push_size _ rfl
  have hfr : H h'.objs.size = none := I1.hok.fresh (Nat.le_refl _)
  have fp : FpOk X pins H h'.objs.size := I1.fpOk (Nat.le_refl _) hfr
  have I2 : Inv X pins σ H { s with heap := h'.push (seqObj "list" us.toArray 0), toks := tk } := I1.kept fun b o e => Heap.get?_push_of_some _ e
  show wpAny _ _ _ _ _ { s with heap := h'.push (seqObj "list" us.toArray 0), toks := tk }
  refine wpAny_bind (wpAny_holding (wpAny_call_entry_kw slot_list_sort ⟨_, hoL, rfl⟩ entry_list_sort ?body (ksk_l1 _ _)))
  case body =>
    show wpAny (model X.prog X.w) X.A.in1.in1 (Builtin.«list.sort» ⟨[.ref h'.objs.size], [(Str.ofString "key", .ref g)]⟩) _ _ _
    rw [ksk_t1]
    refine list_sort_keyX I2 F hr2 hoL fp rv hz hk ht hs fun l' s' H' pl po J sm hp => ⟨_, rfl, ?_⟩
    exact wpAny_pure ⟨_, rfl, .ref h'.objs.size, H', J, rfl, q l' _ H' pl po hfr sm hp⟩
end
section
variable {X : Cx} {k j : Nat} {x : Str} {sp : Sp} {p p2 pos kpos : Pos} {e : Expr} {t : TA}
def tSortK (K : PySem.W.Frag) (sp : Sp) (t : TA) : TE := fun σ H Q => t σ H fun vs H1 => rSortK K sp vs H1 Q
/-- sorted(e, key=f), f a def of the text -/
theorem pe_sortK (c : Cal X.prog X.w X.K X.mg X.base CX0 k x sp) (hr : Room j X.A) (hk : k + 2 ≤ j) (hc : X.calm = true) (hg : Gl X "sorted") (hm : X.mg "sorted" = none) (hgx : Gl X x) (ha : PA X [e] t)
    (hdb : (x == ("__debug__" : Str)) = false := by decide)
    (he : backTo pos (starEach [e] X.env) = (false, eval e X.env) :: backTo pos (starEach [] X.env) := by rfl) (hpl : (backTo pos (starEach [e] X.env)).any (·.1) = false := by rfl) :
    PE X (.Call (.Name "sorted" p) [e] [⟨some (Str.ofString "key"), .Name x p2, kpos⟩] pos) (tSortK X.K sp t) := by
  obtain ⟨f, fd, ps, F, hmx, kp, b⟩ := c.ex
  have P0 := pe_callBK (p := p) (pos := pos) (cr_sortKey (fnR_of F b) (hr.mono hk) hc) hg hm (by rfl) ha (pk_cons (kpos := kpos) (nm := some (Str.ofString "key")) (pe_glob (pos := p2) (v := .ref f) hgx hmx rfl hdb) pk_nil) (by decide) (by decide) he hpl
  refine ⟨fun pins s σ H Q I h => P0.run pins s σ H Q I ?_⟩
  have e9 : (fun (vs : List V) (H1 : Hp) => ([V.ref f] : List V) = [.ref f] ∧ rSortK X.K sp vs H1 Q) = fun vs H1 => rSortK X.K sp vs H1 Q := by
    funext vs H1
    exact propext ⟨fun h => h.2, fun h => ⟨rfl, h⟩⟩
  show t σ H fun vs H1 => ([V.ref f] : List V) = [.ref f] ∧ rSortK X.K sp vs H1 Q
  rw [e9]
  exact h
end
/-! ### == by an own __eq__ -/
section
variable {X : Cx} {C : Addr} {k j : Nat} {sp : Sp}
def rEqI (C : Addr) (sp : Sp) : R2 := fun x y H Q => ∃ a dx fs b dy gs, x = .ref a ∧ y = .ref b ∧ H a = some (.ins C dx fs) ∧ H b = some (.ins C dy gs) ∧ sp [.ref a, .ref b] H (fun v H' => ∃ c, v = .bl c ∧ Q v H') E0
theorem op_eqI (d : MetC X.prog X.w X.K X.mg X.base k C "__eq__" sp) (hr : Room j X.A) (hk : k ≤ j) : OpR X (compareOp .Eq) (rEqI C sp) := by
  obtain ⟨f, fd, ps, F, b, hs, hf, ho⟩ := d.ex
  intro pins s σ H x y v u Q I rx ry h
  obtain ⟨a, dx, fs, a2, dy, gs, rfl, rfl, ha, hb, q⟩ := h
  obtain rfl : v = Value.ref a := rx
  obtain rfl : u = Value.ref a2 := ry
  obtain ⟨ox, od, J, _⟩ := StX.insC_at (C := C) I (.inr ⟨dx, fs, ha⟩)
  obtain ⟨ox', od', J', _⟩ := StX.insC_at (C := C) I (.inr ⟨dy, gs, hb⟩)
  obtain ⟨m, hF⟩ := I.fr
  show wpAny (model X.prog X.w) X.A (richCompare .Eq (.ref a) (.ref a2)) (EP X pins σ Q) X.xe s
  refine PySem.W.cmp_K (op := .Eq) (tb := .ref C) (hr.mono hk).units0 hF I.ok.mod.kin J J'.type (by simp [PySem.W.notFirst]) hs hf ?_
  refine wpAny_mono (run_in (us := [.ref a, .ref a2]) (ws := [.ref a, .ref a2]) (fnR_of F b) (hr.mono hk) I.env0 pass0 I (.cons rfl (.cons rfl .nil)) q) (fun v s' z => ?_) fun _ _ x => x
  obtain ⟨z', H', I', rz, c, ec, qz⟩ := z
  subst ec
  obtain rfl : v = .bool c := rz
  exact ⟨.bl c, H', I', rfl, qz⟩
end
end Sh
set_option Elab.async false
set_option linter.all false
set_option maxRecDepth 100000
set_option maxHeartbeats 2000000
namespace Sh
open PySem PySem.Spec PyProof.Rows L2
/-! ### a property of a class of the text -/
structure PropAt (K : PySem.W.Frag) (C : Addr) (f q : Str) (st : Stmt) : Prop where
  ex : ∃ (p g : Addr) (fd : FuncData), PropOf K C f p g ∧ L2.Fun K f q st g fd ∧ Binds K fd ["self"] []
structure PropC (P : Program) (w : World) (K : PySem.W.Frag) (mg : Str → Option Value) (base : Heap) (k : Nat) (C : Addr) (f : Str) (sp : Sp) : Prop where
  ex : ∃ (p g : Addr) (fd : FuncData) (ps : List Str), PropOf K C f p g ∧ FnOk P w K mg base CX0 k g fd ps sp ∧ Binds K fd ps []
section
variable {P : Program} {w : World} {K : PySem.W.Frag} {mg : Str → Option Value} {base : Heap}
theorem PropC.mk0 {f q : Str} {C : Addr} {st : Stmt} {N : List Str} {k : Nat} {sp : Sp} (D : PropAt K C f q st) (S : FnScope N ["self"] (defScope st)) (len : ∀ vs H Q E, sp vs H Q E → vs.length = 1)
    (hbody : ∀ (f : Addr) (cdv : Value) (A : Around) (outer : List Env) (s : Shared) (H : Hp) (vs : List V) (Q : VK) (E : XK), Room k (A.deeper (envOfC q (defScope st) s.heap.objs.size f cdv)) → sp vs H Q E →
      ∃ t, PSs (cxOf CX0 P w K mg base N q (defScope st) f cdv A outer s H E).nox (defBody st) t ∧ t { nx := fun _ H' => Q .non H', rt := Q } (start N vs) H) : PropC P w K mg base (k + 1) C f sp := by
  obtain ⟨p, g, fd, hp, F, b⟩ := D.ex
  exact ⟨p, g, fd, ["self"], hp, F.ok S len (hbody g), b⟩
end
section
variable {X : Cx} {k j : Nat} {f : Str} {C : Addr} {sp : Sp} {pos : Pos} {e : Expr} {ta : TE}
/-- o.f, f a property -/
theorem pe_propC (ho : PE X e ta) (c : Cls X.K C) (d : PropC X.prog X.w X.K X.mg X.base k C f sp) (hr : Room j X.A) (hk : k + 1 ≤ j) (hab : attributeBase e f X.env (eval e X.env) = eval e X.env := by rfl) :
    PE X (.Attribute e f pos) (tProp C sp [] E0 ta) := by
  obtain ⟨p, g, fd, ps, hp, F, b⟩ := d.ex
  exact pe_prop ho c hp F (hr.mono hk) b .nil pass0 hab
end
section
variable {X : Cx} {C : Addr} {k j : Nat} {sp : Sp} {a : Expr} {ta : TE}
/-- o as a test, o an instance of the class at C with an own __bool__ -/
def tTestI (C : Addr) (sp : Sp) (ta : TE) : TT := fun σ H Q => ta σ H fun x H1 => ∃ p dx fs, x = .ref p ∧ H1 p = some (.ins C dx fs) ∧ sp [.ref p] H1 (fun z H2 => ∃ b, z = .bl b ∧ Q b H2) E0
theorem pt_inst (d : MetC X.prog X.w X.K X.mg X.base k C "__bool__" sp) (hr : Room j X.A) (hk : k ≤ j) (ha : PE X a ta) (he : ∀ whole, isTrue a X.env whole = (do let v ← whole; standAt a.pos; holding [v] (truthy v))) : PT X a (tTestI C sp ta) := by
  obtain ⟨f, fd, ps, F, b, i, n, o⟩ := d.ex
  refine ⟨fun pins s σ H Q I h => ?_⟩
  refine isTrue_plain (thn (ha.run pins s σ H _ I h) fun v s1 ⟨x, H1, I1, r1, p, dx, fs, ex, hH, q⟩ => ?_) (he _)
  subst ex
  obtain rfl : v = .ref p := r1
  obtain ⟨ox, od, J, _⟩ := StX.insC_at (C := C) I1 (.inr ⟨dx, fs, hH⟩)
  refine truthy_own I1.kIn J i n (wpAny_mono (run_in (us := [.ref p]) (ws := [.ref p]) (fnR_of F b) (hr.mono hk) I1.env0 pass0 I1 (.cons rfl .nil) q) (fun v s' z => ?_) fun _ _ x => x)
  obtain ⟨z', H', I', rz, c, ec, qz⟩ := z
  subst ec
  obtain rfl : v = .bool c := rz
  exact ⟨c, rfl, H', I', qz⟩
end
/-! ### what walks over the keys of a dict -/
theorem lc_keys {d : Addr} {o : Obj} {kvs : List (Key × V)} {g : TG} {tt : TT} {te : TE} {vs : List Nat} {σ : L2.St} {H1 : Hp} {D : Addr} {Qd : Hp → Prop}
    (Pv : List Key → Hp → Prop) (h0 : Pv [] (upd H1 D (.lst []))) (hG : ∀ pre H, Pv pre H → H d = some (.frz o (.dK kvs)))
    (hs : ∀ pre k post H, kvs.map (·.1) = pre ++ k :: post → Pv pre H → g (kV k) (wipe σ vs) H fun σ2 H2 => wipe σ2 vs = wipe σ vs ∧ tt σ2 H2 fun b H3 =>
      if b = true then te σ2 H3 fun y' H4 => ∃ acc, H4 D = some (.lst acc) ∧ acc.length < sizeLine ∧ Pv (pre ++ [k]) (upd H4 D (.lst (acc ++ [y']))) else Pv (pre ++ [k]) H3) (hd : ∀ H, Pv (kvs.map (·.1)) H → Qd H) :
    ∃ W : Nat → Nat → Hp → Prop, (∃ m, W 0 m (upd H1 D (.lst []))) ∧ ∀ i m H, W i m H →
      ((Itk d o kvs).stop i H ∧ Qd H) ∨ ((Itk d o kvs).go i H ∧ ∃ Nx : Hp → Prop, (∀ H', Nx H' → ∃ m', m' < m ∧ W (i + 1) m' H') ∧ ∀ x H', (Itk d o kvs).yld i H x H' → g x (wipe σ vs) H' fun σ2 H2 => wipe σ2 vs = wipe σ vs ∧ tt σ2 H2 fun b H3 =>
        if b = true then te σ2 H3 fun y H4 => ∃ acc, H4 D = some (.lst acc) ∧ acc.length < sizeLine ∧ Nx (upd H4 D (.lst (acc ++ [y]))) else Nx H3) := by
  have w := walk_keys (d := d) (o := o) (kvs := kvs)
  refine lc_it w (fun i H => Pv ((kvs.map (·.1)).take i) H) (by simpa using h0) (fun i H _ p => hG _ H p) (fun i x H H' hi p y => ?_) (fun H p => hd H (by rw [List.take_of_length_le (by simp)] at p; exact p))
  obtain ⟨rfl, k, v, hk, rfl⟩ := y
  have hl : (kvs.map (·.1))[i]? = some k := by rw [List.getElem?_map, hk]; rfl
  obtain ⟨e1, e2⟩ := take_succ_of hl
  have q := hs _ k _ H' e2 p
  rw [← e1] at q
  exact q
/-- a dict comprehension over a tuple whose items are told by l -/
theorem dc_tupR {α : Type} {Rel : Hp → V → α → Prop} {l : List α} {xs : List V} {K : PySem.W.Frag} {a : Addr} {g : TG} {tt : TT} {tk tv : TE} {vs : List Nat} {σ : L2.St} {H1 : Hp} {D : Addr} {Qd : Hp → Prop} (hlen : xs.length = l.length)
    (Pv : List α → Hp → Prop) (h0 : Pv [] (upd H1 D (.dK []))) (hG : ∀ pre H, Pv pre H → SqT K H a xs ∧ ∀ (i : Nat) x y, xs[i]? = some x → l[i]? = some y → Rel H x y)
    (hs : ∀ pre y post x H, l = pre ++ y :: post → xs[pre.length]? = some x → Rel H x y → Pv pre H → g x (wipe σ vs) H fun σ2 H2 => wipe σ2 vs = wipe σ vs ∧ tt σ2 H2 fun b H3 =>
      if b = true then tk σ2 H3 fun y1 H4 => tv σ2 H4 fun z H5 => ∃ kvs k, y1 = kV k ∧ H5 D = some (.dK kvs) ∧ kvs.length < sizeLine ∧ Pv (pre ++ [y]) (upd H5 D (.dK (putK kvs k z))) else Pv (pre ++ [y]) H3) (hd : ∀ H, Pv l H → Qd H) :
    ∃ W : Nat → Nat → Hp → Prop, (∃ m, W 0 m (upd H1 D (.dK []))) ∧ ∀ i m H, W i m H →
      ((Itt K a).stop i H ∧ Qd H) ∨ ((Itt K a).go i H ∧ ∃ Nx : Hp → Prop, (∀ H', Nx H' → ∃ m', m' < m ∧ W (i + 1) m' H') ∧ ∀ x H', (Itt K a).yld i H x H' → g x (wipe σ vs) H' fun σ2 H2 => wipe σ2 vs = wipe σ vs ∧ tt σ2 H2 fun b H3 =>
        if b = true then tk σ2 H3 fun y H4 => tv σ2 H4 fun z H5 => ∃ kvs k, y = kV k ∧ H5 D = some (.dK kvs) ∧ kvs.length < sizeLine ∧ Nx (upd H5 D (.dK (putK kvs k z))) else Nx H3) := by
  refine dc_tup (K := K) (a := a) (xs := xs) (fun i H => Pv (l.take i) H) (by simpa using h0) (fun i H _ p => (hG _ H p).1) (fun i x H hx p => ?_) (fun H p => hd H (by rw [hlen, List.take_length] at p; exact p))
  have hi' : i < l.length := by
    have := (List.getElem?_eq_some_iff.mp hx).1
    omega
  have hl : l[i]? = some l[i] := by simp [hi']
  obtain ⟨e1, e2⟩ := take_succ_of hl
  have q := hs _ l[i] _ x H e2 (by rw [List.length_take, Nat.min_eq_left (Nat.le_of_lt hi')]; exact hx) ((hG _ H p).2 i x l[i] hx hl) p
  rw [← e1] at q
  exact q
end Sh
set_option Elab.async false
set_option linter.all false
set_option maxRecDepth 100000
namespace Sh
open PySem PySem.Spec PyProof.Rows L2
section
variable {K : PySem.W.Frag} {h : Heap} {mg : Str → Option Value}
theorem kit_self {C : Addr} : PySem.W.kitOne K (.ref C) (.ref C) = some true := if_pos (by simp)
/-- a property -/
theorem prop_mk {C p : Addr} {m q : Str} {st : Stmt} {f : Addr} {oc kv dc pm cd ct : Value} {od an : Option Addr} {sl : Array (Option Value)} {rest : List Value}
    (l : K.lookup f = some ⟨oc, od, .func (PySem.W.fnOf m q (defArgs st) (defBody st) (defScope st) .none kv dc pm an cd ct), sl⟩) (c : PySem.W.codeIn K cd q = true) (k : PySem.W.keepIn K (.ref f) = true)
    (i : PySem.W.findIn K (.ref C) m = some (some (.ref p))) (g : PySem.W.specialIn K (.ref p) "__get__" = some (some (.builtin "property.__get__"))) (t : PySem.W.takesIn K (.ref p) = some true) (r : PySem.W.recIn K p "property" = some (.ref f :: rest))
    (b : ∀ (kV doc pm : Value) (an : Option Addr) (cdv ct : Value) (us : List Value), us.length = 1 → bindArgs (PySem.W.fnOf m q (defArgs st) (defBody st) (defScope st) .none kV doc pm an cdv ct) ⟨us, []⟩ = pure ([("self" : Str)].zip us)) : PropAt K C m q st := by
  have F := fun_mk (st := st) l c k
  exact ⟨p, f, _, ⟨i, g, t, rest, r⟩, F, F.binds b⟩
end
end Sh
set_option Elab.async false
set_option linter.all false
set_option maxRecDepth 100000
set_option maxHeartbeats 4000000
/-! an own exception's __init__ that begins with super().__init__(e), over ValueError -/
namespace Sh
open PySem PySem.Spec PyProof.Rows L2 NdefX
/-- of the class at C: its super().__init__ as seen from D is ValueError's -/
structure SupC (K : PySem.W.Frag) (C D : Addr) : Prop where
  sub : PySem.W.mroIn K C (.ref D) = some true
  sup : PySem.W.ks_superIn K C D "__init__" = some (some (.builtin "ValueError.__init__"))
  ve : PySem.W.subIn K (.ref C) (.type "ValueError") = some true
/-- the def at f, its class cell at cc (the class at D), its code's file -/
structure SupF (P : Program) (K : PySem.W.Frag) (mg : Str → Option Value) (q : Str) (st : Stmt) (ps : List Str) (D f : Addr) (fd : FuncData) : Prop where
  ex : ∃ (cc cda : Addr) (oc kv doc pm ct : Value) (od an : Option Addr) (osl : Array (Option Value)), fd = PySem.W.fnX "__init__" q (defArgs st) (defBody st) (defScope st) [("__class__", cc)] .none kv doc pm an (.ref cda) ct ∧
    K.lookup f = some ⟨oc, od, .func fd, osl⟩ ∧ PySem.W.codeIn K (.ref cda) q = true ∧
    (∃ (cl : Value) (cld : Option Addr) (csl : Array (Option Value)), K.lookup cc = some ⟨cl, cld, .cell (some (.ref D)), csl⟩) ∧
    (∃ (cl : Value) (cld : Option Addr) (vs : Array Value) (csl : Array (Option Value)) (file : Str) (tf : Tok), K.lookup cda = some ⟨cl, cld, .fields vs, csl⟩ ∧ vs[2]? = some (.str file tf) ∧ ((P.main.file : Str) == file) = true)
  top : (P.main.scope.names.lookup ("super" : Str)).isSome = false
  mgs : mg "super" = none
  hD : ∃ cd, PySem.W.clsIn K D = some cd
  op : PySem.W.nsIn K cStatics "thirdparty.any" = some none
  hp : ∃ ar : Arg, ((defArgs st).posonlyargs ++ (defArgs st).args).head? = some ar ∧ ar.arg = "self"
  hks : (defScope st).names.lookup ("super" : Str) = some .globalImplicit
section
variable {CX : CXT} {P : Program} {w : World} {K : PySem.W.Frag} {mg : Str → Option Value} {base : Heap} {N ps : List Str} {k : Nat} {f cda cc D : Addr} {q : Str} {st : Stmt} {fd : FuncData} {sp : Sp}
theorem look1 {cc c : Addr} {y : Str} (h : List.lookup y [(("__class__" : Str), cc)] = some c) : y = "__class__" ∧ c = cc := by
  by_cases e : y = "__class__"
  · subst e
    simp [List.lookup] at h
    exact ⟨rfl, h.symm⟩
  · have e' : (y == ("__class__" : Str)) = false := by simpa using e
    simp [List.lookup, e'] at h
theorem cells1 {A : Around} {outer : List Env} {s : Shared} {H : Hp} {cl : Value} {cld : Option Addr} {csl : Array (Option Value)} {v : Option Value} (e0 : Env0 P w K mg base A outer s H) (hc : K.lookup cc = some ⟨cl, cld, .cell v, csl⟩) : CellsAt [("__class__", cc)] ["__class__"] [none] s.heap H := by
  have hb := e0.bs _ _ (e0.mod.kin _ _ hc)
  refine ⟨rfl, fun y c h => ?_, fun x y c h1 h2 => (look1 h1).1.trans (look1 h2).1.symm, fun i y h => ?_⟩
  · obtain ⟨_, rfl⟩ := look1 h
    exact ⟨hb.2, v, _, hb.1, rfl⟩
  · match i, h with
    | 0, h =>
      cases h
      exact ⟨cc, by simp [List.lookup], fun v e => by cases e⟩
    | _ + 1, h => cases h
/-- the statement super().__init__(e, ..) -/
theorem sup_run {X : Cx} {σ : L2.St} {H : Hp} {s : Shared} {body : List Stmt} {q : Str} {scope : Scope} {L f cda cc D a C : Addr} {fd : FuncData} {oc : Value} {od : Option Addr} {osl : Array (Option Value)} {ar : Arg} {p0 p1 p2 p3 p4 : Pos} {e : Expr} {es : List Expr} {ta : TA} {G : Hp → Prop}
    {cl cl2 : Value} {cld cld2 : Option Addr} {csl csl2 : Array (Option Value)} {fvs : Array Value} {file : Str} {tf : Tok}
    (I : Inv X [] σ H s) (henv : X.env = PySem.W.ksEnv q scope L f (.ref cda) cc) (hk : scope.kind = .function) (hks : scope.names.lookup ("super" : Str) = some .globalImplicit) (hkc : scope.names.lookup ("__class__" : Str) = some .free) (hka : scope.names.lookup ("self" : Str) = some .local)
    (lk : X.K.lookup f = some ⟨oc, od, .func fd, osl⟩) (hp : (fd.params.posonlyargs ++ fd.params.args).head? = some ar) (har : ar.arg = "self") (hcc : X.K.lookup cc = some ⟨cl, cld, .cell (some (.ref D)), csl⟩)
    (hcda : X.K.lookup cda = some ⟨cl2, cld2, .fields fvs, csl2⟩) (hvs : fvs[2]? = some (.str file tf)) (hfile : ((X.prog.main.file : Str) == file) = true) (htop : (X.prog.main.scope.names.lookup ("super" : Str)).isSome = false) (hmg : X.mg "super" = none) (hop : PySem.W.nsIn X.K cStatics "thirdparty.any" = some none)
    (hN : X.N[0]? = some ("self" : Str)) (hσ : σ[0]? = some (some (.ref a))) {cdD : ClassData} (hD : PySem.W.clsIn X.K D = some cdD) (T : OexC X.K C) (SC : SupC X.K C D) (ea : H a = some (exo a C none)) (ha : PA X (e :: es) ta)
    (he : starEach (e :: es) X.env = (false, eval e X.env) :: starEach es X.env) (hpl : ∀ pos, (backTo pos (starEach es X.env)).any (·.1) = false)
    {pl : Sem Bool} (hev : eval (.Call (.Attribute (.Call (.Name "super" p0) [] [] p1) "__init__" p2) (e :: es) [] p3) X.env = (do
      let ov ← attributeBase (.Call (.Name "super" p0) [] [] p1) "__init__" X.env (eval (.Call (.Name "super" p0) [] [] p1) X.env)
      standAt p2.atName
      let (f, first) ← holding [ov] (getMethod ov "__init__" pl)
      callWith p3 f first (backTo p3 (starEach (e :: es) X.env)) []))
    (hq : ta σ H fun us H1 => us.length ≤ 1000 ∧ H1 a = some (exo a C none) ∧ G H1) :
    _root_.PySem.wpAt (model X.prog X.w) X.A (.func body X.env) (exec (.Expr (.Call (.Attribute (.Call (.Name "super" p0) [] [] p1) "__init__" p2) (e :: es) [] p3) p4) X.env) (fun fl s' => fl = .next ∧ ∃ H1, Inv X [] σ H1 s' ∧ G H1) X.xe s := by
  have KX := I.kIn
  refine ks_wpAt_Expr_any (ks_wpAt_MethodCall (pl := pl) ?_ hev) (by unfold interactive; rw [I.ok.kind]; rfl)
  obtain ⟨oD, hD1, hD2⟩ : ∃ oD, s.heap.get? D = some oD ∧ oD.data = .cls cdD := by
    unfold PySem.W.clsIn at hD
    split at hD
    · rename_i c d cd' sl ho
      cases hD
      exact ⟨_, KX _ _ ho, rfl⟩
    · cases hD
  have k1 : X.env.kindOf "super" = some .globalImplicit := by rw [henv]; exact hks
  have k2 : X.env.kindOf "__class__" = some .free := by rw [henv]; exact hkc
  have k3 : X.env.kindOf "self" = some .local := by rw [henv]; exact hka
  refine ks_wpAt_super_base (f := f) (cc := cda) k1 k2 (by decide) (by rw [henv]) (KX _ _ lk) rfl hp (by rw [henv]) (KX _ _ hcda) rfl hvs hfile htop ?_
  obtain ⟨mb, g1, g2⟩ := I.mod.blt
  refine PySem.W.ks_loadName_global I.ok.kind k1 (Calls.loadGlobal_builtin (by rw [I.ok.glob]; exact I.mod.glob.keeps I.bk) hmg (by rw [I.ok.blt]; exact g1.keeps I.bk) ((g2 _ (by decide)).trans (by first | boot_by_name | rfl | kernel_rfl)) ⟨rfl, ?_⟩)
  refine wpAny_loadName_free I.ok.kind k2 (by rw [henv]; simp [List.lookup]) ⟨_, KX _ _ hcc, rfl⟩ ?_
  obtain ⟨m, hn, hl⟩ := I.loc
  obtain ⟨u, ru, lo⟩ := hl 0 _ _ hN hσ (.inl (by rw [henv]; exact hka))
  obtain rfl : u = Value.ref a := ru
  have hm : m "self" = some (.ref a) := by
    rcases lo with ⟨_, hm⟩ | ⟨hk | hk, _⟩
    · exact hm
    · rw [k3] at hk; cases hk
    · rw [k3] at hk; cases hk
  rw [har]
  refine wpAny_loadName_local I.ok.kind k3 hn hm ?_
  refine ks_wpAny_isType_cls hD1 hD2 ⟨rfl, ?_⟩
  obtain ⟨t1, hx⟩ := exo_at I.hok ea
  have IA : PySem.W.InstAt s.heap a { cls := .ref C, dict := none, data := .fields #[.ref t1, .none, .none, .none, .bool false, .none] } C none := ⟨hx, rfl, rfl, trivial⟩
  obtain ⟨cdC, hcC⟩ : ∃ cd, PySem.W.clsIn X.K C = some cd := by
    obtain ⟨nm, q, N, bs, bm, sn, sub, ab, col, dd, k0, k1, k2, k3, k5, hC, hbm⟩ := T.cls
    exact ⟨_, by unfold PySem.W.clsIn; rw [hC] <;> rfl⟩
  have hsup := SC.sup
  unfold PySem.W.ks_superIn at hsup
  rw [hcC, Option.bind_some] at hsup
  have hsz : s.heap.objs.size ≤ s.heap.objs.size := Nat.le_refl _
  obtain ⟨hh, g, d, t, os⟩ := s
  refine ks_wpAny_call_super hD1 hD2 hx rfl (fun c z => by cases z) (PySem.W.looks_mroIn KX SC.sub) (fun h' hso k => ?_)
  have I1 : Inv X [] σ H ⟨h', g, d, t, os⟩ := I.kept (t' := t) k
  have X1 : X.K.In h' := I1.kIn
  have hx1 := k _ _ hx
  have IA1 : PySem.W.InstAt h' a { cls := .ref C, dict := none, data := .fields #[.ref t1, .none, .none, .none, .bool false, .none] } C none := ⟨hx1, rfl, rfl, trivial⟩
  refine PySem.W.kxs_getMethod PySem.W.kxs_ValueError hso (PySem.W.looks_opaque X1 hop) (l₀ := cdC.mro) (fun A Q E s k q => wpAny_bind ((PySem.W.looks_clsIn X1 hcC) A _ E s k (wpAny_pure q))) rfl X1 hsup (IA1.type.andThen (PySem.W.looks_subIn X1 SC.ve)) (PySem.W.ks_ne X1 IA1 hcC) (by decide) ?_
  have I2 : Inv X [] σ H ⟨h'.push (PySem.W.kxs_mw "ValueError.__init__" a), g, d, t + 1, os⟩ := I1.kept (t' := t + 1) fun b o e => Heap.get?_push_of_some _ e
  have fp : FpOk X [] H h'.objs.size := I1.fpOk (Nat.le_refl _) (I1.hok.fresh (Nat.le_refl _))
  have I3 : Inv X [(h'.objs.size, PySem.W.kxs_mw "ValueError.__init__" a)] σ H ⟨h'.push (PySem.W.kxs_mw "ValueError.__init__" a), g, d, t + 1, os⟩ := I2.pins_of fun p hp => by
    rw [List.mem_singleton.mp hp]
    exact ⟨Heap.get?_push_size _ rfl, fp.1, fp.2.1, fp.2.2.1, fun v z => by cases z⟩
  show wpAny _ _ (callWith p3 (.ref h'.objs.size) [] (backTo p3 (starEach (e :: es) X.env)) []) _ _ _
  refine PySem.W.kxs_callWith (i := "ValueError.__init__") (x := a) (by rw [he]; show (false || (backTo p3 (starEach es X.env)).any (·.1)) = false; rw [hpl]; rfl) ?_
  have hs := ha.run p3 _ _ σ H _ I3 hq
  rw [he] at hs ⊢
  refine PySem.Calls.evalArgs_plain (thn hs fun us s1 ⟨vs, H1, J, r1, hl, ea1, hG⟩ => ?_)
  have hu : s1.heap.get? h'.objs.size = some (PySem.W.kxs_mw "ValueError.__init__" a) := (J.pin _ (List.mem_append_right _ List.mem_cons_self)).1
  refine ⟨hu, ?_⟩
  show wpAny _ _ (call (.ref h'.objs.size) us) _ _ _
  obtain ⟨nm, qn, N, bs, bm, sn, sub, ab, col, dd, k0, k1', k2', k3', k5, hC, hbm⟩ := T.cls
  obtain ⟨t2, he2⟩ := exo_at J.hok ea1
  have hlen : us.length ≤ sizeLine := by
    rw [← r1.length, sizeLine_eq]
    omega
  have hC2 := J.kIn _ _ hC
  obtain ⟨hp2, gn2, dr2, tk2, os2⟩ := s1
  refine wpAny_call (codeAny_of_tree ?_)
  show wpAny _ X.A.in1 (callAny (.ref h'.objs.size) ⟨us, []⟩) _ _ _
  simp only [callAny]
  refine wpAny_bind (wpAny_load hu ?_)
  simp only [PySem.W.kxs_mw, show (Value.type "method-wrapper" == Value.type "method" || Value.type "method-wrapper" == Value.type "builtin_function_or_method" || Value.type "method-wrapper" == Value.type "method-wrapper") = true by decide, if_true]
  refine PySem.W.KFB.if_so (by decide) ?_
  refine wpAny_bind (PySem.W.check_bound_init F.excBase_ValueError.toExcCallFacts hC2 he2 rfl ?_)
  refine wpAny_bind (wpAny_pure (wpAny_pure ?_))
  refine ⟨plainId_quiet F.excBase_ValueError.init.plain _, codeAny_builtin F.excBase_ValueError.initEntry ?_⟩
  refine PySem.W.exc_init_tree (cls := .ref C) (t0 := t2) (dv := none) (c2 := .none) (c3 := .none) (b4 := .bool false) he2 hlen ?_
  intro h3 k3 e3 t3
  have J2 := J.write (t' := tk2) (x := a) (e := a) (o := exo a C none) (by rw [ea1]; exact True.intro) (.inl rfl) k3 ⟨_, e3⟩ (exo_ok e3)
  have eu : upd H1 a (exo a C none) = H1 := by
    funext b
    by_cases hb : b = a
    · rw [hb, upd_same, ea1]
    · rw [upd_ne hb]
  rw [eu] at J2
  exact ⟨trivial, H1, J2.pins_of (fun p hp => absurd hp (by simp)), hG⟩
theorem fn_sup {p0 p1 p2 p3 p4 : Pos} {es : List Expr} {e : Expr} {rest : List Stmt} (F : SupF P K mg q st ps D f fd) (S : NScope N ps ["__class__"] (defScope st))
    (hself : ps.head? = some "self") (hst : defBody st = .Expr (.Call (.Attribute (.Call (.Name "super" p0) [] [] p1) "__init__" p2) (e :: es) [] p3) p4 :: rest)
    (len : ∀ vs H Q E, sp vs H Q E → vs.length = ps.length)
    (hbody : ∀ (cc cda : Addr) (A : Around) (outer : List Env) (s : Shared) (H : Hp) (vs : List V) (Q : VK) (E : XK), Room k (A.deeper (PySem.W.ksEnv q (defScope st) s.heap.objs.size f (.ref cda) cc)) → sp vs H Q E →
      ∃ ta t pl, PA (ncx CX P w K mg base N ⟨"__init__", q, defArgs st, defBody st, defScope st, [("__class__", cc)], cda⟩ f A outer s H E) (e :: es) ta ∧ PSs (ncx CX P w K mg base N ⟨"__init__", q, defArgs st, defBody st, defScope st, [("__class__", cc)], cda⟩ f A outer s H E) rest t ∧ starEach (e :: es) (PySem.W.ksEnv q (defScope st) s.heap.objs.size f (.ref cda) cc) = (false, eval e (PySem.W.ksEnv q (defScope st) s.heap.objs.size f (.ref cda) cc)) :: starEach es (PySem.W.ksEnv q (defScope st) s.heap.objs.size f (.ref cda) cc) ∧ (∀ pos, (backTo pos (starEach es (PySem.W.ksEnv q (defScope st) s.heap.objs.size f (.ref cda) cc))).any (·.1) = false) ∧
        eval (.Call (.Attribute (.Call (.Name "super" p0) [] [] p1) "__init__" p2) (e :: es) [] p3) (PySem.W.ksEnv q (defScope st) s.heap.objs.size f (.ref cda) cc) = (do
          let ov ← attributeBase (.Call (.Name "super" p0) [] [] p1) "__init__" (PySem.W.ksEnv q (defScope st) s.heap.objs.size f (.ref cda) cc) (eval (.Call (.Name "super" p0) [] [] p1) (PySem.W.ksEnv q (defScope st) s.heap.objs.size f (.ref cda) cc))
          standAt p2.atName
          let (g0, first) ← holding [ov] (getMethod ov "__init__" pl)
          callWith p3 g0 first (backTo p3 (starEach (e :: es) (PySem.W.ksEnv q (defScope st) s.heap.objs.size f (.ref cda) cc))) []) ∧
        ∃ (a C : Addr) (ws : List V), vs = .ref a :: ws ∧ OexC K C ∧ SupC K C D ∧ H a = some (exo a C none) ∧
        ta (startF N vs [none]) H (fun us H1 => us.length ≤ 1000 ∧ H1 a = some (exo a C none) ∧ t { nx := fun _ H' => Q .non H', rt := Q } (startF N vs [none]) H1)) :
    FnOk P w K mg base CX (k + 1) f fd ps sp := by
  obtain ⟨cc, cda, oc, kv, doc, pm, ct, od, an, osl, rfl, lk, hcd, ⟨cl, cld, csl, hcc⟩, ⟨cl2, cld2, fvs, csl2, file, tf, hcda, hvs, hfile⟩⟩ := F.ex
  refine ⟨len, fun A outer s H args us vs Q E hr e0 hb r hsp => ?_⟩
  have hl := len _ _ _ _ hsp
  have KX : K.In s.heap := e0.mod.kin.keeps fun b o e => (e0.bs b o e).1
  have lim : s.heap.NoLimit := e0.mod.nolimit.keeps fun b o e => (e0.bs b o e).1
  refine ks_codeAny_call_defAt (binds := ps.zip us) (body := defBody st) hr.depth (KX _ _ lk) rfl lim (PySem.W.codeRec_of KX hcd) rfl hb S.nocell (fun ⟨n, v⟩ hy => S.par n (List.of_mem_zip hy).1) (fun h₁ hns kp => ?_) S.co S.gen S.kind
  have I0 : Inv (ncx CX P w K mg base N ⟨"__init__", q, defArgs st, defBody st, defScope st, [("__class__", cc)], cda⟩ f A outer s H E) [] (startF N vs [none]) H { s with heap := h₁, toks := s.toks + (ps.zip us).length } := inv_startN S hr.hd e0 hl r (cells1 e0 hcc) hns kp
  obtain ⟨ta, t, pl, hpa, hps, he, hpl, hev, a, C, ws, rfl, T, SC, ea, hta⟩ := hbody cc cda A outer s H vs Q E (hr.deeper _) hsp
  obtain ⟨cdD, hD⟩ := F.hD
  obtain ⟨ar, har1, har2⟩ := F.hp
  obtain ⟨ps', rfl⟩ : ∃ ps', ps = ("self" : Str) :: ps' := by
    cases ps with
    | nil => cases hself
    | cons x xs => cases hself; exact ⟨xs, rfl⟩
  have hN0 : N[0]? = some ("self" : Str) := by
    have := congrArg (fun l => l[0]?) S.pre
    simpa using this
  have key : _root_.PySem.wpAt (model P w) (A.deeper (PySem.W.ksEnv q (defScope st) s.heap.objs.size f (.ref cda) cc)) (.func (defBody st) (PySem.W.ksEnv q (defScope st) s.heap.objs.size f (.ref cda) cc)) (execs (.Expr (.Call (.Attribute (.Call (.Name "super" p0) [] [] p1) "__init__" p2) (e :: es) [] p3) p4 :: rest) (PySem.W.ksEnv q (defScope st) s.heap.objs.size f (.ref cda) cc))
      (SP (ncx CX P w K mg base N ⟨"__init__", q, defArgs st, defBody st, defScope st, [("__class__", cc)], cda⟩ f A outer s H E) [] { nx := fun _ H' => Q .non H', rt := Q })
      (ncx CX P w K mg base N ⟨"__init__", q, defArgs st, defBody st, defScope st, [("__class__", cc)], cda⟩ f A outer s H E).xe { s with heap := h₁, toks := s.toks + ((("self" : Str) :: ps').zip us).length } := by
    refine ks_wpAt_execs_cons (ks_wpAt_mono (sup_run (G := fun H1 => t { nx := fun _ H' => Q .non H', rt := Q } (startF N (.ref a :: ws) [none]) H1) I0 rfl S.kind F.hks (S.frk _ List.mem_cons_self) (S.par _ List.mem_cons_self) lk har1 har2 hcc hcda hvs hfile F.top F.mgs F.op hN0 rfl hD T SC ea hpa he hpl hev hta) (fun fl s' ⟨e1, H1, J, hG⟩ => ?_) fun _ _ z => z)
    subst e1
    exact wpAt_of_wpAny (hps.run [] s' _ H1 _ J hG)
  rw [← hst] at key
  refine ks_wpAt_mono key (fun fl s' hs => ?_) fun _ _ z => z
  have fin : ∀ {σ' : L2.St} {H' : Hp} {v : V} {u : Value}, Inv (ncx CX P w K mg base N ⟨"__init__", q, defArgs st, defBody st, defScope st, [("__class__", cc)], cda⟩ f A outer s H E) [] σ' H' s' → L2.RelV v u → Q v H' → CE outer P w H s Q u s' :=
    fun {σ' H' v u} J rv q => ⟨v, H', J.os, J.bare, J.base, J.hok, rv, q⟩
  cases fl with
  | ret u =>
    obtain ⟨v, σ', H', J, rv, q⟩ := hs
    exact fin J rv q
  | next =>
    obtain ⟨σ', H', J, q⟩ := hs
    exact fin (v := V.non) (u := Value.none) J rfl q
  | brk =>
    obtain ⟨_, _, _, q⟩ := hs
    exact False.elim q
  | cont =>
    obtain ⟨_, _, _, q⟩ := hs
    exact False.elim q
end
end Sh
set_option Elab.async false
set_option linter.all false
set_option maxRecDepth 100000
/-! own exceptions over ValueError: made, raised, told by defs that may raise -/
namespace Sh
open PySem PySem.Spec PyProof.Rows L2 NdefX
/-- an exception class of the text: its __init__ (own or an ancestor's, written in the class at D) at f -/
structure ExcAt (K : PySem.W.Frag) (mg : Str → Option Value) (x : Str) (C f D : Addr) : Prop where
  oex : OexC K C
  mgC : mg x = some (.ref C)
  iC : PySem.W.findIn K (.ref C) "__init__" = some (some (.ref f))
  tI : PySem.W.typeIn K (.ref f) = some (.type "function")
  sup : SupC K C D
  xf : XfC K C
/-- its __init__ stands in the text -/
structure XInit (P : Program) (K : PySem.W.Frag) (mg : Str → Option Value) (q : Str) (st : Stmt) (ps : List Str) (D f : Addr) : Prop where
  ex : ∃ fd, SupF P K mg q st ps D f fd ∧ Binds K fd ps []
/-- __init__(self, thing): super().__init__(..), then self.fld = thing -/
def spX1 (K : PySem.W.Frag) (D : Addr) (fld : Str) (ok : V → Prop) : Sp := fun vs H Q _ => ∃ (a C : Addr) (v : V), vs = [.ref a, v] ∧ OexC K C ∧ SupC K C D ∧ PySem.W.findIn K (.ref C) fld = some none ∧ H a = some (exo a C none) ∧ ok v ∧
  ∀ dx, H dx = none → dx ≠ a → Q .non (upd (upd H dx (exd dx [(fld, v)])) a (exo a C (some dx)))
theorem mk1 {K : PySem.W.Frag} {mg : Str → Option Value} {x fld : Str} {C f D : Addr} {ok : V → Prop} {v : V} {H1 : Hp} {Q : XK} {E : XK} (T : ExcAt K mg x C f D) (hno : PySem.W.findIn K (.ref C) fld = some none) (hv : ok v) (k : ∀ d, H1 d = none → Q (.ref C) (some d) (upd H1 d (.xd [(fld, v)]))) :
    [v].length ≤ 1000 ∧ ∀ a, H1 a = none → spX1 K D fld ok (.ref a :: ([v] ++ [])) (upd H1 a (exo a C none)) (fun u H2 => u = .non ∧ ∃ (d : Addr) (fs : List (Str × V)), H2 a = some (exo a C (some d)) ∧ H2 d = some (exd d fs) ∧ H1 d = none ∧ Q (.ref C) (some d) (upd (del H2 a) d (.xd fs))) E := by
  refine ⟨by simp, fun a ha => ⟨a, C, v, rfl, T.oex, T.sup, hno, upd_same, hv, fun dx h1 h2 => ⟨rfl, dx, [(fld, v)], upd_same, ?_, ?_, ?_⟩⟩⟩
  · rw [upd_ne h2, upd_same]
  · rw [upd_ne h2] at h1; exact h1
  · rw [upd_ne h2] at h1
    have e : upd (del (upd (upd (upd H1 a (exo a C none)) dx (exd dx [(fld, v)])) a (exo a C (some dx))) a) dx (.xd [(fld, v)]) = upd H1 dx (.xd [(fld, v)]) := by
      funext b
      by_cases hb : b = dx
      · rw [hb, upd_same, upd_same]
      · rw [upd_ne hb, upd_ne hb]
        by_cases hba : b = a
        · rw [hba, del_same, ha]
        · rw [del_ne hba, upd_ne hba, upd_ne hb, upd_ne hba]
    rw [e]
    exact k dx h1
/-- such an __init__ keeps its promise -/
structure XiOk (P : Program) (w : World) (K : PySem.W.Frag) (mg : Str → Option Value) (base : Heap) (k : Nat) (f : Addr) (sp : Sp) : Prop where
  ex : ∃ (fd : FuncData) (ps : List Str), FnOk P w K mg base CX0 k f fd ps sp ∧ Binds K fd ps []
/-! ### a def that may raise -/
section
variable {P : Program} {w : World} {K : PySem.W.Frag} {mg : Str → Option Value} {base : Heap}
theorem Cal.mkX {x : Str} {st : Stmt} {N ps : List Str} {k : Nat} {sp : Sp} (D : DefAt K mg x st ps) (S : FnScope N ps (defScope st)) (len : ∀ vs H Q E, sp vs H Q E → vs.length = ps.length)
    (hbody : ∀ (f : Addr) (cdv : Value) (A : Around) (outer : List Env) (s : Shared) (H : Hp) (vs : List V) (Q : VK) (E : XK), Room k (A.deeper (envOfC x (defScope st) s.heap.objs.size f cdv)) → sp vs H Q E →
      ∃ t, PSs (cxOf (L2.CX P w) P w K mg base N x (defScope st) f cdv A outer s H E) (defBody st) t ∧ t { nx := fun _ H' => Q .non H', rt := Q } (start N vs) H) : Cal P w K mg base (L2.CX P w) (k + 1) x sp := by
  obtain ⟨f, fd, F, m, b⟩ := D.ex
  exact ⟨f, fd, ps, F.okX S len (fun cdv A outer s H vs Q E hr h => hbody f cdv A outer s H vs Q E hr h), m, F.kp, b⟩
end
section
variable {X : Cx} {k j : Nat} {x : Str} {sp : Sp} {p pos : Pos} {e : Expr} {es : List Expr} {t : TA} {W : WX}
/-- f(e, ..), f a def that may raise; what it raises is wished by W -/
theorem pe_cX (c : Cal X.prog X.w X.K X.mg X.base (L2.CX X.prog X.w) k x sp) (hr : Room j X.A) (hk : k ≤ j) (tk : Takes X W) (hg : Gl X x) (ha : PA X (e :: es) t)
    (hdb : (x == ("__debug__" : Str)) = false := by decide) (he : starEach (e :: es) X.env = (false, eval e X.env) :: starEach es X.env := by rfl) (hpl : (backTo pos (starEach es X.env)).any (·.1) = false := by rfl) :
    PE X (.Call (.Name x p) (e :: es) [] pos) (tCallS sp (WE W) t) := by
  obtain ⟨f, fd, ps, F, hm, kp, b⟩ := c.ex
  exact pe_callS F (hr.mono hk) hg hm kp b (fun σ => passAt tk σ) ha hdb he hpl
/-- the same where it does not raise -/
theorem pe_cXn (c : Cal X.prog X.w X.K X.mg X.base (L2.CX X.prog X.w) k x sp) (hr : Room j X.A) (hk : k ≤ j) (hg : Gl X x) (ha : PA X (e :: es) t)
    (hdb : (x == ("__debug__" : Str)) = false := by decide) (he : starEach (e :: es) X.env = (false, eval e X.env) :: starEach es X.env := by rfl) (hpl : (backTo pos (starEach es X.env)).any (·.1) = false := by rfl) :
    PE X (.Call (.Name x p) (e :: es) [] pos) (tCall sp [] E0 t) := by
  obtain ⟨f, fd, ps, F, hm, kp, b⟩ := c.ex
  exact pe_call F (hr.mono hk) hg hm kp b .nil passL ha hdb he hpl
/-- raise C(e) -/
theorem ps_raiseX {C D f : Addr} {pos2 : Pos} (T : ExcAt X.K X.mg x C f D) (F : XiOk X.prog X.w X.K X.mg X.base k f sp) (hr : Room j X.A) (hk : k + 1 ≤ j) (hc : X.calm = true) (tk : Takes X W) (hg : Gl X x) (ha : PA X (e :: es) t)
    (hdb : (x == ("__debug__" : Str)) = false := by decide) (he : starEach (e :: es) X.env = (false, eval e X.env) :: starEach es X.env := by rfl) (hpl : (backTo pos (starEach es X.env)).any (·.1) = false := by rfl) :
    PS X (.Raise (some (.Call (.Name x p) (e :: es) [] pos)) none pos2) (fun _ σ H => tMkO C sp [] t σ H fun cls d H' => W cls d σ H') := by
  obtain ⟨fd, ps, F, b⟩ := F.ex
  exact ps_raise hc tk (pmk_oex (ds := []) (dvs := []) T.oex T.iC T.tI F (hr.mono hk) b .nil (fun _ _ _ _ _ _ _ z => z.elim) hg T.mgC ha hdb he hpl)
/-- repr of a text -/
theorem call_repr_str : CallR X (.builtin "repr") (fun xs H Q => ∃ z, xs = [.str z] ∧ (reprText z).length ≤ sizeLine ∧ Q (.str (reprText z)) H) := by
  intro pins s σ H xs us Q I r h
  obtain ⟨z, rfl, hz, q⟩ := h
  obtain ⟨u, rfl, t, rfl⟩ := vals1 r
  exact PySem.P.repr_of_str ⟨.str _, H, I.tok _, ⟨_, rfl⟩, q⟩ hz
end
end Sh
set_option Elab.async false
set_option linter.all false
set_option maxRecDepth 100000
set_option maxHeartbeats 2000000
/-! try with several clauses «except C as n» -/
namespace Sh
open PySem PySem.Spec PyProof.Rows L2
abbrev ClA := Value × Nat × (Addr → Value → Option Addr → TS)
def outA (D : Ends) (i : Nat) : Ends := { nx := fun σ' H' => D.nx (σ'.set i none) H', rt := D.rt, bk := fun σ' H' => D.bk (σ'.set i none) H', ct := fun σ' H' => D.ct (σ'.set i none) H' }
/-- what the clauses wish of an exception of the body -/
def wAsN (K : PySem.W.Frag) (Wo : WX) (D : Ends) : List ClA → WX
  | [] => Wo
  | p :: r => fun cls d σ H => ∃ b, PySem.W.exmOne K cls p.1 = some b ∧ (b = true → ∀ a, H a = none → p.2.2 a cls d (outA D p.2.1) (σ.set p.2.1 (some (.ref a))) H) ∧ (b = false → wAsN K Wo D r cls d σ H)
inductive HdsA (X : Cx) : List ExceptHandler → List ClA → Prop
  | nil : HdsA X [] []
  | cons {x n : Str} {c : Value} {i : Nat} {ts : Addr → Value → Option Addr → TS} {b0 : Stmt} {su : List Stmt} {np pos' : Pos} {hds : List ExceptHandler} {l : List ClA} (hi : X.N[i]? = some n) (hl : X.env.kindOf n = some .local) (hc : Names X x c)
      (hsu : ∀ (a : Addr) (oe : Obj) (cls : Value) (d : Option Addr) (pn : List (Addr × Obj)), Zc cls d oe → (∃ vs, oe.data = .fields vs) → PSs (X.suite a ((a, oe) :: pn)) (b0 :: su) (ts a cls d)) (r : HdsA X hds l) :
      HdsA X (.ExceptHandler (some (.Name x np)) (some n) (b0 :: su) pos' :: hds) ((c, i, ts) :: l)
section
variable {X : Cx} {body : List Stmt} {h0 : ExceptHandler} {hds : List ExceptHandler} {l : List ClA} {pos : Pos} {tb : WX → TS} {Wo : WX}
theorem ps_try_asN (hs : X.stack = X.env :: X.outer) (hf : X.env.frame = some X.env.locals) (hN : X.N.Nodup) (tk : Takes X Wo)
    (hb : ∀ (W : WX) (pn : List (Addr × Obj)) (xe : Value → Shared → Prop), Takes (X.tr pn xe) W → PassesOwn (model X.prog X.w) X.A X.env xe → PSs (X.tr pn xe) body (tb W))
    (hh : HdsA X (h0 :: hds) l) : PS X (.Try body (h0 :: hds) [] [] pos) (fun D σ H => tb (wAsN X.K Wo D l) D σ H) := by
  refine ⟨fun pins s σ H D I hgo => ?_⟩
  have okX := I.ok
  have frX : X.A.frames = some (X.env :: X.outer) := okX.frames.trans (congrArg some hs)
  refine wpAny_Try_except (wpAny_mono ((hb (wAsN X.K Wo D l) (X.pn ++ pins) (fun e s₁ => wpAny (model X.prog X.w) X.A (noteFrame e X.env) (fun _ s₂ => wpAny (model X.prog X.w) X.A (setFlight e none) (fun _ s₃ =>
    wpAny (model X.prog X.w) X.A (handleBy e X.env (h0 :: hds)) (SP X pins D) X.xe s₃) X.xe s₂) X.xe s₁) (fun u s' air => ?_) PassesOwn.looking).run [] s σ H D (I.toTry _) hgo) (fun fl s1 done => ?_) fun _ _ he => he)
  · obtain ⟨a, B, sI, pn0, σ1, H1, cls, d, rfl, J0, nb, up, sky, na, os, ag, wish⟩ := air
    have J : Inv X pins σ1 H1 sI := J0.ofTry okX
    show wpAny (model X.prog X.w) X.A (noteFrame (.ref a) X.env) _ _ _
    refine Sky.land Zc.steady frX hf (hs ▸ sky) fun g3 fl3 up3 => ?_
    have J3 : Inv X pins σ1 H1 { s' with heap := g3 } := J.landed nb fl3.1 (up.trans up3) os ag
    obtain ⟨oe3, vs3, at3, z3, d3⟩ := fl3.there
    have offF : a ∉ frs (X.env :: X.outer) := fun hm => by
      obtain ⟨_, o', e', isF⟩ := fl3.2.2.1.mem hm
      cases at3.symm.trans e'
      exact isF _ d3
    have offL : a ≠ X.env.locals := fun z => offF (List.mem_filterMap.mpr ⟨X.env, List.mem_cons_self, hf.trans (congrArg some z.symm)⟩)
    have offO : a ∉ X.fs := fun hm => let ⟨e, he, q⟩ := List.mem_filterMap.mp hm; offF (List.mem_filterMap.mpr ⟨e, List.mem_cons_of_mem _ he, q⟩)
    have S3 := J3.suite at3 d3 na offL offO
    have steps : ∀ {hs' : List ExceptHandler} {l' : List ClA}, HdsA X hs' l' → wAsN X.K Wo D l' cls d σ1 H1 → wpAny (model X.prog X.w) X.A (handleBy (.ref a) X.env hs') (SP X pins D) X.xe { s' with heap := g3 } := by
      intro hs' l' hk
      induction hk with
      | nil =>
        intro wo
        refine wpAny_handleBy_nil ?_
        obtain ⟨_, _, _, oe, vs, Tb, oT, ts', he, _, hd, h1, _⟩ := id fl3
        unfold PySem.passOn
        refine wpAny_bind (wpAny_field he hd h1 ?_)
        rw [if_neg (show ¬ ((Value.ref Tb == Value.none) = true) from by simp)]
        have away : wpAny (model X.prog X.w) X.A (setFlight (.ref a) X.env.frame) (fun _ s4 => wpAny (model X.prog X.w) X.A (throw (.ref a) : Sem Flow) (SP X pins D) X.xe s4) X.xe { s' with heap := g3 } := by
          rw [hf]
          exact HandSPX.setFlight_upZ fl3 fun h4 hh4 up4 => wpAny_throw (tk _ _ ⟨a, B, sI, pins, σ1, H1, cls, d, rfl, J, nb, (up.trans up3).trans up4, .inr (.inr (hs ▸ hh4)), na, os, ag, wo⟩)
        first
          | exact wpAny_bind (wpAny_pure (wpAny_bind away))
          | exact wpAny_bind away
      | @cons x n c i ts b0 su np pos' hd2 l2 hi hl hc hsu r ih =>
        intro wo
        obtain ⟨b, hb1, hy, hn⟩ := wo
        refine wpAny_handleBy_cons (codeAny_handlers_test ?_) (fun q => by cases q)
        have LTy : PySem.W.Looks (model X.prog X.w) g3 (typeOf (.ref a)) cls := fun _ _ _ s k q => wpAny_typeOf_ref (k _ _ at3) (by rw [z3.1]; exact q)
        have LMa := PySem.W.exm_one (M := model X.prog X.w) J3.kIn LTy hb1
        have named : ∀ {Q : Value → Shared → Prop} {E : Value → Shared → Prop}, Q c { s' with heap := g3 } → wpAny (model X.prog X.w) (X.A.mark (some (.ref a))) (eval (.Name x np) X.env) Q E { s' with heap := g3 } := fun {Q E} q => by
          obtain ⟨hg, hdb, hm | ⟨hm, hv, hnn⟩⟩ := hc
          · exact ld_glob (X := X.suite a ((a, oe3) :: (X.pn ++ pins))) S3 hg hm q hdb
          · exact ld_blt (X := X.suite a ((a, oe3) :: (X.pn ++ pins))) S3 hg hm hv q hnn hdb
        refine named (LMa.here ?_)
        cases b with
        | false => exact ih (hn rfl)
        | true =>
          refine codeAny_handlers_suite_as (HandSPX.lands_againZ fl3 fun g4 fl4 up4 => ?_)
          have J4 : Inv X pins σ1 H1 { s' with heap := g4 } := J.landed nb fl4.1 ((up.trans up3).trans up4) os ag
          obtain ⟨oe4, vs4, at4, z4, d4⟩ := fl4.there
          have S4 := J4.suite at4 d4 na offL offO
          refine store_ok (X := X.suite a ((a, oe4) :: (X.pn ++ pins))) (v := .ref a) S4 hN hi (.inl hl) rfl (fun s5 S5 => ?_) (.inr hl)
          refine wpAny_mono ((hsu a oe4 cls d (X.pn ++ pins) z4 ⟨_, d4⟩).run [] s5 _ H1 _ S5 (hy rfl a na)) (fun fl s6 end6 => ?_) (fun _ _ z => z.elim)
          have shut : ∀ {σ6 : L2.St} {H6 : Hp} {Q : Shared → Prop}, Inv (X.suite a ((a, oe4) :: (X.pn ++ pins))) [] σ6 H6 s6 → (∀ s7, Inv X pins (σ6.set i none) H6 s7 → Q s7) →
              wpAny (model X.prog X.w) X.A (do bindName X.env n .none; unbindBehindTheSuite X.env n pos') (fun _ s7 => Q s7) X.xe s6 := fun {σ6 H6 Q} S6 hq => gone_ok (S6.unsuite okX) hN hi hl hq
          cases fl with
          | next => exact let ⟨_, _, S6, q6⟩ := end6; shut S6 fun s7 J7 => ⟨_, _, J7, q6⟩
          | brk => exact let ⟨_, _, S6, q6⟩ := end6; shut S6 fun s7 J7 => ⟨_, _, J7, q6⟩
          | cont => exact let ⟨_, _, S6, q6⟩ := end6; shut S6 fun s7 J7 => ⟨_, _, J7, q6⟩
          | ret u => exact let ⟨_, _, _, S6, r6, q6⟩ := end6; shut S6 fun s7 J7 => ⟨_, _, _, J7, r6, q6⟩
    exact steps hh wish
  · cases fl with
    | next => exact let ⟨σ', H', J', q⟩ := done; wpAny_execs_nil ⟨σ', H', J'.ofTry okX, q⟩
    | brk => exact let ⟨σ', H', J', q⟩ := done; ⟨σ', H', J'.ofTry okX, q⟩
    | cont => exact let ⟨σ', H', J', q⟩ := done; ⟨σ', H', J'.ofTry okX, q⟩
    | ret u => exact let ⟨v, σ', H', J', r, q⟩ := done; ⟨v, σ', H', J'.ofTry okX, r, q⟩
end
end Sh
set_option Elab.async false
set_option linter.all false
set_option maxRecDepth 100000
/-! what leaves a def that raises; a try within a loop -/
namespace Sh
open PySem PySem.Spec PyProof.Rows L2
/-- an exception with one field is let out -/
def Thrown (E : XK) (H : Hp) (X : Addr) (fld : Str) (v : V) : Prop := ∀ d, H d = none → E (.ref X) (some d) (upd H d (.xd [(fld, v)]))
theorem lk1 {f : Str} {v : V} : List.lookup f [(f, v)] = some v := by simp [List.lookup]
/-- the reading of a try, as a word of its own (within a loop) -/
def tTry (tb : WX → TS) (K : PySem.W.Frag) (Wo : WX) (l : List ClA) : TS := fun D σ H => tb (wAsN K Wo D l) D σ H
theorem ps_tryT {X : Cx} {body : List Stmt} {h0 : ExceptHandler} {hds : List ExceptHandler} {l : List ClA} {pos : Pos} {tb : WX → TS} {Wo : WX} (hs : X.stack = X.env :: X.outer) (hf : X.env.frame = some X.env.locals) (hN : X.N.Nodup) (tk : Takes X Wo)
    (hb : ∀ (W : WX) (pn : List (Addr × Obj)) (xe : Value → Shared → Prop), Takes (X.tr pn xe) W → PassesOwn (model X.prog X.w) X.A X.env xe → PSs (X.tr pn xe) body (tb W))
    (hh : HdsA X (h0 :: hds) l) : PS X (.Try body (h0 :: hds) [] [] pos) (tTry tb X.K Wo l) := ps_try_asN hs hf hN tk hb hh
/-- fields of an exception with two: self.f = a, self.g = b -/
def spX2 (K : PySem.W.Frag) (D : Addr) (f g : Str) (ok : V → V → Prop) : Sp := fun vs H Q _ => ∃ (a C : Addr) (u v : V), vs = [.ref a, u, v] ∧ OexC K C ∧ SupC K C D ∧ PySem.W.findIn K (.ref C) f = some none ∧ PySem.W.findIn K (.ref C) g = some none ∧ H a = some (exo a C none) ∧ ok u v ∧
  ∀ (dx : Addr) (H' : Hp), H dx = none → dx ≠ a → H' a = some (exo a C (some dx)) → H' dx = some (exd dx [(g, v), (f, u)]) → (∀ b, b ≠ a → b ≠ dx → H' b = H b) → Q .non H'
theorem mk2 {K : PySem.W.Frag} {mg : Str → Option Value} {x f g : Str} {C fI D : Addr} {ok : V → V → Prop} {u v : V} {H1 : Hp} {Q : XK} {E : XK} (T : ExcAt K mg x C fI D) (hf : PySem.W.findIn K (.ref C) f = some none) (hg : PySem.W.findIn K (.ref C) g = some none) (hv : ok u v)
    (k : ∀ d, H1 d = none → Q (.ref C) (some d) (upd H1 d (.xd [(g, v), (f, u)]))) :
    [u, v].length ≤ 1000 ∧ ∀ a, H1 a = none → spX2 K D f g ok (.ref a :: ([u, v] ++ [])) (upd H1 a (exo a C none)) (fun z H2 => z = .non ∧ ∃ (d : Addr) (fs : List (Str × V)), H2 a = some (exo a C (some d)) ∧ H2 d = some (exd d fs) ∧ H1 d = none ∧ Q (.ref C) (some d) (upd (del H2 a) d (.xd fs))) E := by
  refine ⟨by simp, fun a ha => ⟨a, C, u, v, rfl, T.oex, T.sup, hf, hg, upd_same, hv, fun dx H' h1 h2 e1 e2 e3 => ?_⟩⟩
  rw [upd_ne h2] at h1
  refine ⟨rfl, dx, _, e1, e2, h1, ?_⟩
  have e : upd (del H' a) dx (.xd [(g, v), (f, u)]) = upd H1 dx (.xd [(g, v), (f, u)]) := by
    funext b
    by_cases hb : b = dx
    · rw [hb, upd_same, upd_same]
    · rw [upd_ne hb, upd_ne hb]
      by_cases hba : b = a
      · rw [hba, del_same, ha]
      · rw [del_ne hba, e3 b hba hb, upd_ne hba]
  rw [e]
  exact k dx h1
end Sh
set_option Elab.async false
set_option linter.all false
set_option maxRecDepth 100000
/-! isinstance of a caught error of an own class that has fields -/
namespace Sh
open PySem PySem.Spec PyProof.Rows L2
/-- isinstance(e, c): e the caught exception at a, of the class D, its fields at d -/
def rIsX (K : PySem.W.Frag) (D a : Addr) (cls : Value) (d : Option Addr) : List V → Hp → VK → Prop := fun xs H Q => cls = .ref D ∧ ∃ (c : V) (cv : Value) (b : Bool) (dd : Addr) (fs : List (Str × V)), xs = [.ref a, c] ∧ d = some dd ∧ H dd = some (.xd fs) ∧ (∀ u, RelV c u → u = cv) ∧ PySem.W.kitOne K (.ref D) cv = some b ∧ Q (.bl b) H
theorem inst_cls {K : PySem.W.Frag} {D : Addr} (h : PySem.W.hasDictIn K D = true) : (PySem.W.clsIn K D).isSome = true := by
  obtain ⟨cd, hc, _⟩ := PySem.W.any_some h
  rw [hc]; rfl
theorem call_isX {X : Cx} {a D : Addr} {cls : Value} {d : Option Addr} {oe : Obj} {pn : List (Addr × Obj)} (C : ExcC X.K D) (hz : Zc cls d oe) (hf : ∃ vs, oe.data = .fields vs) : CallR (X.suite a ((a, oe) :: pn)) (.builtin "isinstance") (rIsX X.K D a cls d) := by
  intro pins s σ H xs us Q I r h
  obtain ⟨ec, c, cv, b, dd, fs, rfl, ed, hd, hcv, e, q⟩ := h
  subst ec ed
  obtain ⟨t, rfl, rt⟩ : ∃ t, us = [Value.ref a, t] ∧ RelV c t := by
    cases r with
    | cons rx rr =>
      cases rr with
      | cons rt rr => cases rr; cases rx; exact ⟨_, rfl, rt⟩
  obtain rfl := hcv t rt
  obtain ⟨ha, _⟩ := I.pin (a, oe) (List.mem_append_left _ List.mem_cons_self)
  obtain ⟨vs, hv⟩ := hf
  obtain ⟨mA, hns, _⟩ := (show ObjOk X.prog X.w H s.heap dd (.xd fs) from I.hok dd _ hd)
  obtain ⟨od, ho, _⟩ := lookIn_ns hns
  have J : PySem.W.InstAt s.heap a oe D (some od) := ⟨ha, hz.1, by unfold PySem.W.notCls; rw [hv] <;> rfl, by rw [hz.2]; exact ho⟩
  exact PySem.W.kia_one (PySem.W.kitx_exc (inst_cls C.hd) C.hg C.hk C.hs C.ha C.hn C.ht C.hm) I.kIn J e (fun z => nomatch z) fun tk => ⟨.bl b, H, I.kept (t' := tk) fun _ _ z => z, rfl, q⟩
/-- repr in an except suite -/
theorem call_reprDs {X : Cx} {a : Addr} {pn : List (Addr × Obj)} (hg : X.A.guards = some []) (hu : X.A.units + 64 < cLine) :
    CallR (X.suite a pn) (.builtin "repr") (fun xs H Q => ∃ v d, xs = [v] ∧ Dp X.K H v d ∧ d.showable = true ∧ d.hasDict = false ∧ d.depth ≤ 60 ∧ d.shown.length ≤ sizeLine ∧ Q (.str d.shown) H) :=
  call_reprD (X := X.suite a pn) hg hu
/-- a class asked of its own heir -/
theorem kit_true {K : PySem.W.Frag} {D C : Addr} (hd : PySem.W.hasDictIn K C = true) (ty : PySem.W.typeIn K (.ref C) = some (.type "type")) (h : PySem.W.subIn K (.ref D) (.ref C) = some true) : PySem.W.kitOne K (.ref D) (.ref C) = some true := by
  unfold PySem.W.kitOne
  split
  · rfl
  · unfold PySem.W.kitCls
    dsimp only
    rw [if_pos (by rw [inst_cls hd, ty]; rfl)]
    exact h
/-- a class asked of one that it does not come from -/
theorem kit_false {K : PySem.W.Frag} {D C : Addr} (hd : PySem.W.hasDictIn K C = true) (ty : PySem.W.typeIn K (.ref C) = some (.type "type")) (hs : PySem.W.subIn K (.ref C) (.ref C) = some true) (h : PySem.W.subIn K (.ref D) (.ref C) = some false) : PySem.W.kitOne K (.ref D) (.ref C) = some false := by
  unfold PySem.W.kitOne
  split
  · rename_i z
    have e := beq_iff_eq.mp z
    cases e
    rw [hs] at h
    cases h
  · unfold PySem.W.kitCls
    dsimp only
    rw [if_pos (by rw [inst_cls hd, ty]; rfl)]
    exact h
/-- what str tells of a small number, a text, or nothing -/
inductive StrV : V → Str → Prop
  | int {i : Int} (h : i.natAbs.log2 < 1920) : StrV (.int i) (toString i)
  | str (z : Str) : StrV (.str z) z
  | non : StrV .non "None"
theorem call_str_any {X : Cx} : CallR X (.type "str") (fun xs H Q => ∃ v z, xs = [v] ∧ StrV v z ∧ Q (.str z) H) := by
  intro pins s σ H xs us Q I r h
  obtain ⟨v, z, rfl, hv, q⟩ := h
  cases hv with
  | int hi => exact call_str_int pins s σ H _ us Q I r ⟨_, rfl, hi, q⟩
  | str z => exact SkE.call_str_str pins s σ H _ us Q I r ⟨_, rfl, q⟩
  | non =>
    obtain ⟨u, rfl, ru⟩ := vals1 r
    obtain rfl : u = Value.none := ru
    exact PySem.P.str_of_none ⟨.str "None", H, I.tok _, ⟨_, rfl⟩, q⟩
end Sh
set_option Elab.async false
set_option linter.all false
set_option maxRecDepth 100000
/-! expressions: words of a text, trees of words (plain) -/
namespace Ex
inductive Op | or | and | sub | gt | gg | lt | ll | row
deriving DecidableEq
inductive Tr | sg (c : Nat) | at (c : Nat) | st (x : Tr) | op (o : Op) (l r : Tr)
deriving DecidableEq
inductive Wd | sg (c : Nat) | at (c : Nat) | opn | cls | str | op (o : Op)
deriving DecidableEq
def Op.rank : Op → Nat
  | .or => 1
  | .and => 2
  | .sub => 2
  | .gt => 3
  | .gg => 3
  | .lt => 3
  | .ll => 3
  | .row => 4
/-- as written between its sides -/
def Op.tx : Op → List Nat
  | .or => [124]
  | .and => [38]
  | .sub => [45]
  | .gt => [62]
  | .gg => [62, 62]
  | .lt => [60]
  | .ll => [60, 60]
  | .row => []
def isAt (c : Nat) : Bool := c == 49 || c == 48 || c == 46
/-- a sign, an atom or ( -/
def fst (sg : List Nat) (c : Nat) : Option Wd := if c ∈ sg then some (.sg c) else if isAt c = true then some (.at c) else if c = 40 then some .opn else none
def binOf (c : Nat) : Option Op := if c = 124 then some .or else if c = 38 then some .and else if c = 45 then some .sub else if c = 62 then some .gt else if c = 60 then some .lt else none
def dbl : Op → Op
  | .gt => .gg
  | .lt => .ll
  | o => o
def isAng (c : Nat) : Bool := c == 60 || c == 62
abbrev R := Except Nat (List Wd)
def R.cons (w : Wd) : R → R
  | .ok ws => .ok (w :: ws)
  | .error k => .error k
def spl (sg : List Nat) (k op : Nat) (want : Bool) : List Nat → R
  | [] => if want = true ∨ 0 < op then .error k else .ok []
  | c :: r =>
    match fst sg c with
    | some w => if want = true then R.cons w (spl sg (k + 1) (if w = .opn then op + 1 else op) (decide (w = .opn)) r) else R.cons (.op .row) (R.cons w (spl sg (k + 1) (if w = .opn then op + 1 else op) (decide (w = .opn)) r))
    | none =>
      if want = true then .error k else
      if c = 42 then R.cons .str (spl sg (k + 1) op false r) else
      if c = 41 then (if op = 0 then .error k else R.cons .cls (spl sg (k + 1) (op - 1) false r)) else
      match binOf c with
      | none => .error k
      | some o => if isAng c = true ∧ r.head? = some c then R.cons (.op (dbl o)) (spl sg (k + 2) op true r.tail) else R.cons (.op o) (spl sg (k + 1) op true r)
termination_by t => t.length
decreasing_by all_goals (simp_wf; try omega)
/-- the law's reader: its state -/
inductive Fs | want | have | ang (c : Nat)
deriving DecidableEq
def fb (sg : List Nat) : Nat → Fs → Nat → List Nat → Option Nat
  | k, st, op, [] => if st = .have ∧ op = 0 then none else some k
  | k, st, op, c :: r =>
    if c ∈ sg ∨ isAt c = true then fb sg (k + 1) .have op r
    else if c = 40 then fb sg (k + 1) .want (op + 1) r
    else if st = .ang c then fb sg (k + 1) .want op r
    else if st ≠ .have then some k
    else if c = 124 ∨ c = 38 ∨ c = 45 then fb sg (k + 1) .want op r
    else if isAng c = true then fb sg (k + 1) (.ang c) op r
    else if c = 41 ∧ 0 < op then fb sg (k + 1) st (op - 1) r
    else if c ≠ 42 then some k
    else fb sg (k + 1) st op r
def R.err : R → Option Nat
  | .ok _ => none
  | .error k => some k
theorem R.err_cons (w : Wd) (x : R) : (R.cons w x).err = x.err := by cases x <;> rfl
section
variable {sg : List Nat} (hs : ∀ c ∈ sg, 97 ≤ c ∧ c ≤ 122)
include hs
theorem fst_some {c : Nat} {w : Wd} (h : fst sg c = some w) : (c ∈ sg ∨ isAt c = true) ∧ w ≠ .opn ∨ (¬ (c ∈ sg ∨ isAt c = true) ∧ c = 40 ∧ w = .opn) := by
  unfold fst at h
  split at h
  · injection h with h; subst h; exact .inl ⟨.inl ‹_›, by simp⟩
  · split at h
    · injection h with h; subst h; exact .inl ⟨.inr ‹_›, by simp⟩
    · split at h
      · injection h with h; subst h
        exact .inr ⟨by rintro (a | a) <;> contradiction, ‹_›, rfl⟩
      · cases h
theorem fst_none {c : Nat} (h : fst sg c = none) : ¬ (c ∈ sg ∨ isAt c = true) ∧ c ≠ 40 := by
  unfold fst at h
  split at h
  · cases h
  · split at h
    · cases h
    · split at h
      · cases h
      · exact ⟨by rintro (a | a) <;> contradiction, ‹_›⟩
/-- behind a < or > -/
theorem fb_ang {c : Nat} (hc : c = 60 ∨ c = 62) (k op : Nat) (r : List Nat) : fb sg k (.ang c) op r = if r.head? = some c then fb sg (k + 1) .want op r.tail else fb sg k .want op r := by
  cases r with
  | nil => simp [fb]
  | cons d r =>
    have hn : ¬ (c ∈ sg ∨ isAt c = true) ∧ c ≠ 40 := by
      refine ⟨?_, by omega⟩
      rintro (a | a)
      · have := hs c a; omega
      · unfold isAt at a; rcases hc with rfl | rfl <;> simp at a
    by_cases e : d = c
    · subst e
      rw [if_pos (by rfl)]
      conv => lhs; unfold fb
      rw [if_neg hn.1, if_neg hn.2, if_pos rfl]
      rfl
    · rw [if_neg (by simpa using e)]
      conv => lhs; unfold fb
      conv => rhs; unfold fb
      by_cases h1 : d ∈ sg ∨ isAt d = true
      · rw [if_pos h1, if_pos h1]
      · rw [if_neg h1, if_neg h1]
        by_cases h2 : d = 40
        · rw [if_pos h2, if_pos h2]
        · rw [if_neg h2, if_neg h2, if_neg (by simp; exact fun z => e z.symm), if_neg (show ¬ (Fs.want = Fs.ang d) by simp), if_pos (by simp), if_pos (by simp)]
theorem fb_spl : ∀ (n : Nat) (t : List Nat), t.length ≤ n → ∀ (k op : Nat) (want : Bool), fb sg k (if want = true then .want else .have) op t = (spl sg k op want t).err := by
  intro n
  induction n with
  | zero =>
    intro t ht k op want
    have : t = [] := List.length_eq_zero_iff.mp (by omega)
    subst this
    unfold fb spl
    cases want
    · by_cases h : op = 0
      · simp [h, R.err]
      · rw [if_neg (fun z => h z.2), if_pos (.inr (by omega))]; rfl
    · simp [R.err]
  | succ n ih =>
    intro t ht k op want
    cases t with
    | nil =>
      unfold fb spl
      cases want
      · by_cases h : op = 0
        · simp [h, R.err]
        · rw [if_neg (fun z => h z.2), if_pos (.inr (by omega))]; rfl
      · simp [R.err]
    | cons c r =>
      have hr : r.length ≤ n := by simp at ht; omega
      have hrt : r.tail.length ≤ n := by rw [List.length_tail]; omega
      rw [spl]
      conv => lhs; unfold fb
      cases hf : fst sg c with
      | some w =>
        have key : (spl sg (k + 1) (if w = .opn then op + 1 else op) (decide (w = .opn)) r).err = (if c ∈ sg ∨ isAt c = true then fb sg (k + 1) .have op r else fb sg (k + 1) .want (op + 1) r) := by
          rcases fst_some hs hf with ⟨h1, h2⟩ | ⟨h1, h2, h3⟩
          · rw [if_pos h1, if_neg h2, ← ih r hr, decide_eq_false h2]; rfl
          · rw [if_neg h1, if_pos h3, ← ih r hr, decide_eq_true h3]; rfl
        have e : (if c ∈ sg ∨ isAt c = true then fb sg (k + 1) .have op r else fb sg (k + 1) .want (op + 1) r) = (if want = true then R.cons w (spl sg (k + 1) (if w = .opn then op + 1 else op) (decide (w = .opn)) r) else R.cons (.op .row) (R.cons w (spl sg (k + 1) (if w = .opn then op + 1 else op) (decide (w = .opn)) r))).err := by
          rw [← key]
          cases want <;> simp only [if_true, if_false, Bool.false_eq_true, R.err_cons]
        dsimp only
        rw [← e]
        rcases fst_some hs hf with ⟨h1, h2⟩ | ⟨h1, h2, h3⟩
        · rw [if_pos h1, if_pos h1]
        · rw [if_neg h1, if_neg h1, if_pos h2]
      | none =>
        obtain ⟨h1, h2⟩ := fst_none hs hf
        dsimp only
        rw [if_neg h1, if_neg h2]
        cases want with
        | true =>
          rw [if_pos rfl, if_neg (by simp), if_pos (by simp), if_pos rfl]; rfl
        | false =>
          simp only [Bool.false_eq_true, if_false, reduceCtorEq, ne_eq, not_true_eq_false]
          have ihf := ih r hr (k + 1) op false
          have ihw := ih r hr (k + 1) op true
          have ihc := ih r hr (k + 1) (op - 1) false
          have iht := ih r.tail hrt (k + 1 + 1) op true
          simp only [if_true, Bool.false_eq_true, if_false] at ihf ihw ihc iht
          by_cases c1 : c = 42
          · subst c1
            rw [if_neg (by decide), if_neg (by decide), if_neg (by omega), if_neg (by simp), if_pos rfl, R.err_cons]
            exact ihf
          · rw [if_neg c1]
            by_cases c2 : c = 41
            · subst c2
              rw [if_neg (by decide), if_neg (by decide), if_pos rfl]
              by_cases o0 : op = 0
              · rw [if_neg (by omega), if_pos (by simp), if_pos o0]; rfl
              · rw [if_pos (by omega), if_neg o0, R.err_cons]
                exact ihc
            · rw [if_neg c2]
              unfold binOf
              by_cases c3 : c = 124
              · subst c3
                rw [if_pos (by decide), if_pos rfl]
                dsimp only
                rw [if_neg (fun z => absurd z.1 (by decide)), R.err_cons]
                exact ihw
              · by_cases c4 : c = 38
                · subst c4
                  rw [if_pos (by decide), if_neg (by decide), if_pos rfl]
                  dsimp only
                  rw [if_neg (fun z => absurd z.1 (by decide)), R.err_cons]
                  exact ihw
                · by_cases c5 : c = 45
                  · subst c5
                    rw [if_pos (by decide), if_neg (by decide), if_neg (by decide), if_pos rfl]
                    dsimp only
                    rw [if_neg (fun z => absurd z.1 (by decide)), R.err_cons]
                    exact ihw
                  · rw [if_neg (by omega), if_neg c3, if_neg c4, if_neg c5]
                    by_cases c6 : c = 62
                    · subst c6
                      rw [if_pos (by decide), if_pos rfl, fb_ang hs (.inr rfl)]
                      dsimp only
                      by_cases hh : r.head? = some 62
                      · rw [if_pos hh, if_pos ⟨by decide, hh⟩, R.err_cons]
                        exact iht
                      · rw [if_neg hh, if_neg (fun z => hh z.2), R.err_cons]
                        exact ihw
                    · by_cases c7 : c = 60
                      · subst c7
                        rw [if_pos (by decide), if_neg (by decide), if_pos rfl, fb_ang hs (.inl rfl)]
                        dsimp only
                        by_cases hh : r.head? = some 60
                        · rw [if_pos hh, if_pos ⟨by decide, hh⟩, R.err_cons]
                          exact iht
                        · rw [if_neg hh, if_neg (fun z => hh z.2), R.err_cons]
                          exact ihw
                      · rw [if_neg (by unfold isAng; simp; omega), if_neg (by omega), if_pos c1, if_neg c6, if_neg c7]; rfl
end
end Ex
set_option Elab.async false
set_option linter.all false
set_option maxRecDepth 100000
/-! trees of words: the machine, what is written -/
namespace Ex
structure St where
  ts : List Tr
  os : List (Option Op)
  op : Nat
  mo : Nat
def foldO (k : Nat) : List (Option Op) → List Tr → List (Option Op) × List Tr
  | some o :: os, r :: l :: ts => if k ≤ o.rank then foldO k os (.op o l r :: ts) else (some o :: os, r :: l :: ts)
  | os, ts => (os, ts)
def step (s : St) : Wd → St
  | .sg c => { s with ts := .sg c :: s.ts }
  | .at c => { s with ts := .at c :: s.ts }
  | .opn => { s with os := none :: s.os, op := s.op + 1, mo := max s.mo (s.op + 1) }
  | .cls => { s with os := (foldO 0 s.os s.ts).1.tail, ts := (foldO 0 s.os s.ts).2, op := s.op - 1 }
  | .str => { s with ts := match s.ts with | t :: ts => .st t :: ts | [] => [] }
  | .op o => { s with os := some o :: (foldO o.rank s.os s.ts).1, ts := (foldO o.rank s.os s.ts).2 }
def s0 : St := ⟨[], [], 0, 0⟩
def run (s : St) (ws : List Wd) : St := ws.foldl step s
theorem run_app (s : St) (a b : List Wd) : run s (a ++ b) = run (run s a) b := List.foldl_append ..
theorem run_cons (s : St) (a : Wd) (b : List Wd) : run s (a :: b) = run (step s a) b := rfl
/-- the tree of words -/
def treeOf (ws : List Wd) : Tr := ((foldO 0 (run s0 ws).os (run s0 ws).ts).2).head?.getD (.at 48)
def cntS : List (Option Op) → Nat
  | [] => 0
  | some _ :: r => cntS r + 1
  | none :: r => cntS r
def cntN : List (Option Op) → Nat
  | [] => 0
  | some _ :: r => cntN r
  | none :: r => cntN r + 1
theorem foldO_cnt (k : Nat) : ∀ (os : List (Option Op)) (ts : List Tr), ts.length = cntS os + 1 → (foldO k os ts).2.length = cntS (foldO k os ts).1 + 1 ∧ cntN (foldO k os ts).1 = cntN os := by
  intro os
  induction os with
  | nil => intro ts h; exact ⟨h, rfl⟩
  | cons o os ih =>
    intro ts h
    cases o with
    | none => unfold foldO; exact ⟨h, rfl⟩
    | some o =>
      match ts, h with
      | [], h => simp at h
      | [_], h => simp [cntS] at h
      | r :: l :: ts, h =>
        unfold foldO
        split
        · exact ih (.op o l r :: ts) (by simp [cntS] at h ⊢; omega)
        · exact ⟨h, rfl⟩
theorem foldO_top : ∀ (os : List (Option Op)) (ts : List Tr), ts.length = cntS os + 1 → (foldO 0 os ts).1 = [] ∨ ∃ r, (foldO 0 os ts).1 = none :: r := by
  intro os
  induction os with
  | nil => intro ts h; exact .inl (by unfold foldO; rfl)
  | cons o os ih =>
    intro ts h
    cases o with
    | none => exact .inr ⟨os, by unfold foldO; rfl⟩
    | some o =>
      match ts, h with
      | [], h => simp at h
      | [_], h => simp [cntS] at h
      | r :: l :: ts, h =>
        unfold foldO
        rw [if_pos (Nat.zero_le _)]
        exact ih (.op o l r :: ts) (by simp [cntS] at h ⊢; omega)
/-- what a word asks of the machine -/
def Pre (s : St) : Wd → Prop
  | .cls => s.ts.length = cntS s.os + 1 ∧ 0 < cntN s.os
  | .str => s.ts ≠ []
  | .op _ => s.ts.length = cntS s.os + 1
  | _ => True
def Good : St → List Wd → Prop
  | s, [] => s.ts.length = cntS s.os + 1 ∧ cntN s.os = 0
  | s, w :: ws => Pre s w ∧ Good (step s w) ws
def WF (want : Bool) (op : Nat) (s : St) : Prop := s.op = op ∧ cntN s.os = op ∧ s.ts.length = cntS s.os + (if want = true then 0 else 1)
theorem R.cons_ok {w : Wd} {x : R} {ws : List Wd} (h : R.cons w x = .ok ws) : ∃ v, x = .ok v ∧ ws = w :: v := by
  cases x with
  | error k => cases h
  | ok v => injection h with h; exact ⟨v, rfl, h.symm⟩
theorem WF.step_first {want : Bool} {op : Nat} {s : St} {w : Wd} {sg : List Nat} {c : Nat} (hf : fst sg c = some w) (h : WF true op s) : Pre s w ∧ WF (decide (w = .opn)) (if w = .opn then op + 1 else op) (step s w) := by
  obtain ⟨h1, h2, h3⟩ := h
  unfold fst at hf
  split at hf
  · injection hf with hf; subst hf
    exact ⟨trivial, h1, h2, by simp [step] at *; omega⟩
  · split at hf
    · injection hf with hf; subst hf
      exact ⟨trivial, h1, h2, by simp [step] at *; omega⟩
    · split at hf
      · injection hf with hf; subst hf
        exact ⟨trivial, by simp [step]; omega, by simp [step, cntN]; omega, by simp [step, cntS] at *; omega⟩
      · cases hf
theorem WF.step_op {op : Nat} {s : St} (o : Op) (h : WF false op s) : Pre s (.op o) ∧ WF true op (step s (.op o)) := by
  obtain ⟨h1, h2, h3⟩ := h
  have h3 : s.ts.length = cntS s.os + 1 := by simpa using h3
  obtain ⟨k1, k2⟩ := foldO_cnt o.rank s.os s.ts h3
  exact ⟨h3, h1, by show cntN (foldO o.rank s.os s.ts).1 = op; omega, by show (foldO o.rank s.os s.ts).2.length = cntS (foldO o.rank s.os s.ts).1 + 1 + 0; omega⟩
theorem WF.step_cls {op : Nat} {s : St} (h : WF false op s) (h0 : op ≠ 0) : Pre s .cls ∧ WF false (op - 1) (step s .cls) := by
  obtain ⟨h1, h2, h3⟩ := h
  have h3 : s.ts.length = cntS s.os + 1 := by simpa using h3
  obtain ⟨k1, k2⟩ := foldO_cnt 0 s.os s.ts h3
  refine ⟨⟨h3, by omega⟩, by show s.op - 1 = op - 1; omega, ?_, ?_⟩
  · show cntN (foldO 0 s.os s.ts).1.tail = op - 1
    rcases foldO_top s.os s.ts h3 with e | ⟨r, e⟩
    · rw [e] at k2; simp [cntN] at k2; omega
    · rw [e] at k2 ⊢; simp [cntN] at k2 ⊢; omega
  · show (foldO 0 s.os s.ts).2.length = cntS (foldO 0 s.os s.ts).1.tail + 1
    rcases foldO_top s.os s.ts h3 with e | ⟨r, e⟩
    · rw [e] at k2; simp [cntN] at k2; omega
    · rw [e] at k1 ⊢; simpa [cntS] using k1
theorem WF.step_str {op : Nat} {s : St} (h : WF false op s) : Pre s .str ∧ WF false op (step s .str) := by
  obtain ⟨h1, h2, h3⟩ := h
  have h3 : s.ts.length = cntS s.os + 1 := by simpa using h3
  cases e : s.ts with
  | nil => rw [e] at h3; simp at h3
  | cons t ts => exact ⟨by show s.ts ≠ []; rw [e]; simp, h1, h2, by simp [step, e] at h3 ⊢; exact h3⟩
/-- the words of a text that is read are good for the machine -/
theorem spl_good {sg : List Nat} : ∀ (n : Nat) (t : List Nat), t.length ≤ n → ∀ (k op : Nat) (want : Bool) (ws : List Wd) (s : St), spl sg k op want t = .ok ws → WF want op s → Good s ws := by
  intro n
  induction n with
  | zero =>
    intro t ht k op want ws s h wf
    have : t = [] := List.length_eq_zero_iff.mp (by omega)
    subst this
    rw [spl] at h
    split at h
    · cases h
    · injection h with h; subst h
      obtain ⟨h1, h2, h3⟩ := wf
      have hw : want = false := by cases want with | false => rfl | true => exact absurd (Or.inl rfl) ‹_›
      subst hw
      exact ⟨by simpa using h3, by omega⟩
  | succ n ih =>
    intro t ht k op want ws s h wf
    cases t with
    | nil =>
      rw [spl] at h
      split at h
      · cases h
      · injection h with h; subst h
        obtain ⟨h1, h2, h3⟩ := wf
        have hw : want = false := by cases want with | false => rfl | true => exact absurd (Or.inl rfl) ‹_›
        subst hw
        exact ⟨by simpa using h3, by omega⟩
    | cons c r =>
      have hr : r.length ≤ n := by simp at ht; omega
      have hrt : r.tail.length ≤ n := by rw [List.length_tail]; omega
      rw [spl] at h
      cases hf : fst sg c with
      | some w =>
        rw [hf] at h
        dsimp only at h
        cases want with
        | true =>
          rw [if_pos rfl] at h
          obtain ⟨v, e, rfl⟩ := R.cons_ok h
          obtain ⟨p, wf2⟩ := WF.step_first (want := true) hf wf
          exact ⟨p, ih r hr _ _ _ _ _ e wf2⟩
        | false =>
          rw [if_neg (by simp)] at h
          obtain ⟨v1, e1, rfl⟩ := R.cons_ok h
          obtain ⟨v, e, rfl⟩ := R.cons_ok e1
          obtain ⟨p0, wf1⟩ := WF.step_op .row wf
          obtain ⟨p, wf2⟩ := WF.step_first (want := true) hf wf1
          exact ⟨p0, p, ih r hr _ _ _ _ _ e wf2⟩
      | none =>
        rw [hf] at h
        dsimp only at h
        cases want with
        | true => rw [if_pos rfl] at h; cases h
        | false =>
          rw [if_neg (by simp)] at h
          by_cases c1 : c = 42
          · rw [if_pos c1] at h
            obtain ⟨v, e, rfl⟩ := R.cons_ok h
            obtain ⟨p, wf2⟩ := WF.step_str wf
            exact ⟨p, ih r hr _ _ _ _ _ e wf2⟩
          · rw [if_neg c1] at h
            by_cases c2 : c = 41
            · rw [if_pos c2] at h
              by_cases o0 : op = 0
              · rw [if_pos o0] at h; cases h
              · rw [if_neg o0] at h
                obtain ⟨v, e, rfl⟩ := R.cons_ok h
                obtain ⟨p, wf2⟩ := WF.step_cls wf o0
                exact ⟨p, ih r hr _ _ _ _ _ e wf2⟩
            · rw [if_neg c2] at h
              cases hb : binOf c with
              | none => rw [hb] at h; cases h
              | some o =>
                rw [hb] at h
                dsimp only at h
                split at h
                · obtain ⟨v, e, rfl⟩ := R.cons_ok h
                  obtain ⟨p, wf2⟩ := WF.step_op (dbl o) wf
                  exact ⟨p, ih r.tail hrt _ _ _ _ _ e wf2⟩
                · obtain ⟨v, e, rfl⟩ := R.cons_ok h
                  obtain ⟨p, wf2⟩ := WF.step_op o wf
                  exact ⟨p, ih r hr _ _ _ _ _ e wf2⟩
theorem wf0 : WF true 0 s0 := ⟨rfl, rfl, rfl⟩
/-- at the end one tree stands -/
theorem good_end {s : St} {ws : List Wd} : Good s ws → (run s ws).ts.length = cntS (run s ws).os + 1 ∧ cntN (run s ws).os = 0 := by
  induction ws generalizing s with
  | nil => exact id
  | cons w ws ih => intro h; exact ih h.2
theorem foldO_end {os : List (Option Op)} {ts : List Tr} (h : ts.length = cntS os + 1) (h0 : cntN os = 0) : ∃ t, foldO 0 os ts = ([], [t]) := by
  obtain ⟨k1, k2⟩ := foldO_cnt 0 os ts h
  rcases foldO_top os ts h with e | ⟨r, e⟩
  · rw [e] at k1
    obtain ⟨t, ht⟩ := List.length_eq_one_iff.mp (show (foldO 0 os ts).2.length = 1 from k1)
    exact ⟨t, Prod.ext e ht⟩
  · rw [e, h0] at k2; simp [cntN] at k2
end Ex
set_option Elab.async false
set_option linter.all false
set_option maxRecDepth 100000
/-! a tree as it is written, and read again -/
namespace Ex
def trank : Tr → Nat
  | .sg _ => 6
  | .at _ => 6
  | .st _ => 5
  | .op o _ _ => o.rank
def wrapT (b : Bool) (t : List Nat) : List Nat := if b = true then 40 :: (t ++ [41]) else t
def wrapW (b : Bool) (t : List Wd) : List Wd := if b = true then .opn :: (t ++ [.cls]) else t
def wtx : Tr → List Nat
  | .sg c => [c]
  | .at c => [c]
  | .st x => wrapT (decide (trank x < 5)) (wtx x) ++ [42]
  | .op o l r => wrapT (decide (trank l < o.rank)) (wtx l) ++ (o.tx ++ wrapT (decide (trank r < o.rank + 1)) (wtx r))
def wws : Tr → List Wd
  | .sg c => [.sg c]
  | .at c => [.at c]
  | .st x => wrapW (decide (trank x < 5)) (wws x) ++ [.str]
  | .op o l r => wrapW (decide (trank l < o.rank)) (wws l) ++ (.op o :: wrapW (decide (trank r < o.rank + 1)) (wws r))
/-- leaves that may stand -/
def Ok (sg : List Nat) : Tr → Prop
  | .sg c => c ∈ sg
  | .at c => isAt c = true
  | .st x => Ok sg x
  | .op _ l r => Ok sg l ∧ Ok sg r
def dep : Tr → Nat
  | .sg _ => 1
  | .at _ => 1
  | .st x => dep x + 1
  | .op _ l r => max (dep l) (dep r) + 1
/-- how deep the parentheses stand -/
def pd : Tr → Nat
  | .sg _ => 0
  | .at _ => 0
  | .st x => if trank x < 5 then pd x + 1 else pd x
  | .op o l r => max (if trank l < o.rank then pd l + 1 else pd l) (if trank r < o.rank + 1 then pd r + 1 else pd r)
theorem dep_pos : ∀ t, 1 ≤ dep t
  | .sg _ => Nat.le_refl _
  | .at _ => Nat.le_refl _
  | .st _ => Nat.le_add_left _ _
  | .op _ _ _ => Nat.le_add_left _ _
theorem pd_dep : ∀ t, pd t + 1 ≤ dep t
  | .sg _ => Nat.le_refl _
  | .at _ => Nat.le_refl _
  | .st x => by have := pd_dep x; unfold pd dep; split <;> omega
  | .op o l r => by
    have := pd_dep l
    have := pd_dep r
    unfold pd dep
    split <;> split <;> omega
section
variable {sg : List Nat} (hs : ∀ c ∈ sg, 97 ≤ c ∧ c ≤ 122)
include hs
theorem fst_opn : fst sg 40 = some .opn := by
  unfold fst
  rw [if_neg (fun z => by have := hs _ z; omega), if_neg (by decide), if_pos rfl]
omit hs in
theorem fst_sg {c : Nat} (h : c ∈ sg) : fst sg c = some (.sg c) := by unfold fst; rw [if_pos h]
theorem fst_at {c : Nat} (h : isAt c = true) : fst sg c = some (.at c) := by
  unfold fst
  rw [if_neg (fun z => by have := hs _ z; unfold isAt at h; simp at h; omega), if_pos h]
/-- a text that begins with a sign, an atom or ( -/
def Beg (sg : List Nat) (t : List Nat) : Prop := ∃ c r w, t = c :: r ∧ fst sg c = some w
theorem Beg.wrap {b : Bool} {t : List Nat} (h : Beg sg t) (u : List Nat) : Beg sg (wrapT b t ++ u) := by
  cases b with
  | true => exact ⟨40, t ++ [41] ++ u, .opn, by simp [wrapT], fst_opn hs⟩
  | false => obtain ⟨c, r, w, rfl, h⟩ := h; exact ⟨c, r ++ u, w, rfl, h⟩
theorem beg_wtx : ∀ {t : Tr}, Ok sg t → Beg sg (wtx t)
  | .sg c, h => ⟨c, [], _, rfl, fst_sg h⟩
  | .at c, h => ⟨c, [], _, rfl, fst_at hs h⟩
  | .st x, h => (beg_wtx (t := x) h).wrap hs _
  | .op o l r, h => (beg_wtx (t := l) h.1).wrap hs _
omit hs in
theorem spl_row {t : List Nat} (h : Beg sg t) (k op : Nat) : spl sg k op false t = R.cons (.op .row) (spl sg k op true t) := by
  obtain ⟨c, r, w, rfl, h⟩ := h
  rw [spl, spl, h]
  dsimp only
  rw [if_neg (by simp), if_pos rfl]
def R.app (ws : List Wd) : R → R
  | .ok v => .ok (ws ++ v)
  | .error k => .error k
omit hs in
theorem R.app_cons (w : Wd) (ws : List Wd) (x : R) : R.cons w (R.app ws x) = R.app (w :: ws) x := by cases x <;> rfl
omit hs in
theorem R.app_app (a b : List Wd) (x : R) : R.app a (R.app b x) = R.app (a ++ b) x := by cases x <;> simp [R.app]
omit hs in
theorem R.cons_app (w : Wd) (x : R) : R.cons w x = R.app [w] x := by cases x <;> rfl
theorem fst_other {c : Nat} (h1 : c ≠ 40) (h2 : isAt c = false) (h3 : c < 97 ∨ 122 < c) : fst sg c = none := by
  unfold fst
  rw [if_neg (fun z => by have := hs _ z; omega), if_neg (by rw [h2]; simp), if_neg h1]
theorem spl_cls (k op : Nat) (r : List Nat) : spl sg k (op + 1) false (41 :: r) = R.cons .cls (spl sg (k + 1) op false r) := by
  rw [spl, fst_other hs (by decide) (by decide) (by omega)]
  dsimp only
  rw [if_neg (by simp), if_neg (by decide), if_pos rfl, if_neg (by omega)]
  rfl
theorem spl_str (k op : Nat) (r : List Nat) : spl sg k op false (42 :: r) = R.cons .str (spl sg (k + 1) op false r) := by
  rw [spl, fst_other hs (by decide) (by decide) (by omega)]
  dsimp only
  rw [if_neg (by simp), if_pos rfl]
theorem spl_opn (k op : Nat) (r : List Nat) : spl sg k op true (40 :: r) = R.cons .opn (spl sg (k + 1) (op + 1) true r) := by
  rw [spl, fst_opn hs]
  rfl
theorem spl_op {u : List Nat} (h : Beg sg u) (o : Op) (k op : Nat) : spl sg k op false (o.tx ++ u) = R.cons (.op o) (spl sg (k + o.tx.length) op true u) := by
  have hh : ∀ c, (c = 60 ∨ c = 62) → ¬ u.head? = some c := by
    rintro c hc e
    obtain ⟨d, r, w, rfl, h⟩ := h
    injection e with e
    subst e
    rw [fst_other hs (by omega) (by unfold isAt; rcases hc with rfl | rfl <;> decide) (by omega)] at h
    cases h
  have one : ∀ (c : Nat) (o : Op), binOf c = some o → c ≠ 40 → isAt c = false → (c < 97 ∨ 122 < c) → c ≠ 42 → c ≠ 41 → ¬ (isAng c = true ∧ u.head? = some c) → spl sg k op false (c :: u) = R.cons (.op o) (spl sg (k + 1) op true u) := by
    intro c o h1 h2 h3 h4 h5 h6 h7
    rw [spl, fst_other hs h2 h3 h4]
    dsimp only
    rw [if_neg (by simp), if_neg h5, if_neg h6, h1]
    dsimp only
    rw [if_neg h7]
  have two : ∀ (c : Nat) (o : Op), binOf c = some o → c ≠ 40 → isAt c = false → (c < 97 ∨ 122 < c) → c ≠ 42 → c ≠ 41 → isAng c = true → spl sg k op false (c :: c :: u) = R.cons (.op (dbl o)) (spl sg (k + 2) op true u) := by
    intro c o h1 h2 h3 h4 h5 h6 h7
    rw [spl, fst_other hs h2 h3 h4]
    dsimp only
    rw [if_neg (by simp), if_neg h5, if_neg h6, h1]
    dsimp only
    rw [if_pos ⟨h7, rfl⟩]
    rfl
  cases o with
  | or => exact one 124 .or rfl (by decide) rfl (by omega) (by decide) (by decide) fun z => absurd z.1 (by decide)
  | and => exact one 38 .and rfl (by decide) rfl (by omega) (by decide) (by decide) fun z => absurd z.1 (by decide)
  | sub => exact one 45 .sub rfl (by decide) rfl (by omega) (by decide) (by decide) fun z => absurd z.1 (by decide)
  | gt => exact one 62 .gt rfl (by decide) rfl (by omega) (by decide) (by decide) fun z => hh _ (.inr rfl) z.2
  | lt => exact one 60 .lt rfl (by decide) rfl (by omega) (by decide) (by decide) fun z => hh _ (.inl rfl) z.2
  | gg => exact two 62 .gt rfl (by decide) rfl (by omega) (by decide) (by decide) rfl
  | ll => exact two 60 .lt rfl (by decide) rfl (by omega) (by decide) (by decide) rfl
  | row => exact spl_row h k op
/-- a written tree at the head of a text -/
theorem spl_wrap {t : List Nat} {ws : List Wd} (h : ∀ k op rest, spl sg k op true (t ++ rest) = R.app ws (spl sg (k + t.length) op false rest)) (b : Bool) (k op : Nat) (rest : List Nat) :
    spl sg k op true (wrapT b t ++ rest) = R.app (wrapW b ws) (spl sg (k + (wrapT b t).length) op false rest) := by
  cases b with
  | false => exact h k op rest
  | true =>
    show spl sg k op true (40 :: (t ++ [41]) ++ rest) = _
    rw [show 40 :: (t ++ [41]) ++ rest = 40 :: (t ++ (41 :: rest)) by simp, spl_opn hs, h, spl_cls hs, R.cons_app, R.cons_app, R.app_app, R.app_app]
    show _ = R.app (.opn :: (ws ++ [.cls])) _
    rw [show k + 1 + t.length + 1 = k + (wrapT true t).length by simp [wrapT]; omega]
    simp
theorem spl_wtx : ∀ {t : Tr}, Ok sg t → ∀ k op rest, spl sg k op true (wtx t ++ rest) = R.app (wws t) (spl sg (k + (wtx t).length) op false rest)
  | .sg c, h, k, op, rest => by
    show spl sg k op true (c :: rest) = _
    rw [spl, fst_sg h, R.cons_app]
    rfl
  | .at c, h, k, op, rest => by
    show spl sg k op true (c :: rest) = _
    rw [spl, fst_at hs h, R.cons_app]
    rfl
  | .st x, h, k, op, rest => by
    show spl sg k op true (wrapT (decide (trank x < 5)) (wtx x) ++ [42] ++ rest) = _
    rw [List.append_assoc, spl_wrap hs (spl_wtx (t := x) h)]
    show R.app _ (spl sg _ op false (42 :: rest)) = R.app (wrapW _ (wws x) ++ [.str]) _
    rw [spl_str hs, R.cons_app, R.app_app]
    congr 2
    simp [wtx]; omega
  | .op o l r, h, k, op, rest => by
    have hb := (beg_wtx hs (t := r) h.2).wrap hs (b := decide (trank r < o.rank + 1)) rest
    show spl sg k op true ((wrapT (decide (trank l < o.rank)) (wtx l) ++ (o.tx ++ wrapT (decide (trank r < o.rank + 1)) (wtx r))) ++ rest) = _
    rw [List.append_assoc, spl_wrap hs (spl_wtx (t := l) h.1), List.append_assoc, spl_op hs hb, spl_wrap hs (spl_wtx (t := r) h.2), R.cons_app, R.app_app, R.app_app]
    show R.app _ _ = R.app (wrapW _ (wws l) ++ (.op o :: wrapW _ (wws r))) _
    rw [show k + (wrapT (decide (trank l < o.rank)) (wtx l)).length + o.tx.length + (wrapT (decide (trank r < o.rank + 1)) (wtx r)).length = k + (wtx (Tr.op o l r)).length by simp [wtx, Nat.add_assoc], List.append_assoc]
    rfl
theorem spl_written {t : Tr} (h : Ok sg t) : spl sg 0 0 true (wtx t) = .ok (wws t) := by
  have := spl_wtx hs h 0 0 []
  rw [List.append_nil] at this
  rw [this, spl, if_neg (by simp)]
  simp [R.app]
end
/-! ### the machine reads a written tree -/
/-- the operators that wait bind less -/
def Safe (n : Nat) (os : List (Option Op)) : Prop := ∀ o r, os = some o :: r → o.rank < n
theorem foldO_safe {n : Nat} {os : List (Option Op)} {ts : List Tr} (h : Safe n os) : foldO n os ts = (os, ts) := by
  match os, ts, h with
  | [], ts, h => unfold foldO; rfl
  | none :: os, ts, h => unfold foldO; rfl
  | some o :: os, [], h => unfold foldO; rfl
  | some o :: os, [_], h => unfold foldO; rfl
  | some o :: os, r :: l :: ts, h =>
    have := h o os rfl
    unfold foldO
    rw [if_neg (by omega)]
structure Reads (ws : List Wd) (n : Nat) (t : Tr) (p : Nat) : Prop where
  run : ∀ s : St, s.op ≤ s.mo → Safe n s.os → (∀ k, k ≤ n → foldO k (run s ws).os (run s ws).ts = foldO k s.os (t :: s.ts)) ∧ (Ex.run s ws).op = s.op ∧ (Ex.run s ws).mo = max s.mo (s.op + p)
  exact : 5 ≤ n → ∀ s : St, s.op ≤ s.mo → (Ex.run s ws).os = s.os ∧ (Ex.run s ws).ts = t :: s.ts ∧ (Ex.run s ws).op = s.op ∧ (Ex.run s ws).mo = max s.mo (s.op + p)
theorem Reads.of_exact {ws : List Wd} {n : Nat} {t : Tr} {p : Nat} (h : ∀ s : St, s.op ≤ s.mo → (Ex.run s ws).os = s.os ∧ (Ex.run s ws).ts = t :: s.ts ∧ (Ex.run s ws).op = s.op ∧ (Ex.run s ws).mo = max s.mo (s.op + p)) : Reads ws n t p :=
  ⟨fun s hm _ => by obtain ⟨a, b, c, d⟩ := h s hm; exact ⟨fun k _ => by rw [a, b], c, d⟩, fun _ => h⟩
/-- a tree in parentheses stands as it is -/
theorem reads_wrap {ws : List Wd} {n : Nat} {t : Tr} {p : Nat} (h : Reads ws n t p) : Reads (wrapW true ws) 6 t (p + 1) := by
  refine Reads.of_exact fun s hm => ?_
  have e : run s (wrapW true ws) = step (run (step s .opn) ws) .cls := by
    show run s (.opn :: (ws ++ [.cls])) = _
    rw [run_cons, run_app]; rfl
  rw [e]
  have hop : (step s .opn).op = s.op + 1 := rfl
  have hmo : (step s .opn).mo = max s.mo (s.op + 1) := rfl
  obtain ⟨a, b, c⟩ := h.run (step s .opn) (by rw [hop, hmo]; omega) (fun o r z => by cases z)
  have a0 := a 0 (Nat.zero_le _)
  have f0 : foldO 0 (step s .opn).os (t :: (step s .opn).ts) = (none :: s.os, t :: s.ts) := by show foldO 0 (none :: s.os) _ = _; unfold foldO; rfl
  rw [f0] at a0
  refine ⟨?_, ?_, ?_, ?_⟩
  · show (foldO 0 _ _).1.tail = s.os
    rw [a0]; rfl
  · show (foldO 0 _ _).2 = t :: s.ts
    rw [a0]
  · show (run (step s .opn) ws).op - 1 = s.op
    rw [b, hop]; omega
  · show (run (step s .opn) ws).mo = _
    rw [c, hop, hmo]; omega
theorem reads_part {ws : List Wd} {t : Tr} {p m : Nat} (h : Reads ws (trank t) t p) : Reads (wrapW (decide (trank t < m)) ws) (if trank t < m then 6 else trank t) t (if trank t < m then p + 1 else p) := by
  by_cases c : trank t < m
  · rw [decide_eq_true c, if_pos c, if_pos c]; exact reads_wrap h
  · rw [decide_eq_false c, if_neg c, if_neg c]; exact h
theorem rank_le (o : Op) : 1 ≤ o.rank ∧ o.rank ≤ 4 := by cases o <;> decide
theorem reads_wws : ∀ t : Tr, Reads (wws t) (trank t) t (pd t)
  | .sg c => Reads.of_exact fun s hm => ⟨rfl, rfl, rfl, by show s.mo = max s.mo (s.op + 0); omega⟩
  | .at c => Reads.of_exact fun s hm => ⟨rfl, rfl, rfl, by show s.mo = max s.mo (s.op + 0); omega⟩
  | .st x => by
    have h := reads_part (m := 5) (reads_wws x)
    refine Reads.of_exact fun s hm => ?_
    obtain ⟨a, b, c, d⟩ := h.exact (by split <;> omega) s hm
    have e : run s (wws (.st x)) = step (run s (wrapW (decide (trank x < 5)) (wws x))) .str := by
      show run s (wrapW _ (wws x) ++ [.str]) = _
      rw [run_app]; rfl
    rw [e]
    refine ⟨a, ?_, c, ?_⟩
    · show (match (run s (wrapW (decide (trank x < 5)) (wws x))).ts with | t :: ts => Tr.st t :: ts | [] => []) = _
      rw [b]
    · show (run s _).mo = max s.mo (s.op + (if trank x < 5 then pd x + 1 else pd x))
      exact d
  | .op o l r => by
    have hl := reads_part (m := o.rank) (reads_wws l)
    have hr := reads_part (m := o.rank + 1) (reads_wws r)
    have ro := rank_le o
    have e : ∀ s, run s (wws (.op o l r)) = run (step (run s (wrapW (decide (trank l < o.rank)) (wws l))) (.op o)) (wrapW (decide (trank r < o.rank + 1)) (wws r)) := fun s => by
      show run s (wrapW _ (wws l) ++ (.op o :: wrapW _ (wws r))) = _
      rw [run_app, run_cons]
    refine ⟨fun s hm safe => ?_, fun z => by simp only [trank] at z; omega⟩
    rw [e]
    have safe : Safe o.rank s.os := safe
    obtain ⟨a, b, c⟩ := hl.run s hm (fun p q z => by have := safe p q z; split <;> omega)
    have a1 := a o.rank (by split <;> omega)
    rw [foldO_safe safe] at a1
    generalize run s (wrapW (decide (trank l < o.rank)) (wws l)) = s1 at a1 b c ⊢
    have t1 : (step s1 (.op o)).os = some o :: s.os := by show some o :: (foldO o.rank s1.os s1.ts).1 = _; rw [a1]
    have t2 : (step s1 (.op o)).ts = l :: s.ts := by show (foldO o.rank s1.os s1.ts).2 = _; rw [a1]
    have t3 : (step s1 (.op o)).op = s.op := b
    have t4 : (step s1 (.op o)).mo = max s.mo (s.op + if trank l < o.rank then pd l + 1 else pd l) := c
    obtain ⟨a2, b2, c2⟩ := hr.run (step s1 (.op o)) (by rw [t3, t4]; omega) (fun p q z => by
      rw [t1] at z
      injection z with z
      injection z with z
      subst z
      split <;> omega)
    refine ⟨fun k hk => ?_, by rw [b2, t3], ?_⟩
    · have hk : k ≤ o.rank := hk
      rw [a2 k (by split <;> omega), t1, t2]
      conv => lhs; unfold foldO
      rw [if_pos hk]
    · rw [c2, t3, t4]
      show _ = max s.mo (s.op + max (if trank l < o.rank then pd l + 1 else pd l) (if trank r < o.rank + 1 then pd r + 1 else pd r))
      split <;> split <;> omega
/-- what is written is read as it was -/
theorem read_back (t : Tr) : foldO 0 (run s0 (wws t)).os (run s0 (wws t)).ts = ([], [t]) ∧ (run s0 (wws t)).mo = pd t := by
  obtain ⟨a, b, c⟩ := (reads_wws t).run s0 (Nat.le_refl _) (fun o r z => by cases z)
  refine ⟨?_, by rw [c]; show max 0 (0 + pd t) = pd t; omega⟩
  rw [a 0 (Nat.zero_le _)]
  show foldO 0 [] [t] = _
  unfold foldO
  rfl
/-! ### sizes -/
def isLf (sg : List Nat) (c : Nat) : Bool := decide (c ∈ sg) || isAt c
/-- leaves and stars of a text -/
def wt (sg : List Nat) (t : List Nat) : Nat := t.countP fun c => isLf sg c || c == 42
/-- the inner nodes -/
def inn : Tr → Nat
  | .sg _ => 0
  | .at _ => 0
  | .st x => inn x + 1
  | .op _ l r => inn l + inn r + 1
theorem dep_inn : ∀ t, dep t ≤ inn t + 1
  | .sg _ => Nat.le_refl _
  | .at _ => Nat.le_refl _
  | .st x => by have := dep_inn x; unfold dep inn; omega
  | .op _ l r => by have := dep_inn l; have := dep_inn r; unfold dep inn; omega
def sumI (ts : List Tr) : Nat := (ts.map inn).sum
/-- inner nodes that are made or wait -/
def wei (s : St) : Nat := sumI s.ts + cntS s.os
theorem foldO_wei (k : Nat) : ∀ (os : List (Option Op)) (ts : List Tr), sumI (foldO k os ts).2 + cntS (foldO k os ts).1 = sumI ts + cntS os := by
  intro os
  induction os with
  | nil => intro ts; unfold foldO; rfl
  | cons o os ih =>
    intro ts
    cases o with
    | none => unfold foldO; rfl
    | some o =>
      match ts with
      | [] => unfold foldO; rfl
      | [_] => unfold foldO; rfl
      | r :: l :: ts =>
        unfold foldO
        split
        · rw [ih]; simp [sumI, inn, cntS]; omega
        · rfl
def wOf : Wd → Nat
  | .str => 1
  | .op _ => 1
  | _ => 0
theorem cntS_tail {os : List (Option Op)} (h : os = [] ∨ ∃ r, os = none :: r) : cntS os.tail = cntS os := by
  rcases h with rfl | ⟨r, rfl⟩ <;> rfl
theorem step_wei {s : St} {w : Wd} (h : Pre s w) : wei (step s w) = wei s + wOf w := by
  cases w with
  | sg c => simp [wei, step, sumI, inn, wOf]
  | «at» c => simp [wei, step, sumI, inn, wOf]
  | opn => simp [wei, step, sumI, cntS, wOf]
  | cls =>
    have := foldO_wei 0 s.os s.ts
    show sumI (foldO 0 s.os s.ts).2 + cntS (foldO 0 s.os s.ts).1.tail = _
    rw [cntS_tail (foldO_top _ _ h.1), this]; rfl
  | str =>
    cases e : s.ts with
    | nil => exact absurd e h
    | cons t ts => simp [wei, step, e, sumI, inn, wOf]; omega
  | op o =>
    have := foldO_wei o.rank s.os s.ts
    show sumI (foldO o.rank s.os s.ts).2 + (cntS (foldO o.rank s.os s.ts).1 + 1) = sumI s.ts + cntS s.os + 1
    omega
theorem run_wei {s : St} {ws : List Wd} : Good s ws → wei (run s ws) = wei s + (ws.map wOf).sum := by
  induction ws generalizing s with
  | nil => intro _; rfl
  | cons w ws ih =>
    intro h
    rw [run_cons, ih h.2, step_wei h.1]
    simp; omega
/-- the words' weight: a binary operator stands between two leaves -/
theorem spl_wei {sg : List Nat} : ∀ (n : Nat) (t : List Nat), t.length ≤ n → ∀ (k op : Nat) (want : Bool) (ws : List Wd), spl sg k op want t = .ok ws → (ws.map wOf).sum + (if want = true then 1 else 0) ≤ wt sg t := by
  intro n
  induction n with
  | zero =>
    intro t ht k op want ws h
    have : t = [] := List.length_eq_zero_iff.mp (by omega)
    subst this
    rw [spl] at h
    split at h
    · cases h
    · injection h with h; subst h
      have hw : want = false := by cases want with | false => rfl | true => exact absurd (Or.inl rfl) ‹_›
      subst hw
      simp
  | succ n ih =>
    intro t ht k op want ws h
    cases t with
    | nil =>
      rw [spl] at h
      split at h
      · cases h
      · injection h with h; subst h
        have hw : want = false := by cases want with | false => rfl | true => exact absurd (Or.inl rfl) ‹_›
        subst hw
        simp
    | cons c r =>
      have hr : r.length ≤ n := by simp at ht; omega
      have hrt : r.tail.length ≤ n := by rw [List.length_tail]; omega
      have hc : wt sg (c :: r) = wt sg r + (if (isLf sg c || c == 42) = true then 1 else 0) := by unfold wt; rw [List.countP_cons]
      have htl : wt sg r.tail ≤ wt sg r := by
        cases r with
        | nil => exact Nat.le_refl _
        | cons d r => unfold wt; rw [List.countP_cons]; exact Nat.le_add_right _ _
      rw [spl] at h
      cases hf : fst sg c with
      | some w =>
        have hw : wOf w = 0 ∧ (w = .opn ∨ (isLf sg c = true ∧ w ≠ .opn)) := by
          unfold fst at hf
          split at hf
          · injection hf with hf; subst hf; exact ⟨rfl, .inr ⟨by unfold isLf; simp [*], by simp⟩⟩
          · split at hf
            · injection hf with hf; subst hf; exact ⟨rfl, .inr ⟨by unfold isLf; simp [*], by simp⟩⟩
            · split at hf
              · injection hf with hf; subst hf; exact ⟨rfl, .inl rfl⟩
              · cases hf
        have key : ∀ v, spl sg (k + 1) (if w = .opn then op + 1 else op) (decide (w = .opn)) r = .ok v → (v.map wOf).sum + 1 ≤ wt sg (c :: r) := fun v e => by
          have := ih r hr _ _ _ _ e
          rw [hc]
          rcases hw.2 with h1 | ⟨h1, h2⟩
          · simp [h1] at this; omega
          · simp [h2] at this; simp [h1]; omega
        rw [hf] at h
        dsimp only at h
        cases want with
        | true =>
          rw [if_pos rfl] at h
          obtain ⟨v, e, rfl⟩ := R.cons_ok h
          have := key v e
          simp [hw.1]; omega
        | false =>
          rw [if_neg (by simp)] at h
          obtain ⟨v1, e1, rfl⟩ := R.cons_ok h
          obtain ⟨v, e, rfl⟩ := R.cons_ok e1
          have := key v e
          have h1 : wOf (.op .row) = 1 := rfl
          simp only [List.map_cons, List.sum_cons, hw.1, h1, Bool.false_eq_true, if_false]
          omega
      | none =>
        rw [hf] at h
        dsimp only at h
        cases want with
        | true => rw [if_pos rfl] at h; cases h
        | false =>
          rw [if_neg (by simp)] at h
          by_cases c1 : c = 42
          · rw [if_pos c1] at h
            obtain ⟨v, e, rfl⟩ := R.cons_ok h
            have := ih r hr _ _ _ _ e
            rw [hc]
            simp [c1, wOf] at this ⊢; omega
          · rw [if_neg c1] at h
            have hle : wt sg r ≤ wt sg (c :: r) := by rw [hc]; exact Nat.le_add_right _ _
            by_cases c2 : c = 41
            · rw [if_pos c2] at h
              by_cases o0 : op = 0
              · rw [if_pos o0] at h; cases h
              · rw [if_neg o0] at h
                obtain ⟨v, e, rfl⟩ := R.cons_ok h
                have := ih r hr _ _ _ _ e
                simp [wOf] at this ⊢; omega
            · rw [if_neg c2] at h
              cases hb : binOf c with
              | none => rw [hb] at h; cases h
              | some o =>
                rw [hb] at h
                dsimp only at h
                split at h
                · obtain ⟨v, e, rfl⟩ := R.cons_ok h
                  have := ih r.tail hrt _ _ _ _ e
                  simp [wOf] at this ⊢; omega
                · obtain ⟨v, e, rfl⟩ := R.cons_ok h
                  have := ih r hr _ _ _ _ e
                  simp [wOf] at this ⊢; omega
end Ex
set_option Elab.async false
set_option linter.all false
set_option maxRecDepth 100000
/-! expressions: leaves, parentheses, levels -/
namespace Ex
def OkW (sg : List Nat) : Wd → Prop
  | .sg c => c ∈ sg
  | .at c => isAt c = true
  | _ => True
theorem foldO_ok {sg : List Nat} (k : Nat) : ∀ (os : List (Option Op)) (ts : List Tr), (∀ t ∈ ts, Ok sg t) → ∀ t ∈ (foldO k os ts).2, Ok sg t := by
  intro os
  induction os with
  | nil => intro ts h; unfold foldO; exact h
  | cons o os ih =>
    intro ts h
    cases o with
    | none => unfold foldO; exact h
    | some o =>
      match ts, h with
      | [], h => unfold foldO; exact h
      | [_], h => unfold foldO; exact h
      | r :: l :: ts, h =>
        unfold foldO
        split
        · refine ih _ fun t ht => ?_
          rcases List.mem_cons.mp ht with rfl | ht
          · exact ⟨h l (by simp), h r (by simp)⟩
          · exact h t (by simp [ht])
        · exact h
theorem step_ok {sg : List Nat} {s : St} {w : Wd} (hw : OkW sg w) (h : ∀ t ∈ s.ts, Ok sg t) : ∀ t ∈ (step s w).ts, Ok sg t := by
  cases w with
  | sg c => intro t ht; rcases List.mem_cons.mp ht with rfl | ht; exact hw; exact h t ht
  | «at» c => intro t ht; rcases List.mem_cons.mp ht with rfl | ht; exact hw; exact h t ht
  | opn => exact h
  | cls => exact foldO_ok 0 s.os s.ts h
  | str =>
    intro t ht
    cases e : s.ts with
    | nil => simp [step, e] at ht
    | cons x xs =>
      simp only [step, e] at ht
      rcases List.mem_cons.mp ht with rfl | ht
      · exact h x (by rw [e]; simp)
      · exact h t (by rw [e]; simp [ht])
  | op o => exact foldO_ok o.rank s.os s.ts h
theorem run_ok {sg : List Nat} {ws : List Wd} : ∀ {s : St}, (∀ w ∈ ws, OkW sg w) → (∀ t ∈ s.ts, Ok sg t) → ∀ t ∈ (run s ws).ts, Ok sg t := by
  induction ws with
  | nil => intro s _ h; exact h
  | cons w ws ih => intro s hw h; exact ih (fun v hv => hw v (by simp [hv])) (step_ok (hw w (by simp)) h)
def nOpn : Wd → Nat
  | .opn => 1
  | _ => 0
theorem run_mo {ws : List Wd} : ∀ {s : St}, (run s ws).mo ≤ max s.mo (s.op + (ws.map nOpn).sum) := by
  induction ws with
  | nil => intro s; exact Nat.le_max_left _ _
  | cons w ws ih =>
    intro s
    have h := ih (s := step s w)
    rw [run_cons]
    have key : max (step s w).mo ((step s w).op + (ws.map nOpn).sum) ≤ max s.mo (s.op + ((w :: ws).map nOpn).sum) := by
      cases w with
      | opn => simp only [step, List.map_cons, List.sum_cons, nOpn]; omega
      | cls => simp only [step, List.map_cons, List.sum_cons, nOpn]; omega
      | _ => simp only [step, List.map_cons, List.sum_cons, nOpn]; omega
    omega
/-- how many ( -/
def oc (t : List Nat) : Nat := t.countP fun c => c == 40
theorem oc_tail (t : List Nat) : oc t.tail ≤ oc t := by
  cases t with
  | nil => exact Nat.le_refl _
  | cons c r => unfold oc; rw [List.countP_cons]; exact Nat.le_add_right _ _
theorem fst_ok {sg : List Nat} {c : Nat} {w : Wd} (h : fst sg c = some w) : OkW sg w ∧ (w = .opn → c = 40) ∧ (nOpn w ≤ if (c == 40) = true then 1 else 0) := by
  unfold fst at h
  split at h
  · injection h with h; subst h; exact ⟨‹_›, (by intro z; cases z), Nat.zero_le _⟩
  · split at h
    · injection h with h; subst h; exact ⟨‹_›, (by intro z; cases z), Nat.zero_le _⟩
    · split at h
      · injection h with h; subst h; exact ⟨trivial, fun _ => ‹_›, by simp [nOpn, *]⟩
      · cases h
theorem spl_ok {sg : List Nat} : ∀ (n : Nat) (t : List Nat), t.length ≤ n → ∀ (k op : Nat) (want : Bool) (ws : List Wd), spl sg k op want t = .ok ws → (∀ w ∈ ws, OkW sg w) ∧ (ws.map nOpn).sum ≤ oc t ∧ ws.length ≤ 2 * t.length := by
  intro n
  induction n with
  | zero =>
    intro t ht k op want ws h
    have : t = [] := List.length_eq_zero_iff.mp (by omega)
    subst this
    rw [spl] at h
    split at h
    · cases h
    · injection h with h; subst h; exact ⟨fun w hw => (by cases hw), Nat.zero_le _, Nat.zero_le _⟩
  | succ n ih =>
    intro t ht k op want ws h
    cases t with
    | nil =>
      rw [spl] at h
      split at h
      · cases h
      · injection h with h; subst h; exact ⟨fun w hw => (by cases hw), Nat.zero_le _, Nat.zero_le _⟩
    | cons c r =>
      have hr : r.length ≤ n := by simp at ht; omega
      have hrt : r.tail.length ≤ n := by rw [List.length_tail]; omega
      have hc : oc (c :: r) = oc r + (if (c == 40) = true then 1 else 0) := by unfold oc; rw [List.countP_cons]
      have hto := oc_tail r
      have hlen : (c :: r).length = r.length + 1 := rfl
      have htl : r.tail.length ≤ r.length := by rw [List.length_tail]; omega
      have fin : ∀ {w : Wd} {v : List Wd}, OkW sg w → (∀ w ∈ v, OkW sg w) → ∀ x ∈ w :: v, OkW sg x := fun h1 h2 x hx => by
        rcases List.mem_cons.mp hx with rfl | hx
        · exact h1
        · exact h2 x hx
      rw [spl] at h
      cases hf : fst sg c with
      | some w =>
        obtain ⟨f1, f2, f3⟩ := fst_ok hf
        rw [hf] at h
        dsimp only at h
        cases want with
        | true =>
          rw [if_pos rfl] at h
          obtain ⟨v, e, rfl⟩ := R.cons_ok h
          obtain ⟨i1, i2, i3⟩ := ih r hr _ _ _ _ e
          refine ⟨fin f1 i1, ?_, ?_⟩
          · rw [hc, List.map_cons, List.sum_cons]; omega
          · rw [hlen, List.length_cons]; omega
        | false =>
          rw [if_neg (by simp)] at h
          obtain ⟨v1, e1, rfl⟩ := R.cons_ok h
          obtain ⟨v, e, rfl⟩ := R.cons_ok e1
          obtain ⟨i1, i2, i3⟩ := ih r hr _ _ _ _ e
          have n0 : nOpn (.op .row) = 0 := rfl
          refine ⟨fin trivial (fin f1 i1), ?_, ?_⟩
          · rw [hc, List.map_cons, List.sum_cons, List.map_cons, List.sum_cons, n0]; omega
          · rw [hlen, List.length_cons, List.length_cons]; omega
      | none =>
        rw [hf] at h
        dsimp only at h
        have one : ∀ {w : Wd} {v : List Wd} {k2 op2 : Nat} {b : Bool} {t2 : List Nat}, OkW sg w → nOpn w = 0 → (t2 = r ∨ t2 = r.tail) → spl sg k2 op2 b t2 = .ok v → (∀ x ∈ w :: v, OkW sg x) ∧ ((w :: v).map nOpn).sum ≤ oc (c :: r) ∧ (w :: v).length ≤ 2 * (c :: r).length := by
          intro w v k2 op2 b t2 h1 h2 h3 e
          rcases h3 with rfl | rfl
          · obtain ⟨i1, i2, i3⟩ := ih t2 hr _ _ _ _ e
            refine ⟨fin h1 i1, ?_, ?_⟩
            · rw [hc, List.map_cons, List.sum_cons, h2]; omega
            · rw [hlen, List.length_cons]; omega
          · obtain ⟨i1, i2, i3⟩ := ih r.tail hrt _ _ _ _ e
            refine ⟨fin h1 i1, ?_, ?_⟩
            · rw [hc, List.map_cons, List.sum_cons, h2]; omega
            · rw [hlen, List.length_cons]; omega
        cases want with
        | true => rw [if_pos rfl] at h; cases h
        | false =>
          rw [if_neg (by simp)] at h
          by_cases c1 : c = 42
          · rw [if_pos c1] at h
            obtain ⟨v, e, rfl⟩ := R.cons_ok h
            exact one trivial rfl (.inl rfl) e
          · rw [if_neg c1] at h
            by_cases c2 : c = 41
            · rw [if_pos c2] at h
              by_cases o0 : op = 0
              · rw [if_pos o0] at h; cases h
              · rw [if_neg o0] at h
                obtain ⟨v, e, rfl⟩ := R.cons_ok h
                exact one trivial rfl (.inl rfl) e
            · rw [if_neg c2] at h
              cases hb : binOf c with
              | none => rw [hb] at h; cases h
              | some o =>
                rw [hb] at h
                dsimp only at h
                split at h
                · obtain ⟨v, e, rfl⟩ := R.cons_ok h
                  exact one trivial rfl (.inr rfl) e
                · obtain ⟨v, e, rfl⟩ := R.cons_ok h
                  exact one trivial rfl (.inl rfl) e
/-- what is read of a text -/
structure Read (sg t : List Nat) (T : Tr) (mo : Nat) : Prop where
  ex : ∃ ws, spl sg 0 0 true t = .ok ws ∧ foldO 0 (run s0 ws).os (run s0 ws).ts = ([], [T]) ∧ (run s0 ws).mo = mo
theorem read_of {sg t : List Nat} {ws : List Wd} (h : spl sg 0 0 true t = .ok ws) : ∃ T, Read sg t T (run s0 ws).mo := by
  have g := spl_good t.length t (Nat.le_refl _) 0 0 true ws s0 h wf0
  obtain ⟨a, b⟩ := good_end g
  obtain ⟨T, e⟩ := foldO_end a b
  exact ⟨T, ws, h, e, rfl⟩
theorem Read.ok {sg t : List Nat} {T : Tr} {mo : Nat} (h : Read sg t T mo) : Ok sg T := by
  obtain ⟨ws, h1, h2, h3⟩ := h.ex
  obtain ⟨a, b, c⟩ := spl_ok t.length t (Nat.le_refl _) 0 0 true ws h1
  have r := run_ok (s := s0) a (fun t ht => by cases ht)
  have := foldO_ok 0 (run s0 ws).os (run s0 ws).ts r
  rw [h2] at this
  exact this T (by simp)
theorem Read.inn {sg t : List Nat} {T : Tr} {mo : Nat} (h : Read sg t T mo) : Ex.inn T + 1 ≤ wt sg t := by
  obtain ⟨ws, h1, h2, h3⟩ := h.ex
  have g := spl_good t.length t (Nat.le_refl _) 0 0 true ws s0 h1 wf0
  have r := run_wei g
  have q := spl_wei t.length t (Nat.le_refl _) 0 0 true ws h1
  have f := foldO_wei 0 (run s0 ws).os (run s0 ws).ts
  rw [h2] at f
  have e : wei s0 = 0 := rfl
  have f2 : Ex.inn T + 0 = wei (run s0 ws) := by
    have : sumI [T] = Ex.inn T := by simp [sumI]
    rw [← this]
    exact f
  rw [if_pos rfl] at q
  omega
theorem Read.mo {sg t : List Nat} {T : Tr} {mo : Nat} (h : Read sg t T mo) : mo ≤ oc t := by
  obtain ⟨ws, h1, h2, h3⟩ := h.ex
  obtain ⟨a, b, c⟩ := spl_ok t.length t (Nat.le_refl _) 0 0 true ws h1
  have := run_mo (s := s0) (ws := ws)
  have e1 : s0.mo = 0 := rfl
  have e2 : s0.op = 0 := rfl
  omega
theorem Read.uniq {sg t : List Nat} {T T' : Tr} {mo mo' : Nat} (h : Read sg t T mo) (h' : Read sg t T' mo') : T = T' ∧ mo = mo' := by
  obtain ⟨ws, h1, h2, h3⟩ := h.ex
  obtain ⟨ws', h1', h2', h3'⟩ := h'.ex
  rw [h1] at h1'
  injection h1' with h1'
  subst h1'
  rw [h2] at h2'
  injection h2' with _ e
  injection e with e _
  exact ⟨e, h3.symm.trans h3'⟩
theorem read_wtx {sg : List Nat} (hs : ∀ c ∈ sg, 97 ≤ c ∧ c ≤ 122) {t : Tr} (h : Ok sg t) : Read sg (wtx t) t (pd t) := by
  obtain ⟨a, b⟩ := read_back t
  exact ⟨wws t, spl_written hs h, a, b⟩
theorem wt_wtx {sg : List Nat} (hs : ∀ c ∈ sg, 97 ≤ c ∧ c ≤ 122) : ∀ {t : Tr}, Ok sg t → wt sg (wtx t) ≤ inn t + 1 ∧ oc (wtx t) ≤ 2 * inn t ∧ (wtx t).length ≤ 7 * inn t + 1
  | .sg c, h => ⟨by unfold wt wtx; exact Nat.le_trans (List.countP_le_length) (Nat.le_refl _), by
      have := hs c h
      unfold oc wtx; rw [List.countP_cons, List.countP_nil, if_neg (by simp; omega)]; exact Nat.zero_le _, Nat.le_refl _⟩
  | .at c, h => ⟨by unfold wt wtx; exact Nat.le_trans (List.countP_le_length) (Nat.le_refl _), by
      unfold oc wtx; rw [List.countP_cons, List.countP_nil, if_neg (by intro z; have h : isAt c = true := h; unfold isAt at h; simp at z h; omega)]; exact Nat.zero_le _, Nat.le_refl _⟩
  | .st x, h => by
    obtain ⟨a, b, c⟩ := wt_wtx hs (t := x) h
    have w1 : ∀ bb, wt sg (wrapT bb (wtx x)) = wt sg (wtx x) := fun bb => by
      cases bb with
      | false => rfl
      | true =>
        have n40 : ¬ (40 ∈ sg) := fun z => by have := hs _ z; omega
        have n41 : ¬ (41 ∈ sg) := fun z => by have := hs _ z; omega
        unfold wt wrapT
        rw [if_pos rfl, List.countP_cons, List.countP_append, List.countP_cons, List.countP_nil]
        simp [isLf, n40, n41, isAt]
    have w2 : ∀ bb, oc (wrapT bb (wtx x)) ≤ oc (wtx x) + 1 := fun bb => by
      cases bb with
      | false => exact Nat.le_add_right _ _
      | true =>
        unfold oc wrapT
        rw [if_pos rfl, List.countP_cons, List.countP_append, List.countP_cons, List.countP_nil]
        simp
    have w3 : ∀ bb, (wrapT bb (wtx x)).length ≤ (wtx x).length + 2 := fun bb => by cases bb <;> simp [wrapT]
    have a1 := w1 (decide (trank x < 5))
    have a2 := w2 (decide (trank x < 5))
    have a3 := w3 (decide (trank x < 5))
    have e1 : wt sg (wtx (.st x)) ≤ wt sg (wrapT (decide (trank x < 5)) (wtx x)) + 1 := by
      show wt sg (_ ++ [42]) ≤ _
      unfold wt
      rw [List.countP_append]
      exact Nat.add_le_add_left (List.countP_le_length) _
    have e2 : oc (wtx (.st x)) = oc (wrapT (decide (trank x < 5)) (wtx x)) := by
      show oc (_ ++ [42]) = _
      unfold oc
      rw [List.countP_append]
      rfl
    have e3 : (wtx (.st x)).length = (wrapT (decide (trank x < 5)) (wtx x)).length + 1 := by
      show (_ ++ [42]).length = _
      simp
    refine ⟨?_, ?_, ?_⟩ <;> unfold inn <;> omega
  | .op o l r, h => by
    obtain ⟨a, b, c⟩ := wt_wtx hs (t := l) h.1
    obtain ⟨a', b', c'⟩ := wt_wtx hs (t := r) h.2
    have w1 : ∀ (t : List Nat) bb, wt sg (wrapT bb t) = wt sg t := fun t bb => by
      cases bb with
      | false => rfl
      | true =>
        have n40 : ¬ (40 ∈ sg) := fun z => by have := hs _ z; omega
        have n41 : ¬ (41 ∈ sg) := fun z => by have := hs _ z; omega
        unfold wt wrapT
        rw [if_pos rfl, List.countP_cons, List.countP_append, List.countP_cons, List.countP_nil]
        simp [isLf, n40, n41, isAt]
    have w2 : ∀ (t : List Nat) bb, oc (wrapT bb t) ≤ oc t + 1 := fun t bb => by
      cases bb with
      | false => exact Nat.le_add_right _ _
      | true =>
        unfold oc wrapT
        rw [if_pos rfl, List.countP_cons, List.countP_append, List.countP_cons, List.countP_nil]
        simp
    have w3 : ∀ (t : List Nat) bb, (wrapT bb t).length ≤ t.length + 2 := fun t bb => by cases bb <;> simp [wrapT]
    have ot : wt sg o.tx = 0 ∧ oc o.tx = 0 ∧ o.tx.length ≤ 2 := by
      have nn : ∀ c, (c < 97) → ¬ (c ∈ sg) := fun c hc z => by have := hs _ z; omega
      refine ⟨?_, by cases o <;> rfl, by cases o <;> decide⟩
      unfold wt
      rw [List.countP_eq_zero]
      intro c hc
      have : c = 38 ∨ c = 45 ∨ c = 60 ∨ c = 62 ∨ c = 124 := by cases o <;> simp [Op.tx] at hc <;> omega
      have hm : ¬ (c ∈ sg) := fun z => by have := hs _ z; omega
      unfold isLf isAt
      simp [hm]
      omega
    have e1 : wt sg (wtx (.op o l r)) = wt sg (wtx l) + wt sg (wtx r) := by
      show wt sg (_ ++ (o.tx ++ _)) = _
      have ap : ∀ x y, wt sg (x ++ y) = wt sg x + wt sg y := fun x y => List.countP_append
      rw [ap, ap, w1, w1, ot.1]; omega
    have e2 : oc (wtx (.op o l r)) ≤ oc (wtx l) + 1 + (oc (wtx r) + 1) := by
      show oc (_ ++ (o.tx ++ _)) ≤ _
      have ap : ∀ x y, oc (x ++ y) = oc x + oc y := fun x y => List.countP_append
      rw [ap, ap, ot.2.1]
      have := w2 (wtx l) (decide (trank l < o.rank))
      have := w2 (wtx r) (decide (trank r < o.rank + 1))
      omega
    have e3 : (wtx (.op o l r)).length ≤ (wtx l).length + 2 + 2 + ((wtx r).length + 2) := by
      show (_ ++ (o.tx ++ _)).length ≤ _
      rw [List.length_append, List.length_append]
      have := w3 (wtx l) (decide (trank l < o.rank))
      have := w3 (wtx r) (decide (trank r < o.rank + 1))
      have := ot.2.2
      omega
    refine ⟨?_, ?_, ?_⟩ <;> unfold inn <;> omega
theorem inn_dep : ∀ t, inn t + 1 ≤ 2 ^ (dep t - 1)
  | .sg _ => Nat.le_refl _
  | .at _ => Nat.le_refl _
  | .st x => by
    have h := inn_dep x
    have p := dep_pos x
    unfold inn dep
    obtain ⟨d, e⟩ : ∃ d, dep x = d + 1 := ⟨dep x - 1, by omega⟩
    rw [e] at h ⊢
    have q := Nat.two_pow_pos d
    simp only [Nat.add_sub_cancel] at h ⊢
    rw [Nat.pow_succ]
    omega
  | .op o l r => by
    have h := inn_dep l
    have h' := inn_dep r
    have p := dep_pos l
    have p' := dep_pos r
    unfold inn dep
    have m1 : 2 ^ (dep l - 1) ≤ 2 ^ (max (dep l) (dep r) - 1) := Nat.pow_le_pow_right (by omega) (by omega)
    have m2 : 2 ^ (dep r - 1) ≤ 2 ^ (max (dep l) (dep r) - 1) := Nat.pow_le_pow_right (by omega) (by omega)
    have m3 : 2 ^ (max (dep l) (dep r) + 1 - 1) = 2 * 2 ^ (max (dep l) (dep r) - 1) := by
      rw [Nat.add_sub_cancel, ← Nat.pow_succ']
      congr 1
      omega
    omega
/-! ### levels -/
def kids : Tr → List Tr
  | .st x => [x]
  | .op _ l r => [l, r]
  | _ => []
def mdep : List Tr → Nat
  | [] => 0
  | t :: r => max (dep t) (mdep r)
theorem mdep_app (a b : List Tr) : mdep (a ++ b) = max (mdep a) (mdep b) := by
  induction a with
  | nil => show mdep b = max 0 (mdep b); omega
  | cons t a ih => show max (dep t) (mdep (a ++ b)) = max (max (dep t) (mdep a)) (mdep b); rw [ih]; omega
theorem mdep_kids (t : Tr) : mdep (kids t) = dep t - 1 := by
  cases t with
  | sg c => rfl
  | «at» c => rfl
  | st x => show max (dep x) 0 = dep x + 1 - 1; omega
  | op o l r => show max (dep l) (max (dep r) 0) = max (dep l) (dep r) + 1 - 1; omega
theorem mdep_next (l : List Tr) : mdep (l.flatMap kids) = mdep l - 1 := by
  induction l with
  | nil => rfl
  | cons t l ih =>
    rw [List.flatMap_cons, mdep_app, mdep_kids, ih]
    show _ = max (dep t) (mdep l) - 1
    omega
theorem mdep_zero {l : List Tr} : mdep l = 0 ↔ l = [] := by
  cases l with
  | nil => simp [mdep]
  | cons t r => have := dep_pos t; simp [mdep]; omega
/-- how many nodes -/
def nod : Tr → Nat
  | .st x => nod x + 1
  | .op _ l r => nod l + nod r + 1
  | _ => 1
theorem nod_inn : ∀ t, nod t ≤ 2 * inn t + 1
  | .sg _ => Nat.le_refl _
  | .at _ => Nat.le_refl _
  | .st x => by have := nod_inn x; unfold nod inn; omega
  | .op _ l r => by have := nod_inn l; have := nod_inn r; unfold nod inn; omega
theorem nod_pos : ∀ t, 1 ≤ nod t
  | .sg _ => Nat.le_refl _
  | .at _ => Nat.le_refl _
  | .st _ => Nat.le_add_left _ _
  | .op _ _ _ => Nat.le_add_left _ _
def snod (l : List Tr) : Nat := (l.map nod).sum
theorem snod_len (l : List Tr) : l.length ≤ snod l := by
  induction l with
  | nil => exact Nat.le_refl _
  | cons t l ih => have := nod_pos t; show l.length + 1 ≤ nod t + snod l; omega
theorem snod_next (l : List Tr) : snod (l.flatMap kids) ≤ snod l := by
  induction l with
  | nil => exact Nat.le_refl _
  | cons t l ih =>
    have e : snod ((t :: l).flatMap kids) = snod (kids t) + snod (l.flatMap kids) := by simp [snod]
    have k : snod (kids t) ≤ nod t := by cases t <;> simp [snod, kids, nod]
    rw [e]
    show _ ≤ nod t + snod l
    omega
end Ex
namespace Ex
theorem spl_err {sg : List Nat} : ∀ (n : Nat) (t : List Nat), t.length ≤ n → ∀ (k op : Nat) (want : Bool) (p : Nat), spl sg k op want t = .error p → p ≤ k + t.length := by
  have ce : ∀ {w : Wd} {x : R} {p : Nat}, R.cons w x = .error p → x = .error p := by
    intro w x p h
    cases x with
    | ok v => cases h
    | error q => injection h with h; rw [h]
  intro n
  induction n with
  | zero =>
    intro t ht k op want p h
    have : t = [] := List.length_eq_zero_iff.mp (by omega)
    subst this
    rw [spl] at h
    split at h
    · injection h with h; simp; omega
    · cases h
  | succ n ih =>
    intro t ht k op want p h
    cases t with
    | nil =>
      rw [spl] at h
      split at h
      · injection h with h; simp; omega
      · cases h
    | cons c r =>
      have hr : r.length ≤ n := by simp at ht; omega
      have hrt : r.tail.length ≤ n := by rw [List.length_tail]; omega
      have hlen : (c :: r).length = r.length + 1 := rfl
      have ht0 : r.tail.length ≤ r.length := by rw [List.length_tail]; omega
      have htl : 0 < r.length → r.tail.length + 1 = r.length := fun z => by rw [List.length_tail]; omega
      rw [spl] at h
      have one : ∀ {w : Wd} {op2 : Nat} {b : Bool}, R.cons w (spl sg (k + 1) op2 b r) = .error p → p ≤ k + (c :: r).length := fun e => by
        have := ih r hr _ _ _ _ (ce e)
        omega
      cases hf : fst sg c with
      | some w =>
        rw [hf] at h
        dsimp only at h
        cases want with
        | true => rw [if_pos rfl] at h; exact one h
        | false => rw [if_neg (by simp)] at h; exact one (ce h)
      | none =>
        rw [hf] at h
        dsimp only at h
        cases want with
        | true => rw [if_pos rfl] at h; injection h with h; omega
        | false =>
          rw [if_neg (by simp)] at h
          by_cases c1 : c = 42
          · rw [if_pos c1] at h; exact one h
          · rw [if_neg c1] at h
            by_cases c2 : c = 41
            · rw [if_pos c2] at h
              by_cases o0 : op = 0
              · rw [if_pos o0] at h; injection h with h; omega
              · rw [if_neg o0] at h; exact one h
            · rw [if_neg c2] at h
              cases hb : binOf c with
              | none => rw [hb] at h; injection h with h; omega
              | some o =>
                rw [hb] at h
                dsimp only at h
                split at h
                · next z =>
                  have := ih r.tail hrt _ _ _ _ (ce h)
                  have : 0 < r.length := by
                    cases r with
                    | nil => simp at z
                    | cons d r => simp
                  have := htl this
                  omega
                · exact one h
end Ex
set_option Elab.async false
set_option linter.all false
set_option maxRecDepth 100000
/-! isinstance of a caught error of an own class without fields -/
namespace Sh
open PySem PySem.Spec PyProof.Rows L2
/-- isinstance(e, c): e the caught exception at a, of the class D, no fields -/
def rIsX0 (K : PySem.W.Frag) (D a : Addr) (cls : Value) (d : Option Addr) : List V → Hp → VK → Prop := fun xs H Q => cls = .ref D ∧ ∃ (c : V) (cv : Value) (b : Bool), xs = [.ref a, c] ∧ d = none ∧ (∀ u, RelV c u → u = cv) ∧ PySem.W.kitOne K (.ref D) cv = some b ∧ Q (.bl b) H
theorem call_isX0 {X : Cx} {a D : Addr} {cls : Value} {d : Option Addr} {oe : Obj} {pn : List (Addr × Obj)} (C : ExcC X.K D) (hz : Zc cls d oe) (hf : ∃ vs, oe.data = .fields vs) : CallR (X.suite a ((a, oe) :: pn)) (.builtin "isinstance") (rIsX0 X.K D a cls d) := by
  intro pins s σ H xs us Q I r h
  obtain ⟨ec, c, cv, b, e1, ed, hcv, e, q⟩ := h
  subst ec ed e1
  exact call_isE C hz hf pins s σ H _ us Q I r ⟨c, cv, b, rfl, hcv, e, q⟩
end Sh
set_option Elab.async false
set_option linter.all false
set_option maxRecDepth 100000
/-! d.get(text, y), d a table written at the text's top -/
namespace Sh
open PySem PySem.Spec PyProof.Rows L2
def tKGet2 (K : PySem.W.Frag) (d : Addr) (td ty tx : TE) : TE := fun σ H Q => td σ H fun x H1 => x = .ref d ∧ ty σ H1 fun y H2 => tx σ H2 fun z H3 => ∃ (k : Str) (v : V), y = .str k ∧ ((∃ u, PySem.W.nsIn K d k = some (some u) ∧ RelV v u) ∨ (PySem.W.nsIn K d k = some none ∧ v = z)) ∧ Q v H3
theorem pe_kdget2 {X : Cx} {o e f : Expr} {apos cpos : Pos} {td ty tx : TE} {d : Addr} {es : Array DictEntry} {n : Nat} (D : KDict X.K X.w d es n) (ho : PE X o td) (he : PE X e ty) (hf : PE X f tx) (m : M2 X o "get" apos e f cpos) :
    PE X (.Call (.Attribute o "get" apos) [e, f] [] cpos) (tKGet2 X.K d td ty tx) := by
  refine ⟨fun pins s σ H Q I h => ?_⟩
  refine wpAny_Call_method m.base m.few m.line PySem.F.plainAttrs_dict PySem.F.slot_dict_get PySem.F.type_dict_get (thn (ho.run pins s σ H _ I h) fun u s1 ⟨x, H1, I1, rx, ex, q1⟩ => ?_)
  subst ex
  obtain rfl : u = Value.ref d := rx
  refine ⟨kd_type D I1, fun b q => ?_, ?_⟩
  · cases q
    exact ⟨_, I1.kIn _ _ D.at_, rfl⟩
  rw [m.trees]
  refine Calls.callWith_builtin rfl (Calls.evalArgs_plain (Calls.spliced_cons (thn (he.run pins s1 σ H1 _ I1 q1) fun iv s2 ⟨y, H2, I2, ry, q2⟩ =>
    Calls.spliced_cons (thn (hf.run pins s2 σ H2 _ I2 q2) fun fv s3 ⟨z, H3, I3, rz, k, v, ek, q3, q4⟩ => Calls.spliced_nil ?_))))
  subst ek
  obtain ⟨t, rfl⟩ := (show ∃ t, iv = Value.str k t from ry)
  refine call_meetsIn PySem.F.slot_dict_get (kd_type D I3) PySem.F.entry_dict_get (PySem.F.args_dict_get_3 _ _ _) (meets_dict_get_default (strKind X.prog X.w) d (PySem.strKind_is X.prog X.w k t) D.low fv) ⟨_, PySem.W.mapOf_K (prog := X.prog) I3.kIn D.at_ D.lit, ?_⟩
  rcases q3 with ⟨u, e, r⟩ | ⟨e, rfl⟩
  · rw [PySem.W.find_K D.at_ e]
    exact ⟨v, H3, I3.tok _, r, q4⟩
  · rw [PySem.W.find_K D.at_ e]
    exact ⟨_, H3, I3.tok _, rz, q4⟩
end Sh
set_option Elab.async false
set_option linter.all false
set_option maxRecDepth 100000
namespace Sh
open PySem PySem.Spec PyProof.Rows L2
theorem nsc_WrongItem : NdefX.NScope ["self", "place", "__class__"] ["self", "place"] ["__class__"] (defScope s_WrongItem___init__) := NdefX.nscope_by (by decide +kernel)
theorem nsc_TooMany : NdefX.NScope ["self", "word", "__class__"] ["self", "word"] ["__class__"] (defScope s_TooMany___init__) := NdefX.nscope_by (by decide +kernel)
theorem nsc_WrongThing : NdefX.NScope ["self", "thing", "__class__"] ["self", "thing"] ["__class__"] (defScope s_WrongThing___init__) := NdefX.nscope_by (by decide +kernel)
/-- an operator's word -/
def opS : Ex.Op → Str
  | .or => "|"
  | .and => "&"
  | .sub => "-"
  | .gt => ">"
  | .gg => ">>"
  | .lt => "<"
  | .ll => "<<"
  | .row => "row"
/-- the table of ranks, written in the text -/
structure RankAt (K : PySem.W.Frag) (w : World) (d : Addr) : Prop where
  kd : ∃ es n, KDict K w d es n
  has : ∀ o : Ex.Op, ∃ u, PySem.W.nsIn K d (opS o) = some (some u) ∧ RelV (.int ((o.rank : Nat) : Int)) u
  no : ∀ x ∈ (["sign", "1", "0", ".", "*", "?", ""] : List Str), PySem.W.nsIn K d x = some none
structure TxtX (P : Program) (K : PySem.W.Frag) (mg : Str → Option Value) (C0 : Addr) (w : World) (XE FE DI XM FM XT FT DT XS XB BS AT RK : Addr) : Prop extends TxtC K mg C0 where
  g_ATOMS : ∃ u, mg "ATOMS" = some u ∧ RelV (.ref AT) u
  s_ATOMS : ∀ H, SqT K H AT [.str "1", .str "0", .str "."]
  g_RANKS : ∃ u, mg "RANKS" = some u ∧ RelV (.ref RK) u
  r_RANKS : RankAt K w RK
  e_BadExpression : ExcAt K mg "BadExpression" XE FE DI
  q_WrongItem : XInit P K mg "WrongItem.__init__" s_WrongItem___init__ ["self", "place"] DI FE
  nf_BadExpression_place : PySem.W.findIn K (.ref XE) "place" = some none
  e_TooMany : ExcAt K mg "TooMany" XM FM XM
  q_TooMany : XInit P K mg "TooMany.__init__" s_TooMany___init__ ["self", "word"] XM FM
  nf_TooMany_word : PySem.W.findIn K (.ref XM) "word" = some none
  e_BadText : ExcAt K mg "BadText" XT FT DT
  q_WrongThing : XInit P K mg "WrongThing.__init__" s_WrongThing___init__ ["self", "thing"] DT FT
  nf_BadText_thing : PySem.W.findIn K (.ref XT) "thing" = some none
  e_BadSigns : ExcAt K mg "BadSigns" XS FT DT
  nf_BadSigns_thing : PySem.W.findIn K (.ref XS) "thing" = some none
  x_BadTree : PySem.W.excIn K XB [.type "ValueError", .type "Exception", .type "BaseException", .type "object"] "ValueError.__new__" = true
  g_BadTree : mg "BadTree" = some (.ref XB)
  k_BadTree : PySem.W.keepIn K (.ref XB) = true
  b_BadTree : PySem.W.subIn K (.ref XB) (.type "BaseException") = some true
  t_BadTree : PySem.W.typeIn K (.ref XB) = some (.type "type")
  mm_BadTree_BadTree : PySem.W.exmOne K (.ref XB) (.ref XB) = some true
  mm_TooMany_TooMany : PySem.W.exmOne K (.ref XM) (.ref XM) = some true
  mm_BadSigns_BadSigns : PySem.W.exmOne K (.ref XS) (.ref XS) = some true
  c_BadTree : ExcC K XB
  gc_ShrunkError : mg "ShrunkError" = some (.ref BS)
  ko_BadTree_ShrunkError : PySem.W.kitOne K (.ref XB) (.ref BS) = some true
end Sh
set_option Elab.async false
set_option linter.all false
set_option maxRecDepth 100000
set_option maxHeartbeats 4000000
namespace Sh
open PySem PySem.Spec PyProof.Rows L2
open SX (S S_inj S_len S_cat)
local macro_rules | `(tactic| walk_at "nx") => `(tactic| repeat (with_reducible first | refine Sh.gn_mk ?_ | refine Sh.nx_mk ?_ | refine Sh.st_nx ?_ | refine Sh.rt_mk ?_ | refine Sh.ct_mk ?_ | refine Sh.bk_mk ?_))
local macro_rules | `(tactic| walk_at "sq") => `(tactic| first | exact SqL.of upd_same | exact SqT.of upd_same | exact SqL.of (by assumption) | exact SqT.of (by assumption) | assumption | exact Or.inl (SqL.of (by assumption)) | exact Or.inr (SqT.of (by assumption)) | exact Or.inl (by assumption) | exact Or.inr (by assumption))
local macro_rules | `(tactic| walk_at "hp") => `(tactic| first | exact upd_same | assumption)
local macro_rules | `(tactic| walk_at "sz") => `(tactic| first | exact Nat.le_of_ble_eq_true rfl | omega)
local macro_rules | `(tactic| walk_at "sd") => `(tactic| first | omega | exact rfl | assumption | (show (0 : Int) < _; omega) | exact And.intro (by omega) (by omega) | exact Or.inl (And.intro (by omega) (by omega)) | exact Or.inr (And.intro (by omega) (by omega)) | omega | exact Sh.sz_S (by omega) | decide)
local macro_rules | `(tactic| walk_at "rd1") => `(tactic| first
  | (with_reducible first | refine Sh.gn_mk ?_ | refine Sh.nx_mk ?_ | refine Sh.st_nx ?_ | refine Sh.rt_mk ?_ | refine Sh.ct_mk ?_ | refine Sh.bk_mk ?_)
  | refine Exists.intro (α := V) _ (And.intro rfl ?_)
  | refine Exists.intro (α := Bool) _ (And.intro rfl ?_)
  | refine Exists.intro (α := Int) _ (And.intro rfl ?_)
  | refine Exists.intro (α := PySem.Str) _ (And.intro rfl ?_)
  | refine Exists.intro (α := Int) _ (Exists.intro (α := Int) _ (And.intro rfl (And.intro rfl ?_)))
  | refine Exists.intro (α := PySem.Str) _ (Exists.intro (α := PySem.Str) _ (And.intro rfl (And.intro rfl ?_)))
  | refine Exists.intro (α := Int) _ (Exists.intro (α := Int) _ (And.intro rfl ?_))
  | refine Or.inl (Exists.intro (α := Int) _ (And.intro rfl ?_))
  | refine Exists.intro _ (Exists.intro _ (Exists.intro _ (Exists.intro _ (And.intro rfl (And.intro rfl (And.intro (by walk_at "sq") (And.intro rfl ?_)))))))
  | refine Exists.intro _ (Exists.intro _ (Exists.intro _ (Exists.intro _ (And.intro rfl (And.intro rfl (And.intro (by walk_at "hp") (And.intro rfl ?_)))))))
  | refine And.intro (by walk_at "sd") ?_
  )
local macro_rules | `(tactic| walk_at "rd") => `(tactic| repeat walk_at "rd1")
local macro_rules | `(tactic| walk_at "lk") => `(tactic| first | exact rfl | (rw [lookup_putF, if_pos rfl]) | (rw [lookup_putF, if_neg (by decide +kernel)]; walk_at "lk"))

section
variable {P : Program} {w : World} {K : PySem.W.Frag} {mg : Str → Option Value} {base : Heap} {C0 XE FE DI XM FM XT FT DT XS XB BS AT RK : Addr}
/-- is_integer of a number, or of what is none -/
def spIsInt (K : PySem.W.Frag) : Sp := fun vs H Q _ => (∃ z lo hi : Int, vs = [.int z, .int lo, .int hi] ∧ Q (.bl (decide (lo ≤ z) && decide (z ≤ hi))) H) ∨ ∃ (v a b : V) (n : String), vs = [v, a, b] ∧ TyX K H v (.type n) ∧ n ∈ tys ∧ n ≠ "int" ∧ Q (.bl false) H
theorem isaB_int {n : String} (h : n ∈ tys) : isaB n "int" = (n == "int" || n == "bool") := by
  simp only [tys, List.mem_cons, List.not_mem_nil, or_false] at h
  rcases h with rfl | rfl | rfl | rfl | rfl | rfl | rfl <;> decide
theorem isaB_bool {n : String} (h : n ∈ tys) : isaB n "bool" = (n == "bool") := by
  simp only [tys, List.mem_cons, List.not_mem_nil, or_false] at h
  rcases h with rfl | rfl | rfl | rfl | rfl | rfl | rfl <;> decide
/-- BadText, BadRun: what __init__ keeps -/
def okAny : V → Prop := fun _ => True
theorem x_WrongThing (T : TxtX P K mg C0 w XE FE DI XM FM XT FT DT XS XB BS AT RK) : XiOk P w K mg base 1 FT (spX1 K DT "thing" okAny) := by
  obtain ⟨fd, SF, b⟩ := T.q_WrongThing.ex
  refine ⟨fd, _, fn_sup SF nsc_WrongThing rfl rfl (fun vs H Q E h => ?_) (fun cc cda A outer s H vs Q E hr h => ?_), b⟩
  · obtain ⟨a, C, v, rfl, _⟩ := h
    rfl
  · obtain ⟨a, C, v, rfl, o, sc, hno, ea, _, k⟩ := h
    refine ⟨_, _, _, (pa_cons pe_str pa_nil), (pss_cons (ps_ost (pv 0) (pv 1)) pss_nil), rfl, fun _ => rfl, rfl, ?_⟩
    refine ⟨a, C, _, rfl, o, sc, ea, ?_⟩
    refine ⟨by simp, ea, _, rfl, _, rfl, a, C, rfl, o, hno, .inl ⟨ea, fun dx n1 n2 => ?_⟩⟩
    exact k dx n1 n2
/-- BadRun: a small number -/
def okNum : V → Prop := fun v => ∃ i : Int, v = .int i ∧ -1 ≤ i ∧ i ≤ 1000
theorem num_short : ∀ n : Nat, n < 1002 → (Str.ofString (toString ((n : Int) - 1))).length ≤ 5 ∧ ((n : Int) - 1).natAbs.log2 < 1920 := by decide +kernel
theorem x_WrongItem (T : TxtX P K mg C0 w XE FE DI XM FM XT FT DT XS XB BS AT RK) : XiOk P w K mg base 1 FE (spX1 K DI "place" okNum) := by
  obtain ⟨fd, SF, b⟩ := T.q_WrongItem.ex
  refine ⟨fd, _, fn_sup SF nsc_WrongItem rfl rfl (fun vs H Q E h => ?_) (fun cc cda A outer s H vs Q E hr h => ?_), b⟩
  · obtain ⟨a, C, v, rfl, _⟩ := h
    rfl
  · obtain ⟨a, C, v, rfl, o, sc, hno, ea, ⟨i, rfl, h1, h2⟩, k⟩ := h
    refine ⟨_, _, _, (pa_cons (pe_op op_add_str (pe_op op_add_str pe_str (pe_callTy call_str_int (by rfl) T.b_str (by decide +kernel) (pa_cons (pv 1) pa_nil))) pe_str) pa_nil), (pss_cons (ps_ost (pv 0) (pv 1)) pss_nil), rfl, fun _ => rfl, rfl, ?_⟩
    refine ⟨a, C, _, rfl, o, sc, ea, ?_⟩
    obtain ⟨l5, lg⟩ := num_short (i + 1).toNat (by omega)
    rw [show (((i + 1).toNat : Nat) : Int) - 1 = i by omega] at l5 lg
    have hsl : (1100 : Nat) ≤ sizeLine := by decide
    have e1 : (Str.ofString "the thing at the place ").length = 23 := by decide
    have e2 : (Str.ofString " is wrong").length = 9 := by decide
    refine ⟨_, rfl, _, rfl, lg, _, _, rfl, rfl, by omega, _, _, rfl, rfl, ?_, ?_⟩
    · rw [PySem.Str.length_append, e1, e2]; omega
    refine ⟨by simp, ea, _, rfl, _, rfl, a, C, rfl, o, hno, .inl ⟨ea, fun dx n1 n2 => ?_⟩⟩
    exact k dx n1 n2
/-- TooMany: a short word -/
def okWord : V → Prop := fun v => ∃ s : Str, v = .str s ∧ s.length ≤ 1000
theorem x_TooMany (T : TxtX P K mg C0 w XE FE DI XM FM XT FT DT XS XB BS AT RK) : XiOk P w K mg base 1 FM (spX1 K XM "word" okWord) := by
  obtain ⟨fd, SF, b⟩ := T.q_TooMany.ex
  refine ⟨fd, _, fn_sup SF nsc_TooMany rfl rfl (fun vs H Q E h => ?_) (fun cc cda A outer s H vs Q E hr h => ?_), b⟩
  · obtain ⟨a, C, v, rfl, _⟩ := h
    rfl
  · obtain ⟨a, C, v, rfl, o, sc, hno, ea, ⟨s, rfl, hl⟩, k⟩ := h
    refine ⟨_, _, _, (pa_cons (pe_op op_add_str pe_str (pv 1)) pa_nil), (pss_cons (ps_ost (pv 0) (pv 1)) pss_nil), rfl, fun _ => rfl, rfl, ?_⟩
    refine ⟨a, C, _, rfl, o, sc, ea, ?_⟩
    have hsl : (1100 : Nat) ≤ sizeLine := by decide
    have e1 : (Str.ofString "too many, or too long: ").length = 23 := by decide
    refine ⟨_, rfl, _, _, rfl, rfl, ?_, ?_⟩
    · rw [e1]; omega
    refine ⟨by simp, ea, _, rfl, _, rfl, a, C, rfl, o, hno, .inl ⟨ea, fun dx n1 n2 => ?_⟩⟩
    exact k dx n1 n2
end
end Sh
set_option Elab.async false
set_option linter.all false
set_option maxRecDepth 100000
set_option maxHeartbeats 4000000
namespace Sh
open PySem PySem.Spec PyProof.Rows L2
open SX (S S_inj S_len S_cat)
local macro_rules | `(tactic| walk_at "nx") => `(tactic| repeat (with_reducible first | refine Sh.gn_mk ?_ | refine Sh.nx_mk ?_ | refine Sh.st_nx ?_ | refine Sh.rt_mk ?_ | refine Sh.ct_mk ?_ | refine Sh.bk_mk ?_))
local macro_rules | `(tactic| walk_at "sq") => `(tactic| first | exact SqL.of upd_same | exact SqT.of upd_same | exact SqL.of (by assumption) | exact SqT.of (by assumption) | assumption | exact Or.inl (SqL.of (by assumption)) | exact Or.inr (SqT.of (by assumption)) | exact Or.inl (by assumption) | exact Or.inr (by assumption))
local macro_rules | `(tactic| walk_at "hp") => `(tactic| first | exact upd_same | assumption)
local macro_rules | `(tactic| walk_at "sz") => `(tactic| first | exact Nat.le_of_ble_eq_true rfl | omega)
local macro_rules | `(tactic| walk_at "sd") => `(tactic| first | omega | exact rfl | assumption | (show (0 : Int) < _; omega) | exact And.intro (by omega) (by omega) | exact Or.inl (And.intro (by omega) (by omega)) | exact Or.inr (And.intro (by omega) (by omega)) | omega | exact Sh.sz_S (by omega) | decide)
local macro_rules | `(tactic| walk_at "rd1") => `(tactic| first
  | (with_reducible first | refine Sh.gn_mk ?_ | refine Sh.nx_mk ?_ | refine Sh.st_nx ?_ | refine Sh.rt_mk ?_ | refine Sh.ct_mk ?_ | refine Sh.bk_mk ?_)
  | refine Exists.intro (α := V) _ (And.intro rfl ?_)
  | refine Exists.intro (α := Bool) _ (And.intro rfl ?_)
  | refine Exists.intro (α := Int) _ (And.intro rfl ?_)
  | refine Exists.intro (α := PySem.Str) _ (And.intro rfl ?_)
  | refine Exists.intro (α := Int) _ (Exists.intro (α := Int) _ (And.intro rfl (And.intro rfl ?_)))
  | refine Exists.intro (α := PySem.Str) _ (Exists.intro (α := PySem.Str) _ (And.intro rfl (And.intro rfl ?_)))
  | refine Exists.intro (α := Int) _ (Exists.intro (α := Int) _ (And.intro rfl ?_))
  | refine Or.inl (Exists.intro (α := Int) _ (And.intro rfl ?_))
  | refine Exists.intro _ (Exists.intro _ (Exists.intro _ (Exists.intro _ (And.intro rfl (And.intro rfl (And.intro (by walk_at "sq") (And.intro rfl ?_)))))))
  | refine Exists.intro _ (Exists.intro _ (Exists.intro _ (Exists.intro _ (And.intro rfl (And.intro rfl (And.intro (by walk_at "hp") (And.intro rfl ?_)))))))
  | refine And.intro (by walk_at "sd") ?_
  )
local macro_rules | `(tactic| walk_at "rd") => `(tactic| repeat walk_at "rd1")
local macro_rules | `(tactic| walk_at "lk") => `(tactic| first | exact rfl | (rw [lookup_putF, if_pos rfl]) | (rw [lookup_putF, if_neg (by decide +kernel)]; walk_at "lk"))

section
variable {P : Program} {w : World} {K : PySem.W.Frag} {mg : Str → Option Value} {base : Heap} {C0 XE FE DI XM FM XT FT DT XS XB BS AT RK : Addr}
/-- check_signs of a text, or of what is none -/
def spSignsX (K : PySem.W.Frag) (XS : Addr) : Sp := fun vs H Q E => ∃ v, vs = [v] ∧ ((∃ sg, v = .str (S sg) ∧ sg.length ≤ 1000000 ∧ (isSigns sg = true → Q .non H) ∧ (isSigns sg = false → Thrown E H XS "thing" v)) ∨ (NotStr K H v ∧ Thrown E H XS "thing" v))
theorem c_X_check_signs (T : TxtX P K mg C0 w XE FE DI XM FM XT FT DT XS XB BS AT RK) : Cal P w K mg base (L2.CX P w) 3 "check_signs" (spSignsX K XS) := by
  have x_WrongThing := x_WrongThing (P := P) (w := w) (base := base) T
  have c_is_signs := c_is_signs (P := P) (w := w) (base := base) T.toTxtC.toTxt
  refine Cal.mkX T.toTxtC.toTxt.d_check_signs sc_check_signs (fun vs H Q E h => ?_) (fun f cdv A outer s H vs Q E hr h => ?_)
  · obtain ⟨v, rfl, _⟩ := h
    rfl
  · obtain ⟨v, rfl, h⟩ := h
    refine ⟨_, (pss_one (ps_if (pt_not (pt_truth (pe_c c_is_signs hr (by decide) rfl (pa_cons (pv 0) pa_nil)) (by intro _; rfl)))
    (pss_one (ps_raiseX T.e_BadSigns x_WrongThing hr (by decide) rfl (takes_of rfl rfl rfl rfl) rfl (pa_cons (pv 0) pa_nil)))
    pss_nil)), ?_⟩
    walk_at "rd"
    rcases h with ⟨sg, rfl, hl, k1, k2⟩ | ⟨hv, k2⟩
    · refine .inl ⟨sg, rfl, hl, ?_⟩
      cases e : isSigns sg with
      | true =>
        walk_at "rd"
        exact k1 e
      | false =>
        walk_at "rd"
        first | exact mk1 T.e_BadSigns T.nf_BadSigns_thing trivial (k2 e) | exact (mk1 T.e_BadSigns T.nf_BadSigns_thing trivial (k2 e)).2
    · refine .inr ⟨v, rfl, hv, ?_⟩
      walk_at "rd"
      first | exact mk1 T.e_BadSigns T.nf_BadSigns_thing trivial k2 | exact (mk1 T.e_BadSigns T.nf_BadSigns_thing trivial k2).2
end
end Sh
set_option Elab.async false
set_option linter.all false
set_option maxRecDepth 100000
set_option maxHeartbeats 4000000
namespace Sh
open PySem PySem.Spec PyProof.Rows L2
open SX (S S_inj S_len S_cat)
open Ex (Fs Op Tr Wd fb spl isAt isAng)
local macro_rules | `(tactic| walk_at "nx") => `(tactic| repeat (with_reducible first | refine Sh.gn_mk ?_ | refine Sh.nx_mk ?_ | refine Sh.st_nx ?_ | refine Sh.rt_mk ?_ | refine Sh.ct_mk ?_ | refine Sh.bk_mk ?_))
local macro_rules | `(tactic| walk_at "sq") => `(tactic| first | exact SqL.of upd_same | exact SqT.of upd_same | exact SqL.of (by assumption) | exact SqT.of (by assumption) | assumption | exact Or.inl (SqL.of (by assumption)) | exact Or.inr (SqT.of (by assumption)) | exact Or.inl (by assumption) | exact Or.inr (by assumption))
local macro_rules | `(tactic| walk_at "hp") => `(tactic| first | exact upd_same | assumption)
local macro_rules | `(tactic| walk_at "sz") => `(tactic| first | exact Nat.le_of_ble_eq_true rfl | omega)
local macro_rules | `(tactic| walk_at "sd") => `(tactic| first | omega | exact rfl | assumption | (show (0 : Int) < _; omega) | exact And.intro (by omega) (by omega) | exact Or.inl (And.intro (by omega) (by omega)) | exact Or.inr (And.intro (by omega) (by omega)) | omega | exact Sh.sz_S (by omega) | decide)
local macro_rules | `(tactic| walk_at "rd1") => `(tactic| first
  | (with_reducible first | refine Sh.gn_mk ?_ | refine Sh.nx_mk ?_ | refine Sh.st_nx ?_ | refine Sh.rt_mk ?_ | refine Sh.ct_mk ?_ | refine Sh.bk_mk ?_)
  | refine Exists.intro (α := V) _ (And.intro rfl ?_)
  | refine Exists.intro (α := Bool) _ (And.intro rfl ?_)
  | refine Exists.intro (α := Int) _ (And.intro rfl ?_)
  | refine Exists.intro (α := PySem.Str) _ (And.intro rfl ?_)
  | refine Exists.intro (α := Int) _ (Exists.intro (α := Int) _ (And.intro rfl (And.intro rfl ?_)))
  | refine Exists.intro (α := PySem.Str) _ (Exists.intro (α := PySem.Str) _ (And.intro rfl (And.intro rfl ?_)))
  | refine Exists.intro (α := Int) _ (Exists.intro (α := Int) _ (And.intro rfl ?_))
  | refine Or.inl (Exists.intro (α := Int) _ (And.intro rfl ?_))
  | refine Exists.intro _ (Exists.intro _ (Exists.intro _ (Exists.intro _ (And.intro rfl (And.intro rfl (And.intro (by walk_at "sq") (And.intro rfl ?_)))))))
  | refine Exists.intro _ (Exists.intro _ (Exists.intro _ (Exists.intro _ (And.intro rfl (And.intro rfl (And.intro (by walk_at "hp") (And.intro rfl ?_)))))))
  | refine And.intro (by walk_at "sd") ?_
  )
local macro_rules | `(tactic| walk_at "rd") => `(tactic| repeat walk_at "rd1")
local macro_rules | `(tactic| walk_at "lk") => `(tactic| first | exact rfl | (rw [lookup_putF, if_pos rfl]) | (rw [lookup_putF, if_neg (by decide +kernel)]; walk_at "lk"))

theorem tNil_mk {σ : L2.St} {H : Hp} {Q : List V → Hp → Prop} (h : Q [] H) : tNil σ H Q := h
def optV : Option Nat → V
  | none => .non
  | some k => .int (k : Nat)
def stS : Fs → Str
  | .want => "want"
  | .have => "have"
  | .ang c => S [c]
def Low (sg : List Nat) : Prop := ∀ c ∈ sg, 97 ≤ c ∧ c ≤ 122
section
variable {P : Program} {w : World} {K : PySem.W.Frag} {mg : Str → Option Value} {base : Heap} {C0 XE FE DI XM FM XT FT DT XS XB BS AT RK : Addr}
def spFb : Sp := fun vs H Q _ => ∃ sg t : List Nat, vs = [.str (S sg), .str (S t)] ∧ Low sg ∧ t.length ≤ 1000 ∧ Q (optV (fb sg 0 .want 0 t)) H
theorem c__law_first_bad (T : Txt K mg) : Cal P w K mg base CX0 1 "_law_first_bad" spFb := by
  refine Cal.mk0 T.d__law_first_bad sc__law_first_bad (fun vs H Q E h => ?_) (fun f cdv A outer s H vs Q E hr h => ?_)
  · obtain ⟨sg, t, rfl, _⟩ := h
    rfl
  · obtain ⟨sg, t, rfl, hs, hl, k⟩ := h
    have hSl := S_len t
    obtain ⟨An, hA⟩ : ∃ An, fb sg 0 .want 0 t = An := ⟨_, rfl⟩
    rw [hA] at k
    refine ⟨_, (pss_cons (ps_set (i := 2) sc__law_first_bad.nd rfl (Or.inl rfl) pe_str)
  (pss_cons (ps_set (i := 3) sc__law_first_bad.nd rfl (Or.inl rfl) pe_int)
  (pss_cons (ps_for PassesOwn.never rfl (pi_range1 (by rfl) T.b_range (pa_cons (pe_callB call_len_str (by rfl) T.b_len (by decide +kernel) (pa_cons (pv 1) pa_nil)) pa_nil)) (pg_name (i := 4) sc__law_first_bad.nd rfl (Or.inl rfl))
    (pss_cons (ps_set (i := 5) sc__law_first_bad.nd rfl (Or.inl rfl) (pe_ix ix_str (pv 1) (pv 4) (fun _ _ => rfl)))
    (pss_one (ps_if (PW.pt (pw_or (pt_cmpR op_in_sign (pv 5) (pv 0) (by rfl)) (pw_or1 (pt_cmpR op_in_sign (pv 5) pe_str (by rfl)))))
      (pss_one (ps_set (i := 2) sc__law_first_bad.nd rfl (Or.inl rfl) pe_str))
      (pss_one (ps_if (pt_cmpR op_eq (pv 5) pe_str (nomark _))
        (pss_cons (ps_set (i := 2) sc__law_first_bad.nd rfl (Or.inl rfl) pe_str)
        (pss_one (ps_set (i := 3) sc__law_first_bad.nd rfl (Or.inl rfl) (pe_op op_add (pv 3) pe_int))))
        (pss_one (ps_if (PW.pt (pw_and (pt_cmpR op_eq (pv 2) (pv 5) (nomark _)) (pw_and1 (pt_cmpR op_in_sign (pv 5) pe_str (by rfl)))))
          (pss_one (ps_set (i := 2) sc__law_first_bad.nd rfl (Or.inl rfl) pe_str))
          (pss_one (ps_if (pt_cmpR op_ne (pv 2) pe_str (nomark _))
            (pss_one (ps_ret (pv 4)))
            (pss_one (ps_if (pt_cmpR op_in_sign (pv 5) pe_str (by rfl))
              (pss_one (ps_set (i := 2) sc__law_first_bad.nd rfl (Or.inl rfl) pe_str))
              (pss_one (ps_if (pt_cmpR op_in_sign (pv 5) pe_str (by rfl))
                (pss_one (ps_set (i := 2) sc__law_first_bad.nd rfl (Or.inl rfl) (pv 5)))
                (pss_one (ps_if (PW.pt (pw_and (pt_cmpR op_eq (pv 5) pe_str (nomark _)) (pw_and1 (pt_cmpR op_gt (pv 3) pe_int (nomark _)))))
                  (pss_one (ps_set (i := 3) sc__law_first_bad.nd rfl (Or.inl rfl) (pe_op op_sub (pv 3) pe_int)))
                  (pss_one (ps_if (pt_cmpR op_ne (pv 5) pe_str (nomark _))
                    (pss_one (ps_ret (pv 4)))
                    pss_nil))))))))))))))))))
  (pss_one (ps_ret (pe_ifExp (PW.pt (pw_and (pt_cmpR op_eq (pv 2) pe_str (nomark _)) (pw_and1 (pt_cmpR op_eq (pv 3) pe_int (nomark _))))) pe_non (pe_callB call_len_str (by rfl) T.b_len (by decide +kernel) (pa_cons (pv 1) pa_nil)))))))), ?_⟩
    walk_at "nx"
    walk_at "nx"
    walk_at "rd"
    refine for_range (lo := 0) (n := (((S t).length : Nat) : Int).toNat) (fun i σ H2 => ∃ (st : Fs) (op : Nat) (v4 v5 : Option V), σ = [some (.str (S sg)), some (.str (S t)), some (.str (stS st)), some (.int (op : Nat)), v4, v5] ∧ H2 = H ∧ (∀ d, st = .ang d → isAng d = true) ∧ fb sg i st op (t.drop i) = An)
      ⟨.want, 0, _, _, rfl, rfl, fun d z => (by cases z), hA⟩ ?_ ?_
    · rintro i σ H2 hi ⟨st, op, v4, v5, rfl, rfl, hst, hfb⟩
      rw [Int.zero_add]
      have hit : i < t.length := by omega
      obtain ⟨c, hc⟩ : ∃ c, t[i]? = some c := ⟨t[i], by simp [hit]⟩
      have hdr : t.drop i = c :: t.drop (i + 1) := by
        rw [List.drop_eq_getElem_cons hit]
        congr 1
        exact (List.getElem?_eq_some_iff.mp hc).2
      rw [hdr] at hfb
      walk_at "nx"
      refine ⟨_, rfl, _, rfl, _, _, _, rfl, rfl, sz_S (t := t) (by omega), atI_nat hc, ?_⟩
      walk_at "nx"
      have hm : ∀ z : List Nat, decide (c ∈ (S z).cps.toList) = decide (c ∈ z) := fun z => rfl
      have eqs : ∀ z : Str, decide (V.str ⟨#[c]⟩ = V.str z) = decide (S [c] = z) := fun z => decide_eq_decide.mpr ⟨fun e => V.str.inj e, fun e => by rw [← e]⟩
      have eqc : ∀ d : Nat, decide (S [c] = S [d]) = decide (c = d) := fun d => decide_eq_decide.mpr ⟨fun e => by simpa using S_inj e, fun e => by rw [e]⟩
      have a10 : decide (c ∈ (Str.ofString "10.").cps.toList) = isAt c := by
        show decide (c ∈ [49, 48, 46]) = _
        unfold isAt
        rw [Bool.eq_iff_iff]
        simp [or_assoc]
      have aang : decide (c ∈ (Str.ofString "<>").cps.toList) = isAng c := by
        show decide (c ∈ [60, 62]) = _
        unfold isAng
        rw [Bool.eq_iff_iff]
        simp
      have aop : decide (c ∈ (Str.ofString "|&-").cps.toList) = decide (c = 124 ∨ c = 38 ∨ c = 45) := by
        show decide (c ∈ [124, 38, 45]) = _
        rw [Bool.eq_iff_iff]
        simp
      unfold fb at hfb
      refine if_K (decide (c ∈ sg ∨ isAt c = true)) (fun Q' hQ => ?_) (fun hb => ?_) (fun hb => ?_)
      · walk_at "rd"
        refine ⟨c, _, rfl, rfl, _, rfl, ?_⟩
        rw [hm]
        refine ite2 (fun m => ?_) (fun m => ?_)
        · rw [decide_eq_true (.inl (of_decide_eq_true m))] at hQ; exact hQ
        · walk_at "rd"
          refine ⟨c, _, rfl, rfl, _, rfl, ?_⟩
          rw [a10]
          have m' := of_decide_eq_false (Bool.not_eq_true _ ▸ m)
          have e : decide (c ∈ sg ∨ isAt c = true) = isAt c := by cases isAt c <;> simp [m']
          rw [e] at hQ
          exact hQ
      · have hb := of_decide_eq_true hb
        rw [if_pos hb] at hfb
        walk_at "nx"
        exact ⟨.have, op, _, _, rfl, rfl, fun d z => (by cases z), hfb⟩
      have hb := of_decide_eq_false hb
      rw [if_neg hb] at hfb
      refine if_K (decide (c = 40)) (fun Q' hQ => ?_) (fun h1 => ?_) (fun h1 => ?_)
      · walk_at "rd"
        rw [eqs, show Str.ofString "(" = S [40] from rfl, eqc]
        exact hQ
      · have h1 := of_decide_eq_true h1
        rw [if_pos h1] at hfb
        walk_at "nx"
        walk_at "rd"
        exact ⟨.want, op + 1, _, _, rfl, rfl, fun d z => (by cases z), hfb⟩
      have h1 := of_decide_eq_false h1
      rw [if_neg h1] at hfb
      have stang : decide (stS st = S [c]) = decide (st = .ang c) := by
        refine decide_eq_decide.mpr ⟨fun e => ?_, fun e => by rw [e]; rfl⟩
        cases st with
        | want => exact absurd (show 4 = 1 from congrArg Str.length e) (by decide)
        | «have» => exact absurd (show 4 = 1 from congrArg Str.length e) (by decide)
        | ang d => have := S_inj e; simp at this; rw [this]
      refine if_K (decide (st = .ang c)) (fun Q' hQ => ?_) (fun h2 => ?_) (fun h2 => ?_)
      · walk_at "rd"
        rw [show decide (V.str (stS st) = V.str ⟨#[c]⟩) = decide (stS st = S [c]) from decide_eq_decide.mpr ⟨fun e => V.str.inj e, fun e => by rw [e]⟩, stang]
        refine ite2 (fun m => ?_) (fun m => ?_)
        · walk_at "rd"
          refine ⟨c, _, rfl, rfl, _, rfl, ?_⟩
          rw [aang, hst c (of_decide_eq_true m), ← m]
          exact hQ
        · rw [Bool.not_eq_true] at m
          rw [← m]; exact hQ
      · have h2 := of_decide_eq_true h2
        rw [if_pos h2] at hfb
        walk_at "nx"
        exact ⟨.want, op, _, _, rfl, rfl, fun d z => (by cases z), hfb⟩
      have h2 := of_decide_eq_false h2
      rw [if_neg h2] at hfb
      refine if_K (decide (st ≠ .have)) (fun Q' hQ => ?_) (fun h3 => ?_) (fun h3 => ?_)
      · walk_at "rd"
        rw [show (!decide (V.str (stS st) = V.str (Str.ofString "have"))) = decide (st ≠ .have) by
          rw [← decide_not]
          refine decide_eq_decide.mpr (not_congr ⟨fun e => ?_, fun e => by rw [e]; rfl⟩)
          have e := V.str.inj e
          cases st with
          | want => exact absurd e (by decide)
          | «have» => rfl
          | ang d => exact absurd (show 1 = 4 from congrArg Str.length e) (by decide)]
        exact hQ
      · have h3 := of_decide_eq_true h3
        rw [if_pos h3] at hfb
        walk_at "rd"
        rw [← hfb] at k
        exact k
      have h3 : st = .have := Decidable.byContradiction fun z => of_decide_eq_false h3 z
      subst h3
      rw [if_neg (by simp)] at hfb
      refine if_K (decide (c = 124 ∨ c = 38 ∨ c = 45)) (fun Q' hQ => ?_) (fun h4 => ?_) (fun h4 => ?_)
      · walk_at "rd"
        refine ⟨c, _, rfl, rfl, _, rfl, ?_⟩
        rw [aop]
        exact hQ
      · rw [if_pos (of_decide_eq_true h4)] at hfb
        walk_at "nx"
        exact ⟨.want, op, _, _, rfl, rfl, fun d z => (by cases z), hfb⟩
      rw [if_neg (of_decide_eq_false h4)] at hfb
      refine if_K (isAng c) (fun Q' hQ => ?_) (fun h5 => ?_) (fun h5 => ?_)
      · walk_at "rd"
        refine ⟨c, _, rfl, rfl, _, rfl, ?_⟩
        rw [aang]
        exact hQ
      · rw [if_pos h5] at hfb
        walk_at "rd"
        exact ⟨.ang c, op, _, _, rfl, rfl, fun d z => (by injection z with z; rw [← z]; exact h5), hfb⟩
      rw [if_neg (by rw [h5]; simp)] at hfb
      refine if_K (decide (c = 41 ∧ 0 < op)) (fun Q' hQ => ?_) (fun h6 => ?_) (fun h6 => ?_)
      · walk_at "rd"
        rw [eqs, show Str.ofString ")" = S [41] from rfl, eqc]
        refine ite2 (fun m => ?_) (fun m => ?_)
        · walk_at "rd"
          have m' := of_decide_eq_true m
          refine q_of hQ ?_
          refine decide_eq_decide.mpr ⟨fun z => ⟨m', by omega⟩, fun z => by omega⟩
        · have m' := of_decide_eq_false ((Bool.not_eq_true _).mp m)
          refine q_of hQ ?_
          exact (decide_eq_false fun z => m' z.1).symm
      · have h6 := of_decide_eq_true h6
        rw [if_pos h6] at hfb
        walk_at "nx"
        walk_at "rd"
        refine ⟨.have, op - 1, some (.int (i : Nat)), some (.str ⟨#[c]⟩), ?_, rfl, fun d z => (by cases z), hfb⟩
        show [some (V.str (S sg)), some (V.str (S t)), some (V.str (stS Fs.have)), some (V.int (((op : Nat) : Int) - 1)), some (.int (i : Nat)), some (.str ⟨#[c]⟩)] = _
        rw [show ((op : Nat) : Int) - 1 = ((op - 1 : Nat) : Int) by omega]
      rw [if_neg (of_decide_eq_false h6)] at hfb
      refine if_K (decide (c ≠ 42)) (fun Q' hQ => ?_) (fun h7 => ?_) (fun h7 => ?_)
      · walk_at "rd"
        rw [eqs, show Str.ofString "*" = S [42] from rfl, eqc, ← decide_not]
        exact hQ
      · rw [if_pos (of_decide_eq_true h7)] at hfb
        walk_at "rd"
        rw [← hfb] at k
        exact k
      · rw [if_neg (of_decide_eq_false h7)] at hfb
        walk_at "nx"
        exact ⟨.have, op, _, _, rfl, rfl, fun d z => (by cases z), hfb⟩
    · rintro σ H2 ⟨st, op, v4, v5, rfl, rfl, hst, hfb⟩
      have e : t.drop (((S t).length : Nat) : Int).toNat = [] := by rw [List.drop_eq_nil_iff]; omega
      rw [e] at hfb
      unfold fb at hfb
      walk_at "rd"
      have sh : decide (V.str (stS st) = V.str (Str.ofString "have")) = decide (st = .have) := by
        refine decide_eq_decide.mpr ⟨fun e => ?_, fun e => by rw [e]; rfl⟩
        have e := V.str.inj e
        cases st with
        | want => exact absurd e (by decide)
        | «have» => rfl
        | ang d => exact absurd (show 1 = 4 from congrArg Str.length e) (by decide)
      have fin : (¬ (st = .have ∧ op = 0)) → tCB (fun xs H Q => ∃ z, xs = [V.str z] ∧ z.length ≤ sizeLine ∧ Q (V.int ↑z.length) H) (tCons (tVar 1) tNil) [some (V.str (S sg)), some (V.str (S t)), some (V.str (stS st)), some (V.int ↑op), v4, v5] H2 Q := by
        intro z
        rw [if_neg z] at hfb
        refine ⟨_, rfl, S t, rfl, sz_S (t := t) (by omega), ?_⟩
        rw [← hfb] at k
        have k : Q (.int (((((S t).length : Nat) : Int).toNat : Nat) : Int)) H2 := k
        rw [Int.toNat_natCast] at k
        exact k
      rw [sh]
      refine ite2 (fun m => ?_) (fun m => ?_)
      · walk_at "rd"
        refine ite2 (fun m2 => ?_) (fun m2 => ?_)
        · have m' := of_decide_eq_true m
          have m2' : op = 0 := by have := V.int.inj (of_decide_eq_true m2); omega
          rw [if_pos ⟨m', m2'⟩] at hfb
          rw [← hfb] at k
          exact k
        · refine fin fun z => ?_
          rw [z.2] at m2
          exact absurd m2 (by decide)
      · exact fin fun z => by rw [decide_eq_true z.1] at m; exact absurd rfl m
end
end Sh
set_option Elab.async false
set_option linter.all false
set_option maxRecDepth 100000
set_option maxHeartbeats 4000000
namespace Sh
open PySem PySem.Spec PyProof.Rows L2
open SX (S S_inj S_len S_cat)
open Ex (Fs Op Tr Wd fb spl isAt isAng fst binOf dbl)
local macro_rules | `(tactic| walk_at "nx") => `(tactic| repeat (with_reducible first | refine Sh.gn_mk ?_ | refine Sh.nx_mk ?_ | refine Sh.st_nx ?_ | refine Sh.rt_mk ?_ | refine Sh.ct_mk ?_ | refine Sh.bk_mk ?_))
local macro_rules | `(tactic| walk_at "sq") => `(tactic| first | exact SqL.of upd_same | exact SqT.of upd_same | exact SqL.of (by assumption) | exact SqT.of (by assumption) | assumption | exact Or.inl (SqL.of (by assumption)) | exact Or.inr (SqT.of (by assumption)) | exact Or.inl (by assumption) | exact Or.inr (by assumption))
local macro_rules | `(tactic| walk_at "hp") => `(tactic| first | exact upd_same | assumption)
local macro_rules | `(tactic| walk_at "sz") => `(tactic| first | exact Nat.le_of_ble_eq_true rfl | omega)
local macro_rules | `(tactic| walk_at "sd") => `(tactic| first | omega | exact rfl | assumption | (show (0 : Int) < _; omega) | exact And.intro (by omega) (by omega) | exact Or.inl (And.intro (by omega) (by omega)) | exact Or.inr (And.intro (by omega) (by omega)) | omega | exact Sh.sz_S (by omega) | decide)
local macro_rules | `(tactic| walk_at "rd1") => `(tactic| first
  | (with_reducible first | refine Sh.gn_mk ?_ | refine Sh.nx_mk ?_ | refine Sh.st_nx ?_ | refine Sh.rt_mk ?_ | refine Sh.ct_mk ?_ | refine Sh.bk_mk ?_)
  | refine Exists.intro (α := V) _ (And.intro rfl ?_)
  | refine Exists.intro (α := Bool) _ (And.intro rfl ?_)
  | refine Exists.intro (α := Int) _ (And.intro rfl ?_)
  | refine Exists.intro (α := PySem.Str) _ (And.intro rfl ?_)
  | refine Exists.intro (α := Int) _ (Exists.intro (α := Int) _ (And.intro rfl (And.intro rfl ?_)))
  | refine Exists.intro (α := PySem.Str) _ (Exists.intro (α := PySem.Str) _ (And.intro rfl (And.intro rfl ?_)))
  | refine Exists.intro (α := Int) _ (Exists.intro (α := Int) _ (And.intro rfl ?_))
  | refine Or.inl (Exists.intro (α := Int) _ (And.intro rfl ?_))
  | refine Exists.intro _ (Exists.intro _ (Exists.intro _ (Exists.intro _ (And.intro rfl (And.intro rfl (And.intro (by walk_at "sq") (And.intro rfl ?_)))))))
  | refine Exists.intro _ (Exists.intro _ (Exists.intro _ (Exists.intro _ (And.intro rfl (And.intro rfl (And.intro (by walk_at "hp") (And.intro rfl ?_)))))))
  | refine And.intro (by walk_at "sd") ?_
  )
local macro_rules | `(tactic| walk_at "rd") => `(tactic| repeat walk_at "rd1")
local macro_rules | `(tactic| walk_at "lk") => `(tactic| first | exact rfl | (rw [lookup_putF, if_pos rfl]) | (rw [lookup_putF, if_neg (by decide +kernel)]; walk_at "lk"))

def wS : Wd → Str
  | .sg c => S [c]
  | .at c => S [c]
  | .opn => "("
  | .cls => ")"
  | .str => "*"
  | .op o => opS o
def wdV (w : Wd) : V := .str (wS w)
theorem in_atoms (c : Nat) : inV (V.str ⟨#[c]⟩) [V.str (Str.ofString "1"), V.str (Str.ofString "0"), V.str (Str.ofString ".")] = isAt c := by
  have e : ∀ d : Nat, eqV (V.str (S [d])) (V.str (S [c])) = (c == d) := fun d => by
    show (S [d] == S [c]) = (c == d)
    rw [Bool.eq_iff_iff, beq_iff_eq, beq_iff_eq]
    exact ⟨fun z => by have := S_inj z; simp at this; exact this.symm, fun z => by rw [z]⟩
  show (eqV (V.str (S [49])) (V.str (S [c])) || (eqV (V.str (S [48])) (V.str (S [c])) || (eqV (V.str (S [46])) (V.str (S [c])) || false))) = _
  rw [e, e, e]
  unfold isAt
  rw [Bool.or_false, Bool.or_assoc]
section
variable {P : Program} {w : World} {K : PySem.W.Frag} {mg : Str → Option Value} {base : Heap} {C0 XE FE DI XM FM XT FT DT XS XB BS AT RK : Addr}
def spSplit (XE : Addr) : Sp := fun vs H Q E => ∃ sg t : List Nat, vs = [.str (S sg), .str (S t)] ∧ Low sg ∧ t.length ≤ 400 ∧
  (∀ p, spl sg 0 0 true t = .error p → ∀ H', Same H H' → Thrown E H' XE "place" (.int (p : Nat))) ∧ (∀ ws, spl sg 0 0 true t = .ok ws → ∀ p H', Same H H' → H' p = some (.lst (ws.map wdV)) → Q (.ref p) H')
theorem c_X_split_up (T : TxtX P K mg C0 w XE FE DI XM FM XT FT DT XS XB BS AT RK) : Cal P w K mg base (L2.CX P w) 3 "split_up" (spSplit XE) := by
  have x_WrongItem := x_WrongItem (P := P) (w := w) (base := base) T
  refine Cal.mkX T.toTxtC.toTxt.d_split_up sc_split_up (fun vs H Q E h => ?_) (fun f cdv A outer s H vs Q E hr h => ?_)
  · obtain ⟨sg, t, rfl, _⟩ := h
    rfl
  · obtain ⟨sg, t, rfl, hs, hl, kE, kQ⟩ := h
    have hSl := S_len t
    obtain ⟨An, hA⟩ : ∃ An, spl sg 0 0 true t = An := ⟨_, rfl⟩
    rw [hA] at kE kQ
    refine ⟨_, (pss_cons (ps_set (i := 2) sc_split_up.nd rfl (Or.inl rfl) (pe_lst pa_nil))
  (pss_cons (ps_set (i := 3) sc_split_up.nd rfl (Or.inl rfl) pe_int)
  (pss_cons (ps_set (i := 4) sc_split_up.nd rfl (Or.inl rfl) pe_bl)
  (pss_cons (ps_set (i := 5) sc_split_up.nd rfl (Or.inl rfl) pe_int)
  (pss_cons (ps_while (passes_of rfl) (pt_cmpR op_lt (pv 5) (pe_callB call_len_str (by rfl) T.b_len (by decide +kernel) (pa_cons (pv 1) pa_nil)) (nomark _))
    (pss_cons (ps_set (i := 6) sc_split_up.nd rfl (Or.inl rfl) (pe_ix ix_str (pv 1) (pv 5) (fun _ _ => rfl)))
    (pss_cons (ps_if (PW.pt (pw_or (pt_cmpR op_in_sign (pv 6) (pv 0) (by rfl)) (pw_or (pt_cmpR op_in_seq (pv 6) (pe_gK rfl T.g_ATOMS) (by rfl)) (pw_or1 (pt_cmpR op_eq (pv 6) pe_str (nomark _))))))
      (pss_cons (ps_if (pt_not (pt_val (pv 4)))
        (pss_one (ps_expr (pe_bm PySem.F.plainAttrs_list PySem.F.slot_list_append PySem.F.type_list_append mt_append (pv 2) (pa_cons pe_str pa_nil))))
        pss_nil)
      (pss_cons (ps_expr (pe_bm PySem.F.plainAttrs_list PySem.F.slot_list_append PySem.F.type_list_append mt_append (pv 2) (pa_cons (pv 6) pa_nil)))
      (pss_cons (ps_set (i := 4) sc_split_up.nd rfl (Or.inl rfl) (pe_cmpR op_eq (pv 6) pe_str (nomark _)))
      (pss_one (ps_aug (i := 3) sc_split_up.nd rfl (Or.inl rfl) (pe_ifExp (pt_cmpR op_eq (pv 6) pe_str (nomark _)) pe_int pe_int) ip_add)))))
      (pss_one (ps_if (PW.pt (pw_or (pt_val (pv 4)) (pw_or (pt_cmpR op_notIn_sign (pv 6) pe_str (by rfl)) (pw_or1 (PW.pt (pw_and (pt_cmpR op_eq (pv 6) pe_str (nomark _)) (pw_and1 (pt_cmpR op_eq (pv 3) pe_int (nomark _)))))))))
        (pss_one (ps_raiseX T.e_BadExpression x_WrongItem hr (by decide) rfl (takes_of rfl rfl rfl rfl) rfl (pa_cons (pv 5) pa_nil)))
        (pss_one (ps_if (PW.pt (pw_or (pt_cmpR op_eq (pv 6) pe_str (nomark _)) (pw_or1 (pt_cmpR op_eq (pv 6) pe_str (nomark _)))))
          (pss_cons (ps_expr (pe_bm PySem.F.plainAttrs_list PySem.F.slot_list_append PySem.F.type_list_append mt_append (pv 2) (pa_cons (pv 6) pa_nil)))
          (pss_one (ps_aug (i := 3) sc_split_up.nd rfl (Or.inl rfl) (pe_ifExp (pt_cmpR op_eq (pv 6) pe_str (nomark _)) pe_int pe_int) ip_sub)))
          (pss_cons (ps_set (i := 7) sc_split_up.nd rfl (Or.inl rfl) (pe_and (pe_cmpR op_in_sign (pv 6) pe_str (by rfl)) (pe_one (pe_cmpR op_eq (pe_slice sl_str (pv 1) (po_some (pe_op op_add (pv 5) pe_int)) (po_some (pe_op op_add (pv 5) pe_int))) (pv 6) (nomark _)))))
          (pss_cons (ps_expr (pe_bm PySem.F.plainAttrs_list PySem.F.slot_list_append PySem.F.type_list_append mt_append (pv 2) (pa_cons (pe_ifExp (pt_val (pv 7)) (pe_op op_add_str (pv 6) (pv 6)) (pv 6)) pa_nil)))
          (pss_cons (ps_set (i := 4) sc_split_up.nd rfl (Or.inl rfl) pe_bl)
          (pss_one (ps_aug (i := 5) sc_split_up.nd rfl (Or.inl rfl) (pe_ifExp (pt_val (pv 7)) pe_int pe_int) ip_add))))))))))
    (pss_one (ps_aug (i := 5) sc_split_up.nd rfl (Or.inl rfl) pe_int ip_add)))))
  (pss_cons (ps_if (PW.pt (pw_or (pt_val (pv 4)) (pw_or1 (pt_cmpR op_gt (pv 3) pe_int (nomark _)))))
    (pss_one (ps_raiseX T.e_BadExpression x_WrongItem hr (by decide) rfl (takes_of rfl rfl rfl rfl) rfl (pa_cons (pe_callB call_len_str (by rfl) T.b_len (by decide +kernel) (pa_cons (pv 1) pa_nil)) pa_nil)))
    pss_nil)
  (pss_one (ps_ret (pv 2))))))))), ?_⟩
    walk_at "nx"
    refine ⟨by walk_at "sz", fun D hD => ?_⟩
    have s1 := same_new (o := .lst []) hD
    have e1 : (upd H D (.lst [])) D = some (.lst []) := upd_same
    generalize upd H D (.lst []) = H1 at s1 e1 ⊢
    walk_at "nx"
    walk_at "nx"
    walk_at "nx"
    refine ⟨fun mm σ H2 => ∃ (pre : List Wd) (op i : Nat) (want : Bool) (v6 v7 : Option V), mm + i = t.length ∧ σ = [some (.str (S sg)), some (.str (S t)), some (.ref D), some (.int (op : Nat)), some (.bl want), some (.int (i : Nat)), v6, v7] ∧ Same H H2 ∧ H2 D = some (.lst (pre.map wdV)) ∧ pre.length ≤ 2 * i ∧ Ex.R.app pre (spl sg i op want (t.drop i)) = An,
      ⟨t.length, [], 0, 0, true, _, _, by omega, rfl, s1, e1, Nat.zero_le _, by rw [← hA]; show Ex.R.app [] (spl sg 0 0 true t) = _; cases spl sg 0 0 true t <;> rfl⟩, ?_⟩
    rintro mm σ H2 ⟨pre, op, i, want, v6, v7, hmm, rfl, s2, h2, hpl, hAn⟩
    walk_at "rd"
    have appw : ∀ (w : Wd) (x : Ex.R), Ex.R.app pre (Ex.R.cons w x) = Ex.R.app (pre ++ [w]) x := fun w x => by rw [Ex.R.cons_app, Ex.R.app_app]
    have thr : ∀ p, Ex.R.app pre (.error p) = An → (∀ H', Same H H' → Thrown E H' XE "place" (.int (p : Nat))) ∧ p ≤ t.length := fun p e => by
      have e : (Except.error p : Ex.R) = An := e
      refine ⟨kE p e.symm, ?_⟩
      have := Ex.spl_err t.length t (Nat.le_refl _) 0 0 true p (by rw [hA, ← e])
      omega
    have okn : ∀ p : Nat, p ≤ t.length → okNum (.int (p : Nat)) := fun p hp => ⟨p, rfl, by omega, by omega⟩
    by_cases hi : i < t.length
    rotate_left
    · have hdr : t.drop i = [] := by rw [List.drop_eq_nil_iff]; omega
      have hil : i = t.length := by omega
      rw [hdr, spl] at hAn
      rw [decide_eq_false (show ¬ (((i : Nat) : Int) < (((S t).length : Nat) : Int)) by omega)]
      refine iteF ?_
      walk_at "nx"
      refine if_K (want || decide (0 < op)) (fun Q' hQ => ?_) (fun hb => ?_) (fun hb => ?_)
      · walk_at "rd"
        cases want with
        | true => exact hQ
        | false =>
          walk_at "rd"
          rw [show decide ((0 : Int) < ((op : Nat) : Int)) = decide (0 < op) from decide_eq_decide.mpr (by omega)]
          exact hQ
      · have hz : want = true ∨ 0 < op := by simpa using hb
        rw [if_pos hz] at hAn
        obtain ⟨th, hp⟩ := thr _ hAn
        walk_at "rd"
        rw [show ((i : Nat) : Int) = (((S t).length : Nat) : Int) by omega] at th
        first | exact mk1 T.e_BadExpression T.nf_BadExpression_place (okn _ (by omega)) (th _ s2) | exact (mk1 T.e_BadExpression T.nf_BadExpression_place (okn _ (by omega)) (th _ s2)).2
      · have hz : ¬ (want = true ∨ 0 < op) := by simpa using hb
        rw [if_neg hz] at hAn
        have e : (.ok pre : Ex.R) = An := by rw [← hAn]; simp [Ex.R.app]
        walk_at "rd"
        exact kQ pre e.symm D H2 s2 h2
    obtain ⟨c, hc⟩ : ∃ c, t[i]? = some c := ⟨t[i], by simp [hi]⟩
    have hdr : t.drop i = c :: t.drop (i + 1) := by
      rw [List.drop_eq_getElem_cons hi]
      congr 1
      exact (List.getElem?_eq_some_iff.mp hc).2
    rw [hdr, spl] at hAn
    rw [decide_eq_true (show (((i : Nat) : Int) < (((S t).length : Nat) : Int)) by omega)]
    refine iteT ⟨fun σ H3 => ∃ (pre : List Wd) (op i' : Nat) (want : Bool) (v6 v7 : Option V), i < i' ∧ i' ≤ t.length ∧ σ = [some (.str (S sg)), some (.str (S t)), some (.ref D), some (.int (op : Nat)), some (.bl want), some (.int (i' : Nat)), v6, v7] ∧ Same H H3 ∧ H3 D = some (.lst (pre.map wdV)) ∧ pre.length ≤ 2 * i' ∧ Ex.R.app pre (spl sg i' op want (t.drop i')) = An,
      fun σ H3 ⟨pre, op, i', want, v6, v7, a1, a2, a3⟩ => ⟨t.length - i', by omega, pre, op, i', want, v6, v7, by omega, a3⟩, ?_⟩
    have hm : ∀ z : List Nat, decide (c ∈ (S z).cps.toList) = decide (c ∈ z) := fun z => rfl
    have eqs : ∀ z : Str, decide (V.str ⟨#[c]⟩ = V.str z) = decide (S [c] = z) := fun z => decide_eq_decide.mpr ⟨fun e => V.str.inj e, fun e => by rw [← e]⟩
    have eqc : ∀ d : Nat, decide (S [c] = S [d]) = decide (c = d) := fun d => decide_eq_decide.mpr ⟨fun e => by simpa using S_inj e, fun e => by rw [e]⟩
    have aang : decide (c ∈ (Str.ofString "<>").cps.toList) = isAng c := by
      show decide (c ∈ [60, 62]) = _
      unfold isAng
      rw [Bool.eq_iff_iff]
      simp
    have aall : decide (c ∈ (Str.ofString "|&-<>*)").cps.toList) = decide (c = 124 ∨ c = 38 ∨ c = 45 ∨ c = 60 ∨ c = 62 ∨ c = 42 ∨ c = 41) := by
      show decide (c ∈ [124, 38, 45, 60, 62, 42, 41]) = _
      rw [Bool.eq_iff_iff]
      simp
    walk_at "nx"
    refine ⟨_, rfl, _, rfl, _, _, _, rfl, rfl, sz_S (t := t) (by omega), atI_nat hc, ?_⟩
    walk_at "nx"
    refine st_J (fun σ H3 => ∃ (pre : List Wd) (op j : Nat) (want : Bool) (v7 : Option V), i ≤ j ∧ j + 1 ≤ t.length ∧ σ = [some (.str (S sg)), some (.str (S t)), some (.ref D), some (.int (op : Nat)), some (.bl want), some (.int (j : Nat)), some (.str ⟨#[c]⟩), v7] ∧ Same H H3 ∧ H3 D = some (.lst (pre.map wdV)) ∧ pre.length ≤ 2 * (j + 1) ∧ Ex.R.app pre (spl sg (j + 1) op want (t.drop (j + 1))) = An) (fun N hN => ?_) (fun σ H3 hv => ?_)
    rotate_left
    · obtain ⟨pre, op, j, want, v7, hij, hj, rfl, s3, h3, hp3, hA3⟩ := hv
      walk_at "rd"
      exact ⟨pre, op, j + 1, want, _, v7, by omega, hj, rfl, s3, h3, hp3, hA3⟩
    refine if_K (fst sg c).isSome (fun Q' hQ => ?_) (fun hb => ?_) (fun hb => ?_)
    · have fe : (fst sg c).isSome = (decide (c ∈ sg) || (isAt c || decide (c = 40))) := by
        unfold fst
        by_cases h1 : c ∈ sg
        · rw [if_pos h1, decide_eq_true h1]; rfl
        · rw [if_neg h1, decide_eq_false h1]
          cases h2 : isAt c with
          | true => rfl
          | false =>
            rw [if_neg (by simp)]
            by_cases h3 : c = 40
            · rw [if_pos h3, decide_eq_true h3]; rfl
            · rw [if_neg h3, decide_eq_false h3]; rfl
      rw [fe] at hQ
      walk_at "rd"
      refine ⟨c, _, rfl, rfl, _, rfl, ?_⟩
      rw [hm]
      refine ite2 (fun m => ?_) (fun m => ?_)
      · rw [m] at hQ; exact hQ
      · rw [Bool.not_eq_true] at m
        rw [m, Bool.false_or] at hQ
        walk_at "rd"
        refine ⟨AT, _, rfl, .inr (T.s_ATOMS _), rfl, rfl, ?_⟩
        refine ⟨_, rfl, ?_⟩
        rw [if_neg Bool.false_ne_true, in_atoms]
        refine ite2 (fun m2 => ?_) (fun m2 => ?_)
        · rw [m2] at hQ; exact hQ
        · rw [Bool.not_eq_true] at m2
          rw [m2, Bool.false_or] at hQ
          walk_at "rd"
          rw [eqs, show Str.ofString "(" = S [40] from rfl, eqc]
          exact hQ
    · obtain ⟨w0, hf⟩ := Option.isSome_iff_exists.mp hb
      rw [hf] at hAn
      dsimp only at hAn
      have hwv : wdV w0 = .str ⟨#[c]⟩ ∧ (w0 = .opn ↔ c = 40) := by
        unfold fst at hf
        split at hf
        · injection hf with hf; subst hf
          next hm => exact ⟨rfl, ⟨fun z => (by cases z), fun z => by have := hs c hm; omega⟩⟩
        · split at hf
          · injection hf with hf; subst hf
            next hm => exact ⟨rfl, ⟨fun z => (by cases z), fun z => by subst z; exact absurd hm (by decide)⟩⟩
          · split at hf
            · injection hf with hf; subst hf
              next hm => subst hm; exact ⟨rfl, ⟨fun _ => rfl, fun _ => rfl⟩⟩
            · cases hf
      have dec : decide (V.str ⟨#[c]⟩ = V.str (Str.ofString "(")) = decide (w0 = .opn) := by
        rw [eqs, show Str.ofString "(" = S [40] from rfl, eqc]
        exact decide_eq_decide.mpr hwv.2.symm
      refine st_J (fun σ H3 => ∃ pre : List Wd, σ = [some (.str (S sg)), some (.str (S t)), some (.ref D), some (.int (op : Nat)), some (.bl want), some (.int (i : Nat)), some (.str ⟨#[c]⟩), v7] ∧ Same H H3 ∧ H3 D = some (.lst (pre.map wdV)) ∧ pre.length ≤ 2 * i + 1 ∧ Ex.R.app pre (Ex.R.cons w0 (spl sg (i + 1) (if w0 = .opn then op + 1 else op) (decide (w0 = .opn)) (t.drop (i + 1)))) = An) (fun N2 hN2 => ?_) (fun σ H3 hv => ?_)
      · cases want with
        | true =>
          walk_at "rd"
          rw [if_pos rfl] at hAn
          exact hN2 _ _ ⟨pre, rfl, s2, h2, by omega, hAn⟩
        | false =>
          rw [if_neg (by simp), appw] at hAn
          walk_at "rd"
          refine ⟨.inl ⟨rfl, _, SqL.of h2⟩, ?_⟩
          refine ⟨D, _, _, rfl, rfl, h2, by rw [List.length_map]; exact Nat.lt_of_le_of_lt (m := 1000) (by omega) (by decide), ?_⟩
          refine hN2 _ _ ⟨pre ++ [.op .row], rfl, same_mut s2 hD, by rw [upd_same, List.map_append]; rfl, by simp; omega, hAn⟩
      obtain ⟨pre, rfl, s3, h3, hp3, hA3⟩ := hv
      rw [Ex.R.cons_app, Ex.R.app_app] at hA3
      walk_at "rd"
      refine ⟨.inl ⟨rfl, _, SqL.of h3⟩, ?_⟩
      refine ⟨_, rfl, ?_⟩
      refine tNil_mk ?_
      refine ⟨D, _, _, rfl, rfl, h3, by rw [List.length_map]; exact Nat.lt_of_le_of_lt (m := 1000) (by omega) (by decide), ?_⟩
      walk_at "nx"
      walk_at "rd"
      rw [dec]
      refine ite2 (fun m => ?_) (fun m => ?_)
      · have m' := of_decide_eq_true m
        rw [if_pos m', m] at hA3
        walk_at "rd"
        refine hN _ _ ⟨pre ++ [w0], op + 1, i, true, v7, Nat.le_refl _, hi, ?_, same_mut s3 hD, by rw [upd_same, List.map_append, ← hwv.1]; rfl, by simp; omega, hA3⟩
        rw [m]; rfl
      · rw [Bool.not_eq_true] at m
        rw [if_neg (of_decide_eq_false m), m] at hA3
        walk_at "rd"
        refine hN _ _ ⟨pre ++ [w0], op, i, false, v7, Nat.le_refl _, hi, ?_, same_mut s3 hD, by rw [upd_same, List.map_append, ← hwv.1]; rfl, by simp; omega, hA3⟩
        rw [m]
        show [some (V.str (S sg)), some (V.str (S t)), some (V.ref D), some (V.int (((op : Nat) : Int) + 0)), some (V.bl false), some (V.int ((i : Nat) : Int)), some (V.str ⟨#[c]⟩), v7] = _
        rw [Int.add_zero]
    have hf : fst sg c = none := by
      cases e : fst sg c with
      | none => rfl
      | some w0 => rw [e] at hb; cases hb
    rw [hf] at hAn
    dsimp only at hAn
    obtain ⟨hn1, hn40⟩ := Ex.fst_none hs hf
    refine if_K (want || (!decide (c = 124 ∨ c = 38 ∨ c = 45 ∨ c = 60 ∨ c = 62 ∨ c = 42 ∨ c = 41) || (decide (c = 41) && decide (op = 0)))) (fun Q' hQ => ?_) (fun h1 => ?_) (fun h1 => ?_)
    · walk_at "rd"
      cases want with
      | true => exact hQ
      | false =>
        rw [Bool.false_or] at hQ
        walk_at "rd"
        refine ⟨c, _, rfl, rfl, _, rfl, ?_⟩
        rw [aall]
        refine ite2 (fun m => ?_) (fun m => ?_)
        · rw [m] at hQ; exact hQ
        · rw [Bool.not_eq_true] at m
          rw [m, Bool.false_or] at hQ
          walk_at "rd"
          rw [eqs, show Str.ofString ")" = S [41] from rfl, eqc]
          refine ite2 (fun m2 => ?_) (fun m2 => ?_)
          · rw [m2, Bool.true_and] at hQ
            walk_at "rd"
            rw [show decide (V.int ((op : Nat) : Int) = V.int 0) = decide (op = 0) from decide_eq_decide.mpr ⟨fun z => by have := V.int.inj z; omega, fun z => by rw [z]; rfl⟩]
            exact hQ
          · rw [Bool.not_eq_true] at m2
            rw [m2, Bool.false_and] at hQ
            exact hQ
    · have herr : Ex.R.app pre (.error i) = An := by
        rw [← hAn]
        congr 1
        cases want with
        | true => rw [if_pos rfl]
        | false =>
          rw [if_neg (by simp)]
          by_cases c1 : c = 42
          · subst c1; simp at h1
          · rw [if_neg c1]
            by_cases c2 : c = 41
            · subst c2
              simp at h1
              rw [if_pos rfl, if_pos h1]
            · rw [if_neg c2]
              have : binOf c = none := by
                simp [c1, c2] at h1
                unfold binOf
                rw [if_neg h1.1, if_neg h1.2.1, if_neg h1.2.2.1, if_neg h1.2.2.2.2, if_neg h1.2.2.2.1]
              rw [this]
      obtain ⟨th, hp⟩ := thr _ herr
      walk_at "rd"
      first | exact mk1 T.e_BadExpression T.nf_BadExpression_place (okn _ (by omega)) (th _ s2) | exact (mk1 T.e_BadExpression T.nf_BadExpression_place (okn _ (by omega)) (th _ s2)).2
    have hw : want = false := by
      cases want with
      | false => rfl
      | true => simp at h1
    subst hw
    rw [if_neg (by simp)] at hAn
    rw [Bool.false_or, Bool.or_eq_false_iff] at h1
    obtain ⟨h1a, h1b⟩ := h1
    have h1a : c = 124 ∨ c = 38 ∨ c = 45 ∨ c = 60 ∨ c = 62 ∨ c = 42 ∨ c = 41 := Decidable.byContradiction fun z => by rw [decide_eq_false z] at h1a; cases h1a
    refine if_K (decide (c = 42 ∨ c = 41)) (fun Q' hQ => ?_) (fun g2 => ?_) (fun g2 => ?_)
    · walk_at "rd"
      rw [eqs, show Str.ofString "*" = S [42] from rfl, eqc]
      refine ite2 (fun m => ?_) (fun m => ?_)
      · rw [decide_eq_true (.inl (of_decide_eq_true m))] at hQ; exact hQ
      · walk_at "rd"
        rw [eqs, show Str.ofString ")" = S [41] from rfl, eqc]
        rw [Bool.not_eq_true] at m
        have m' := of_decide_eq_false m
        refine q_of hQ (decide_eq_decide.mpr ⟨.inr, fun z => z.resolve_left m'⟩)
    · have g2 := of_decide_eq_true g2
      walk_at "rd"
      refine ⟨.inl ⟨rfl, _, SqL.of h2⟩, ?_⟩
      refine ⟨_, rfl, ?_⟩
      refine tNil_mk ?_
      refine ⟨D, _, _, rfl, rfl, h2, by rw [List.length_map]; exact Nat.lt_of_le_of_lt (m := 1000) (by omega) (by decide), ?_⟩
      walk_at "rd"
      rw [eqs, show Str.ofString ")" = S [41] from rfl, eqc]
      by_cases c1 : c = 42
      · subst c1
        rw [if_pos rfl, appw] at hAn
        rw [show decide ((42 : Nat) = 41) = false from rfl]
        refine iteF ?_
        walk_at "rd"
        refine hN _ _ ⟨pre ++ [.str], op, i, false, v7, Nat.le_refl _, hi, ?_, same_mut s2 hD, by rw [upd_same, List.map_append]; rfl, by simp; omega, hAn⟩
        show [some (V.str (S sg)), some (V.str (S t)), some (V.ref D), some (V.int (((op : Nat) : Int) - 0)), some (V.bl false), some (V.int ((i : Nat) : Int)), some (V.str ⟨#[42]⟩), v7] = _
        rw [Int.sub_zero]
      · have c2 : c = 41 := g2.resolve_left c1
        subst c2
        rw [if_neg c1, if_pos rfl] at hAn
        have o0 : op ≠ 0 := by
          intro z
          rw [z] at h1b
          cases h1b
        rw [if_neg o0, appw] at hAn
        rw [show decide ((41 : Nat) = 41) = true from rfl]
        refine iteT ?_
        walk_at "rd"
        refine hN _ _ ⟨pre ++ [.cls], op - 1, i, false, v7, Nat.le_refl _, hi, ?_, same_mut s2 hD, by rw [upd_same, List.map_append]; rfl, by simp; omega, hAn⟩
        show [some (V.str (S sg)), some (V.str (S t)), some (V.ref D), some (V.int (((op : Nat) : Int) - 1)), some (V.bl false), some (V.int ((i : Nat) : Int)), some (V.str ⟨#[41]⟩), v7] = _
        rw [show ((op : Nat) : Int) - 1 = ((op - 1 : Nat) : Int) by omega]
    have g2 := of_decide_eq_false g2
    rw [if_neg (fun z => g2 (.inl z)), if_neg (fun z => g2 (.inr z))] at hAn
    obtain ⟨o, ho, hox, hoy⟩ : ∃ o, binOf c = some o ∧ wS (.op o) = S [c] ∧ (isAng c = true → wS (.op (dbl o)) = S [c, c]) := by
      rcases h1a with rfl | rfl | rfl | rfl | rfl | z
      · exact ⟨.or, rfl, rfl, fun z => by cases z⟩
      · exact ⟨.and, rfl, rfl, fun z => by cases z⟩
      · exact ⟨.sub, rfl, rfl, fun z => by cases z⟩
      · exact ⟨.lt, rfl, rfl, fun _ => rfl⟩
      · exact ⟨.gt, rfl, rfl, fun _ => rfl⟩
      · exact absurd z g2
    rw [ho] at hAn
    dsimp only at hAn
    walk_at "nx"
    refine st_asgJ (fun v H3 => v = .bl (decide (isAng c = true ∧ (t.drop (i + 1)).head? = some c)) ∧ H3 = H2) (fun Q' hQ => ?_) (fun v H3 hv => ?_)
    · walk_at "rd"
      refine ⟨c, _, rfl, rfl, _, rfl, ?_⟩
      rw [aang]
      have cutE : cutS (S t) (some (((i : Nat) : Int) + 1)) (some (((i : Nat) : Int) + 2)) = S ((t.drop (i + 1)).take 1) := by
        rw [cut_mid (by omega) (by omega)]
        rw [show (((i : Nat) : Int) + 1).toNat = i + 1 by omega, show (((i : Nat) : Int) + 2).toNat = i + 2 by omega, show i + 2 - (i + 1) = 1 by omega]
      cases ha : isAng c with
      | false =>
        rw [if_neg (by simp)]
        refine hQ _ _ ⟨?_, rfl⟩
        rw [decide_eq_false (fun z => by rw [ha] at z; exact absurd z.1 (by simp))]
      | true =>
        rw [if_pos rfl]
        walk_at "rd"
        refine hQ _ _ ⟨?_, rfl⟩
        rw [cutE, ha]
        congr 1
        refine decide_eq_decide.mpr ⟨fun z => ⟨rfl, ?_⟩, fun z => ?_⟩
        · have z := S_inj (show S ((t.drop (i + 1)).take 1) = S [c] from V.str.inj z)
          cases e : t.drop (i + 1) with
          | nil => rw [e] at z; cases z
          | cons d r => rw [e] at z; injection z with z _; rw [z]; rfl
        · cases e : t.drop (i + 1) with
          | nil => rw [e] at z; cases z.2
          | cons d r =>
            rw [e] at z
            have z2 := z.2
            injection z2 with z2
            subst z2
            rfl
    obtain ⟨rfl, rfl⟩ := hv
    walk_at "nx"
    refine ⟨_, rfl, .inl ⟨rfl, _, SqL.of h2⟩, ?_⟩
    refine ⟨_, rfl, ?_⟩
    by_cases hd : isAng c = true ∧ (t.drop (i + 1)).head? = some c
    · rw [if_pos hd, appw] at hAn
      rw [decide_eq_true hd]
      have hj : i + 2 ≤ t.length := by
        have : (t.drop (i + 1)).length ≠ 0 := fun z => by
          rw [List.length_eq_zero_iff.mp z] at hd
          cases hd.2
        rw [List.length_drop] at this
        omega
      have htl : (t.drop (i + 1)).tail = t.drop (i + 1 + 1) := by rw [List.tail_drop]
      rw [htl] at hAn
      refine ⟨true, rfl, ?_⟩
      refine iteT ?_
      walk_at "rd"
      refine ⟨by rw [show (Str.length ⟨#[c]⟩) = 1 from rfl]; decide, ?_⟩
      refine tNil_mk ?_
      refine ⟨D, _, _, rfl, rfl, h2, by rw [List.length_map]; exact Nat.lt_of_le_of_lt (m := 1000) (by omega) (by decide), ?_⟩
      walk_at "rd"
      refine hN _ _ ⟨pre ++ [.op (dbl o)], op, i + 1, true, some (.bl true), by omega, by omega, rfl, same_mut s2 hD, ?_, by simp; omega, hAn⟩
      rw [upd_same, List.map_append]
      show some (HO.lst (pre.map wdV ++ [V.str (S [c] ++ S [c])])) = some (HO.lst (pre.map wdV ++ [V.str (wS (.op (dbl o)))]))
      rw [hoy hd.1, S_cat]; rfl
    · rw [if_neg hd, appw] at hAn
      rw [decide_eq_false hd]
      refine ⟨false, rfl, ?_⟩
      refine iteF ?_
      walk_at "rd"
      refine tNil_mk ?_
      refine ⟨D, _, _, rfl, rfl, h2, by rw [List.length_map]; exact Nat.lt_of_le_of_lt (m := 1000) (by omega) (by decide), ?_⟩
      walk_at "rd"
      refine hN _ _ ⟨pre ++ [.op o], op, i, true, some (.bl false), Nat.le_refl _, hi, ?_, same_mut s2 hD, ?_, by simp; omega, hAn⟩
      · show [some (V.str (S sg)), some (V.str (S t)), some (V.ref D), some (V.int ((op : Nat) : Int)), some (V.bl true), some (V.int (((i : Nat) : Int) + 0)), some (V.str ⟨#[c]⟩), some (.bl false)] = _
        rw [Int.add_zero]
      rw [upd_same, List.map_append]
      show some (HO.lst (pre.map wdV ++ [V.str (S [c])])) = some (HO.lst (pre.map wdV ++ [V.str (wS (.op o))]))
      rw [hox]
end
end Sh
set_option Elab.async false
set_option linter.all false
set_option maxRecDepth 100000
set_option maxHeartbeats 4000000
namespace Sh
open PySem PySem.Spec PyProof.Rows L2
open SX (S S_inj S_len S_cat)
open Ex (Fs Op Tr Wd fb spl isAt isAng fst binOf dbl foldO cntS cntN)
local macro_rules | `(tactic| walk_at "nx") => `(tactic| repeat (with_reducible first | refine Sh.gn_mk ?_ | refine Sh.nx_mk ?_ | refine Sh.st_nx ?_ | refine Sh.rt_mk ?_ | refine Sh.ct_mk ?_ | refine Sh.bk_mk ?_))
local macro_rules | `(tactic| walk_at "sq") => `(tactic| first | exact SqL.of upd_same | exact SqT.of upd_same | exact SqL.of (by assumption) | exact SqT.of (by assumption) | assumption | exact Or.inl (SqL.of (by assumption)) | exact Or.inr (SqT.of (by assumption)) | exact Or.inl (by assumption) | exact Or.inr (by assumption))
local macro_rules | `(tactic| walk_at "hp") => `(tactic| first | exact upd_same | assumption)
local macro_rules | `(tactic| walk_at "sz") => `(tactic| first | exact Nat.le_of_ble_eq_true rfl | omega)
local macro_rules | `(tactic| walk_at "sd") => `(tactic| first | omega | exact rfl | assumption | (show (0 : Int) < _; omega) | exact And.intro (by omega) (by omega) | exact Or.inl (And.intro (by omega) (by omega)) | exact Or.inr (And.intro (by omega) (by omega)) | omega | exact Sh.sz_S (by omega) | decide)
local macro_rules | `(tactic| walk_at "rd1") => `(tactic| first
  | (with_reducible first | refine Sh.gn_mk ?_ | refine Sh.nx_mk ?_ | refine Sh.st_nx ?_ | refine Sh.rt_mk ?_ | refine Sh.ct_mk ?_ | refine Sh.bk_mk ?_)
  | refine Exists.intro (α := V) _ (And.intro rfl ?_)
  | refine Exists.intro (α := Bool) _ (And.intro rfl ?_)
  | refine Exists.intro (α := Int) _ (And.intro rfl ?_)
  | refine Exists.intro (α := PySem.Str) _ (And.intro rfl ?_)
  | refine Exists.intro (α := Int) _ (Exists.intro (α := Int) _ (And.intro rfl (And.intro rfl ?_)))
  | refine Exists.intro (α := PySem.Str) _ (Exists.intro (α := PySem.Str) _ (And.intro rfl (And.intro rfl ?_)))
  | refine Exists.intro (α := Int) _ (Exists.intro (α := Int) _ (And.intro rfl ?_))
  | refine Or.inl (Exists.intro (α := Int) _ (And.intro rfl ?_))
  | refine Exists.intro _ (Exists.intro _ (Exists.intro _ (Exists.intro _ (And.intro rfl (And.intro rfl (And.intro (by walk_at "sq") (And.intro rfl ?_)))))))
  | refine Exists.intro _ (Exists.intro _ (Exists.intro _ (Exists.intro _ (And.intro rfl (And.intro rfl (And.intro (by walk_at "hp") (And.intro rfl ?_)))))))
  | refine And.intro (by walk_at "sd") ?_
  )
local macro_rules | `(tactic| walk_at "rd") => `(tactic| repeat walk_at "rd1")
local macro_rules | `(tactic| walk_at "lk") => `(tactic| first | exact rfl | (rw [lookup_putF, if_pos rfl]) | (rw [lookup_putF, if_neg (by decide +kernel)]; walk_at "lk"))

def trD : Tr → PyData
  | .sg c => .tuple [.str "sign", .str (S [c])]
  | .at c => .tuple [.str (S [c])]
  | .st x => .tuple [.str "*", trD x]
  | .op o l r => .tuple [.str (opS o), trD l, trD r]
def osV : Option Op → V
  | none => .str "("
  | some o => .str (opS o)
theorem ixN_last (n : Nat) : ixN (n + 1) (-1) = some n := by
  unfold ixN
  rw [if_neg (by decide), if_pos (by omega)]
  congr 1
  omega
theorem atI_last {xs : List V} {x : V} : atI (xs ++ [x]) (-1) = some x := by
  unfold atI
  rw [List.length_append]
  show (ixN (xs.length + 1) (-1)).bind _ = _
  rw [ixN_last]
  simp
theorem set_last {xs : List V} {x y : V} : (xs ++ [x]).set xs.length y = xs ++ [y] := by simp
/-- all but two lists stand -/
def But2 (p o : Addr) (H H' : Hp) : Prop := ∀ b x, b ≠ p → b ≠ o → H b = some x → H' b = some x
theorem But2.refl (p o : Addr) (H : Hp) : But2 p o H H := fun _ _ _ _ h => h
theorem But2.upd1 {p o : Addr} {H H' : Hp} (h : But2 p o H H') (x : HO) : But2 p o H (upd H' p x) := fun b y h1 h2 e => by rw [upd_ne h1]; exact h b y h1 h2 e
theorem But2.upd2 {p o : Addr} {H H' : Hp} (h : But2 p o H H') (x : HO) : But2 p o H (upd H' o x) := fun b y h1 h2 e => by rw [upd_ne h2]; exact h b y h1 h2 e
theorem But2.new {p o q : Addr} {H H' : Hp} (h : But2 p o H H') {x : HO} (n : H' q = none) : But2 p o H (upd H' q x) := fun b y h1 h2 e => by
  have := h b y h1 h2 e
  rw [upd_ne (ne_of_none this n)]; exact this
theorem Keep.upL {H : Hp} {p : Addr} {ys zs : List V} (z : H p = some (.lst ys)) : Keep H (upd H p (.lst zs)) := fun b xs h => by
  have n : b ≠ p := by
    rintro rfl
    rcases h with h | ⟨o, h⟩ <;> rw [z] at h <;> cases h
  rcases h with h | ⟨o, h⟩
  · exact .inl (by rw [upd_ne n]; exact h)
  · exact .inr ⟨o, by rw [upd_ne n]; exact h⟩
/-- a list of trees, the last of ts first -/
def LsT (K : PySem.W.Frag) (H : Hp) (p : Addr) (ts : List Tr) : Prop := ∃ ys, H p = some (.lst ys) ∧ TpAll K H ys (ts.reverse.map trD)
def osL (os : List (Option Op)) : List V := os.reverse.map osV
theorem osL_cons (o : Option Op) (os : List (Option Op)) : osL (o :: os) = osL os ++ [osV o] := by simp [osL]
theorem tp_snoc {K : PySem.W.Frag} {H : Hp} {ys : List V} {t : Tr} {ts : List Tr} (h : TpAll K H ys ((t :: ts).reverse.map trD)) : ∃ zs v, ys = zs ++ [v] ∧ TpAll K H zs (ts.reverse.map trD) ∧ Tp K H v (trD t) := by
  rw [List.reverse_cons, List.map_append] at h
  have hl := h.len
  have key : ∀ (ds : List PyData) (ys : List V), TpAll K H ys (ds ++ [trD t]) → ∃ zs v, ys = zs ++ [v] ∧ TpAll K H zs ds ∧ Tp K H v (trD t) := by
    intro ds
    induction ds with
    | nil =>
      intro ys h
      cases h with
      | cons a b => cases b with
        | nil => exact ⟨[], _, rfl, .nil, a⟩
    | cons d ds ih =>
      intro ys h
      cases h with
      | cons a b =>
        obtain ⟨zs, v, rfl, h1, h2⟩ := ih _ b
        exact ⟨_ :: zs, v, rfl, .cons a h1, h2⟩
  exact key _ _ h
theorem tp_push {K : PySem.W.Frag} {H : Hp} {ys : List V} {v : V} {t : Tr} {ts : List Tr} (h : TpAll K H ys (ts.reverse.map trD)) (k : Tp K H v (trD t)) : TpAll K H (ys ++ [v]) ((t :: ts).reverse.map trD) := by
  rw [List.reverse_cons, List.map_append]
  exact h.app (.cons k .nil)
section
variable {P : Program} {w : World} {K : PySem.W.Frag} {mg : Str → Option Value} {base : Heap} {C0 XE FE DI XM FM XT FT DT XS XB BS AT RK : Addr}
theorem RankAt.get (R : RankAt K w RK) (o : Op) : KDct K w RK (opS o) (.int ((o.rank : Nat) : Int)) := by
  obtain ⟨es, n, D⟩ := R.kd
  obtain ⟨u, e, r⟩ := R.has o
  exact ⟨es, n, u, D.at_, D.lit, e, r⟩
def spFold (K : PySem.W.Frag) : Sp := fun vs H Q _ => ∃ (p o : Addr) (ts : List Tr) (os : List (Option Op)) (k : Nat), vs = [.ref p, .ref o, .int (k : Nat)] ∧ p ≠ o ∧ LsT K H p ts ∧ H o = some (.lst (osL os)) ∧ ts.length = cntS os + 1 ∧ ts.length ≤ 1000 ∧
  ∀ H', But2 p o H H' → Keep H H' → LsT K H' p (foldO k os ts).2 → H' o = some (.lst (osL (foldO k os ts).1)) → Q .non H'
theorem c_folded (T : TxtX P K mg C0 w XE FE DI XM FM XT FT DT XS XB BS AT RK) : Cal P w K mg base CX0 1 "folded" (spFold K) := by
  refine Cal.mk0 T.toTxtC.toTxt.d_folded sc_folded (fun vs H Q E h => ?_) (fun f cdv A outer s H vs Q E hr h => ?_)
  · obtain ⟨p, o, ts, os, k, rfl, _⟩ := h
    rfl
  · obtain ⟨p, o, ts, os, k, rfl, hpo, hp, ho, hc, hl, kk⟩ := h
    refine ⟨_, (pss_one (ps_while PassesOwn.never (PW.pt (pw_and (pt_truth (pv 1) (by intro _; rfl)) (pw_and (pt_cmpR op_ne (pe_ix ix_list (pv 1) (pe_un un_neg pe_int) (fun _ _ => rfl)) pe_str (nomark _)) (pw_and1 (pt_cmpR op_ge (pe_ix ix_kdict (pe_gK rfl T.g_RANKS) (pe_ix ix_list (pv 1) (pe_un un_neg pe_int) (fun _ _ => rfl)) (fun _ _ => rfl)) (pv 2) (nomark _))))))
    (pss_cons (ps_set (i := 3) sc_folded.nd rfl (Or.inl rfl) (pe_bm0 PySem.F.plainAttrs_list PySem.F.slot_list_pop PySem.F.type_list_pop mt_pop (pv 1)))
    (pss_cons (ps_set (i := 4) sc_folded.nd rfl (Or.inl rfl) (pe_bm0 PySem.F.plainAttrs_list PySem.F.slot_list_pop PySem.F.type_list_pop mt_pop (pv 0)))
    (pss_one (ps_asg (pe_tup (pa_cons (pv 3) (pa_cons (pe_ix ix_list (pv 0) (pe_un un_neg pe_int) (fun _ _ => rfl)) (pa_cons (pv 4) pa_nil)))) (pg_sub (pv 0) (pe_un un_neg pe_int) set_list))))))), ?_⟩
    walk_at "nx"
    refine ⟨fun mm σ H2 => ∃ (ts2 : List Tr) (os2 : List (Option Op)) (v3 v4 : Option V), mm = os2.length ∧ σ = [some (.ref p), some (.ref o), some (.int (k : Nat)), v3, v4] ∧ But2 p o H H2 ∧ Keep H H2 ∧ LsT K H2 p ts2 ∧ H2 o = some (.lst (osL os2)) ∧ ts2.length = cntS os2 + 1 ∧ ts2.length ≤ 1000 ∧ foldO k os2 ts2 = foldO k os ts,
      ⟨os.length, ts, os, _, _, rfl, rfl, But2.refl _ _ _, Keep.refl _, hp, ho, hc, hl, rfl⟩, ?_⟩
    rintro mm σ H2 ⟨ts2, os2, v3, v4, rfl, rfl, b2, k2, hp2, ho2, hc2, hl2, hf⟩
    have neg : ∀ o' : Op, decide (V.str (opS o') = V.str (Str.ofString "(")) = false := fun o' => by cases o' <;> decide
    match os2, ho2, hc2, hf with
    | [], ho2, hc2, hf =>
      have e : foldO k [] ts2 = ([], ts2) := by unfold foldO; rfl
      rw [e] at hf
      walk_at "rd"
      refine ⟨false, .inl ⟨_, SqL.of ho2, rfl⟩, ?_⟩
      refine iteF ?_
      refine iteF ?_
      walk_at "rd"
      refine kk H2 b2 k2 ?_ ?_
      · rw [← hf]; exact hp2
      · rw [← hf]; exact ho2
    | none :: r, ho2, hc2, hf =>
      have e : foldO k (none :: r) ts2 = (none :: r, ts2) := by unfold foldO; rfl
      rw [e] at hf
      walk_at "rd"
      refine ⟨true, .inl ⟨_, SqL.of ho2, by rw [osL_cons]; simp⟩, ?_⟩
      refine iteT ?_
      walk_at "rd"
      refine ⟨o, _, _, _, rfl, rfl, SqL.of ho2, by rw [osL_cons]; exact atI_last, ?_⟩
      walk_at "rd"
      refine kk H2 b2 k2 ?_ ?_
      · rw [← hf]; exact hp2
      · rw [← hf]; exact ho2
    | some o' :: r, ho2, hc2, hf =>
      obtain ⟨t1, t2, ts3, rfl⟩ : ∃ t1 t2 ts3, ts2 = t1 :: t2 :: ts3 := by
        match ts2, hc2 with
        | [], h => simp [cntS] at h
        | [_], h => simp [cntS] at h
        | a :: b :: c, _ => exact ⟨a, b, c, rfl⟩
      walk_at "rd"
      refine ⟨true, .inl ⟨_, SqL.of ho2, by rw [osL_cons]; simp⟩, ?_⟩
      refine iteT ?_
      walk_at "rd"
      refine ⟨o, _, _, _, rfl, rfl, SqL.of ho2, by rw [osL_cons]; exact atI_last, ?_⟩
      walk_at "rd"
      rw [show (!decide (osV (some o') = V.str (Str.ofString "("))) = true by rw [show osV (some o') = V.str (opS o') from rfl, neg o']; rfl]
      refine iteT ?_
      walk_at "rd"
      refine ⟨o, _, _, _, rfl, rfl, SqL.of ho2, by rw [osL_cons]; exact atI_last, ?_⟩
      refine ⟨RK, _, _, rfl, rfl, T.r_RANKS.get o', ?_⟩
      walk_at "rd"
      by_cases hk : k ≤ o'.rank
      · have e : foldO k (some o' :: r) (t1 :: t2 :: ts3) = foldO k r (.op o' t2 t1 :: ts3) := by
          conv => lhs; unfold foldO
          rw [if_pos hk]
        rw [e] at hf
        rw [decide_eq_true (show ((k : Nat) : Int) ≤ ((o'.rank : Nat) : Int) by omega)]
        refine iteT ⟨fun σ H3 => ∃ (ts2 : List Tr) (v3 v4 : Option V), σ = [some (.ref p), some (.ref o), some (.int (k : Nat)), v3, v4] ∧ But2 p o H H3 ∧ Keep H H3 ∧ LsT K H3 p ts2 ∧ H3 o = some (.lst (osL r)) ∧ ts2.length = cntS r + 1 ∧ ts2.length ≤ 1000 ∧ foldO k r ts2 = foldO k os ts,
          fun σ H3 ⟨ts2, v3, v4, a⟩ => ⟨r.length, by simp, ts2, r, v3, v4, rfl, a⟩, ?_⟩
        obtain ⟨ys, hys, htp⟩ := hp2
        obtain ⟨zs1, u1, rfl, htp1, hu1⟩ := tp_snoc htp
        obtain ⟨zs2, u2, rfl, htp2, hu2⟩ := tp_snoc htp1
        rw [osL_cons] at ho2
        walk_at "nx"
        refine ⟨_, rfl, .inl ⟨rfl, _, SqL.of ho2⟩, o, osL r ++ [osV (some o')], osV (some o'), rfl, rfl, ho2, by simp, ?_⟩
        rw [List.dropLast_concat]
        have hp3 : (upd H2 o (.lst (osL r))) p = some (.lst (zs2 ++ [u2] ++ [u1])) := by rw [upd_ne hpo]; exact hys
        have b3 := b2.upd2 (.lst (osL r))
        have k3 : Keep H2 (upd H2 o (.lst (osL r))) := Keep.upL ho2
        have ho3 : (upd H2 o (.lst (osL r))) o = some (.lst (osL r)) := upd_same
        generalize upd H2 o (.lst (osL r)) = H3 at hp3 b3 k3 ho3 ⊢
        walk_at "nx"
        refine ⟨_, rfl, .inl ⟨rfl, _, SqL.of hp3⟩, p, zs2 ++ [u2] ++ [u1], u1, rfl, rfl, hp3, by simp, ?_⟩
        rw [List.dropLast_concat]
        have k4 : Keep H3 (upd H3 p (.lst (zs2 ++ [u2]))) := Keep.upL hp3
        have b4 := b3.upd1 (.lst (zs2 ++ [u2]))
        have ho4 : (upd H3 p (.lst (zs2 ++ [u2]))) o = some (.lst (osL r)) := by rw [upd_ne hpo.symm]; exact ho3
        have hp4 : (upd H3 p (.lst (zs2 ++ [u2]))) p = some (.lst (zs2 ++ [u2])) := upd_same
        generalize upd H3 p (.lst (zs2 ++ [u2])) = H4 at k4 b4 ho4 hp4 ⊢
        walk_at "nx"
        walk_at "rd"
        refine ⟨p, _, _, _, rfl, rfl, SqL.of hp4, atI_last, ?_⟩
        walk_at "rd"
        refine ⟨by walk_at "sz", fun q hq => ?_⟩
        have hqp : p ≠ q := ne_of_none hp4 hq
        have hqo : o ≠ q := ne_of_none ho4 hq
        have s5 := same_new (o := .tup [osV (some o'), u2, u1]) hq
        have b5 : But2 p o H (upd H4 q (.tup [osV (some o'), u2, u1])) := b4.new hq
        have e5 : (upd H4 q (.tup [osV (some o'), u2, u1])) q = some (.tup [osV (some o'), u2, u1]) := upd_same
        have hp5 := s5 _ _ hp4
        have ho5 := s5 _ _ ho4
        generalize upd H4 q (.tup [osV (some o'), u2, u1]) = H5 at s5 b5 e5 hp5 ho5 ⊢
        have k25 : Keep H2 H5 := (k3.trans k4).trans (Keep.same s5)
        walk_at "rd"
        refine ⟨p, _, _, zs2.length, rfl, rfl, hp5, by rw [List.length_append]; exact ixN_last _, ?_⟩
        rw [set_last]
        have k56 : Keep H5 (upd H5 p (.lst (zs2 ++ [.ref q]))) := Keep.upL hp5
        have e6 : SqT K (upd H5 p (.lst (zs2 ++ [.ref q]))) q [osV (some o'), u2, u1] := SqT.of (by rw [upd_ne hqp.symm]; exact e5)
        refine ⟨.op o' t2 t1 :: ts3, _, _, rfl, b5.upd1 _, k2.trans (k25.trans k56), ⟨_, upd_same, tp_push (htp2.keep (k25.trans k56)) ?_⟩, by rw [upd_ne hpo.symm]; exact ho5, by simp [cntS] at hc2 ⊢; omega, by simp at hl2 ⊢; omega, hf⟩
        exact .tup e6 (.cons (.str _) (.cons (hu2.keep (k25.trans k56)) (.cons (hu1.keep (k25.trans k56)) .nil)))
      · have e : foldO k (some o' :: r) (t1 :: t2 :: ts3) = (some o' :: r, t1 :: t2 :: ts3) := by
          unfold foldO
          rw [if_neg hk]
        rw [e] at hf
        rw [decide_eq_false (show ¬ ((k : Nat) : Int) ≤ ((o'.rank : Nat) : Int) by omega)]
        refine iteF ?_
        walk_at "rd"
        refine kk H2 b2 k2 ?_ ?_
        · rw [← hf]; exact hp2
        · rw [← hf]; exact ho2
end
end Sh
set_option Elab.async false
set_option linter.all false
set_option maxRecDepth 100000
namespace Ex
theorem good_app {s : St} {a b : List Wd} : Good s (a ++ b) → Good (run s a) b := by
  induction a generalizing s with
  | nil => exact id
  | cons w a ih => intro h; exact ih h.2
theorem foldO_len (k : Nat) : ∀ (os : List (Option Op)) (ts : List Tr), (foldO k os ts).1.length ≤ os.length ∧ (foldO k os ts).2.length ≤ ts.length := by
  intro os
  induction os with
  | nil => intro ts; unfold foldO; exact ⟨Nat.le_refl _, Nat.le_refl _⟩
  | cons o os ih =>
    intro ts
    cases o with
    | none => unfold foldO; exact ⟨Nat.le_refl _, Nat.le_refl _⟩
    | some o =>
      match ts with
      | [] => unfold foldO; exact ⟨Nat.le_refl _, Nat.le_refl _⟩
      | [_] => unfold foldO; exact ⟨Nat.le_refl _, Nat.le_refl _⟩
      | r :: l :: ts =>
        unfold foldO
        split
        · have := ih (.op o l r :: ts)
          simp at this ⊢
          omega
        · exact ⟨Nat.le_refl _, Nat.le_refl _⟩
theorem step_len (s : St) (w : Wd) : (step s w).ts.length ≤ s.ts.length + 1 ∧ (step s w).os.length ≤ s.os.length + 1 := by
  cases w with
  | sg c => simp [step]
  | «at» c => simp [step]
  | opn => simp [step]
  | cls =>
    have := foldO_len 0 s.os s.ts
    have e : (step s .cls).os.length = (foldO 0 s.os s.ts).1.length - 1 := by show (foldO 0 s.os s.ts).1.tail.length = _; rw [List.length_tail]
    have e2 : (step s .cls).ts.length = (foldO 0 s.os s.ts).2.length := rfl
    omega
  | str =>
    cases e : s.ts with
    | nil => simp [step, e]
    | cons t ts => simp [step, e]
  | op o =>
    have := foldO_len o.rank s.os s.ts
    have e : (step s (.op o)).os.length = (foldO o.rank s.os s.ts).1.length + 1 := rfl
    have e2 : (step s (.op o)).ts.length = (foldO o.rank s.os s.ts).2.length := rfl
    omega
theorem run_len {ws : List Wd} : ∀ {s : St}, (run s ws).ts.length ≤ s.ts.length + ws.length ∧ (run s ws).os.length ≤ s.os.length + ws.length := by
  induction ws with
  | nil => intro s; exact ⟨Nat.le_refl _, Nat.le_refl _⟩
  | cons w ws ih =>
    intro s
    have h := ih (s := step s w)
    have k := step_len s w
    rw [run_cons, List.length_cons]
    omega
theorem step_opN {s : St} {w : Wd} (h : Pre s w) (e : s.op = cntN s.os) : (step s w).op = cntN (step s w).os := by
  cases w with
  | sg c => exact e
  | «at» c => exact e
  | str => exact e
  | opn => simp [step, cntN, e]
  | cls =>
    show s.op - 1 = cntN (foldO 0 s.os s.ts).1.tail
    obtain ⟨k1, k2⟩ := foldO_cnt 0 s.os s.ts h.1
    rcases foldO_top s.os s.ts h.1 with z | ⟨r, z⟩
    · rw [z] at k2 ⊢; simp [cntN] at k2 ⊢; omega
    · rw [z] at k2 ⊢; simp [cntN] at k2 ⊢; omega
  | op o =>
    obtain ⟨k1, k2⟩ := foldO_cnt o.rank s.os s.ts h
    show s.op = cntN (foldO o.rank s.os s.ts).1
    omega
theorem run_opN {ws : List Wd} : ∀ {s : St}, Good s ws → s.op = cntN s.os → (run s ws).op = cntN (run s ws).os := by
  induction ws with
  | nil => intro s _ e; exact e
  | cons w ws ih => intro s h e; exact ih h.2 (step_opN h.1 e)
theorem good_take {s : St} {a b : List Wd} : Good s (a ++ b) → ∀ {e : s.op = cntN s.os}, (run s a).op = cntN (run s a).os := by
  induction a generalizing s with
  | nil => intro _ e; exact e
  | cons w a ih => intro h e; exact ih h.2 (e := step_opN h.1 e)
end Ex
namespace Ex
theorem wt_app (sg a b : List Nat) : wt sg (a ++ b) = wt sg a + wt sg b := List.countP_append
theorem oc_app (a b : List Nat) : oc (a ++ b) = oc a + oc b := List.countP_append
/-- a text that can be read at all is read -/
structure Nice (sg t : List Nat) : Prop where
  len : t.length ≤ 100
  wt : Ex.wt sg t ≤ 20
  oc : Ex.oc t ≤ 20
theorem nice_short {sg t : List Nat} (h : t.length ≤ 20) : Nice sg t :=
  ⟨by omega, Nat.le_trans List.countP_le_length h, Nat.le_trans List.countP_le_length h⟩
/-- a text changed at one place -/
theorem nice_change {sg t m : List Nat} {i j : Nat} (hl : t.length ≤ 90) (hw : Ex.wt sg t ≤ 19) (ho : Ex.oc t ≤ 19) (hm : m.length ≤ 1) (hij : i ≤ j) : Nice sg (t.take i ++ m ++ t.drop j) := by
  have e : t = t.take i ++ ((t.drop i).take (j - i) ++ t.drop j) := by
    conv => lhs; rw [← List.take_append_drop i t, ← List.take_append_drop (j - i) (t.drop i), List.drop_drop, show i + (j - i) = j by omega]
  have h1 : Ex.wt sg m ≤ 1 := Nat.le_trans List.countP_le_length hm
  have h2 : Ex.oc m ≤ 1 := Nat.le_trans List.countP_le_length hm
  have l1 : (t.take i).length + (t.drop j).length ≤ t.length := by
    conv => rhs; rw [e]
    rw [List.length_append, List.length_append]; omega
  have w1 : Ex.wt sg (t.take i) + Ex.wt sg (t.drop j) ≤ Ex.wt sg t := by
    conv => rhs; rw [e]
    rw [wt_app, wt_app]; omega
  have o1 : Ex.oc (t.take i) + Ex.oc (t.drop j) ≤ Ex.oc t := by
    conv => rhs; rw [e]
    rw [oc_app, oc_app]; omega
  refine ⟨?_, ?_, ?_⟩
  · rw [List.length_append, List.length_append]; omega
  · rw [wt_app, wt_app]; omega
  · rw [oc_app, oc_app]; omega
end Ex
set_option Elab.async false
set_option linter.all false
set_option maxRecDepth 100000
set_option maxHeartbeats 4000000
namespace Sh
open PySem PySem.Spec PyProof.Rows L2
open SX (S S_inj S_len S_cat)
open Ex (Fs Op Tr Wd fb spl isAt isAng fst binOf dbl foldO cntS cntN run step s0)
local macro_rules | `(tactic| walk_at "nx") => `(tactic| repeat (with_reducible first | refine Sh.gn_mk ?_ | refine Sh.nx_mk ?_ | refine Sh.st_nx ?_ | refine Sh.rt_mk ?_ | refine Sh.ct_mk ?_ | refine Sh.bk_mk ?_))
local macro_rules | `(tactic| walk_at "sq") => `(tactic| first | exact SqL.of upd_same | exact SqT.of upd_same | exact SqL.of (by assumption) | exact SqT.of (by assumption) | assumption | exact Or.inl (SqL.of (by assumption)) | exact Or.inr (SqT.of (by assumption)) | exact Or.inl (by assumption) | exact Or.inr (by assumption))
local macro_rules | `(tactic| walk_at "hp") => `(tactic| first | exact upd_same | assumption)
local macro_rules | `(tactic| walk_at "sz") => `(tactic| first | exact Nat.le_of_ble_eq_true rfl | omega)
local macro_rules | `(tactic| walk_at "sd") => `(tactic| first | omega | exact rfl | assumption | (show (0 : Int) < _; omega) | exact And.intro (by omega) (by omega) | exact Or.inl (And.intro (by omega) (by omega)) | exact Or.inr (And.intro (by omega) (by omega)) | omega | exact Sh.sz_S (by omega) | decide)
local macro_rules | `(tactic| walk_at "rd1") => `(tactic| first
  | (with_reducible first | refine Sh.gn_mk ?_ | refine Sh.nx_mk ?_ | refine Sh.st_nx ?_ | refine Sh.rt_mk ?_ | refine Sh.ct_mk ?_ | refine Sh.bk_mk ?_)
  | refine Exists.intro (α := V) _ (And.intro rfl ?_)
  | refine Exists.intro (α := Bool) _ (And.intro rfl ?_)
  | refine Exists.intro (α := Int) _ (And.intro rfl ?_)
  | refine Exists.intro (α := PySem.Str) _ (And.intro rfl ?_)
  | refine Exists.intro (α := Int) _ (Exists.intro (α := Int) _ (And.intro rfl (And.intro rfl ?_)))
  | refine Exists.intro (α := PySem.Str) _ (Exists.intro (α := PySem.Str) _ (And.intro rfl (And.intro rfl ?_)))
  | refine Exists.intro (α := Int) _ (Exists.intro (α := Int) _ (And.intro rfl ?_))
  | refine Or.inl (Exists.intro (α := Int) _ (And.intro rfl ?_))
  | refine Exists.intro _ (Exists.intro _ (Exists.intro _ (Exists.intro _ (And.intro rfl (And.intro rfl (And.intro (by walk_at "sq") (And.intro rfl ?_)))))))
  | refine Exists.intro _ (Exists.intro _ (Exists.intro _ (Exists.intro _ (And.intro rfl (And.intro rfl (And.intro (by walk_at "hp") (And.intro rfl ?_)))))))
  | refine And.intro (by walk_at "sd") ?_
  )
local macro_rules | `(tactic| walk_at "rd") => `(tactic| repeat walk_at "rd1")
local macro_rules | `(tactic| walk_at "lk") => `(tactic| first | exact rfl | (rw [lookup_putF, if_pos rfl]) | (rw [lookup_putF, if_neg (by decide +kernel)]; walk_at "lk"))

theorem in_infix {m l : List Nat} : (!(Builtin.Str.occurrences (S l) (S m) 0 (S l).length 1).isEmpty) = true ↔ ∃ x y, l = x ++ m ++ y := by
  rw [PySem.StrLaws.found_iff (S l) (S m)]
  constructor
  · rintro ⟨i, hi, h⟩
    rw [PySem.StrLaws.subAt_eq, beq_iff_eq] at h
    have h3 : (l.drop i).take m.length = m := by
      have := h
      rw [S_len] at this
      exact this
    refine ⟨l.take i, l.drop (i + m.length), ?_⟩
    conv => lhs; rw [← List.take_append_drop i l, ← List.take_append_drop m.length (l.drop i), h3, List.drop_drop]
    rw [List.append_assoc]
  · rintro ⟨x, y, rfl⟩
    refine ⟨x.length, by rw [S_len, S_len]; simp, ?_⟩
    rw [PySem.StrLaws.subAt_eq, beq_iff_eq, S_len]
    show ((x ++ m ++ y).drop x.length).take m.length = m
    rw [List.append_assoc, List.drop_left, List.take_left]
theorem But2.same {p o : Addr} {H H1 H2 : Hp} (b : But2 p o H1 H2) (s : Same H H1) (hp : H p = none) (ho : H o = none) : Same H H2 := fun a x e =>
  b a x (fun z => by rw [z, hp] at e; cases e) (fun z => by rw [z, ho] at e; cases e) (s a x e)
def opl : Op → List Nat
  | .or => [124]
  | .and => [38]
  | .sub => [45]
  | .gt => [62]
  | .gg => [62, 62]
  | .lt => [60]
  | .ll => [60, 60]
  | .row => [114, 111, 119]
def wl : Wd → List Nat
  | .sg c => [c]
  | .at c => [c]
  | .opn => [40]
  | .cls => [41]
  | .str => [42]
  | .op o => opl o
theorem wS_wl (w : Wd) : wS w = S (wl w) := by
  cases w with
  | op o => cases o <;> rfl
  | _ => rfl
def isSgW : Wd → Bool
  | .sg _ => true
  | _ => false
def isAtW : Wd → Bool
  | .at _ => true
  | _ => false
structure Sgn (sg : List Nat) : Prop where
  low : Low sg
  row : ¬ ∃ x y, sg = x ++ [114, 111, 119] ++ y
  len : sg.length ≤ 1000
theorem in_word {sg : List Nat} (hs : Sgn sg) {w : Wd} (hw : Ex.OkW sg w) : (!(Builtin.Str.occurrences (S sg) (wS w) 0 (S sg).length 1).isEmpty) = isSgW w := by
  rw [wS_wl, Bool.eq_iff_iff, in_infix]
  have no : ∀ d, d ∉ sg → ∀ u : List Nat, d ∈ u → ¬ ∃ x y, sg = x ++ u ++ y := by
    rintro d hd u hu ⟨x, y, e⟩
    exact hd (by rw [e]; simp [hu])
  have lo : ∀ d, (d < 97 ∨ 122 < d) → d ∉ sg := fun d hd z => by have := hs.low d z; omega
  cases w with
  | sg c =>
    obtain ⟨x, y, e⟩ := List.append_of_mem (show c ∈ sg from hw)
    exact ⟨fun _ => rfl, fun _ => ⟨x, y, by rw [e]; simp [wl]⟩⟩
  | «at» c =>
    refine ⟨fun z => absurd z (no c (lo c ?_) _ (by simp [wl])), fun z => by cases z⟩
    have hw : isAt c = true := hw
    unfold isAt at hw
    simp at hw
    omega
  | opn => exact ⟨fun z => absurd z (no 40 (lo 40 (by omega)) _ (by simp [wl])), fun z => by cases z⟩
  | cls => exact ⟨fun z => absurd z (no 41 (lo 41 (by omega)) _ (by simp [wl])), fun z => by cases z⟩
  | str => exact ⟨fun z => absurd z (no 42 (lo 42 (by omega)) _ (by simp [wl])), fun z => by cases z⟩
  | op o =>
    refine ⟨fun z => ?_, fun z => by cases z⟩
    cases o with
    | or => exact absurd z (no 124 (lo 124 (by omega)) _ (by simp [wl, opl]))
    | and => exact absurd z (no 38 (lo 38 (by omega)) _ (by simp [wl, opl]))
    | sub => exact absurd z (no 45 (lo 45 (by omega)) _ (by simp [wl, opl]))
    | gt => exact absurd z (no 62 (lo 62 (by omega)) _ (by simp [wl, opl]))
    | gg => exact absurd z (no 62 (lo 62 (by omega)) _ (by simp [wl, opl]))
    | lt => exact absurd z (no 60 (lo 60 (by omega)) _ (by simp [wl, opl]))
    | ll => exact absurd z (no 60 (lo 60 (by omega)) _ (by simp [wl, opl]))
    | row => exact absurd z hs.row
theorem in_atomsL (u : List Nat) : inV (V.str (S u)) [V.str (Str.ofString "1"), V.str (Str.ofString "0"), V.str (Str.ofString ".")] = decide (u = [49] ∨ u = [48] ∨ u = [46]) := by
  have e : ∀ d : List Nat, eqV (V.str (S d)) (V.str (S u)) = decide (u = d) := fun d => by
    show (S d == S u) = decide (u = d)
    rw [Bool.eq_iff_iff, beq_iff_eq, decide_eq_true_eq]
    exact ⟨fun z => (S_inj z).symm, fun z => by rw [z]⟩
  show (eqV (V.str (S [49])) (V.str (S u)) || (eqV (V.str (S [48])) (V.str (S u)) || (eqV (V.str (S [46])) (V.str (S u)) || false))) = _
  rw [e, e, e, Bool.or_false, Bool.eq_iff_iff]
  simp
theorem in_atomsW {sg : List Nat} {w : Wd} (hw : Ex.OkW sg w) (hn : ∀ c, w ≠ .sg c) : inV (wdV w) [V.str (Str.ofString "1"), V.str (Str.ofString "0"), V.str (Str.ofString ".")] = isAtW w := by
  show inV (V.str (wS w)) _ = _
  rw [wS_wl, in_atomsL]
  cases w with
  | sg c => exact absurd rfl (hn c)
  | «at» c =>
    have hw : isAt c = true := hw
    have h3 : c = 49 ∨ c = 48 ∨ c = 46 := by unfold isAt at hw; simpa [or_assoc] using hw
    rcases h3 with rfl | rfl | rfl <;> rfl
  | op o => cases o <;> rfl
  | _ => rfl
section
variable {P : Program} {w : World} {K : PySem.W.Frag} {mg : Str → Option Value} {base : Heap} {C0 XE FE DI XM FM XT FT DT XS XB BS AT RK : Addr}
def spTree (K : PySem.W.Frag) : Sp := fun vs H Q _ => ∃ (sg : List Nat) (q : Addr) (ws : List Wd), vs = [.str (S sg), .ref q] ∧ Sgn sg ∧ H q = some (.lst (ws.map wdV)) ∧ (∀ w ∈ ws, Ex.OkW sg w) ∧ Ex.Good s0 ws ∧ ws.length ≤ 800 ∧
  ∀ (T : Tr) (p : Addr) (v : V) (H' : Hp), foldO 0 (run s0 ws).os (run s0 ws).ts = ([], [T]) → Same H H' → SqT K H' p [v, .int ((run s0 ws).mo : Nat)] → Tp K H' v (trD T) → Q (.ref p) H'
theorem c_tree_from (T : TxtX P K mg C0 w XE FE DI XM FM XT FT DT XS XB BS AT RK) : Cal P w K mg base CX0 2 "tree_from" (spTree K) := by
  have c_folded := c_folded (P := P) (w := w) (base := base) T
  refine Cal.mk0 T.toTxtC.toTxt.d_tree_from sc_tree_from (fun vs H Q E h => ?_) (fun f cdv A outer s H vs Q E hr h => ?_)
  · obtain ⟨sg, q, ws, rfl, _⟩ := h
    rfl
  · obtain ⟨sg, q, ws, rfl, hs, hq, hok, hg, hl, kk⟩ := h
    have hsl := hs.len
    have hSl := S_len sg
    refine ⟨_, (pss_cons (ps_set (i := 2) sc_tree_from.nd rfl (Or.inl rfl) (pe_lst pa_nil))
  (pss_cons (ps_set (i := 3) sc_tree_from.nd rfl (Or.inl rfl) (pe_lst pa_nil))
  (pss_cons (ps_set (i := 4) sc_tree_from.nd rfl (Or.inl rfl) pe_int)
  (pss_cons (ps_set (i := 5) sc_tree_from.nd rfl (Or.inl rfl) pe_int)
  (pss_cons (ps_for PassesOwn.never rfl (pi_list (pv 1)) (pg_name (i := 6) sc_tree_from.nd rfl (Or.inl rfl))
    (pss_one (ps_if (pt_cmpR op_in_str (pv 6) (pv 0) (by rfl))
      (pss_one (ps_expr (pe_bm PySem.F.plainAttrs_list PySem.F.slot_list_append PySem.F.type_list_append mt_append (pv 2) (pa_cons (pe_tup (pa_cons pe_str (pa_cons (pv 6) pa_nil))) pa_nil))))
      (pss_one (ps_if (pt_cmpR op_in_seq (pv 6) (pe_gK rfl T.g_ATOMS) (by rfl))
        (pss_one (ps_expr (pe_bm PySem.F.plainAttrs_list PySem.F.slot_list_append PySem.F.type_list_append mt_append (pv 2) (pa_cons (pe_tup (pa_cons (pv 6) pa_nil)) pa_nil))))
        (pss_one (ps_if (pt_cmpR op_eq (pv 6) pe_str (nomark _))
          (pss_cons (ps_expr (pe_bm PySem.F.plainAttrs_list PySem.F.slot_list_append PySem.F.type_list_append mt_append (pv 3) (pa_cons (pv 6) pa_nil)))
          (pss_cons (ps_aug (i := 4) sc_tree_from.nd rfl (Or.inl rfl) pe_int ip_add)
          (pss_one (ps_set (i := 5) sc_tree_from.nd rfl (Or.inl rfl) (pe_callB (call_max2 rfl) (by rfl) T.b_max (by decide +kernel) (pa_cons (pv 5) (pa_cons (pv 4) pa_nil)))))))
          (pss_one (ps_if (pt_cmpR op_eq (pv 6) pe_str (nomark _))
            (pss_cons (ps_expr (pe_c c_folded hr (by decide) rfl (pa_cons (pv 2) (pa_cons (pv 3) (pa_cons pe_int pa_nil)))))
            (pss_cons (ps_expr (pe_bm0 PySem.F.plainAttrs_list PySem.F.slot_list_pop PySem.F.type_list_pop mt_pop (pv 3)))
            (pss_one (ps_aug (i := 4) sc_tree_from.nd rfl (Or.inl rfl) pe_int ip_sub))))
            (pss_one (ps_if (pt_cmpR op_eq (pv 6) pe_str (nomark _))
              (pss_one (ps_asg (pe_tup (pa_cons pe_str (pa_cons (pe_ix ix_list (pv 2) (pe_un un_neg pe_int) (fun _ _ => rfl)) pa_nil))) (pg_sub (pv 2) (pe_un un_neg pe_int) set_list)))
              (pss_cons (ps_expr (pe_c c_folded hr (by decide) rfl (pa_cons (pv 2) (pa_cons (pv 3) (pa_cons (pe_ix ix_kdict (pe_gK rfl T.g_RANKS) (pv 6) (fun _ _ => rfl)) pa_nil)))))
              (pss_one (ps_expr (pe_bm PySem.F.plainAttrs_list PySem.F.slot_list_append PySem.F.type_list_append mt_append (pv 3) (pa_cons (pv 6) pa_nil))))))))))))))))
  (pss_cons (ps_expr (pe_c c_folded hr (by decide) rfl (pa_cons (pv 2) (pa_cons (pv 3) (pa_cons pe_int pa_nil)))))
  (pss_one (ps_ret (pe_tup (pa_cons (pe_ix ix_list (pv 2) pe_int (fun _ _ => rfl)) (pa_cons (pv 5) pa_nil))))))))))), ?_⟩
    walk_at "nx"
    refine ⟨by walk_at "sz", fun pt hpt => ?_⟩
    have s1 := same_new (o := .lst []) hpt
    have e1 : (upd H pt (.lst [])) pt = some (.lst []) := upd_same
    generalize upd H pt (.lst []) = H1 at s1 e1 ⊢
    walk_at "nx"
    refine ⟨by walk_at "sz", fun po hpo => ?_⟩
    have s2 := s1.trans (same_new (o := .lst []) hpo)
    have hne : pt ≠ po := ne_of_none e1 hpo
    have hpo0 : H po = none := by
      cases z : H po with
      | none => rfl
      | some x => rw [s1 _ _ z] at hpo; cases hpo
    have e2 : (upd H1 po (.lst [])) pt = some (.lst []) := by rw [upd_ne hne]; exact e1
    have e3 : (upd H1 po (.lst [])) po = some (.lst []) := upd_same
    generalize upd H1 po (.lst []) = H2 at s2 e2 e3 ⊢
    walk_at "nx"
    walk_at "nx"
    walk_at "nx"
    refine ⟨_, rfl, q, rfl, ⟨_, SqL.of (s2 _ _ hq)⟩, ?_⟩
    refine for_lst (K := K) (a := q) (f := wdV) (l := ws) (fun pre σ H3 => ∃ v6 : Option V, σ = [some (.str (S sg)), some (.ref q), some (.ref pt), some (.ref po), some (.int ((run s0 pre).op : Nat)), some (.int ((run s0 pre).mo : Nat)), v6] ∧ Same H H3 ∧ LsT K H3 pt (run s0 pre).ts ∧ H3 po = some (.lst (osL (run s0 pre).os)))
      ⟨_, rfl, s2, ⟨[], e2, .nil⟩, e3⟩ (fun pre σ H3 ⟨_, _, s3, _⟩ => SqL.of (s3 _ _ hq)) ?_ ?_
    · rintro pre wd post σ H3 ee ⟨v6, rfl, s3, hT, hO⟩
      have hwd : Ex.OkW sg wd := hok wd (by rw [ee]; simp)
      have hg2 : Ex.Good (run s0 pre) (wd :: post) := Ex.good_app (by rw [← ee]; exact hg)
      have hop : (run s0 pre).op = cntN (run s0 pre).os := Ex.good_take (b := wd :: post) (by rw [← ee]; exact hg) (e := rfl)
      have hlen := Ex.run_len (s := s0) (ws := pre)
      have hpl : pre.length + 1 ≤ 800 := by
        have := congrArg List.length ee
        simp at this
        omega
      have hl1 : (run s0 pre).ts.length ≤ pre.length := by have := hlen.1; simpa [s0] using this
      have hl2 : (run s0 pre).os.length ≤ pre.length := by have := hlen.2; simpa [s0] using this
      have est : run s0 (pre ++ [wd]) = step (run s0 pre) wd := by rw [Ex.run_app]; rfl
      rw [est]
      have hpre := hg2.1
      generalize run s0 pre = st at hT hO hg2 hop hl1 hl2 hpre ⊢
      clear hlen est
      walk_at "nx"
      obtain ⟨ys, hys, htp⟩ := hT
      have hyl : ys.length ≤ 800 := by have := htp.len; simp at this; omega
      have hsz : ys.length < sizeLine := Nat.lt_of_le_of_lt hyl (by decide)
      have hosz : (osL st.os).length < sizeLine := by unfold osL; rw [List.length_map, List.length_reverse]; exact Nat.lt_of_le_of_lt (m := 800) (by omega) (by decide)
      have eqw : ∀ u : List Nat, decide (wdV wd = V.str (S u)) = decide (wl wd = u) := fun u => decide_eq_decide.mpr ⟨fun e => S_inj (by rw [← wS_wl]; exact V.str.inj e), fun e => by show V.str (wS wd) = _; rw [wS_wl, e]⟩
      /- push a leaf -/
      have leaf : ∀ (u : V) (t : Tr) (H4 : Hp) (v6 : Option V), step st wd = { st with ts := t :: st.ts } → Same H3 H4 → Tp K H4 u (trD t) → ∃ v6' : Option V, [some (.str (S sg)), some (.ref q), some (.ref pt), some (.ref po), some (.int (st.op : Nat)), some (.int (st.mo : Nat)), v6] = [some (.str (S sg)), some (.ref q), some (.ref pt), some (.ref po), some (.int ((step st wd).op : Nat)), some (.int ((step st wd).mo : Nat)), v6'] ∧ Same H (upd H4 pt (.lst (ys ++ [u]))) ∧ LsT K (upd H4 pt (.lst (ys ++ [u]))) pt (step st wd).ts ∧ (upd H4 pt (.lst (ys ++ [u]))) po = some (.lst (osL (step st wd).os)) := by
        intro u t H4 v6 e s4 htu
        rw [e]
        have h4 := s4 _ _ hys
        exact ⟨v6, rfl, same_mut (s3.trans s4) hpt, ⟨_, upd_same, tp_push (htp.keep ((Keep.same s4).trans (Keep.upL h4))) (htu.keep (Keep.upL h4))⟩, by rw [upd_ne hne.symm]; exact s4 _ _ hO⟩
      refine if_K (isSgW wd) (fun Q' hQ => ?_) (fun hb => ?_) (fun hb => ?_)
      · walk_at "rd"
        rw [in_word hs hwd]
        exact hQ
      · obtain ⟨c, rfl⟩ : ∃ c, wd = .sg c := by cases wd <;> first | exact ⟨_, rfl⟩ | cases hb
        walk_at "rd"
        refine ⟨.inl ⟨rfl, _, SqL.of hys⟩, ?_⟩
        walk_at "rd"
        refine ⟨by walk_at "sz", fun p9 hp9 => ?_⟩
        have s9 := same_new (o := .tup [.str (Str.ofString "sign"), wdV (.sg c)]) hp9
        have e9 : (upd H3 p9 (.tup [.str (Str.ofString "sign"), wdV (.sg c)])) p9 = some (.tup [.str (Str.ofString "sign"), wdV (.sg c)]) := upd_same
        generalize upd H3 p9 (.tup [.str (Str.ofString "sign"), wdV (.sg c)]) = H4 at s9 e9 ⊢
        refine tNil_mk ?_
        refine ⟨pt, _, _, rfl, rfl, s9 _ _ hys, hsz, ?_⟩
        exact leaf (.ref p9) (.sg c) H4 _ rfl s9 (.tup (SqT.of e9) (.cons (.str _) (.cons (.str _) .nil)))
      have hn : ∀ c, wd ≠ .sg c := fun c e => by rw [e] at hb; cases hb
      refine if_K (isAtW wd) (fun Q' hQ => ?_) (fun hb2 => ?_) (fun hb2 => ?_)
      · walk_at "rd"
        refine ⟨AT, _, rfl, .inr (T.s_ATOMS _), rfl, rfl, ?_⟩
        refine ⟨_, rfl, ?_⟩
        rw [if_neg Bool.false_ne_true, in_atomsW hwd hn]
        exact hQ
      · obtain ⟨c, rfl⟩ : ∃ c, wd = .at c := by cases wd <;> first | exact ⟨_, rfl⟩ | cases hb2
        walk_at "rd"
        refine ⟨.inl ⟨rfl, _, SqL.of hys⟩, ?_⟩
        walk_at "rd"
        refine ⟨by walk_at "sz", fun p9 hp9 => ?_⟩
        have s9 := same_new (o := .tup [wdV (.at c)]) hp9
        have e9 : (upd H3 p9 (.tup [wdV (.at c)])) p9 = some (.tup [wdV (.at c)]) := upd_same
        generalize upd H3 p9 (.tup [wdV (.at c)]) = H4 at s9 e9 ⊢
        refine tNil_mk ?_
        refine ⟨pt, _, _, rfl, rfl, s9 _ _ hys, hsz, ?_⟩
        exact leaf (.ref p9) (.at c) H4 _ rfl s9 (.tup (SqT.of e9) (.cons (.str _) .nil))
      refine if_K (decide (wl wd = [40])) (fun Q' hQ => ?_) (fun hb3 => ?_) (fun hb3 => ?_)
      · walk_at "rd"
        rw [show Str.ofString "(" = S [40] from rfl, eqw]
        exact hQ
      · have hb3 := of_decide_eq_true hb3
        obtain rfl : wd = .opn := by
          cases wd with
          | sg c => exact absurd rfl (hn c)
          | «at» c => cases hb2
          | op o => cases o <;> cases hb3
          | opn => rfl
          | _ => cases hb3
        walk_at "rd"
        refine ⟨.inl ⟨rfl, _, SqL.of hO⟩, ?_⟩
        refine ⟨_, rfl, ?_⟩
        refine tNil_mk ?_
        refine ⟨po, _, _, rfl, rfl, hO, hosz, ?_⟩
        walk_at "rd"
        refine ⟨some (wdV .opn), ?_, same_mut s3 hpo0, ⟨ys, by rw [upd_ne hne]; exact hys, htp.keep (Keep.upL hO)⟩, by rw [upd_same]; show _ = some (HO.lst (osL (none :: st.os))); rw [osL_cons]; rfl⟩
        show [some (V.str (S sg)), some (V.ref q), some (V.ref pt), some (V.ref po), some (V.int (((st.op : Nat) : Int) + 1)), some (V.int (if ((st.op : Nat) : Int) + 1 > ((st.mo : Nat) : Int) then ((st.op : Nat) : Int) + 1 else ((st.mo : Nat) : Int))), some (wdV .opn)] = [some (V.str (S sg)), some (V.ref q), some (V.ref pt), some (V.ref po), some (V.int ((st.op + 1 : Nat) : Int)), some (V.int ((max st.mo (st.op + 1) : Nat) : Int)), some (wdV .opn)]
        rw [show (if ((st.op : Nat) : Int) + 1 > ((st.mo : Nat) : Int) then ((st.op : Nat) : Int) + 1 else ((st.mo : Nat) : Int)) = ((max st.mo (st.op + 1) : Nat) : Int) by split <;> omega]
        rfl
      have hb3 := of_decide_eq_false hb3
      refine if_K (decide (wl wd = [41])) (fun Q' hQ => ?_) (fun hb4 => ?_) (fun hb4 => ?_)
      · walk_at "rd"
        rw [show Str.ofString ")" = S [41] from rfl, eqw]
        exact hQ
      · have hb4 := of_decide_eq_true hb4
        obtain rfl : wd = .cls := by
          cases wd with
          | sg c => exact absurd rfl (hn c)
          | «at» c => cases hb2
          | op o => cases o <;> cases hb4
          | cls => rfl
          | _ => cases hb4
        obtain ⟨pr1, pr2⟩ := hpre
        walk_at "rd"
        refine ⟨pt, po, st.ts, st.os, 0, rfl, hne, ⟨ys, hys, htp⟩, hO, pr1, by omega, fun H4 b4 k4 hp4 ho4 => ?_⟩
        walk_at "rd"
        have htop := Ex.foldO_top st.os st.ts pr1
        have hcn := (Ex.foldO_cnt 0 st.os st.ts pr1).2
        obtain ⟨r, hr9⟩ : ∃ r, (foldO 0 st.os st.ts).1 = none :: r := by
          rcases htop with z | z
          · rw [z] at hcn; simp [cntN] at hcn; omega
          · exact z
        have ho4' : H4 po = some (.lst (osL r ++ [osV none])) := by rw [ho4, hr9, osL_cons]
        refine ⟨.inl ⟨rfl, _, SqL.of ho4'⟩, ?_⟩
        refine ⟨po, _, osV none, rfl, rfl, ho4', by simp, ?_⟩
        rw [List.dropLast_concat]
        walk_at "rd"
        obtain ⟨ys4, hys4, htp4⟩ := hp4
        have b5 := b4.upd2 (.lst (osL r))
        refine ⟨some (wdV .cls), ?_, b5.same s3 hpt hpo0, ⟨ys4, by rw [upd_ne hne]; exact hys4, htp4.keep (Keep.upL ho4')⟩, by rw [upd_same]; show _ = some (HO.lst (osL (foldO 0 st.os st.ts).1.tail)); rw [hr9]; rfl⟩
        show [some (V.str (S sg)), some (V.ref q), some (V.ref pt), some (V.ref po), some (V.int (((st.op : Nat) : Int) - 1)), some (V.int ((st.mo : Nat) : Int)), some (wdV .cls)] = [some (V.str (S sg)), some (V.ref q), some (V.ref pt), some (V.ref po), some (V.int ((st.op - 1 : Nat) : Int)), some (V.int ((st.mo : Nat) : Int)), some (wdV .cls)]
        rw [show ((st.op : Nat) : Int) - 1 = ((st.op - 1 : Nat) : Int) by omega]
      have hb4 := of_decide_eq_false hb4
      refine if_K (decide (wl wd = [42])) (fun Q' hQ => ?_) (fun hb5 => ?_) (fun hb5 => ?_)
      · walk_at "rd"
        rw [show Str.ofString "*" = S [42] from rfl, eqw]
        exact hQ
      · have hb5 := of_decide_eq_true hb5
        obtain rfl : wd = .str := by
          cases wd with
          | sg c => exact absurd rfl (hn c)
          | «at» c => cases hb2
          | op o => cases o <;> cases hb5
          | str => rfl
          | _ => cases hb5
        obtain ⟨t0, ts0, hts⟩ : ∃ t0 ts0, st.ts = t0 :: ts0 := by
          cases e : st.ts with
          | nil => exact absurd e hpre
          | cons a b => exact ⟨a, b, rfl⟩
        have est : step st .str = { st with ts := .st t0 :: ts0 } := by unfold Ex.step; rw [hts]
        rw [hts] at htp
        obtain ⟨zs, u, rfl, htp1, hu⟩ := tp_snoc htp
        walk_at "rd"
        refine ⟨pt, _, _, _, rfl, rfl, SqL.of hys, atI_last, ?_⟩
        walk_at "rd"
        refine ⟨by walk_at "sz", fun p9 hp9 => ?_⟩
        have s9 := same_new (o := .tup [.str (Str.ofString "*"), u]) hp9
        have e9 : (upd H3 p9 (.tup [.str (Str.ofString "*"), u])) p9 = some (.tup [.str (Str.ofString "*"), u]) := upd_same
        generalize upd H3 p9 (.tup [.str (Str.ofString "*"), u]) = H4 at s9 e9 ⊢
        walk_at "rd"
        have h4 := s9 _ _ hys
        refine ⟨pt, _, _, zs.length, rfl, rfl, h4, by rw [List.length_append]; exact ixN_last _, ?_⟩
        rw [set_last, est]
        have k9 := Keep.same s9
        have ku := Keep.upL (zs := zs ++ [V.ref p9]) h4
        have hp9n : p9 ≠ pt := fun z => by rw [z] at e9; rw [h4] at e9; cases e9
        refine ⟨_, rfl, same_mut (s3.trans s9) hpt, ⟨_, upd_same, tp_push (htp1.keep (k9.trans ku)) ?_⟩, by rw [upd_ne hne.symm]; exact s9 _ _ hO⟩
        exact .tup (SqT.of (by rw [upd_ne hp9n]; exact e9)) (.cons (.str _) (.cons (hu.keep (k9.trans ku)) .nil))
      have hb5 := of_decide_eq_false hb5
      obtain ⟨o', rfl⟩ : ∃ o', wd = .op o' := by
        cases wd with
        | sg c => exact absurd rfl (hn c)
        | «at» c => cases hb2
        | op o => exact ⟨o, rfl⟩
        | opn => exact absurd rfl hb3
        | cls => exact absurd rfl hb4
        | str => exact absurd rfl hb5
      have hpre : st.ts.length = cntS st.os + 1 := hpre
      walk_at "rd"
      refine ⟨RK, _, _, rfl, rfl, T.r_RANKS.get o', ?_⟩
      refine ⟨pt, po, st.ts, st.os, o'.rank, rfl, hne, ⟨ys, hys, htp⟩, hO, hpre, by omega, fun H4 b4 k4 hp4 ho4 => ?_⟩
      walk_at "rd"
      refine ⟨.inl ⟨rfl, _, SqL.of ho4⟩, ?_⟩
      refine ⟨_, rfl, ?_⟩
      refine tNil_mk ?_
      have hfl := (Ex.foldO_len o'.rank st.os st.ts).1
      refine ⟨po, _, _, rfl, rfl, ho4, by unfold osL; rw [List.length_map, List.length_reverse]; exact Nat.lt_of_le_of_lt (m := 800) (by omega) (by decide), ?_⟩
      obtain ⟨ys4, hys4, htp4⟩ := hp4
      have b5 := b4.upd2 (.lst (osL (foldO o'.rank st.os st.ts).1 ++ [wdV (.op o')]))
      refine ⟨some (wdV (.op o')), rfl, b5.same s3 hpt hpo0, ⟨ys4, by rw [upd_ne hne]; exact hys4, htp4.keep (Keep.upL ho4)⟩, ?_⟩
      rw [upd_same]
      show _ = some (HO.lst (osL (some o' :: (foldO o'.rank st.os st.ts).1)))
      rw [osL_cons]
      rfl
    · rintro σ H3 ⟨v6, rfl, s3, hT, hO⟩
      obtain ⟨g1, g2⟩ := Ex.good_end hg
      have hlen := Ex.run_len (s := s0) (ws := ws)
      have hl1 : (run s0 ws).ts.length ≤ ws.length := by have := hlen.1; simpa [s0] using this
      obtain ⟨T0, hT0⟩ := Ex.foldO_end g1 g2
      walk_at "rd"
      refine ⟨pt, po, _, _, 0, rfl, hne, hT, hO, g1, by omega, fun H4 b4 k4 hp4 ho4 => ?_⟩
      rw [hT0] at hp4
      obtain ⟨ys4, hys4, htp4⟩ := hp4
      cases htp4 with
      | cons a b =>
        cases b with
        | nil =>
          walk_at "rd"
          refine ⟨by walk_at "sz", fun p9 hp9 => ?_⟩
          exact kk T0 p9 _ _ hT0 ((b4.same s3 hpt hpo0).trans (same_new hp9)) (SqT.of upd_same) (a.keep (Keep.same (same_new hp9)))
end
end Sh
set_option Elab.async false
set_option linter.all false
set_option maxRecDepth 100000
/-! comprehensions with two fors -/
namespace Sh
open PySem PySem.Spec PyProof.Rows L2
section
variable {K : PySem.W.Frag} {a : Addr} {xs : List V} {g g1 : TG} {tt tt1 : TT} {wi1 : TI} {te : TE} {vs vs1 : List Nat} {σ : L2.St} {D : Addr}
/-- the inner for, over a tuple -/
theorem in_tup {H4 : Hp} {Nx : Hp → Prop} (Pw : Nat → Hp → Prop) (h0 : Pw 0 H4) (hG : ∀ i H, i ≤ xs.length → Pw i H → SqT K H a xs)
    (hs : ∀ i x H, xs[i]? = some x → Pw i H → g1 x (wipe σ vs1) H fun σ3 H5 => wipe σ3 vs1 = wipe σ vs1 ∧ tt1 σ3 H5 fun b H6 =>
      if b = true then te σ3 H6 fun y H7 => ∃ acc, H7 D = some (.lst acc) ∧ acc.length < sizeLine ∧ Pw (i + 1) (upd H7 D (.lst (acc ++ [y]))) else Pw (i + 1) H6) (hd : ∀ H, Pw xs.length H → Nx H) :
    ∃ W1 : Nat → Nat → Hp → Prop, (∃ m, W1 0 m H4) ∧ ∀ j k H, W1 j k H →
      ((Itt K a).stop j H ∧ Nx H) ∨ ((Itt K a).go j H ∧ ∃ Nx1 : Hp → Prop, (∀ H', Nx1 H' → ∃ k', k' < k ∧ W1 (j + 1) k' H') ∧ ∀ x H', (Itt K a).yld j H x H' → g1 x (wipe σ vs1) H' fun σ3 H5 => wipe σ3 vs1 = wipe σ vs1 ∧ tt1 σ3 H5 fun b H6 =>
        if b = true then te σ3 H6 fun y H7 => ∃ acc, H7 D = some (.lst acc) ∧ acc.length < sizeLine ∧ Nx1 (upd H7 D (.lst (acc ++ [y]))) else Nx1 H6) := by
  have w := walk_tup (K := K) (a := a) (xs := xs)
  refine ⟨fun i m H => m = xs.length - i ∧ i ≤ xs.length ∧ Pw i H, ⟨xs.length, by simp, Nat.zero_le _, h0⟩, ?_⟩
  rintro i m H ⟨rfl, hi, p⟩
  have q := hG i H hi p
  by_cases hlt : i < xs.length
  · refine .inr ⟨w.goes i H hlt q, Pw (i + 1), fun H' p' => ⟨xs.length - (i + 1), by omega, rfl, hlt, p'⟩, fun x H' y => ?_⟩
    obtain ⟨rfl, hx⟩ := w.yields i H x H' hlt q y
    exact hs i x H' hx p
  · have e : i = xs.length := by omega
    subst e
    exact .inl ⟨w.stops H q, hd H p⟩
/-- the outer for, over a list -/
theorem lc2_lst {H1 : Hp} {Qd : Hp → Prop} (Pv : Nat → Hp → Prop) (h0 : Pv 0 (upd H1 D (.lst []))) (hG : ∀ i H, i ≤ xs.length → Pv i H → SqL K H a xs)
    (hs : ∀ i x H, xs[i]? = some x → Pv i H → g x (wipe σ vs) H fun σ2 H2 => wipe σ2 vs = wipe σ vs ∧ tt σ2 H2 fun b H3 =>
      if b = true then wi1 σ2 H3 fun J1 H4 => ∃ W1 : Nat → Nat → Hp → Prop, (∃ m, W1 0 m H4) ∧ ∀ j k H, W1 j k H →
        (J1.stop j H ∧ Pv (i + 1) H) ∨ (J1.go j H ∧ ∃ Nx1 : Hp → Prop, (∀ H', Nx1 H' → ∃ k', k' < k ∧ W1 (j + 1) k' H') ∧ ∀ x H', J1.yld j H x H' → g1 x (wipe σ2 vs1) H' fun σ3 H5 => wipe σ3 vs1 = wipe σ2 vs1 ∧ tt1 σ3 H5 fun b H6 =>
          if b = true then te σ3 H6 fun y H7 => ∃ acc, H7 D = some (.lst acc) ∧ acc.length < sizeLine ∧ Nx1 (upd H7 D (.lst (acc ++ [y]))) else Nx1 H6)
      else Pv (i + 1) H3) (hd : ∀ H, Pv xs.length H → Qd H) :
    ∃ W : Nat → Nat → Hp → Prop, (∃ m, W 0 m (upd H1 D (.lst []))) ∧ ∀ i m H, W i m H →
      ((Itl K a).stop i H ∧ Qd H) ∨ ((Itl K a).go i H ∧ ∃ Nx : Hp → Prop, (∀ H', Nx H' → ∃ m', m' < m ∧ W (i + 1) m' H') ∧ ∀ x H', (Itl K a).yld i H x H' → g x (wipe σ vs) H' fun σ2 H2 => wipe σ2 vs = wipe σ vs ∧ tt σ2 H2 fun b H3 =>
        if b = true then wi1 σ2 H3 fun J1 H4 => ∃ W1 : Nat → Nat → Hp → Prop, (∃ m, W1 0 m H4) ∧ ∀ j k H, W1 j k H →
          (J1.stop j H ∧ Nx H) ∨ (J1.go j H ∧ ∃ Nx1 : Hp → Prop, (∀ H', Nx1 H' → ∃ k', k' < k ∧ W1 (j + 1) k' H') ∧ ∀ x H', J1.yld j H x H' → g1 x (wipe σ2 vs1) H' fun σ3 H5 => wipe σ3 vs1 = wipe σ2 vs1 ∧ tt1 σ3 H5 fun b H6 =>
            if b = true then te σ3 H6 fun y H7 => ∃ acc, H7 D = some (.lst acc) ∧ acc.length < sizeLine ∧ Nx1 (upd H7 D (.lst (acc ++ [y]))) else Nx1 H6)
        else Nx H3) := by
  have w := walk_list (K := K) (a := a) (xs := xs)
  refine ⟨fun i m H => m = xs.length - i ∧ i ≤ xs.length ∧ Pv i H, ⟨xs.length, by simp, Nat.zero_le _, h0⟩, ?_⟩
  rintro i m H ⟨rfl, hi, p⟩
  have q := hG i H hi p
  by_cases hlt : i < xs.length
  · refine .inr ⟨w.goes i H hlt q, Pv (i + 1), fun H' p' => ⟨xs.length - (i + 1), by omega, rfl, hlt, p'⟩, fun x H' y => ?_⟩
    obtain ⟨rfl, hx⟩ := w.yields i H x H' hlt q y
    exact hs i x H' hx p
  · have e : i = xs.length := by omega
    subst e
    exact .inl ⟨w.stops H q, hd H p⟩
end
section
variable {X : Cx} {s : Shared} {H : Hp} {sc : Scope} {ce : Env} {fp : List Addr} {tg l : Expr} {tl : TE}
theorem op_in_kdB {d : Addr} {es : Array DictEntry} {n : Nat} (D : KDict X.K X.w d es n) : OpR (X.blk s H sc ce fp) (compareOp .In) (fun x y H Q => ∃ (z : Str) (r : Option Value), x = .str z ∧ y = .ref d ∧ PySem.W.nsIn X.K d z = some r ∧ Q (.bl r.isSome) H) := op_in_kd (X := X.blk s H sc ce fp) D
theorem pi_tupB (hl : PE (X.blk s H sc ce fp) l tl) : PI (X.blk s H sc ce fp) tg l (iTup X.K tl) := pi_tup hl
end
end Sh
set_option Elab.async false
set_option linter.all false
set_option maxRecDepth 100000
/-! slices of rows of values, and of what they tell -/
namespace Sh
open PySem PySem.Spec PyProof.Rows L2
theorem cut_fromV {xs : List V} {i : Int} (h : 0 ≤ i) : cutV xs (some i) none = xs.drop i.toNat := by
  unfold cutV
  have h1 : HT.sIx xs.length 0 (some i) = min i.toNat xs.length := by
    show (if i < 0 then _ else min i.toNat xs.length) = _
    rw [if_neg (by omega)]
  have h2 : HT.sIx xs.length xs.length none = xs.length := rfl
  rw [h1, h2]
  by_cases c : i.toNat ≤ xs.length
  · rw [Nat.min_eq_left c]
    exact List.take_of_length_le (by simp)
  · rw [Nat.min_eq_right (by omega)]
    rw [List.drop_eq_nil_of_le (by omega), List.drop_eq_nil_of_le (by omega), List.take_nil]
theorem cut_toV {xs : List V} {i : Int} (h : 0 ≤ i) : cutV xs none (some i) = xs.take i.toNat := by
  unfold cutV
  have h1 : HT.sIx xs.length 0 none = 0 := rfl
  have h2 : HT.sIx xs.length xs.length (some i) = min i.toNat xs.length := by
    show (if i < 0 then _ else min i.toNat xs.length) = _
    rw [if_neg (by omega)]
  rw [h1, h2, List.drop_zero, Nat.sub_zero]
  by_cases c : i.toNat ≤ xs.length
  · rw [Nat.min_eq_left c]
  · rw [Nat.min_eq_right (by omega), List.take_of_length_le (Nat.le_refl _), List.take_of_length_le (by omega)]
theorem Items.drop {α : Type} {Rel : Hp → V → α → Prop} {H : Hp} {xs : List V} {l : List α} (h : Items Rel H xs l) (n : Nat) : Items Rel H (xs.drop n) (l.drop n) := by
  refine ⟨by rw [List.length_drop, List.length_drop, h.1], fun i x y h1 h2 => ?_⟩
  rw [List.getElem?_drop] at h1 h2
  exact h.2 _ x y h1 h2
theorem Items.take {α : Type} {Rel : Hp → V → α → Prop} {H : Hp} {xs : List V} {l : List α} (h : Items Rel H xs l) (n : Nat) : Items Rel H (xs.take n) (l.take n) := by
  refine ⟨by rw [List.length_take, List.length_take, h.1], fun i x y h1 h2 => ?_⟩
  rw [List.getElem?_take] at h1 h2
  split at h1
  · next c =>
    rw [if_pos c] at h2
    exact h.2 _ x y h1 h2
  · cases h1
theorem Items.app {α : Type} {Rel : Hp → V → α → Prop} {H : Hp} {xs ys : List V} {l m : List α} (h : Items Rel H xs l) (k : Items Rel H ys m) : Items Rel H (xs ++ ys) (l ++ m) := by
  refine ⟨by rw [List.length_append, List.length_append, h.1, k.1], fun i x y h1 h2 => ?_⟩
  rcases Nat.lt_or_ge i xs.length with q | q
  · rw [List.getElem?_append_left q] at h1
    rw [List.getElem?_append_left (h.1 ▸ q)] at h2
    exact h.2 i x y h1 h2
  · rw [List.getElem?_append_right q] at h1
    rw [List.getElem?_append_right (h.1 ▸ q), ← h.1] at h2
    exact k.2 _ x y h1 h2
theorem Items.rev {α : Type} {Rel : Hp → V → α → Prop} {H : Hp} : ∀ {xs : List V} {l : List α}, Items Rel H xs l → Items Rel H xs.reverse l.reverse
  | [], [], _ => Items.nil
  | [], _ :: _, h => by have := h.1; simp at this
  | _ :: _, [], h => by have := h.1; simp at this
  | x :: xs, y :: l, h => by
    rw [List.reverse_cons, List.reverse_cons]
    exact (Items.rev (xs := xs) (l := l) ⟨by have := h.1; simpa using this, fun i a b h1 h2 => h.2 (i + 1) a b (by simpa using h1) (by simpa using h2)⟩).snoc (fun _ _ z => z) (h.2 0 x y rfl rfl)
end Sh
set_option Elab.async false
set_option linter.all false
set_option maxRecDepth 100000
set_option maxHeartbeats 4000000
namespace Sh
open PySem PySem.Spec PyProof.Rows L2
open SX (S S_inj S_len S_cat)
open Ex (Fs Op Tr Wd fb spl isAt isAng fst binOf dbl foldO cntS cntN run s0 dep mdep kids nod snod)
local macro_rules | `(tactic| walk_at "nx") => `(tactic| repeat (with_reducible first | refine Sh.gn_mk ?_ | refine Sh.nx_mk ?_ | refine Sh.st_nx ?_ | refine Sh.rt_mk ?_ | refine Sh.ct_mk ?_ | refine Sh.bk_mk ?_))
local macro_rules | `(tactic| walk_at "sq") => `(tactic| first | exact SqL.of upd_same | exact SqT.of upd_same | exact SqL.of (by assumption) | exact SqT.of (by assumption) | assumption | exact Or.inl (SqL.of (by assumption)) | exact Or.inr (SqT.of (by assumption)) | exact Or.inl (by assumption) | exact Or.inr (by assumption))
local macro_rules | `(tactic| walk_at "hp") => `(tactic| first | exact upd_same | assumption)
local macro_rules | `(tactic| walk_at "sz") => `(tactic| first | exact Nat.le_of_ble_eq_true rfl | omega)
local macro_rules | `(tactic| walk_at "sd") => `(tactic| first | omega | exact rfl | assumption | (show (0 : Int) < _; omega) | exact And.intro (by omega) (by omega) | exact Or.inl (And.intro (by omega) (by omega)) | exact Or.inr (And.intro (by omega) (by omega)) | omega | exact Sh.sz_S (by omega) | decide)
local macro_rules | `(tactic| walk_at "rd1") => `(tactic| first
  | (with_reducible first | refine Sh.gn_mk ?_ | refine Sh.nx_mk ?_ | refine Sh.st_nx ?_ | refine Sh.rt_mk ?_ | refine Sh.ct_mk ?_ | refine Sh.bk_mk ?_)
  | refine Exists.intro (α := V) _ (And.intro rfl ?_)
  | refine Exists.intro (α := Bool) _ (And.intro rfl ?_)
  | refine Exists.intro (α := Int) _ (And.intro rfl ?_)
  | refine Exists.intro (α := PySem.Str) _ (And.intro rfl ?_)
  | refine Exists.intro (α := Int) _ (Exists.intro (α := Int) _ (And.intro rfl (And.intro rfl ?_)))
  | refine Exists.intro (α := PySem.Str) _ (Exists.intro (α := PySem.Str) _ (And.intro rfl (And.intro rfl ?_)))
  | refine Exists.intro (α := Int) _ (Exists.intro (α := Int) _ (And.intro rfl ?_))
  | refine Or.inl (Exists.intro (α := Int) _ (And.intro rfl ?_))
  | refine Exists.intro _ (Exists.intro _ (Exists.intro _ (Exists.intro _ (And.intro rfl (And.intro rfl (And.intro (by walk_at "sq") (And.intro rfl ?_)))))))
  | refine Exists.intro _ (Exists.intro _ (Exists.intro _ (Exists.intro _ (And.intro rfl (And.intro rfl (And.intro (by walk_at "hp") (And.intro rfl ?_)))))))
  | refine And.intro (by walk_at "sd") ?_
  )
local macro_rules | `(tactic| walk_at "rd") => `(tactic| repeat walk_at "rd1")
local macro_rules | `(tactic| walk_at "lk") => `(tactic| first | exact rfl | (rw [lookup_putF, if_pos rfl]) | (rw [lookup_putF, if_neg (by decide +kernel)]; walk_at "lk"))

section
variable {P : Program} {w : World} {K : PySem.W.Frag} {mg : Str → Option Value} {base : Heap} {C0 XE FE DI XM FM XT FT DT XS XB BS AT RK : Addr}
theorem sIx1 (n : Nat) : HT.sIx (n + 1) 0 (some 1) = 1 := by
  show min 1 (n + 1) = 1
  omega
def trh : Tr → Str
  | .sg _ => "sign"
  | .at c => S [c]
  | .st _ => "*"
  | .op o _ _ => opS o
def hk : Tr → Bool
  | .st _ => true
  | .op _ _ _ => true
  | _ => false
def isOp : Tr → Bool
  | .op _ _ _ => true
  | _ => false
theorem tr_inv {H : Hp} {x : V} {y : Tr} (h : Tp K H x (trD y)) : ∃ a xs, x = .ref a ∧ SqT K H a (.str (trh y) :: xs) ∧ (hk y = true → TpAll K H xs ((kids y).map trD)) := by
  have key : ∀ ds, trD y = .tuple (.str (trh y) :: ds) → (hk y = true → ds = (kids y).map trD) → ∃ a xs, x = .ref a ∧ SqT K H a (.str (trh y) :: xs) ∧ (hk y = true → TpAll K H xs ((kids y).map trD)) := by
    intro ds e1 e2
    rw [e1] at h
    obtain ⟨a, xs, rfl, hq, ht⟩ := h.inv
    cases ht with
    | cons h0 ht =>
      cases h0 with
      | str z => exact ⟨a, _, rfl, hq, fun z => by rw [← e2 z]; exact ht⟩
  cases y with
  | sg c => exact key _ rfl (fun z => by cases z)
  | «at» c => exact key _ rfl (fun z => by cases z)
  | st z => exact key _ rfl (fun _ => rfl)
  | op o l r => exact key _ rfl (fun _ => rfl)
theorem rank_head {sg : List Nat} {y : Tr} (R : RankAt K w RK) (h : Ex.Ok sg y) : ∃ r, PySem.W.nsIn K RK (trh y) = some r ∧ r.isSome = isOp y := by
  cases y with
  | sg c => exact ⟨none, R.no _ (by simp [trh]), rfl⟩
  | «at» c =>
    refine ⟨none, R.no _ ?_, rfl⟩
    have h : isAt c = true := h
    have h3 : c = 49 ∨ c = 48 ∨ c = 46 := by unfold isAt at h; simpa [or_assoc] using h
    rcases h3 with rfl | rfl | rfl
    · exact List.mem_cons_of_mem _ (List.mem_cons_self)
    · exact List.mem_cons_of_mem _ (List.mem_cons_of_mem _ (List.mem_cons_self))
    · exact List.mem_cons_of_mem _ (List.mem_cons_of_mem _ (List.mem_cons_of_mem _ (List.mem_cons_self)))
  | st z => exact ⟨none, R.no _ (by simp [trh]), rfl⟩
  | op o l r =>
    obtain ⟨u, e, _⟩ := R.has o
    exact ⟨some u, e, rfl⟩
theorem star_head {sg : List Nat} {y : Tr} (h : Ex.Ok sg y) (ho : isOp y = false) : decide (V.str (trh y) = V.str (Str.ofString "*")) = hk y := by
  cases y with
  | sg c => rfl
  | «at» c =>
    have h : isAt c = true := h
    have h3 : c = 49 ∨ c = 48 ∨ c = 46 := by unfold isAt at h; simpa [or_assoc] using h
    rcases h3 with rfl | rfl | rfl <;> decide
  | st z => rfl
  | op o l r => cases ho
theorem ok_kids {sg : List Nat} {y t : Tr} (h : Ex.Ok sg y) (ht : t ∈ kids y) : Ex.Ok sg t := by
  cases y with
  | sg c => cases ht
  | «at» c => cases ht
  | st z =>
    have : t = z := by simpa [kids] using ht
    rw [this]; exact h
  | op o l r =>
    have : t = l ∨ t = r := by simpa [kids] using ht
    rcases this with rfl | rfl
    · exact h.1
    · exact h.2
def spDepth (K : PySem.W.Frag) : Sp := fun vs H Q _ => ∃ (v : V) (T0 : Tr), vs = [v] ∧ Tp K H v (trD T0) ∧ nod T0 ≤ 2000 ∧ (∃ sg, Ex.Ok sg T0) ∧ ∀ H', Same H H' → Q (.int ((if dep T0 ≤ 20 then dep T0 else 21 : Nat) : Int)) H'
theorem c_depth_of (T : TxtX P K mg C0 w XE FE DI XM FM XT FT DT XS XB BS AT RK) : Cal P w K mg base CX0 1 "depth_of" (spDepth K) := by
  refine Cal.mk0 T.toTxtC.toTxt.d_depth_of sc_depth_of (fun vs H Q E h => ?_) (fun f cdv A outer s H vs Q E hr h => ?_)
  · obtain ⟨v, T0, rfl, _⟩ := h
    rfl
  · obtain ⟨v, T0, rfl, hv, hn, ⟨sg, hok⟩, kk⟩ := h
    obtain ⟨esR, nR, kdR⟩ := T.r_RANKS.kd
    refine ⟨_, (pss_cons (ps_set (i := 1) sc_depth_of.nd rfl (Or.inl rfl) (pe_lst (pa_cons (pv 0) pa_nil)))
  (pss_cons (ps_for PassesOwn.never rfl (pi_range2 (by rfl) T.b_range (pa_cons pe_int (pa_cons (pe_op op_add (pe_gK rfl T.g_MOST_DEEP) pe_int) pa_nil))) (pg_name (i := 2) sc_depth_of.nd rfl (Or.inl rfl))
    (pss_cons (ps_setLc2 (i := 1) (own := [("one", 3), ("part", 4)]) (g := gName 3) (g1 := gName 4) (tt1 := tYes) (vs1 := [4]) (by rfl) sc_depth_of.nd rfl rfl (sw_true rfl rfl rfl (by decide +kernel)) (pi_list (pv 1)) (blkOk_by (N := ["tree", "level", "depth", "one", "part"]) (sc := defScope s_depth_of) (by decide +kernel)) (by decide) (fun _ _ _ _ _ => (pg_name (i := 3) sc_depth_of.nd rfl (Or.inl rfl))) (fun _ _ _ _ _ => (pts_one (PW.pt (pw_or (pt_cmpR (op_in_kdB kdR) (pe_ix ix_tupB (pv 3) pe_int (fun _ _ => rfl)) (pe_gK rfl T.g_RANKS) (by rfl)) (pw_or1 (pt_cmpR op_eq (pe_ix ix_tupB (pv 3) pe_int (fun _ _ => rfl)) pe_str (nomark _))))))) (fun _ _ _ _ _ => (pi_tupB (pe_slice sl_tupAB (pv 3) (po_some pe_int) po_none))) (fun _ _ _ _ _ => (pg_name (i := 4) sc_depth_of.nd rfl (Or.inl rfl))) (fun _ _ _ _ _ => pts_nil) (fun _ _ _ _ _ => (pv 4)))
    (pss_one (ps_if (pt_not (pt_truth (pv 1) (by intro _; rfl)))
      (pss_one (ps_ret (pv 2)))
      pss_nil))))
  (pss_one (ps_ret (pe_op op_add (pe_gK rfl T.g_MOST_DEEP) pe_int))))), ?_⟩
    walk_at "nx"
    walk_at "rd"
    refine ⟨by walk_at "sz", fun p1 hp1 => ?_⟩
    have s1 := same_new (o := .lst [v]) hp1
    have e1 : (upd H p1 (.lst [v])) p1 = some (.lst [v]) := upd_same
    generalize upd H p1 (.lst [v]) = H1 at s1 e1 ⊢
    walk_at "nx"
    walk_at "rd"
    refine for_range (lo := 1) (n := ((20 : Int) + 1 - 1).toNat) (fun i σ H2 => ∃ (pl : Addr) (ys : List V) (l : List Tr) (v2 v3 v4 : Option V), σ = [some v, some (.ref pl), v2, v3, v4] ∧ Same H H2 ∧ H2 pl = some (.lst ys) ∧ TpAll K H2 ys (l.map trD) ∧ (∀ t ∈ l, Ex.Ok sg t) ∧ mdep l = dep T0 - i ∧ i < dep T0 ∧ snod l ≤ 2000)
      ⟨p1, [v], [T0], _, _, _, rfl, s1, e1,   .cons (hv.keep (Keep.same s1)) .nil, fun t ht => (by rw [List.mem_singleton] at ht; rw [ht]; exact hok), by show max (dep T0) 0 = _; omega, Ex.dep_pos T0, by show nod T0 + 0 ≤ _; omega⟩ ?_ ?_
    · rintro i σ H2 hi ⟨pl, ys, l, v2, v3, v4, rfl, s2, h2, ht2, hoks, hm, hlt, hsn⟩
      have hi20 : i < 20 := hi
      walk_at "nx"
      have hll := Ex.snod_len (l.flatMap kids)
      have hsx := Ex.snod_next l
      have hdl : ∀ j, ((l.take j).flatMap kids).length ≤ (l.flatMap kids).length := fun j => by
        conv => rhs; rw [← List.take_append_drop j l, List.flatMap_append, List.length_append]
        exact Nat.le_add_right _ _
      refine ⟨_, rfl, pl, rfl, ⟨_, SqL.of h2⟩, fun D hD => lc2_lst (K := K) (a := pl) (xs := ys) (fun j H3 => ∃ acc, H3 D = some (.lst acc) ∧ TpAll K H3 acc (((l.take j).flatMap kids).map trD) ∧ Same H2 H3)
        ⟨[], upd_same, .nil, same_new hD⟩ (fun j H3 _ ⟨_, _, _, s3⟩ => SqL.of (s3 _ _ h2)) ?_ ?_⟩
      · rintro j x H3 hx ⟨acc, h3, ht3, s3⟩
        obtain ⟨d, hd, htx⟩ := ht2.getV hx
        obtain ⟨y, hy, rfl⟩ : ∃ y, l[j]? = some y ∧ d = trD y := by
          rw [List.getElem?_map] at hd
          cases e : l[j]? with
          | none => rw [e] at hd; cases hd
          | some y => rw [e] at hd; exact ⟨y, rfl, (Option.some.inj hd).symm⟩
        have hyok := hoks y (List.mem_of_getElem? hy)
        have htx3 := htx.keep (Keep.same s3)
        have etk : (l.take (j + 1)).flatMap kids = (l.take j).flatMap kids ++ kids y := by
          have hj : j < l.length := (List.getElem?_eq_some_iff.mp hy).1
          rw [List.take_succ, hy, List.flatMap_append]
          simp
        have hbd : ((l.take j).flatMap kids).length + (kids y).length ≤ 2000 := by
          have := hdl (j + 1)
          rw [etk, List.length_append] at this
          omega
        refine ⟨rfl, ?_⟩
        obtain ⟨qa, qxs, rfl, hq3, hk3⟩ := tr_inv htx3
        refine tt_J (fun b H4 => b = hk y ∧ H3 = H4) (fun Q' hQ => ?_) (fun b H4 hv => ?_)
        · obtain ⟨rr, hrr, hri⟩ := rank_head T.r_RANKS hyok
          walk_at "rd"
          refine ⟨qa, _, _, _, rfl, rfl, hq3, atI_at (Int.le_refl 0) rfl, ?_⟩
          refine ⟨_, rr, rfl, rfl, hrr, ?_⟩
          rw [hri]
          cases ho : isOp y with
          | true =>
            walk_at "rd"
            exact hQ _ _ ⟨(by cases y <;> first | rfl | cases ho), rfl⟩
          | false =>
            walk_at "rd"
            refine ⟨qa, _, _, _, rfl, rfl, hq3, atI_at (Int.le_refl 0) rfl, ?_⟩
            walk_at "rd"
            rw [star_head hyok ho]
            exact hQ _ _ ⟨rfl, rfl⟩
        · obtain ⟨rfl, rfl⟩ := hv
          cases hb : hk y with
          | false =>
            refine iteF ?_
            have e0 : kids y = [] := by cases y <;> first | rfl | cases hb
            refine ⟨acc, h3, ?_, s3⟩
            rw [etk, e0, List.append_nil]
            exact ht3
          | true =>
            refine iteT ?_
            have hk3 := hk3 hb
            walk_at "rd"
            refine ⟨qa, _, rfl, hq3, fun z => absurd (((sIx1 qxs.length).symm.trans z.1)) (by decide), fun _ p9 hp9 => ?_⟩
            rw [cut_fromV (by decide)]
            have s9 := same_new (o := .tup qxs) hp9
            have e9 : (upd H3 p9 (.tup qxs)) p9 = some (.tup qxs) := upd_same
            show _
            refine ⟨p9, rfl, ⟨_, SqT.of upd_same⟩, ?_⟩
            have hkl := hk3.len
            rw [List.length_map] at hkl
            refine in_tup (K := K) (a := p9) (xs := qxs) (fun j1 H5 => ∃ acc, H5 D = some (.lst acc) ∧ TpAll K H5 acc (((l.take j).flatMap kids ++ (kids y).take j1).map trD) ∧ Same H2 H5 ∧ TpAll K H5 qxs ((kids y).map trD) ∧ H5 p9 = some (.tup qxs))
              ⟨acc, s9 _ _ h3, by simpa using ht3.keep (Keep.same s9), s3.trans s9, hk3.keep (Keep.same s9), e9⟩ (fun j1 H5 _ ⟨_, _, _, _, _, h⟩ => SqT.of h) ?_ ?_
            · rintro j1 x1 H5 hx1 ⟨acc5, h5, ht5, s5, hk5, e5⟩
              obtain ⟨d1, hd1, htx1⟩ := hk5.getV hx1
              have hj1 : j1 < (kids y).length := by
                have := (List.getElem?_eq_some_iff.mp hx1).1
                omega
              have hlen5 : acc5.length ≤ 2000 := by
                have := ht5.len
                rw [List.length_map, List.length_append, List.length_take] at this
                omega
              refine ⟨rfl, ty_T ?_⟩
              walk_at "rd"
              have hDp : p9 ≠ D := fun z => by rw [z, h5] at e5; cases e5
              refine ⟨acc5, h5, Nat.lt_of_le_of_lt hlen5 (by decide), acc5 ++ [x1], upd_same, ?_, same_mut s5 hD, hk5.keep (Keep.upL h5), by rw [upd_ne hDp]; exact e5⟩
              rw [List.take_succ, ← List.append_assoc, List.map_append]
              refine (ht5.keep (Keep.upL h5)).app ?_
              rw [List.getElem?_map] at hd1
              cases ek : (kids y)[j1]? with
              | none => rw [ek] at hd1; cases hd1
              | some y1 =>
                rw [ek] at hd1
                have hd1 : trD y1 = d1 := Option.some.inj hd1
                subst hd1
                exact .cons (htx1.keep (Keep.upL h5)) .nil
            · rintro H5 ⟨acc5, h5, ht5, s5, hk5, e5⟩
              refine ⟨acc5, h5, ?_, s5⟩
              rw [etk]
              rw [hkl, List.take_length] at ht5
              exact ht5
      · rintro H3 ⟨acc, h3, ht3, s3⟩
        have hl : ys.length = l.length := by have := ht2.len; simpa using this
        rw [hl, List.take_length] at ht3
        have hmn := Ex.mdep_next l
        have htl := ht3.len
        walk_at "nx"
        have s13 := s2.trans s3
        by_cases he : l.flatMap kids = []
        · have hz := Ex.mdep_zero.mpr he
          rw [he] at htl
          have hacc : acc = [] := List.length_eq_zero_iff.mp (by simpa using htl)
          subst hacc
          refine if_K true (fun Q' hQ => ?_) (fun _ => ?_) (fun z => by cases z)
          · walk_at "rd"
            refine ⟨false, .inl ⟨[], SqL.of h3, rfl⟩, ?_⟩
            exact hQ
          · walk_at "rd"
            have := kk H3 s13
            rw [if_pos (by omega), show ((dep T0 : Nat) : Int) = 1 + ((i : Nat) : Int) by omega] at this
            exact this
        · have hnz : mdep (l.flatMap kids) ≠ 0 := fun z => he (Ex.mdep_zero.mp z)
          have hacc : acc ≠ [] := by
            rintro rfl
            apply he
            exact List.length_eq_zero_iff.mp (by simpa using htl.symm)
          refine if_K false (fun Q' hQ => ?_) (fun z => by cases z) (fun _ => ?_)
          · walk_at "rd"
            refine ⟨true, .inl ⟨acc, SqL.of h3, by cases acc <;> first | rfl | exact absurd rfl hacc⟩, ?_⟩
            exact hQ
          · walk_at "nx"
            refine ⟨D, acc, l.flatMap kids, _, _, _, rfl, s13, h3, ht3, fun t ht => ?_, by omega, by omega, by omega⟩
            obtain ⟨y, hy, hty⟩ := List.mem_flatMap.mp ht
            exact ok_kids (hoks y hy) hty
    · rintro σ H2 ⟨pl, ys, l, v2, v3, v4, rfl, s2, h2, ht2, hoks, hm, hlt, hsn⟩
      have hlt : 20 < dep T0 := hlt
      walk_at "rd"
      have := kk H2 s2
      rw [if_neg (by omega)] at this
      exact this
end
end Sh
set_option Elab.async false
set_option linter.all false
set_option maxRecDepth 100000
set_option maxHeartbeats 4000000
namespace Sh
open PySem PySem.Spec PyProof.Rows L2
open SX (S S_inj S_len S_cat)
open Ex (Fs Op Tr Wd fb spl isAt isAng fst binOf dbl foldO cntS cntN run s0 dep mdep kids nod snod)
local macro_rules | `(tactic| walk_at "nx") => `(tactic| repeat (with_reducible first | refine Sh.gn_mk ?_ | refine Sh.nx_mk ?_ | refine Sh.st_nx ?_ | refine Sh.rt_mk ?_ | refine Sh.ct_mk ?_ | refine Sh.bk_mk ?_))
local macro_rules | `(tactic| walk_at "sq") => `(tactic| first | exact SqL.of upd_same | exact SqT.of upd_same | exact SqL.of (by assumption) | exact SqT.of (by assumption) | assumption | exact Or.inl (SqL.of (by assumption)) | exact Or.inr (SqT.of (by assumption)) | exact Or.inl (by assumption) | exact Or.inr (by assumption))
local macro_rules | `(tactic| walk_at "hp") => `(tactic| first | exact upd_same | assumption)
local macro_rules | `(tactic| walk_at "sz") => `(tactic| first | exact Nat.le_of_ble_eq_true rfl | omega)
local macro_rules | `(tactic| walk_at "sd") => `(tactic| first | omega | exact rfl | assumption | (show (0 : Int) < _; omega) | exact And.intro (by omega) (by omega) | exact Or.inl (And.intro (by omega) (by omega)) | exact Or.inr (And.intro (by omega) (by omega)) | omega | exact Sh.sz_S (by omega) | decide)
local macro_rules | `(tactic| walk_at "rd1") => `(tactic| first
  | (with_reducible first | refine Sh.gn_mk ?_ | refine Sh.nx_mk ?_ | refine Sh.st_nx ?_ | refine Sh.rt_mk ?_ | refine Sh.ct_mk ?_ | refine Sh.bk_mk ?_)
  | refine Exists.intro (α := V) _ (And.intro rfl ?_)
  | refine Exists.intro (α := Bool) _ (And.intro rfl ?_)
  | refine Exists.intro (α := Int) _ (And.intro rfl ?_)
  | refine Exists.intro (α := PySem.Str) _ (And.intro rfl ?_)
  | refine Exists.intro (α := Int) _ (Exists.intro (α := Int) _ (And.intro rfl (And.intro rfl ?_)))
  | refine Exists.intro (α := PySem.Str) _ (Exists.intro (α := PySem.Str) _ (And.intro rfl (And.intro rfl ?_)))
  | refine Exists.intro (α := Int) _ (Exists.intro (α := Int) _ (And.intro rfl ?_))
  | refine Or.inl (Exists.intro (α := Int) _ (And.intro rfl ?_))
  | refine Exists.intro _ (Exists.intro _ (Exists.intro _ (Exists.intro _ (And.intro rfl (And.intro rfl (And.intro (by walk_at "sq") (And.intro rfl ?_)))))))
  | refine Exists.intro _ (Exists.intro _ (Exists.intro _ (Exists.intro _ (And.intro rfl (And.intro rfl (And.intro (by walk_at "hp") (And.intro rfl ?_)))))))
  | refine And.intro (by walk_at "sd") ?_
  )
local macro_rules | `(tactic| walk_at "rd") => `(tactic| repeat walk_at "rd1")
local macro_rules | `(tactic| walk_at "lk") => `(tactic| first | exact rfl | (rw [lookup_putF, if_pos rfl]) | (rw [lookup_putF, if_neg (by decide +kernel)]; walk_at "lk"))

section
variable {P : Program} {w : World} {K : PySem.W.Frag} {mg : Str → Option Value} {base : Heap} {C0 XE FE DI XM FM XT FT DT XS XB BS AT RK : Addr}
/-- what a text comes to -/
def Comes (K : PySem.W.Frag) (XE XM : Addr) (sg t : List Nat) (H : Hp) (Q : VK) (E : XK) : Prop :=
  (∃ p, spl sg 0 0 true t = .error p ∧ ∀ H', Same H H' → Thrown E H' XE "place" (.int (p : Nat))) ∨
  ∃ T mo, Ex.Read sg t T mo ∧ ((¬ (mo ≤ 20 ∧ dep T ≤ 20) ∧ ∀ H', Same H H' → Thrown E H' XM "word" (.str "depth")) ∨ (mo ≤ 20 ∧ dep T ≤ 20 ∧ ∀ v H', Same H H' → Tp K H' v (trD T) → Q v H'))
def spParse (K : PySem.W.Frag) (XE XM XT XS : Addr) : Sp := fun vs H Q E => ∃ (sg : List Nat) (v : V), vs = [.str (S sg), v] ∧ sg.length ≤ 1000 ∧
  ((isSigns sg = false ∧ Thrown E H XS "thing" (.str (S sg))) ∨ (isSigns sg = true ∧ Sgn sg ∧
    ((NotStr K H v ∧ Thrown E H XT "thing" v) ∨ ∃ t : List Nat, v = .str (S t) ∧ t.length ≤ 1000 ∧ ((400 < t.length ∧ Thrown E H XT "thing" v) ∨ (t.length ≤ 400 ∧ Comes K XE XM sg t H Q E)))))
theorem c_X_parse (T : TxtX P K mg C0 w XE FE DI XM FM XT FT DT XS XB BS AT RK) : Cal P w K mg base (L2.CX P w) 4 "parse" (spParse K XE XM XT XS) := by
  have x_WrongThing := x_WrongThing (P := P) (w := w) (base := base) T
  have x_TooMany := x_TooMany (P := P) (w := w) (base := base) T
  have c_X_check_signs := c_X_check_signs (P := P) (w := w) (base := base) T
  have c_tree_from := c_tree_from (P := P) (w := w) (base := base) T
  have c_X_split_up := c_X_split_up (P := P) (w := w) (base := base) T
  have c_depth_of := c_depth_of (P := P) (w := w) (base := base) T
  refine Cal.mkX T.toTxtC.toTxt.d_parse sc_parse (fun vs H Q E h => ?_) (fun f cdv A outer s H vs Q E hr h => ?_)
  · obtain ⟨sg, v, rfl, _⟩ := h
    rfl
  · obtain ⟨sg, v, rfl, hsl, h⟩ := h
    have hSl := S_len sg
    refine ⟨_, (pss_cons (ps_expr (pe_cX c_X_check_signs hr (by decide) (takes_of rfl rfl rfl rfl) rfl (pa_cons (pv 0) pa_nil)))
  (pss_cons (ps_if (PW.pt (pw_or (pt_not (pt_val (pe_callB call_isi (by rfl) T.b_isinstance (by decide +kernel) (pa_cons (pv 1) (pa_cons (pe_bltn (v := .ty "str") (by rfl) T.b_str (by decide +kernel) rfl) pa_nil))))) (pw_or1 (pt_cmpR op_gt (pe_callB call_len_str (by rfl) T.b_len (by decide +kernel) (pa_cons (pv 1) pa_nil)) (pe_gK rfl T.g_MOST_LONG) (nomark _)))))
    (pss_one (ps_raiseX T.e_BadText x_WrongThing hr (by decide) rfl (takes_of rfl rfl rfl rfl) rfl (pa_cons (pv 1) pa_nil)))
    pss_nil)
  (pss_cons (ps_asg (pe_c c_tree_from hr (by decide) rfl (pa_cons (pv 0) (pa_cons (pe_cX c_X_split_up hr (by decide) (takes_of rfl rfl rfl rfl) rfl (pa_cons (pv 0) (pa_cons (pv 1) pa_nil))) pa_nil))) (pg_tup (by rfl) (pgs_cons (pg_name (i := 2) sc_parse.nd rfl (Or.inl rfl)) (pgs_cons (pg_name (i := 3) sc_parse.nd rfl (Or.inl rfl)) pgs_nil))))
  (pss_cons (ps_if (PW.pt (pw_or (pt_cmpR op_gt (pv 3) (pe_gK rfl T.g_MOST_OPEN) (nomark _)) (pw_or1 (pt_cmpR op_gt (pe_c c_depth_of hr (by decide) rfl (pa_cons (pv 2) pa_nil)) (pe_gK rfl T.g_MOST_DEEP) (nomark _)))))
    (pss_one (ps_raiseX T.e_TooMany x_TooMany hr (by decide) rfl (takes_of rfl rfl rfl rfl) rfl (pa_cons pe_str pa_nil)))
    pss_nil)
  (pss_one (ps_ret (pv 2))))))), ?_⟩
    walk_at "rd"
    rcases h with ⟨hb, th⟩ | ⟨hb, hsg, h⟩
    · exact .inl ⟨sg, rfl, by omega, fun z => (by rw [hb] at z; cases z), fun _ => th⟩
    refine .inl ⟨sg, rfl, by omega, fun _ => ?_, fun z => (by rw [hb] at z; cases z)⟩
    walk_at "rd"
    rcases h with ⟨⟨n, ht, hn, hns⟩, th⟩ | ⟨t, rfl, htl, h⟩
    · refine ⟨_, _, _, _, _, rfl, .ty _, ht, kit_ty (kit_all _ hn _ (by decide)), _, rfl, ?_⟩
      rw [isaB_str hn, show (n == "str") = false from by simp [hns]]
      refine iteT ?_
      refine iteT ?_
      walk_at "rd"
      first | exact mk1 T.e_BadText T.nf_BadText_thing trivial th | exact (mk1 T.e_BadText T.nf_BadText_thing trivial th).2
    have htS := S_len t
    refine ⟨_, _, _, _, _, rfl, .ty _, .base (.str _), kit_ty (r := true) (by decide +kernel), _, rfl, ?_⟩
    refine iteF ?_
    walk_at "rd"
    rcases h with ⟨h4, th⟩ | ⟨h4, hcm⟩
    · rw [decide_eq_true (show (400 : Int) < (((S t).length : Nat) : Int) by omega)]
      refine iteT ?_
      walk_at "rd"
      first | exact mk1 T.e_BadText T.nf_BadText_thing trivial th | exact (mk1 T.e_BadText T.nf_BadText_thing trivial th).2
    rw [decide_eq_false (show ¬ (400 : Int) < (((S t).length : Nat) : Int) by omega)]
    refine iteF ?_
    walk_at "nx"
    walk_at "rd"
    refine ⟨sg, t, rfl, hsg.low, h4, fun p hp H' s' => ?_, fun ws hws p1 H1 s1 h1 => ?_⟩
    · rcases hcm with ⟨p', e, th⟩ | ⟨T0, mo, hR, _⟩
      · rw [e] at hp
        injection hp with hp
        rw [← hp]
        exact th H' s'
      · obtain ⟨ws, e, _⟩ := hR.ex
        rw [e] at hp
        cases hp
    rcases hcm with ⟨p', e, th⟩ | ⟨T0, mo, hR, hcm⟩
    · rw [e] at hws; cases hws
    obtain ⟨ws', e, hfo, hmo⟩ := hR.ex
    rw [e] at hws
    injection hws with hws
    subst hws
    have hgood := Ex.spl_good t.length t (Nat.le_refl _) 0 0 true ws' s0 e Ex.wf0
    obtain ⟨hokw, _, hwl⟩ := Ex.spl_ok t.length t (Nat.le_refl _) 0 0 true ws' e
    walk_at "rd"
    refine ⟨sg, p1, ws', rfl, hsg, h1, hokw, hgood, by omega, fun T1 p2 v H2 hf s2 sq tp => ?_⟩
    rw [hfo] at hf
    obtain rfl : T0 = T1 := by injection hf with _ z; injection z
    rw [hmo] at sq
    have s12 := s1.trans s2
    refine ⟨p2, _, rfl, sq, rfl, ?_⟩
    have hin := hR.inn
    have hno := Ex.nod_inn T0
    have hwt : Ex.wt sg t ≤ t.length := List.countP_le_length
    refine ⟨v, [V.int (mo : Nat)], rfl, ?_⟩
    refine ⟨V.int (mo : Nat), [], rfl, rfl, ?_⟩
    walk_at "nx"
    refine if_KH (!decide (mo ≤ 20 ∧ dep T0 ≤ 20)) (fun H3 => Same H2 H3) (fun Q' hQ => ?_) (fun hb2 H3 s3 => ?_) (fun hb2 H3 s3 => ?_)
    · walk_at "rd"
      by_cases hm : mo ≤ 20
      · rw [decide_eq_false (show ¬ (20 : Int) < ((mo : Nat) : Int) by omega)]
        refine iteF ?_
        walk_at "rd"
        refine ⟨v, T0, rfl, tp, by omega, ⟨sg, hR.ok⟩, fun H4 s4 => ?_⟩
        walk_at "rd"
        refine q_of (hQ H4 s4) ?_
        rw [← decide_not]
        refine decide_eq_decide.mpr ?_
        constructor
        · intro z z2
          rw [if_pos z2.2] at z
          have := z2.2
          omega
        · intro z
          have : ¬ dep T0 ≤ 20 := fun y => z ⟨hm, y⟩
          rw [if_neg this]
          omega
      · rw [decide_eq_true (show (20 : Int) < ((mo : Nat) : Int) by omega)]
        refine iteT ?_
        refine q_of (hQ H2 (Same.refl _)) ?_
        rw [decide_eq_false (fun z => hm z.1)]
        rfl
    · have hb3 : ¬ (mo ≤ 20 ∧ dep T0 ≤ 20) := fun z => by rw [decide_eq_true z] at hb2; cases hb2
      rcases hcm with ⟨_, th⟩ | ⟨m1, m2, _⟩
      · have th := th H3 (s12.trans s3)
        walk_at "rd"
        first | exact mk1 T.e_TooMany T.nf_TooMany_word ⟨_, rfl, by decide⟩ th | exact (mk1 T.e_TooMany T.nf_TooMany_word ⟨_, rfl, by decide⟩ th).2
      · exact absurd ⟨m1, m2⟩ hb3
    · have hb3 : mo ≤ 20 ∧ dep T0 ≤ 20 := by simpa using hb2
      rcases hcm with ⟨hno2, _⟩ | ⟨m1, m2, k⟩
      · exact absurd hb3 hno2
      · walk_at "rd"
        exact k v H3 (s12.trans s3) (tp.keep (Keep.same s3))
end
end Sh
/-! overlaps as the program lists them; plain Lean -/
namespace Bk
abbrev Ov := T × Nat × Nat × Nat
def ovAt (i : Nat) (l : T) (j : Nat) (r : T) (k : Nat) : Option Ov := if k = 0 ∧ j ≤ i then none else (over l r k).map fun t => (t, i, k, j)
def ovP (i : Nat) (l : T) (j : Nat) (r : T) (n : Nat) : List Ov := (List.range n).filterMap (ovAt i l j r)
def lf (R : List Rule) (i : Nat) : T := (R.getD i ([], [])).1
def ovJ (R : List Rule) (i n : Nat) : List Ov := (List.range n).flatMap fun j => ovP i (lf R i) j (lf R j) (lf R i).length
def ovI (R : List Rule) (n : Nat) : List Ov := (List.range n).flatMap fun i => ovJ R i R.length
def ovs (R : List Rule) : List Ov := ovI R R.length
theorem ovP_succ (i : Nat) (l : T) (j : Nat) (r : T) (n : Nat) : ovP i l j r (n + 1) = ovP i l j r n ++ (ovAt i l j r n).toList := by
  unfold ovP
  rw [List.range_succ, List.filterMap_append]
  cases h : ovAt i l j r n <;> simp [h]
theorem ovJ_succ (R : List Rule) (i n : Nat) : ovJ R i (n + 1) = ovJ R i n ++ ovP i (lf R i) n (lf R n) (lf R i).length := by
  unfold ovJ
  rw [List.range_succ, List.flatMap_append]
  simp
theorem ovI_succ (R : List Rule) (n : Nat) : ovI R (n + 1) = ovI R n ++ ovJ R n R.length := by
  unfold ovI
  rw [List.range_succ, List.flatMap_append]
  simp
theorem lf_get {R : List Rule} {i : Nat} {r : Rule} (h : R[i]? = some r) : lf R i = r.1 := by
  unfold lf
  rw [List.getD_eq_getElem?_getD, h]; rfl
theorem mem_ovs {R : List Rule} {o : Ov} : o ∈ ovs R ↔ ∃ i r j q k t, R[i]? = some r ∧ R[j]? = some q ∧ k < r.1.length ∧ ¬ (k = 0 ∧ j ≤ i) ∧ over r.1 q.1 k = some t ∧ o = (t, i, k, j) := by
  unfold ovs ovI ovJ ovP ovAt
  simp only [List.mem_flatMap, List.mem_range, List.mem_filterMap]
  constructor
  · rintro ⟨i, hi, j, hj, k, hk, h⟩
    have hr : R[i]? = some R[i] := by simp [hi]
    have hq : R[j]? = some R[j] := by simp [hj]
    rw [lf_get hr, lf_get hq] at h
    rw [lf_get hr] at hk
    by_cases c : k = 0 ∧ j ≤ i
    · rw [if_pos c] at h; cases h
    · rw [if_neg c, Option.map_eq_some_iff] at h
      obtain ⟨t, h1, rfl⟩ := h
      exact ⟨i, R[i], j, R[j], k, t, hr, hq, hk, c, h1, rfl⟩
  · rintro ⟨i, r, j, q, k, t, hr, hq, hk, c, h1, rfl⟩
    refine ⟨i, (List.getElem?_eq_some_iff.mp hr).1, j, (List.getElem?_eq_some_iff.mp hq).1, k, by rw [lf_get hr]; exact hk, ?_⟩
    rw [lf_get hr, lf_get hq, if_neg c, h1]; rfl
/-- a text is less than another one -/
def keyLt (a b : T) : Bool := if a.length = b.length then decide (a < b) else decide (a.length < b.length)
/-- an overlap whose results have one end -/
def okOv (R : List Rule) (o : Ov) : Bool := match R[o.2.1]?, R[o.2.2.2]? with
  | some r, some q => decide (left R (res1 r o.1) = left R (res2 q o.1 o.2.2.1))
  | _, _ => true
def qstep (R : List Rule) (best : Option T) (o : Ov) : Option T :=
  if (match best with | none => true | some b => keyLt o.1 b) = true then (if okOv R o = true then best else some o.1) else best
def quarrel (R : List Rule) : Option T := (ovs R).foldl (qstep R) none
theorem qstep_none {R : List Rule} {b : Option T} {o : Ov} (h : qstep R b o = none) : b = none ∧ okOv R o = true := by
  unfold qstep at h
  cases hb : b with
  | none =>
    subst hb
    refine ⟨rfl, ?_⟩
    simp only [if_true] at h
    cases c : okOv R o with
    | true => rfl
    | false => rw [c] at h; simp at h
  | some b' =>
    subst hb
    exfalso
    cases c : okOv R o <;> cases d : keyLt o.1 b' <;> simp [c, d] at h
theorem foldl_q {R : List Rule} : ∀ (l : List Ov) (b : Option T), l.foldl (qstep R) b = none → b = none ∧ ∀ o ∈ l, okOv R o = true
  | [], b, h => ⟨h, by simp⟩
  | o :: l, b, h => by
    obtain ⟨h1, h2⟩ := foldl_q l (qstep R b o) h
    have := qstep_none h1
    exact ⟨this.1, fun o' ho => by
      rcases List.mem_cons.mp ho with rfl | q
      · exact this.2
      · exact h2 o' q⟩
theorem foldl_q' {R : List Rule} : ∀ (l : List Ov), (∀ o ∈ l, okOv R o = true) → l.foldl (qstep R) none = none
  | [], _ => rfl
  | o :: l, h => by
    have : qstep R none o = none := by
      unfold qstep
      simp only [if_true]
      rw [if_pos (h o List.mem_cons_self)]
    rw [List.foldl_cons, this]
    exact foldl_q' l fun o' ho => h o' (List.mem_cons_of_mem _ ho)
theorem quarrel_none {R : List Rule} : quarrel R = none ↔ ∀ o ∈ ovs R, okOv R o = true :=
  ⟨fun h => (foldl_q _ _ h).2, foldl_q' _⟩
theorem over_symm {a b t : T} (h : over a b 0 = some t) : over b a 0 = some t := by
  unfold over at h ⊢
  simp only [List.drop_zero, Nat.sub_zero] at h ⊢
  rw [Nat.min_comm b.length a.length]
  generalize hm : min a.length b.length = m at h ⊢
  by_cases c : a.take m = b.take m
  · rw [if_pos c] at h
    rw [if_pos c.symm, ← h]
    congr 1
    rcases Nat.le_total a.length b.length with q | q
    · have e : m = a.length := by omega
      have e1 : a.drop m = [] := List.drop_eq_nil_of_le (by omega)
      have e2 : a.take m = a := List.take_of_length_le (by omega)
      rw [e1, List.append_nil, ← e2, c, List.take_append_drop]
    · have e1 : b.drop m = [] := List.drop_eq_nil_of_le (by omega)
      have e2 : b.take m = b := List.take_of_length_le (by omega)
      rw [e1, List.append_nil, ← e2, ← c, List.take_append_drop]
  · rw [if_neg c] at h; cases h
/-- a book without quarrel meets -/
theorem meets_of {R : List Rule} (w : Wf R) (h : quarrel R = none) : Meets R := by
  have ok := quarrel_none.mp h
  have use : ∀ (i : Nat) (r : Rule) (j : Nat) (q : Rule) (k : Nat) (t : T), R[i]? = some r → R[j]? = some q → k < r.1.length → ¬ (k = 0 ∧ j ≤ i) → over r.1 q.1 k = some t → left R (res1 r t) = left R (res2 q t k) := by
    intro i r j q k t hr hq hk c ho
    have := ok (t, i, k, j) (mem_ovs.mpr ⟨i, r, j, q, k, t, hr, hq, hk, c, ho, rfl⟩)
    unfold okOv at this
    simp only [hr, hq, decide_eq_true_eq] at this
    exact this
  intro r hr q hq k hk t ho
  obtain ⟨i, hi, rfl⟩ := List.mem_iff_getElem.mp hr
  obtain ⟨j, hj, rfl⟩ := List.mem_iff_getElem.mp hq
  have gi : R[i]? = some R[i] := by simp [hi]
  have gj : R[j]? = some R[j] := by simp [hj]
  by_cases c : k = 0 ∧ j ≤ i
  · obtain ⟨rfl, hji⟩ := c
    -- at place 0 the pair stands the other way round, or it is one rule
    by_cases e : j = i
    · subst e
      unfold over at ho
      simp at ho
      subst ho
      unfold res1 res2
      simp
    · have h1 := over_symm ho
      have hk' : 0 < R[j].1.length := by
        have := (w R[j] hq).1
        omega
      have := use j R[j] i R[i] 0 t gj gi hk' (by omega) h1
      unfold res1 res2 at this ⊢
      simp at this ⊢
      exact this.symm
  · exact use i R[i] j R[j] k t gi gj hk c ho
end Bk
namespace Bk
theorem ovP_len (i : Nat) (l : T) (j : Nat) (r : T) (n : Nat) : (ovP i l j r n).length ≤ n := by
  unfold ovP
  exact Nat.le_trans (List.length_filterMap_le _ _) (by simp)
theorem ovJ_len (R : List Rule) (i n : Nat) : (ovJ R i n).length ≤ n * (lf R i).length := by
  induction n with
  | zero => simp [ovJ]
  | succ n ih =>
    rw [ovJ_succ, List.length_append, Nat.succ_mul]
    have := ovP_len i (lf R i) n (lf R n) (lf R i).length
    omega
theorem ovI_len {R : List Rule} {m : Nat} (h : ∀ i, (lf R i).length ≤ m) (n : Nat) : (ovI R n).length ≤ n * (R.length * m) := by
  induction n with
  | zero => simp [ovI]
  | succ n ih =>
    rw [ovI_succ, List.length_append, Nat.succ_mul]
    have h1 := ovJ_len R n R.length
    have h2 : R.length * (lf R n).length ≤ R.length * m := Nat.mul_le_mul_left _ (h n)
    omega
theorem lf_le {R : List Rule} {m : Nat} (h : ∀ r ∈ R, r.1.length ≤ m) (i : Nat) : (lf R i).length ≤ m := by
  unfold lf
  rw [List.getD_eq_getElem?_getD]
  cases e : R[i]? with
  | none => simp
  | some r => exact h r (List.mem_of_getElem? e)
end Bk
/-! what one book says of the rules of another one; plain Lean -/
namespace Bk
def AllSay (R N : List Rule) : Prop := ∀ r ∈ N, left R r.1 = left R r.2
theorem say_step {R N : List Rule} (w : Wf R) (M : Meets R) (h : AllSay R N) {a b : T} (s : Step N a b) : left R a = left R b := by
  cases s with
  | mk x y r hr => exact left_congr w M (left_congr w M rfl (h r hr)) rfl
theorem say_reach {R N : List Rule} (w : Wf R) (M : Meets R) (h : AllSay R N) {a b : T} (s : Reach N a b) : left R a = left R b := by
  induction s with
  | refl => exact rfl
  | step x _ ih => exact (say_step w M h x).trans ih
theorem say_ends {R N : List Rule} (w : Wf R) (M : Meets R) (h : AllSay R N) {t u : T} (e : left N t = left N u) : left R t = left R u := by
  rw [say_reach w M h (left_reach (R := N) t), say_reach w M h (left_reach (R := N) u), e]
/-- the end in R of the first text with the end k in N -/
def fstE (R N : List Rule) (pre : List T) (k : T) : Option T := (pre.find? fun u => decide (left N u = k)).map (left R)
def brk (R N : List Rule) (pre : List T) : Bool := pre.any fun u => decide (¬ fstE R N pre (left N u) = some (left R u))
theorem fstE_snoc (R N : List Rule) (pre : List T) (t k : T) : fstE R N (pre ++ [t]) k = match fstE R N pre k with
    | some v => some v
    | none => if left N t = k then some (left R t) else none := by
  unfold fstE
  rw [List.find?_append]
  cases h : pre.find? fun u => decide (left N u = k) with
  | some v => rfl
  | none =>
    simp only [Option.none_or, Option.map_none, List.find?_cons, List.find?_nil]
    by_cases c : left N t = k
    · simp [c]
    · simp [c]
theorem fstE_mem {R N : List Rule} {pre : List T} {u : T} (h : u ∈ pre) : ∃ v, fstE R N pre (left N u) = some v := by
  unfold fstE
  cases e : pre.find? fun z => decide (left N z = left N u) with
  | some v => exact ⟨_, rfl⟩
  | none =>
    have := List.find?_eq_none.mp e u h
    simp at this
theorem brk_snoc (R N : List Rule) (pre : List T) (t : T) : brk R N (pre ++ [t]) = (brk R N pre || decide (¬ fstE R N (pre ++ [t]) (left N t) = some (left R t))) := by
  unfold brk
  rw [List.any_append]
  congr 1
  · have key : ∀ l : List T, (∀ u ∈ l, u ∈ pre) → (l.any fun u => decide (¬ fstE R N (pre ++ [t]) (left N u) = some (left R u))) = l.any fun u => decide (¬ fstE R N pre (left N u) = some (left R u)) := by
      intro l
      induction l with
      | nil => intro _; rfl
      | cons u l ih =>
        intro h
        obtain ⟨v, hv⟩ := fstE_mem (R := R) (N := N) (h u List.mem_cons_self)
        have e : fstE R N (pre ++ [t]) (left N u) = fstE R N pre (left N u) := by rw [fstE_snoc, hv]
        rw [List.any_cons, List.any_cons, e, ih fun z hz => h z (List.mem_cons_of_mem _ hz)]
    exact key pre fun _ h => h
  · simp
theorem brk_false {R N : List Rule} (w : Wf R) (M : Meets R) (h : AllSay R N) (l : List T) : brk R N l = false := by
  unfold brk
  rw [List.any_eq_false]
  intro u hu
  obtain ⟨v, hv⟩ := fstE_mem (R := R) (N := N) hu
  have hv' := hv
  unfold fstE at hv'
  rw [Option.map_eq_some_iff] at hv'
  obtain ⟨z, hz, rfl⟩ := hv'
  have := List.find?_some hz
  rw [hv, say_ends w M h (of_decide_eq_true this)]
  simp
theorem brk_true {R N : List Rule} (w : Wf N) (M : Meets N) {l : List T} {r : Rule} (hr : r ∈ N) (hne : ¬ left R r.1 = left R r.2) (h1 : r.1 ∈ l) (h2 : r.2 ∈ l) : brk R N l = true := by
  have e : left N r.1 = left N r.2 := left_eq w M (.step (by have := Step.mk (R := N) [] [] r hr; simpa using this) (.refl _))
  obtain ⟨v, hv⟩ := fstE_mem (R := R) (N := N) h1
  unfold brk
  rw [List.any_eq_true]
  by_cases c : v = left R r.1
  · refine ⟨r.2, h2, ?_⟩
    rw [← e, hv, c]
    exact decide_eq_true fun z => hne (Option.some.inj z)
  · refine ⟨r.1, h1, ?_⟩
    rw [hv]
    exact decide_eq_true fun z => c (Option.some.inj z)
/-- all texts of n signs, of up to n signs -/
def lvl (sg : List Nat) : Nat → List T
  | 0 => [[]]
  | k + 1 => (lvl sg k).flatMap fun t => sg.map fun c => t ++ [c]
def txts (sg : List Nat) (n : Nat) : List T := (List.range (n + 1)).flatMap (lvl sg)
theorem mem_lvl {sg : List Nat} : ∀ {n : Nat} {t : T}, t ∈ lvl sg n ↔ t.length = n ∧ ∀ c ∈ t, c ∈ sg
  | 0, t => by
    simp only [lvl, List.mem_singleton]
    constructor
    · rintro rfl; simp
    · rintro ⟨h, _⟩; exact List.eq_nil_of_length_eq_zero h
  | n + 1, t => by
    simp only [lvl, List.mem_flatMap, List.mem_map]
    constructor
    · rintro ⟨u, hu, c, hc, rfl⟩
      obtain ⟨h1, h2⟩ := mem_lvl.mp hu
      refine ⟨by simp [h1], fun d hd => ?_⟩
      rcases List.mem_append.mp hd with q | q
      · exact h2 d q
      · rw [List.mem_singleton] at q; rw [q]; exact hc
    · rintro ⟨h1, h2⟩
      have hne : t ≠ [] := by
        intro e; rw [e] at h1; simp at h1
      refine ⟨t.dropLast, mem_lvl.mpr ⟨by rw [List.length_dropLast, h1]; rfl, fun c hc => h2 c (List.dropLast_subset t hc)⟩, t.getLast hne, h2 _ (List.getLast_mem hne), List.dropLast_concat_getLast hne⟩
theorem mem_txts {sg : List Nat} {n : Nat} {t : T} : t ∈ txts sg n ↔ t.length ≤ n ∧ ∀ c ∈ t, c ∈ sg := by
  unfold txts
  simp only [List.mem_flatMap, List.mem_range, mem_lvl]
  constructor
  · rintro ⟨k, hk, h1, h2⟩
    exact ⟨by omega, h2⟩
  · rintro ⟨h1, h2⟩
    exact ⟨t.length, by omega, rfl, h2⟩
theorem txts_succ (sg : List Nat) (n : Nat) : txts sg (n + 1) = txts sg n ++ lvl sg (n + 1) := by
  unfold txts
  rw [List.range_succ, List.flatMap_append]
  simp
theorem lvl_len (sg : List Nat) : ∀ n, (lvl sg n).length = sg.length ^ n
  | 0 => by simp [lvl]
  | n + 1 => by
    have : ∀ l : List T, (l.flatMap fun t => sg.map fun c => t ++ [c]).length = l.length * sg.length := by
      intro l
      induction l with
      | nil => simp
      | cons x l ih => rw [List.flatMap_cons, List.length_append, ih, List.length_map, List.length_cons, Nat.succ_mul]; omega
    rw [lvl, this, lvl_len sg n, Nat.pow_succ]
end Bk
/-! steps by place, what a search over steps finds; plain Lean -/
namespace Bk
theorem step_place {R : List Rule} (w : Wf R) {t u : T} (h : Step R t u) : ∃ r ∈ R, ∃ k, k < t.length ∧ (t.drop k).take r.1.length = r.1 ∧ u = t.take k ++ r.2 ++ t.drop (k + r.1.length) := by
  cases h with
  | mk x y r hr =>
    have := (w r hr).1
    refine ⟨r, hr, x.length, by simp; omega, ?_, ?_⟩
    · rw [List.append_assoc, List.drop_left, List.take_left]
    · have e1 : (x ++ r.1 ++ y).take x.length = x := by rw [List.append_assoc, List.take_left]
      have e2 : (x ++ r.1 ++ y).drop (x.length + r.1.length) = y := by rw [← List.length_append, List.drop_left]
      rw [e1, e2]
theorem place_step {R : List Rule} {t : T} {r : Rule} (hr : r ∈ R) {k : Nat} (h : (t.drop k).take r.1.length = r.1) : Step R t (t.take k ++ r.2 ++ t.drop (k + r.1.length)) := by
  have e : t = t.take k ++ r.1 ++ t.drop (k + r.1.length) := by
    conv => lhs; rw [← List.take_append_drop k t, ← List.take_append_drop r.1.length (t.drop k), h, List.drop_drop]
    rw [List.append_assoc]
  have s := Step.mk (R := R) (t.take k) (t.drop (k + r.1.length)) r hr
  rw [← e] at s
  exact s
/-- a set that holds the successors of all it holds but of W's -/
def ClosedBut (R : List Rule) (F W : List T) : Prop := ∀ a ∈ F, a ∉ W → ∀ b, Step R a b → b ∈ F
theorem closed_reach {R : List Rule} {F : List T} (h : ClosedBut R F []) {a b : T} (s : Reach R a b) : a ∈ F → b ∈ F := by
  induction s with
  | refl => exact id
  | step x _ ih => exact fun m => ih (h _ m (by simp) _ x)
end Bk
/-! the least book: its left sides are the least texts that are no ends; plain Lean -/
namespace Bk
theorem over_place {a b t : T} {k : Nat} (hk : k < a.length) (h : over a b k = some t) : t.take a.length = a ∧ (t.drop k).take b.length = b := by
  unfold over at h
  split at h
  case isFalse => cases h
  case isTrue c =>
    cases h
    refine ⟨by simp, ?_⟩
    rcases Nat.le_total (a.length - k) b.length with q | q
    · rw [Nat.min_eq_left q] at c ⊢
      have e1 : (a.drop k).take (a.length - k) = a.drop k := List.take_of_length_le (by simp)
      rw [e1] at c
      rw [List.drop_append_of_le_length (by omega), c, List.take_append_drop, List.take_length]
    · rw [Nat.min_eq_right q] at c ⊢
      rw [List.take_length] at c
      rw [List.drop_length, List.append_nil]
      exact c
/-- a book whose rules the first one says, and which leaves only ends of it, has the same ends -/
theorem same_left {R L : List Rule} (w : Wf R) (M : Meets R) (wL : Wf L) (he : ∀ t, IsEnd L t → IsEnd R t) (hs : AllSay R L) : (∀ t, left L t = left R t) ∧ Meets L := by
  have main : ∀ t, left L t = left R t := by
    intro t
    rw [say_reach w M hs (left_reach (R := L) t), left_of_end (he _ (left_end wL t))]
  refine ⟨main, fun r hr q hq k hk t ho => ?_⟩
  rw [main, main]
  obtain ⟨h1, h2⟩ := over_place hk ho
  have s1 : Step L t (res1 r t) := by
    have := place_step (k := 0) (t := t) hr (by simpa using h1)
    simpa [res1] using this
  have s2 : Step L t (res2 q t k) := place_step hq h2
  rw [← say_step w M hs s1, ← say_step w M hs s2]
/-- a proper piece of l is a left side -/
def Ins (R : List Rule) (l : T) : Prop := ∃ x m y, l = x ++ m ++ y ∧ m ≠ l ∧ ∃ r ∈ R, r.1 = m
/-- no end, but all its proper pieces are -/
def MinRed (R : List Rule) (l : T) : Prop := ¬ IsEnd R l ∧ ∀ x m y, l = x ++ m ++ y → m ≠ l → IsEnd R m
theorem not_end_left {R : List Rule} {r : Rule} (h : r ∈ R) : ¬ IsEnd R r.1 := by
  intro e
  exact isEnd_iff.mp e r h [] [] (by simp)
theorem not_end {R : List Rule} {t : T} (h : ¬ IsEnd R t) : ∃ r ∈ R, ∃ x y, t = x ++ r.1 ++ y := by
  rw [isEnd_iff] at h
  simp only [Classical.not_forall] at h
  obtain ⟨r, hr, x, y, e⟩ := h
  exact ⟨r, hr, x, y, Classical.not_not.mp e⟩
theorem minRed_iff {R : List Rule} {l : T} : ((∃ r ∈ R, r.1 = l) ∧ ¬ Ins R l) ↔ MinRed R l := by
  constructor
  · rintro ⟨⟨r, hr, rfl⟩, hi⟩
    refine ⟨not_end_left hr, fun x m y e hm => ?_⟩
    refine Classical.byContradiction fun he => ?_
    obtain ⟨q, hq, a, b, rfl⟩ := not_end he
    refine hi ⟨x ++ a, q.1, b ++ y, by rw [e]; simp [List.append_assoc], fun z => hm ?_, q, hq, rfl⟩
    have l1 := congrArg List.length e
    have l2 := congrArg List.length z
    simp at l1
    have : a = [] ∧ b = [] ∧ x = [] ∧ y = [] := by
      refine ⟨?_, ?_, ?_, ?_⟩ <;> (apply List.eq_nil_of_length_eq_zero; omega)
    obtain ⟨rfl, rfl, rfl, rfl⟩ := this
    simpa using z
  · rintro ⟨h1, h2⟩
    obtain ⟨r, hr, x, y, e⟩ := not_end h1
    refine ⟨⟨r, hr, ?_⟩, ?_⟩
    · refine Classical.byContradiction fun hn => not_end_left hr (h2 x r.1 y e hn)
    · rintro ⟨a, m, b, e2, hm, q, hq, rfl⟩
      exact not_end_left hq (h2 a q.1 b e2 hm)
theorem minRed_congr {R L : List Rule} (h : ∀ t, IsEnd R t ↔ IsEnd L t) {l : T} : MinRed R l ↔ MinRed L l := by
  unfold MinRed
  rw [h]
  constructor
  · rintro ⟨a, b⟩; exact ⟨a, fun x m y e hm => (h m).mp (b x m y e hm)⟩
  · rintro ⟨a, b⟩; exact ⟨a, fun x m y e hm => (h m).mpr (b x m y e hm)⟩
/-- whatever is no end has a least piece that is none -/
theorem has_min {R : List Rule} : ∀ (n : Nat) (t : T), t.length ≤ n → ¬ IsEnd R t → ∃ x m y, t = x ++ m ++ y ∧ MinRed R m
  | 0, t, h, he => by
    have : t = [] := List.eq_nil_of_length_eq_zero (by omega)
    subst this
    refine ⟨[], [], [], rfl, he, fun x m y e hm => ?_⟩
    have := congrArg List.length e
    simp at this
    have : m = [] := List.eq_nil_of_length_eq_zero (by omega)
    exact absurd this hm
  | n + 1, t, h, he => by
    by_cases c : ∃ x m y, t = x ++ m ++ y ∧ m ≠ t ∧ ¬ IsEnd R m
    · obtain ⟨x, m, y, e, hm, hn⟩ := c
      have hl : m.length < t.length := by
        rcases Nat.lt_or_ge m.length t.length with q | q
        · exact q
        · exfalso
          have l1 := congrArg List.length e
          simp at l1
          have : x = [] ∧ y = [] := by
            refine ⟨?_, ?_⟩ <;> (apply List.eq_nil_of_length_eq_zero; omega)
          obtain ⟨rfl, rfl⟩ := this
          exact hm (by simpa using e.symm)
      obtain ⟨a, k, b, e2, hk⟩ := has_min n m (by omega) hn
      exact ⟨x ++ a, k, b ++ y, by rw [e, e2]; simp [List.append_assoc], hk⟩
    · refine ⟨[], t, [], by simp, he, fun x m y e hm => ?_⟩
      exact Classical.byContradiction fun z => c ⟨x, m, y, e, hm, z⟩
/-! ### ascending lists -/
theorem keyLt_irrefl (a : T) : keyLt a a = false := by
  unfold keyLt
  rw [if_pos rfl]
  exact decide_eq_false (List.lt_irrefl a)
theorem keyLt_asymm {a b : T} (h : keyLt a b = true) : keyLt b a = false := by
  unfold keyLt at *
  by_cases e : a.length = b.length
  · rw [if_pos e, decide_eq_true_eq] at h
    rw [if_pos e.symm]
    exact decide_eq_false (fun z => List.lt_irrefl a (List.lt_trans h z))
  · rw [if_neg e, decide_eq_true_eq] at h
    rw [if_neg (Ne.symm e)]
    exact decide_eq_false (by omega)
def Asc (l : List T) : Prop := l.Pairwise fun a b => keyLt a b = true
theorem asc_uniq : ∀ {l m : List T}, Asc l → Asc m → (∀ x, x ∈ l ↔ x ∈ m) → l = m
  | [], [], _, _, _ => rfl
  | [], y :: m, _, _, h => by have := (h y).mpr List.mem_cons_self; cases this
  | x :: l, [], _, _, h => by have := (h x).mp List.mem_cons_self; cases this
  | x :: l, y :: m, h1, h2, h => by
    obtain ⟨a1, a2⟩ := List.pairwise_cons.mp h1
    obtain ⟨b1, b2⟩ := List.pairwise_cons.mp h2
    have e : x = y := by
      rcases List.mem_cons.mp ((h x).mp List.mem_cons_self) with e | hx
      · exact e
      · rcases List.mem_cons.mp ((h y).mpr List.mem_cons_self) with e | hy
        · exact e.symm
        · have z1 := b1 x hx
          have z2 := a1 y hy
          rw [keyLt_asymm z1] at z2
          cases z2
    subst e
    have hx1 : x ∉ l := fun z => by have := a1 x z; rw [keyLt_irrefl] at this; cases this
    have hx2 : x ∉ m := fun z => by have := b1 x z; rw [keyLt_irrefl] at this; cases this
    rw [asc_uniq a2 b2 fun z => ?_]
    have hz := h z
    simp only [List.mem_cons] at hz
    constructor
    · intro k
      rcases hz.mp (.inr k) with e | q
      · rw [e] at k; exact absurd k hx1
      · exact q
    · intro k
      rcases hz.mpr (.inr k) with e | q
      · rw [e] at k; exact absurd k hx2
      · exact q
/-- the left sides of the least book -/
def IsDue (R : List Rule) (ds : List T) : Prop := Asc ds ∧ ∀ l, l ∈ ds ↔ MinRed R l
theorem due_uniq {R L : List Rule} (h : ∀ t, IsEnd R t ↔ IsEnd L t) {ds es : List T} (a : IsDue R ds) (b : IsDue L es) : ds = es :=
  asc_uniq a.1 b.1 fun x => by rw [a.2, b.2, minRed_congr h]
def lrules (R : List Rule) (ds : List T) : List Rule := ds.map fun l => (l, left R l)
section
variable {R : List Rule} {ds : List T}
theorem due_left (d : IsDue R ds) {l : T} (h : l ∈ ds) : ∃ r ∈ R, r.1 = l := (minRed_iff.mpr ((d.2 l).mp h)).1
theorem due_shrink (w : Wf R) (M : Meets R) {r : Rule} (h : r ∈ R) : (left R r.1).length ≤ r.2.length := by
  have : left R r.1 = left R r.2 := left_eq w M (by
    have := Step.mk (R := R) [] [] r h
    simp at this
    exact .step this (.refl _))
  rw [this]
  exact (left_reach (R := R) r.2).len w
theorem due_wf (w : Wf R) (M : Meets R) (d : IsDue R ds) : Wf (lrules R ds) := by
  intro r hr
  obtain ⟨l, hl, rfl⟩ := List.mem_map.mp hr
  obtain ⟨q, hq, rfl⟩ := due_left d hl
  have h1 := due_shrink w M hq
  have h2 := w q hq
  exact ⟨by show (left R q.1).length < q.1.length; omega, by show (left R q.1).length ≤ 1; omega⟩
theorem due_end (w : Wf R) (d : IsDue R ds) (t : T) : IsEnd R t ↔ IsEnd (lrules R ds) t := by
  constructor
  · intro h
    rw [isEnd_iff]
    intro r hr x y e
    obtain ⟨l, hl, rfl⟩ := List.mem_map.mp hr
    obtain ⟨q, hq, rfl⟩ := due_left d hl
    exact isEnd_iff.mp h q hq x y e
  · intro h
    refine Classical.byContradiction fun hn => ?_
    obtain ⟨x, m, y, e, hm⟩ := has_min t.length t (Nat.le_refl _) hn
    exact isEnd_iff.mp h (m, left R m) (List.mem_map.mpr ⟨m, (d.2 m).mpr hm, rfl⟩) x y e
theorem due_same (w : Wf R) (M : Meets R) (d : IsDue R ds) : (∀ t, left (lrules R ds) t = left R t) ∧ Meets (lrules R ds) := by
  refine same_left w M (due_wf w M d) (fun t h => (due_end w d t).mpr h) fun r hr => ?_
  obtain ⟨l, hl, rfl⟩ := List.mem_map.mp hr
  exact (left_of_end (left_end w l)).symm
theorem lrules_nodup (h : Asc ds) : (lrules R ds).Nodup := by
  unfold lrules
  rw [List.Nodup, List.pairwise_map]
  refine h.imp fun {a b} z e => ?_
  have : a = b := congrArg Prod.fst e
  subst this
  rw [keyLt_irrefl] at z
  cases z
/-- without its rule the left side is an end -/
theorem due_needed (d : IsDue R ds) {k : Nat} {l : T} (h : ds[k]? = some l) {N : List Rule} (hN : ∀ r ∈ N, ∃ j, j ≠ k ∧ ds[j]? = some r.1) : left N l = l := by
  refine left_of_end (isEnd_iff.mpr fun r hr x y e => ?_)
  obtain ⟨j, hj, hr1⟩ := hN r hr
  have hne : r.1 ≠ l := by
    intro z
    rw [z] at hr1
    have nd : ds.Nodup := d.1.imp fun {a b} q e => by rw [e, keyLt_irrefl] at q; cases q
    obtain ⟨h1, h2⟩ := List.getElem?_eq_some_iff.mp h
    obtain ⟨h3, h4⟩ := List.getElem?_eq_some_iff.mp hr1
    exact hj ((List.getElem_inj nd).mp (h4.trans h2.symm))
  have hm := (d.2 l).mp (List.mem_of_getElem? h)
  exact ((d.2 r.1).mp (List.mem_of_getElem? hr1)).1 (hm.2 x r.1 y e hne)
end
/-- rules more that change no end -/
theorem more_same {R N : List Rule} (w : Wf R) (M : Meets R) (h1 : ∀ r ∈ R, r ∈ N) (h2 : ∀ r ∈ N, r ∈ R ∨ (left R r.1 = r.2 ∧ r.2.length < r.1.length ∧ r.2.length ≤ 1)) :
    Wf N ∧ (∀ t, IsEnd R t ↔ IsEnd N t) ∧ (∀ t, left N t = left R t) ∧ Meets N := by
  have wN : Wf N := fun r hr => by
    rcases h2 r hr with q | ⟨_, q⟩
    · exact w r q
    · exact q
  have say : AllSay R N := fun r hr => by
    rcases h2 r hr with q | ⟨q, _⟩
    · refine left_eq w M ?_
      have := Step.mk (R := R) [] [] r q
      simp at this
      exact .step this (.refl _)
    · rw [← q, left_of_end (left_end w r.1)]
  have e1 : ∀ t, IsEnd N t → IsEnd R t := fun t h => isEnd_iff.mpr fun r hr x y e => isEnd_iff.mp h r (h1 r hr) x y e
  obtain ⟨s1, s2⟩ := same_left w M wN e1 say
  refine ⟨wN, fun t => ⟨fun h => ?_, e1 t⟩, s1, s2⟩
  refine isEnd_iff.mpr fun r hr x y e => ?_
  rcases h2 r hr with q | ⟨q, ql, _⟩
  · exact isEnd_iff.mp h r q x y e
  · have hp : IsEnd R r.1 := by
      rw [e] at h
      exact h.infix
    rw [left_of_end hp] at q
    rw [q] at ql
    omega
end Bk
/-! two books' ends compared; plain Lean -/
namespace Bk
def Over (sg : List Nat) (t : T) : Prop := ∀ c ∈ t, c ∈ sg
def OverR (sg : List Nat) (R : List Rule) : Prop := ∀ r ∈ R, Over sg r.1 ∧ Over sg r.2
theorem Over.app {sg : List Nat} {x y : T} (h : Over sg x) (k : Over sg y) : Over sg (x ++ y) := fun c hc => (List.mem_append.mp hc).elim (h c) (k c)
theorem half_same {R N : List Rule} {sg : List Nat} (wR : Wf R) (MR : Meets R) (wN : Wf N) (MN : Meets N) (cR : OverR sg R) {t : T} (ct : Over sg t) (hs : ∀ u, u.length < t.length → Over sg u → left R u = left N u) (hn : ∀ r ∈ R, r.1 ≠ t) (he : ¬ IsEnd R t) : left R t = left N t := by
  obtain ⟨r, hr, x, y, rfl⟩ := not_end he
  have hw := wR r hr
  have hxy : 0 < x.length + y.length := by
    rcases Nat.eq_zero_or_pos (x.length + y.length) with z | z
    · have hx : x = [] := List.eq_nil_of_length_eq_zero (by omega)
      have hy : y = [] := List.eq_nil_of_length_eq_zero (by omega)
      exact absurd (by simp [hx, hy]) (hn r hr)
    · exact z
  have cx : Over sg x := fun c hc => ct c (by simp [hc])
  have cy : Over sg y := fun c hc => ct c (by simp [hc])
  have h1 : left R r.1 = left N r.1 := hs _ (by simp; omega) (cR r hr).1
  have h2 : left R r.2 = left N r.2 := hs _ (by simp; omega) (cR r hr).2
  have s1 : Step R r.1 r.2 := by
    have := Step.mk (R := R) [] [] r hr
    simpa using this
  have e1 : left R r.1 = left R r.2 := left_eq wR MR (.step s1 (.refl _))
  have s2 : Step R (x ++ r.1 ++ y) (x ++ r.2 ++ y) := Step.ctx x y s1
  have e2 : left R (x ++ r.1 ++ y) = left R (x ++ r.2 ++ y) := left_eq wR MR (.step s2 (.refl _))
  have e3 : left N (x ++ r.1 ++ y) = left N (x ++ r.2 ++ y) := left_congr wN MN (left_congr wN MN rfl (by rw [← h1, e1, h2])) rfl
  rw [e2, e3]
  exact hs _ (by simp; omega) ((cx.app (cR r hr).2).app cy)
theorem diff_left {R N : List Rule} {sg : List Nat} (wR : Wf R) (MR : Meets R) (wN : Wf N) (MN : Meets N) (cR : OverR sg R) (cN : OverR sg N) {t : T} (ct : Over sg t) (hs : ∀ u, u.length < t.length → Over sg u → left R u = left N u) (hd : left R t ≠ left N t) : (∃ r ∈ R, r.1 = t) ∨ ∃ r ∈ N, r.1 = t := by
  rcases Classical.em (∃ r ∈ R, r.1 = t) with h | h
  · exact .inl h
  rcases Classical.em (∃ r ∈ N, r.1 = t) with k | k
  · exact .inr k
  exfalso
  apply hd
  rcases Classical.em (IsEnd R t) with e | e
  · rcases Classical.em (IsEnd N t) with e2 | e2
    · rw [left_of_end e, left_of_end e2]
    · exact (half_same wN MN wR MR cN ct (fun u a b => (hs u a b).symm) (fun r hr q => k ⟨r, hr, q⟩) e2).symm
  · exact half_same wR MR wN MN cR ct hs (fun r hr q => h ⟨r, hr, q⟩) e
/-- the left sides whose ends differ -/
def lefts2 (R N : List Rule) : List T := R.map (·.1) ++ N.map (·.1)
def parting (R N : List Rule) : List T := (lefts2 R N).filter fun l => decide (left R l ≠ left N l)
theorem mem_parting {R N : List Rule} {l : T} : l ∈ parting R N ↔ ((∃ r ∈ R, r.1 = l) ∨ ∃ r ∈ N, r.1 = l) ∧ left R l ≠ left N l := by
  unfold parting lefts2
  rw [List.mem_filter, List.mem_append, List.mem_map, List.mem_map, decide_eq_true_eq]
theorem same_all {R N : List Rule} {sg : List Nat} (wR : Wf R) (MR : Meets R) (wN : Wf N) (MN : Meets N) (cR : OverR sg R) (cN : OverR sg N) (h : parting R N = []) : ∀ (n : Nat) (t : T), t.length ≤ n → Over sg t → left R t = left N t := by
  intro n
  induction n with
  | zero =>
    intro t ht ct
    rcases Classical.em (left R t = left N t) with e | e
    · exact e
    · have := mem_parting.mpr ⟨diff_left wR MR wN MN cR cN ct (fun u a _ => by omega) e, e⟩
      rw [h] at this; cases this
  | succ n ih =>
    intro t ht ct
    rcases Classical.em (left R t = left N t) with e | e
    · exact e
    · have := mem_parting.mpr ⟨diff_left wR MR wN MN cR cN ct (fun u a b => ih u (by omega) b) e, e⟩
      rw [h] at this; cases this
/-! ### the least one -/
def leastOf : T → List T → T
  | b, [] => b
  | b, t :: l => leastOf (if keyLt t b = true then t else b) l
theorem leastOf_snoc : ∀ (l : List T) (b t : T), leastOf b (l ++ [t]) = if keyLt t (leastOf b l) = true then t else leastOf b l
  | [], b, t => rfl
  | x :: l, b, t => leastOf_snoc l (if keyLt x b = true then x else b) t
theorem leastOf_mem : ∀ (l : List T) (b : T), leastOf b l ∈ b :: l
  | [], b => List.mem_cons_self
  | t :: l, b => by
    have := leastOf_mem l (if keyLt t b = true then t else b)
    show leastOf (if keyLt t b = true then t else b) l ∈ b :: t :: l
    rcases List.mem_cons.mp this with e | e
    · rw [e]
      split
      · simp
      · simp
    · simp [e]
theorem key_lt_trans {a b c : T} (h : keyLt a b = true) (k : keyLt b c = true) : keyLt a c = true := by
  unfold keyLt at *
  split at h <;> split at k <;> split <;> simp only [decide_eq_true_eq] at * <;> first | omega | exact List.lt_trans h k
theorem key_total {a b : T} (h : keyLt a b = false) (k : keyLt b a = false) : a = b := by
  unfold keyLt at *
  split at h
  · rename_i e
    rw [if_pos e.symm] at k
    exact List.le_antisymm (List.not_lt.mp (of_decide_eq_false k)) (List.not_lt.mp (of_decide_eq_false h))
  · rename_i e
    rw [if_neg (fun z => e z.symm)] at k
    have h1 := of_decide_eq_false h
    have h2 := of_decide_eq_false k
    omega
theorem leastOf_le : ∀ (l : List T) (b : T), ∀ u ∈ b :: l, keyLt u (leastOf b l) = false := by
  intro l
  induction l with
  | nil =>
    intro b u hu
    rw [List.mem_singleton.mp hu]
    exact keyLt_irrefl b
  | cons t l ih =>
    intro b u hu
    show keyLt u (leastOf (if keyLt t b = true then t else b) l) = false
    have hm := ih (if keyLt t b = true then t else b) _ List.mem_cons_self
    have step : ∀ v, (v = b ∨ v = t) → keyLt v (leastOf (if keyLt t b = true then t else b) l) = false := by
      intro v hv
      cases hk : keyLt v (leastOf (if keyLt t b = true then t else b) l) with
      | false => rfl
      | true =>
        exfalso
        -- v < m, and the better of b, t is not less than m; so v is less than the better one
        have hbt : keyLt (if keyLt t b = true then t else b) v = true ∨ (if keyLt t b = true then t else b) = v := by
          by_cases c : keyLt t b = true
          · rw [if_pos c]
            rcases hv with rfl | rfl
            · exact .inl c
            · exact .inr rfl
          · rw [if_neg c]
            rcases hv with rfl | rfl
            · exact .inr rfl
            · cases k2 : keyLt b v with
              | true => exact .inl rfl
              | false => exact .inr (key_total k2 (by simpa using c))
        rcases hbt with q | q
        · rw [key_lt_trans q hk] at hm; cases hm
        · rw [q] at hm hk; rw [hk] at hm; cases hm
    rcases List.mem_cons.mp hu with e | e
    · exact step u (.inl e)
    · rcases List.mem_cons.mp e with e | e
      · exact step u (.inr e)
      · exact ih _ u (List.mem_cons_of_mem _ e)
/-! ### texts in their order -/
theorem app_lt {x y : T} : ∀ {a b : T}, a.length = b.length → a < b → a ++ x < b ++ y
  | [], [], _, h => absurd h (List.lt_irrefl _)
  | [], _ :: _, h, _ => by simp at h
  | _ :: _, [], h, _ => by simp at h
  | a :: l, b :: m, hl, h => by
    rw [List.cons_lt_cons_iff] at h
    show a :: (l ++ x) < b :: (m ++ y)
    rw [List.cons_lt_cons_iff]
    rcases h with h | ⟨e, h⟩
    · exact .inl h
    · exact .inr ⟨e, app_lt (by simpa using hl) h⟩
theorem app_lt1 {c d : Nat} : ∀ {a : T}, c < d → a ++ [c] < a ++ [d]
  | [], h => by
    show [c] < [d]
    rw [List.cons_lt_cons_iff]; exact .inl h
  | a :: l, h => by
    show a :: (l ++ [c]) < a :: (l ++ [d])
    rw [List.cons_lt_cons_iff]; exact .inr ⟨rfl, app_lt1 h⟩
theorem lvl_asc {sg : List Nat} (hs : sg.Pairwise (· < ·)) : ∀ n, (lvl sg n).Pairwise (fun a b => a < b)
  | 0 => List.pairwise_singleton _ _
  | n + 1 => by
    show ((lvl sg n).flatMap fun t => sg.map fun c => t ++ [c]).Pairwise _
    rw [List.pairwise_flatMap]
    refine ⟨fun t _ => ?_, ?_⟩
    · rw [List.pairwise_map]
      exact hs.imp fun h => app_lt1 h
    · refine (lvl_asc hs n).imp_of_mem fun {a b} ha hb h x hx y hy => ?_
      obtain ⟨c, _, rfl⟩ := List.mem_map.mp hx
      obtain ⟨d, _, rfl⟩ := List.mem_map.mp hy
      exact app_lt (((mem_lvl.mp ha).1).trans (mem_lvl.mp hb).1.symm) h
theorem txts_asc {sg : List Nat} (hs : sg.Pairwise (· < ·)) (n : Nat) : Asc (txts sg n) := by
  unfold Asc txts
  rw [List.pairwise_flatMap]
  refine ⟨fun k _ => (lvl_asc hs k).imp_of_mem fun {a b} ha hb h => ?_, ?_⟩
  · unfold keyLt
    rw [if_pos ((mem_lvl.mp ha).1.trans (mem_lvl.mp hb).1.symm)]
    exact decide_eq_true h
  · refine (List.pairwise_lt_range).imp fun {i j} h x hx y hy => ?_
    have h1 := (mem_lvl.mp hx).1
    have h2 := (mem_lvl.mp hy).1
    unfold keyLt
    rw [if_neg (by omega)]
    exact decide_eq_true (by omega)
/-- the first text of all whose ends differ is the least left side whose ends differ -/
theorem first_diff {R N : List Rule} {sg : List Nat} {n : Nat} (wR : Wf R) (MR : Meets R) (wN : Wf N) (MN : Meets N) (cR : OverR sg R) (cN : OverR sg N) (lR : ∀ r ∈ R, r.1.length ≤ n) (lN : ∀ r ∈ N, r.1.length ≤ n) (hs : sg.Pairwise (· < ·)) {b : T} {l : List T} (hp : parting R N = b :: l) :
    (txts sg n).find? (fun t => decide (left R t ≠ left N t)) = some (leastOf b l) := by
  have hm : leastOf b l ∈ parting R N := by rw [hp]; exact leastOf_mem l b
  obtain ⟨hl, hd⟩ := mem_parting.mp hm
  have hbt : leastOf b l ∈ txts sg n := by
    rw [mem_txts]
    rcases hl with ⟨r, hr, e⟩ | ⟨r, hr, e⟩
    · rw [← e]; exact ⟨lR r hr, (cR r hr).1⟩
    · rw [← e]; exact ⟨lN r hr, (cN r hr).1⟩
  cases hf : (txts sg n).find? (fun t => decide (left R t ≠ left N t)) with
  | none =>
    have := List.find?_eq_none.mp hf _ hbt
    exact absurd (decide_eq_true hd) this
  | some u =>
    obtain ⟨hu, as, bs, e, hn⟩ := List.find?_eq_some_iff_append.mp hf
    have hud := of_decide_eq_true hu
    have hum : u ∈ txts sg n := by rw [e]; simp
    obtain ⟨hul, huc⟩ := mem_txts.mp hum
    have asc := txts_asc hs n
    unfold Asc at asc
    rw [e, List.pairwise_append] at asc
    have ul : (∃ r ∈ R, r.1 = u) ∨ ∃ r ∈ N, r.1 = u := by
      refine diff_left wR MR wN MN cR cN huc (fun v hv cv => ?_) hud
      have hvm : v ∈ txts sg n := mem_txts.mpr ⟨by omega, cv⟩
      rw [e] at hvm
      rcases List.mem_append.mp hvm with z | z
      · have := hn v z
        simpa using this
      · exfalso
        rcases List.mem_cons.mp z with z | z
        · rw [z] at hv; exact Nat.lt_irrefl _ hv
        · have h3 := (List.pairwise_cons.mp asc.2.1).1 v z
          unfold keyLt at h3
          rw [if_neg (by omega)] at h3
          have := of_decide_eq_true h3
          omega
    have hup : u ∈ b :: l := by rw [← hp]; exact mem_parting.mpr ⟨ul, hud⟩
    have h1 := leastOf_le l b u hup
    have h2 : keyLt (leastOf b l) u = false := by
      rw [e] at hbt
      rcases List.mem_append.mp hbt with z | z
      · have := hn _ z
        simp only [ne_eq, decide_not, Bool.not_not, decide_eq_true_eq] at this
        exact absurd this hd
      · rcases List.mem_cons.mp z with z | z
        · rw [z]; exact keyLt_irrefl u
        · exact keyLt_asymm ((List.pairwise_cons.mp asc.2.1).1 _ z)
    rw [key_total h1 h2]
/-- least books tell it, too -/
theorem due_parting {R N : List Rule} {sg : List Nat} (wR : Wf R) (MR : Meets R) (wN : Wf N) (MN : Meets N) (cR : OverR sg R) (cN : OverR sg N) {ds es : List T} (hd : IsDue R ds) (he : IsDue N es) : lrules R ds = lrules N es ↔ parting R N = [] := by
  constructor
  · intro h
    have s1 := (due_same wR MR hd).1
    have s2 := (due_same wN MN he).1
    cases hp : parting R N with
    | nil => rfl
    | cons b l =>
      have hm : b ∈ parting R N := by rw [hp]; simp
      have := (mem_parting.mp hm).2
      exact absurd (by rw [← s1, ← s2, h]) this
  · intro h
    have sm := same_all wR MR wN MN cR cN h
    have hlR : ∀ l, MinRed R l → Over sg l := fun l hl => by
      obtain ⟨r, hr, e⟩ := (minRed_iff.mpr hl).1
      rw [← e]; exact (cR r hr).1
    have hlN : ∀ l, MinRed N l → Over sg l := fun l hl => by
      obtain ⟨r, hr, e⟩ := (minRed_iff.mpr hl).1
      rw [← e]; exact (cN r hr).1
    have ends : ∀ t, Over sg t → (IsEnd R t ↔ IsEnd N t) := fun t ct => by
      have e := sm t.length t (Nat.le_refl _) ct
      constructor
      · intro z
        rw [left_of_end z] at e
        have := left_end wN t
        rw [← e] at this
        exact this
      · intro z
        rw [left_of_end z] at e
        have := left_end wR t
        rw [e] at this
        exact this
    have go : ∀ {A B : List Rule}, (∀ t, Over sg t → (IsEnd A t ↔ IsEnd B t)) → ∀ l, Over sg l → MinRed A l → MinRed B l := fun {A B} h l cl ⟨m1, m2⟩ => by
      refine ⟨fun z => m1 ((h l cl).mpr z), fun x m y e hne => ?_⟩
      exact (h m (fun c hc => cl c (by rw [e]; simp [hc]))).mp (m2 x m y e hne)
    have eds : ds = es := asc_uniq hd.1 he.1 fun l => by
      rw [hd.2, he.2]
      exact ⟨fun z => go ends l (hlR l z) z, fun z => go (fun t ct => (ends t ct).symm) l (hlN l z) z⟩
    subst eds
    unfold lrules
    exact List.map_congr_left fun l hl => by rw [sm l.length l (Nat.le_refl _) (hlR l ((hd.2 l).mp hl))]
end Bk
set_option Elab.async false
set_option linter.all false
set_option maxRecDepth 100000
set_option maxHeartbeats 4000000
namespace Sh
open PySem PySem.Spec PyProof.Rows L2
open SX (S S_inj S_len S_cat)
open Ex (Fs Op Tr Wd fb spl isAt isAng fst binOf dbl foldO cntS cntN run s0 dep mdep kids nod snod)
local macro_rules | `(tactic| walk_at "nx") => `(tactic| repeat (with_reducible first | refine Sh.gn_mk ?_ | refine Sh.nx_mk ?_ | refine Sh.st_nx ?_ | refine Sh.rt_mk ?_ | refine Sh.ct_mk ?_ | refine Sh.bk_mk ?_))
local macro_rules | `(tactic| walk_at "sq") => `(tactic| first | exact SqL.of upd_same | exact SqT.of upd_same | exact SqL.of (by assumption) | exact SqT.of (by assumption) | assumption | exact Or.inl (SqL.of (by assumption)) | exact Or.inr (SqT.of (by assumption)) | exact Or.inl (by assumption) | exact Or.inr (by assumption))
local macro_rules | `(tactic| walk_at "hp") => `(tactic| first | exact upd_same | assumption)
local macro_rules | `(tactic| walk_at "sz") => `(tactic| first | exact Nat.le_of_ble_eq_true rfl | omega)
local macro_rules | `(tactic| walk_at "sd") => `(tactic| first | omega | exact rfl | assumption | (show (0 : Int) < _; omega) | exact And.intro (by omega) (by omega) | exact Or.inl (And.intro (by omega) (by omega)) | exact Or.inr (And.intro (by omega) (by omega)) | omega | exact Sh.sz_S (by omega) | decide)
local macro_rules | `(tactic| walk_at "rd1") => `(tactic| first
  | (with_reducible first | refine Sh.gn_mk ?_ | refine Sh.nx_mk ?_ | refine Sh.st_nx ?_ | refine Sh.rt_mk ?_ | refine Sh.ct_mk ?_ | refine Sh.bk_mk ?_)
  | refine Exists.intro (α := V) _ (And.intro rfl ?_)
  | refine Exists.intro (α := Bool) _ (And.intro rfl ?_)
  | refine Exists.intro (α := Int) _ (And.intro rfl ?_)
  | refine Exists.intro (α := PySem.Str) _ (And.intro rfl ?_)
  | refine Exists.intro (α := Int) _ (Exists.intro (α := Int) _ (And.intro rfl (And.intro rfl ?_)))
  | refine Exists.intro (α := PySem.Str) _ (Exists.intro (α := PySem.Str) _ (And.intro rfl (And.intro rfl ?_)))
  | refine Exists.intro (α := Int) _ (Exists.intro (α := Int) _ (And.intro rfl ?_))
  | refine Or.inl (Exists.intro (α := Int) _ (And.intro rfl ?_))
  | refine Exists.intro _ (Exists.intro _ (Exists.intro _ (Exists.intro _ (And.intro rfl (And.intro rfl (And.intro (by walk_at "sq") (And.intro rfl ?_)))))))
  | refine Exists.intro _ (Exists.intro _ (Exists.intro _ (Exists.intro _ (And.intro rfl (And.intro rfl (And.intro (by walk_at "hp") (And.intro rfl ?_)))))))
  | refine And.intro (by walk_at "sd") ?_
  )
local macro_rules | `(tactic| walk_at "rd") => `(tactic| repeat walk_at "rd1")
local macro_rules | `(tactic| walk_at "lk") => `(tactic| first | exact rfl | (rw [lookup_putF, if_pos rfl]) | (rw [lookup_putF, if_neg (by decide +kernel)]; walk_at "lk"))

theorem Src.sm {H H' : Hp} {a : Addr} (h : Src H a) (s : Same H H') : Src H' a := let ⟨d, e, c, z⟩ := h; ⟨d, e, c, s _ _ z⟩
section
variable {P : Program} {w : World} {K : PySem.W.Frag} {mg : Str → Option Value} {base : Heap} {C0 XE FE DI XM FM XT FT DT XS XB BS AT RK : Addr}
def spTr (K : PySem.W.Frag) (n : Nat) : Sp := fun vs H Q _ => ∃ (a : Addr) (sg : List Nat), vs = [.ref a, .str (S sg), .int (n : Nat)] ∧ Src H a ∧ 0 < sg.length ∧ sg.length ≤ 1000 ∧ 1 ≤ n ∧
  ∀ v T H', Src H' a → But a H H' → Keep H H' → Tp K H' v (trD T) → dep T ≤ n → Ex.Ok sg T → Q v H'
theorem trStep (T : Txt K mg) (n : Nat) (c__law_tree : Cal P w K mg base CX0 (n + 1) "_law_tree" (spTr K n)) : Cal P w K mg base CX0 (n + 2) "_law_tree" (spTr K (n + 1)) := by
  have c__law_pick := c__law_pick (P := P) (w := w) (base := base) T
  refine Cal.mk0 T.d__law_tree sc__law_tree (fun vs H Q E h => ?_) (fun f cdv A outer s H vs Q E hr h => ?_)
  · obtain ⟨a, sg, rfl, _⟩ := h
    rfl
  · obtain ⟨a, sg, rfl, hS, hs0, hs1, hn, kk⟩ := h
    have hSl := S_len sg
    refine ⟨_, (pss_cons (ps_set (i := 3) sc__law_tree.nd rfl (Or.inl rfl) (pe_c c__law_pick hr (by omega) rfl (pa_cons (pv 0) (pa_cons pe_int pa_nil))))
  (pss_cons (ps_if (PW.pt (pw_or (pt_cmpR op_lt (pv 2) pe_int (nomark _)) (pw_or1 (pt_cmpR op_lt (pv 3) pe_int (nomark _)))))
    (pss_cons (ps_set (i := 4) sc__law_tree.nd rfl (Or.inl rfl) (pe_lst (pa_cons (pe_tup (pa_cons pe_str pa_nil)) (pa_cons (pe_tup (pa_cons pe_str pa_nil)) (pa_cons (pe_tup (pa_cons pe_str pa_nil)) pa_nil)))))
    (pss_one (ps_ret (pe_ifExp (PW.pt (pw_and (pt_cmpR op_lt (pv 3) pe_int (nomark _)) (pw_and1 (pt_cmpR op_lt (pv 2) pe_int (nomark _))))) (pe_ix ix_list (pv 4) (pv 3) (fun _ _ => rfl)) (pe_tup (pa_cons pe_str (pa_cons (pe_ix ix_str (pv 1) (pe_c c__law_pick hr (by omega) rfl (pa_cons (pv 0) (pa_cons (pe_callB call_len_str (by rfl) T.b_len (by decide +kernel) (pa_cons (pv 1) pa_nil)) pa_nil))) (fun _ _ => rfl)) pa_nil)))))))
    pss_nil)
  (pss_cons (ps_if (pt_cmpR op_eq (pv 3) pe_int (nomark _))
    (pss_one (ps_ret (pe_tup (pa_cons pe_str (pa_cons (pe_c c__law_tree hr (by omega) rfl (pa_cons (pv 0) (pa_cons (pv 1) (pa_cons (pe_op op_sub (pv 2) pe_int) pa_nil)))) pa_nil)))))
    pss_nil)
  (pss_cons (ps_set (i := 5) sc__law_tree.nd rfl (Or.inl rfl) (pe_ix ix_list (pe_lst (pa_cons pe_str (pa_cons pe_str (pa_cons pe_str (pa_cons pe_str (pa_cons pe_str (pa_cons pe_str (pa_cons pe_str (pa_cons pe_str (pa_cons pe_str pa_nil)))))))))) (pe_op op_sub (pv 3) pe_int) (fun _ _ => rfl)))
  (pss_one (ps_ret (pe_tup (pa_cons (pv 5) (pa_cons (pe_c c__law_tree hr (by omega) rfl (pa_cons (pv 0) (pa_cons (pv 1) (pa_cons (pe_op op_sub (pv 2) pe_int) pa_nil)))) (pa_cons (pe_c c__law_tree hr (by omega) rfl (pa_cons (pv 0) (pa_cons (pv 1) (pa_cons (pe_op op_sub (pv 2) pe_int) pa_nil)))) pa_nil)))))))))), ?_⟩
    walk_at "nx"
    walk_at "rd"
    refine ⟨a, _, rfl, hS, by decide, by decide, fun r H1 r0 r1 hS1 b1 => ?_⟩
    have k1 : Keep H H1 := Keep.but b1 hS
    walk_at "nx"
    refine if_K (decide (n + 1 < 2 ∨ r < 4)) (fun Q' hQ => ?_) (fun hb => ?_) (fun hb => ?_)
    · walk_at "rd"
      by_cases h1 : n + 1 < 2
      · rw [decide_eq_true (show (((n + 1 : Nat)) : Int) < 2 by omega)]
        refine iteT ?_
        rw [decide_eq_true (.inl h1)] at hQ
        exact hQ
      · rw [decide_eq_false (show ¬ (((n + 1 : Nat)) : Int) < 2 by omega)]
        refine iteF ?_
        walk_at "rd"
        refine q_of hQ (decide_eq_decide.mpr ⟨.inr, fun z => z.resolve_left h1⟩)
    · walk_at "nx"
      refine ⟨by walk_at "sz", fun q1 hq1 => ?_⟩
      have t1 := same_new (o := .tup [.str (Str.ofString "1")]) hq1
      have e1 : (upd H1 q1 (.tup [.str (Str.ofString "1")])) q1 = some (.tup [.str (Str.ofString "1")]) := upd_same
      generalize upd H1 q1 (.tup [.str (Str.ofString "1")]) = F1 at t1 e1 ⊢
      refine ⟨by walk_at "sz", fun q2 hq2 => ?_⟩
      have t2 := same_new (o := .tup [.str (Str.ofString "0")]) hq2
      have e2 : (upd F1 q2 (.tup [.str (Str.ofString "0")])) q2 = some (.tup [.str (Str.ofString "0")]) := upd_same
      generalize upd F1 q2 (.tup [.str (Str.ofString "0")]) = F2 at t2 e2 ⊢
      refine ⟨by walk_at "sz", fun q3 hq3 => ?_⟩
      have t3 := same_new (o := .tup [.str (Str.ofString ".")]) hq3
      have e3 : (upd F2 q3 (.tup [.str (Str.ofString ".")])) q3 = some (.tup [.str (Str.ofString ".")]) := upd_same
      generalize upd F2 q3 (.tup [.str (Str.ofString ".")]) = F3 at t3 e3 ⊢
      refine ⟨by walk_at "sz", fun p1 hp1 => ?_⟩
      have t4 := same_new (o := .lst [.ref q1, .ref q2, .ref q3]) hp1
      have e4 : (upd F3 p1 (.lst [.ref q1, .ref q2, .ref q3])) p1 = some (.lst [.ref q1, .ref q2, .ref q3]) := upd_same
      generalize upd F3 p1 (.lst [.ref q1, .ref q2, .ref q3]) = F4 at t4 e4 ⊢
      have t14 := t1.trans (t2.trans (t3.trans t4))
      have hS4 := hS1.sm t14
      have b4 : But a H F4 := b1.trans (But.same t14)
      have k4 : Keep H F4 := k1.trans (Keep.same t14)
      walk_at "nx"
      have leafS : ∀ Q' : VK, (∀ v T H', Src H' a → But a H H' → Keep H H' → Tp K H' v (trD T) → dep T ≤ n + 1 → Ex.Ok sg T → Q' v H') → tTup (tCons (tC (V.str (Str.ofString "sign"))) (tCons (tOp rIxS (tVar 1) (tCall spPick [] E0 (tCons (tVar 0) (tCons (tCB (fun xs H Q => ∃ z, xs = [V.str z] ∧ z.length ≤ sizeLine ∧ Q (V.int ↑z.length) H) (tCons (tVar 1) tNil)) tNil)))) tNil)) ([some (V.ref a), some (V.str (S sg)), some (V.int ((n + 1 : Nat) : Int)), some (V.int r), some (V.ref p1), none]) F4 Q' := by
        intro Q' kq
        walk_at "rd"
        refine ⟨a, _, rfl, hS4, by omega, by omega, fun r2 H5 r20 r21 hS5 b5 => ?_⟩
        have hr2 : r2.toNat < sg.length := by omega
        refine ⟨_, r2, sg[r2.toNat], rfl, rfl, sz_S (t := sg) (by omega), atI_at r20 (by show sg[r2.toNat]? = _; simp [hr2]), ?_⟩
        walk_at "rd"
        refine ⟨by walk_at "sz", fun q9 hq9 => ?_⟩
        have t9 := same_new (o := .tup [.str (Str.ofString "sign"), .str ⟨#[sg[r2.toNat]]⟩]) hq9
        exact kq (.ref q9) (.sg sg[r2.toNat]) _ (hS5.sm t9) ((b4.trans b5).trans (But.same t9)) ((k4.trans (Keep.but b5 hS4)).trans (Keep.same t9)) (.tup (SqT.of upd_same) (.cons (.str _) (.cons (.str _) .nil))) (by show 1 ≤ _; omega) (List.getElem_mem hr2)
      walk_at "rd"
      refine ite2 (fun c1 => ?_) (fun c1 => ?_)
      · have c1 := of_decide_eq_true c1
        walk_at "rd"
        refine ite2 (fun c2 => ?_) (fun c2 => ?_)
        · have got : ∀ (i : Nat) (q : Addr) (c : Nat), r = (i : Nat) → [V.ref q1, V.ref q2, V.ref q3][i]? = some (.ref q) → SqT K F4 q [.str (S [c])] → isAt c = true → Q (.ref q) F4 → True := fun _ _ _ _ _ _ _ _ => trivial
          walk_at "rd"
          rcases (by omega : r = 0 ∨ r = 1 ∨ r = 2) with rfl | rfl | rfl
          · refine ⟨p1, _, _, .ref q1, rfl, rfl, SqL.of e4, atI_at (by decide) rfl, ?_⟩
            exact kk _ (.at 49) F4 hS4 b4 k4 (.tup (SqT.of (t4 _ _ (t3 _ _ (t2 _ _ e1)))) (.cons (.str _) .nil)) (by show 1 ≤ _; omega) rfl
          · refine ⟨p1, _, _, .ref q2, rfl, rfl, SqL.of e4, atI_at (by decide) rfl, ?_⟩
            exact kk _ (.at 48) F4 hS4 b4 k4 (.tup (SqT.of (t4 _ _ (t3 _ _ e2))) (.cons (.str _) .nil)) (by show 1 ≤ _; omega) rfl
          · refine ⟨p1, _, _, .ref q3, rfl, rfl, SqL.of e4, atI_at (by decide) rfl, ?_⟩
            exact kk _ (.at 46) F4 hS4 b4 k4 (.tup (SqT.of (t4 _ _ e3)) (.cons (.str _) .nil)) (by show 1 ≤ _; omega) rfl
        · exact leafS _ kk
      · exact leafS _ kk
    · have hb := of_decide_eq_false hb
      have hn2 : 1 ≤ n := by omega
      have hr4 : ¬ r < 4 := fun z => hb (.inr z)
      have hd : (((n + 1 : Nat)) : Int) - 1 = ((n : Nat) : Int) := by omega
      have hda : [V.ref a, V.str (S sg), V.int ((((n + 1 : Nat)) : Int) - 1)] ++ [] = [V.ref a, V.str (S sg), V.int ((n : Nat) : Int)] := by rw [hd]; rfl
      walk_at "nx"
      refine if_K (decide (r = 4)) (fun Q' hQ => ?_) (fun c3 => ?_) (fun c3 => ?_)
      · walk_at "rd"
        rw [show decide (V.int r = V.int 4) = decide (r = 4) from decide_eq_decide.mpr ⟨fun z => V.int.inj z, fun z => by rw [z]⟩]
        exact hQ
      · walk_at "rd"
        refine ⟨a, sg, hda, hS1, hs0, hs1, hn2, fun v T1 H2 hS2 b2 k2 tp hdp hok => ?_⟩
        walk_at "rd"
        refine ⟨by walk_at "sz", fun q9 hq9 => ?_⟩
        have t9 := same_new (o := .tup [.str (Str.ofString "*"), v]) hq9
        exact kk (.ref q9) (.st T1) _ (hS2.sm t9) ((b1.trans b2).trans (But.same t9)) ((k1.trans k2).trans (Keep.same t9)) (.tup (SqT.of upd_same) (.cons (.str _) (.cons (tp.keep (Keep.same t9)) .nil))) (by show dep T1 + 1 ≤ _; omega) hok
      · have c3 := of_decide_eq_false c3
        walk_at "nx"
        refine ⟨by walk_at "sz", fun p1 hp1 => ?_⟩
        have t1 := same_new (o := .lst [.str (Str.ofString "|"), .str (Str.ofString "&"), .str (Str.ofString "-"), .str (Str.ofString ">"), .str (Str.ofString ">>"), .str (Str.ofString "<"), .str (Str.ofString "<<"), .str (Str.ofString "row"), .str (Str.ofString "row")]) hp1
        have e1 : (upd H1 p1 (.lst [.str (Str.ofString "|"), .str (Str.ofString "&"), .str (Str.ofString "-"), .str (Str.ofString ">"), .str (Str.ofString ">>"), .str (Str.ofString "<"), .str (Str.ofString "<<"), .str (Str.ofString "row"), .str (Str.ofString "row")])) p1 = some (.lst [.str (Str.ofString "|"), .str (Str.ofString "&"), .str (Str.ofString "-"), .str (Str.ofString ">"), .str (Str.ofString ">>"), .str (Str.ofString "<"), .str (Str.ofString "<<"), .str (Str.ofString "row"), .str (Str.ofString "row")]) := upd_same
        generalize upd H1 p1 _ = F1 at t1 e1 ⊢
        obtain ⟨o, ho⟩ : ∃ o : Op, atI [V.str (Str.ofString "|"), .str (Str.ofString "&"), .str (Str.ofString "-"), .str (Str.ofString ">"), .str (Str.ofString ">>"), .str (Str.ofString "<"), .str (Str.ofString "<<"), .str (Str.ofString "row"), .str (Str.ofString "row")] (r - 5) = some (.str (opS o)) := by
          rcases (by omega : r = 5 ∨ r = 6 ∨ r = 7 ∨ r = 8 ∨ r = 9 ∨ r = 10 ∨ r = 11 ∨ r = 12 ∨ r = 13) with rfl | rfl | rfl | rfl | rfl | rfl | rfl | rfl | rfl
          · exact ⟨.or, rfl⟩
          · exact ⟨.and, rfl⟩
          · exact ⟨.sub, rfl⟩
          · exact ⟨.gt, rfl⟩
          · exact ⟨.gg, rfl⟩
          · exact ⟨.lt, rfl⟩
          · exact ⟨.ll, rfl⟩
          · exact ⟨.row, rfl⟩
          · exact ⟨.row, rfl⟩
        walk_at "rd"
        refine ⟨p1, _, _, .str (opS o), rfl, rfl, SqL.of e1, ho, ?_⟩
        walk_at "nx"
        walk_at "rd"
        have hS1' := hS1.sm t1
        refine ⟨a, sg, hda, hS1', hs0, hs1, hn2, fun v T1 H2 hS2 b2 k2 tp hdp hok => ?_⟩
        walk_at "rd"
        refine ⟨a, sg, hda, hS2, hs0, hs1, hn2, fun v' T2 H3 hS3 b3 k3 tp' hdp' hok' => ?_⟩
        walk_at "rd"
        refine ⟨by walk_at "sz", fun q9 hq9 => ?_⟩
        have t9 := same_new (o := .tup [.str (opS o), v, v']) hq9
        have kk9 := Keep.same t9
        exact kk (.ref q9) (.op o T1 T2) _ (hS3.sm t9) ((((b1.trans (But.same t1)).trans b2).trans b3).trans (But.same t9)) ((((k1.trans (Keep.same t1)).trans k2).trans k3).trans kk9) (.tup (SqT.of upd_same) (.cons (.str _) (.cons (tp.keep (k3.trans kk9)) (.cons (tp'.keep kk9) .nil)))) (by show max (dep T1) (dep T2) + 1 ≤ _; omega) ⟨hok, hok'⟩
theorem c__law_treeN (T : Txt K mg) : ∀ n, Cal P w K mg base CX0 (n + 2) "_law_tree" (spTr K (n + 1))
  | 0 => trStep T 0 (Cal.mk0 T.d__law_tree sc__law_tree (fun vs H Q E h => by obtain ⟨a, sg, rfl, _⟩ := h; rfl) (fun f cdv A outer s H vs Q E hr h => by obtain ⟨a, sg, _, _, _, _, z, _⟩ := h; omega))
  | n + 1 => trStep T (n + 1) (c__law_treeN T n)
end
end Sh
set_option Elab.async false
set_option linter.all false
set_option maxRecDepth 100000
set_option maxHeartbeats 4000000
namespace Sh
open PySem PySem.Spec PyProof.Rows L2
open SX (S S_inj S_len S_cat)
open Ex (Fs Op Tr Wd fb spl isAt isAng fst binOf dbl foldO cntS cntN run s0 dep mdep kids nod snod wtx trank wrapT)
local macro_rules | `(tactic| walk_at "nx") => `(tactic| repeat (with_reducible first | refine Sh.gn_mk ?_ | refine Sh.nx_mk ?_ | refine Sh.st_nx ?_ | refine Sh.rt_mk ?_ | refine Sh.ct_mk ?_ | refine Sh.bk_mk ?_))
local macro_rules | `(tactic| walk_at "sq") => `(tactic| first | exact SqL.of upd_same | exact SqT.of upd_same | exact SqL.of (by assumption) | exact SqT.of (by assumption) | assumption | exact Or.inl (SqL.of (by assumption)) | exact Or.inr (SqT.of (by assumption)) | exact Or.inl (by assumption) | exact Or.inr (by assumption))
local macro_rules | `(tactic| walk_at "hp") => `(tactic| first | exact upd_same | assumption)
local macro_rules | `(tactic| walk_at "sz") => `(tactic| first | exact Nat.le_of_ble_eq_true rfl | omega)
local macro_rules | `(tactic| walk_at "sd") => `(tactic| first | omega | exact rfl | assumption | (show (0 : Int) < _; omega) | exact And.intro (by omega) (by omega) | exact Or.inl (And.intro (by omega) (by omega)) | exact Or.inr (And.intro (by omega) (by omega)) | omega | exact Sh.sz_S (by omega) | decide)
local macro_rules | `(tactic| walk_at "rd1") => `(tactic| first
  | (with_reducible first | refine Sh.gn_mk ?_ | refine Sh.nx_mk ?_ | refine Sh.st_nx ?_ | refine Sh.rt_mk ?_ | refine Sh.ct_mk ?_ | refine Sh.bk_mk ?_)
  | refine Exists.intro (α := V) _ (And.intro rfl ?_)
  | refine Exists.intro (α := Bool) _ (And.intro rfl ?_)
  | refine Exists.intro (α := Int) _ (And.intro rfl ?_)
  | refine Exists.intro (α := PySem.Str) _ (And.intro rfl ?_)
  | refine Exists.intro (α := Int) _ (Exists.intro (α := Int) _ (And.intro rfl (And.intro rfl ?_)))
  | refine Exists.intro (α := PySem.Str) _ (Exists.intro (α := PySem.Str) _ (And.intro rfl (And.intro rfl ?_)))
  | refine Exists.intro (α := Int) _ (Exists.intro (α := Int) _ (And.intro rfl ?_))
  | refine Or.inl (Exists.intro (α := Int) _ (And.intro rfl ?_))
  | refine Exists.intro _ (Exists.intro _ (Exists.intro _ (Exists.intro _ (And.intro rfl (And.intro rfl (And.intro (by walk_at "sq") (And.intro rfl ?_)))))))
  | refine Exists.intro _ (Exists.intro _ (Exists.intro _ (Exists.intro _ (And.intro rfl (And.intro rfl (And.intro (by walk_at "hp") (And.intro rfl ?_)))))))
  | refine And.intro (by walk_at "sd") ?_
  )
local macro_rules | `(tactic| walk_at "rd") => `(tactic| repeat walk_at "rd1")
local macro_rules | `(tactic| walk_at "lk") => `(tactic| first | exact rfl | (rw [lookup_putF, if_pos rfl]) | (rw [lookup_putF, if_neg (by decide +kernel)]; walk_at "lk"))

def isSg : Tr → Bool
  | .sg _ => true
  | _ => false
theorem hk_kids {y : Tr} (h : hk y = true) : 1 ≤ (kids y).length ∧ (kids y).length ≤ 2 := by
  cases y with
  | sg c => cases h
  | «at» c => cases h
  | st z => simp [kids]
  | op o l r => simp [kids]
theorem hk_sg {y : Tr} (h : hk y = true) : isSg y = false := by
  cases y with
  | sg c => cases h
  | «at» c => cases h
  | st z => rfl
  | op o l r => rfl
def PtV (K : PySem.W.Frag) (H : Hp) (v : V) (t : Tr) : Prop := ∃ q, v = .ref q ∧ SqT K H q [.str (S (wtx t)), .int ((trank t : Nat) : Int)]
theorem PtV.keep {K : PySem.W.Frag} {H H' : Hp} {v : V} {t : Tr} (h : PtV K H v t) (k : Keep H H') : PtV K H' v t := let ⟨q, e, h⟩ := h; ⟨q, e, k.seq h⟩
def pw (T0 : Tr) (j : Nat) : List Nat := match (kids T0)[j]? with
  | some y => wrapT (decide (trank y < trank T0 + j)) (wtx y)
  | none => []
def rkvs : List (L2.Key × V) := [(.inr "|", .int 1), (.inr "&", .int 2), (.inr "-", .int 2), (.inr ">", .int 3), (.inr ">>", .int 3), (.inr "<", .int 3), (.inr "<<", .int 3), (.inr "row", .int 4), (.inr "*", .int 5)]
theorem rk_get {y : Tr} (h : hk y = true) : valV (mergeK [] rkvs) (.inr (trh y)) = some (.int ((trank y : Nat) : Int)) := by
  cases y with
  | sg c => cases h
  | «at» c => cases h
  | st z => rfl
  | op o l r => cases o <;> rfl
theorem sign_head {sg : List Nat} {y : Tr} (hok : Ex.Ok sg y) : decide (V.str (trh y) = V.str (Str.ofString "sign")) = isSg y := by
  cases y with
  | sg c => rfl
  | «at» c =>
    have h : isAt c = true := hok
    have h3 : c = 49 ∨ c = 48 ∨ c = 46 := by unfold isAt at h; simpa [or_assoc] using h
    rcases h3 with rfl | rfl | rfl <;> rfl
  | st z => rfl
  | op o l r => cases o <;> rfl
section
variable {P : Program} {w : World} {K : PySem.W.Frag} {mg : Str → Option Value} {base : Heap} {C0 XE FE DI XM FM XT FT DT XS XB BS AT RK : Addr}
def spWr (K : PySem.W.Frag) (n : Nat) : Sp := fun vs H Q _ => ∃ (v : V) (T : Tr), vs = [v] ∧ Tp K H v (trD T) ∧ dep T ≤ n ∧ (∃ sg, Low sg ∧ Ex.Ok sg T) ∧ (wtx T).length ≤ 1000 ∧
  ∀ p H', Same H H' → SqT K H' p [.str (S (wtx T)), .int ((trank T : Nat) : Int)] → Q (.ref p) H'
theorem wrStep (T : Txt K mg) (n : Nat) (c__law_written : Cal P w K mg base CX0 (n + 1) "_law_written" (spWr K n)) : Cal P w K mg base CX0 (n + 2) "_law_written" (spWr K (n + 1)) := by
  refine Cal.mk0 T.d__law_written sc__law_written (fun vs H Q E h => ?_) (fun f cdv A outer s H vs Q E hr h => ?_)
  · obtain ⟨v, T0, rfl, _⟩ := h
    rfl
  · obtain ⟨v, T0, rfl, tp, hd, ⟨sg, hlow, hok⟩, hl, kk⟩ := h
    have hu := hu_of hr
    refine ⟨_, (pss_cons (ps_set (i := 1) sc__law_written.nd rfl (Or.inl rfl) (pe_ix ix_tup (pv 0) pe_int (fun _ _ => rfl)))
  (pss_cons (ps_if (pt_cmpR op_eq (pv 1) pe_str (nomark _))
    (pss_one (ps_ret (pe_tup (pa_cons (pe_ix ix_tup (pv 0) pe_int (fun _ _ => rfl)) (pa_cons pe_int pa_nil)))))
    pss_nil)
  (pss_cons (ps_if (pt_cmpR op_eq (pe_callB call_len_seq (by rfl) T.b_len (by decide +kernel) (pa_cons (pv 0) pa_nil)) pe_int (nomark _))
    (pss_one (ps_ret (pe_tup (pa_cons (pv 1) (pa_cons pe_int pa_nil)))))
    pss_nil)
  (pss_cons (ps_set (i := 2) sc__law_written.nd rfl (Or.inl rfl) (pe_disp (pps_cons pe_str pe_int (pps_cons pe_str pe_int (pps_cons pe_str pe_int (pps_cons pe_str pe_int (pps_cons pe_str pe_int (pps_cons pe_str pe_int (pps_cons pe_str pe_int (pps_cons pe_str pe_int (pps_cons pe_str pe_int pps_nil))))))))) (by rfl) (by rfl) (fun z => by cases z) (by decide)))
  (pss_cons (ps_set (i := 3) sc__law_written.nd rfl (Or.inl rfl) (pe_dget hu (pv 2) (pv 1) (fun _ _ => rfl)))
  (pss_cons (ps_setLc (i := 4) (own := [("_law_part", 9)]) (g := gName 9) (tt := tYes) (by rfl) sc__law_written.nd rfl rfl (sw_true rfl rfl rfl (by decide +kernel)) (pi_tup (pe_slice sl_tupA (pv 0) (po_some pe_int) po_none)) (blkOk_by (N := ["_law_tree_here", "_law_word", "_law_ranks", "_law_rank", "_law_parts", "_law_told", "_law_k", "_law_text", "_law_near", "_law_part"]) (sc := defScope s__law_written) (by decide +kernel)) (fun _ _ _ _ _ => (pg_name (i := 9) sc__law_written.nd rfl (Or.inl rfl))) (fun _ _ _ _ _ => pts_nil) (fun _ _ _ _ _ => (pe_c c__law_written hr (by omega) rfl (pa_cons (pv 9) pa_nil))))
  (pss_cons (ps_set (i := 5) sc__law_written.nd rfl (Or.inl rfl) (pe_lst pa_nil))
  (pss_cons (ps_for PassesOwn.never rfl (pi_range1 (by rfl) T.b_range (pa_cons (pe_callB call_len_seq (by rfl) T.b_len (by decide +kernel) (pa_cons (pv 4) pa_nil)) pa_nil)) (pg_name (i := 6) sc__law_written.nd rfl (Or.inl rfl))
    (pss_cons (ps_asg (pe_ix ix_list (pv 4) (pv 6) (fun _ _ => rfl)) (pg_tup (by rfl) (pgs_cons (pg_name (i := 7) sc__law_written.nd rfl (Or.inl rfl)) (pgs_cons (pg_name (i := 8) sc__law_written.nd rfl (Or.inl rfl)) pgs_nil))))
    (pss_one (ps_expr (pe_bm PySem.F.plainAttrs_list PySem.F.slot_list_append PySem.F.type_list_append mt_append (pv 5) (pa_cons (pe_ifExp (pt_cmpR op_lt (pv 8) (pe_op op_add (pv 3) (pv 6)) (nomark _)) (pe_op op_add_str (pe_op op_add_str pe_str (pv 7)) pe_str) (pv 7)) pa_nil))))))
  (pss_cons (ps_if (pt_cmpR op_eq (pv 1) pe_str (nomark _))
    (pss_one (ps_ret (pe_tup (pa_cons (pe_op op_add_str (pe_ix ix_list (pv 5) pe_int (fun _ _ => rfl)) pe_str) (pa_cons pe_int pa_nil)))))
    pss_nil)
  (pss_one (ps_ret (pe_tup (pa_cons (pe_op op_add_str (pe_op op_add_str (pe_ix ix_list (pv 5) pe_int (fun _ _ => rfl)) (pe_ifExp (pt_cmpR op_eq (pv 1) pe_str (nomark _)) pe_str (pv 1))) (pe_ix ix_list (pv 5) pe_int (fun _ _ => rfl))) (pa_cons (pv 3) pa_nil)))))))))))))), ?_⟩
    obtain ⟨qa, qxs, rfl, hq, hk3⟩ := tr_inv tp
    walk_at "nx"
    walk_at "rd"
    refine ⟨qa, _, _, .str (trh T0), rfl, rfl, hq, atI_at (Int.le_refl 0) rfl, ?_⟩
    walk_at "nx"
    have hsg := sign_head hok
    cases hkT : hk T0 with
    | false =>
      cases T0 with
      | sg c =>
        obtain ⟨a', xs', e', hq', ht'⟩ := tp.inv
        cases e'
        cases ht' with
        | cons h1 h2 => cases h2 with
          | cons h3 h4 => cases h4 with
            | nil =>
              cases h1
              cases h3
              refine if_K true (fun Q' hQ => ?_) (fun _ => ?_) (fun z => by cases z)
              · walk_at "rd"
                rw [hsg]
                exact hQ
              · walk_at "rd"
                refine ⟨by walk_at "sz", fun p9 hp9 => ?_⟩
                exact kk p9 _ (same_new hp9) (SqT.of upd_same)
      | «at» c =>
        obtain ⟨a', xs', e', hq', ht'⟩ := tp.inv
        cases e'
        cases ht' with
        | cons h1 h2 => cases h2 with
          | nil =>
            cases h1
            refine if_K false (fun Q' hQ => ?_) (fun z => by cases z) (fun _ => ?_)
            · walk_at "rd"
              rw [hsg]
              exact hQ
            · walk_at "nx"
              refine if_K true (fun Q' hQ => ?_) (fun _ => ?_) (fun z => by cases z)
              · walk_at "rd"
                refine ⟨qa, _, rfl, .inr hq', ?_⟩
                walk_at "rd"
                exact hQ
              · walk_at "rd"
                refine ⟨by walk_at "sz", fun p9 hp9 => ?_⟩
                exact kk p9 _ (same_new hp9) (SqT.of upd_same)
      | st z => cases hkT
      | op o l r => cases hkT
    | true =>
      have hk3 := hk3 hkT
      have hkl : qxs.length = (kids T0).length := by have := hk3.len; simpa using this
      have hk12 : 1 ≤ (kids T0).length ∧ (kids T0).length ≤ 2 := hk_kids hkT
      refine if_K false (fun Q' hQ => ?_) (fun z => by cases z) (fun _ => ?_)
      · walk_at "rd"
        rw [hsg]
        rw [hk_sg hkT]
        exact hQ
      walk_at "nx"
      refine if_K false (fun Q' hQ => ?_) (fun z => by cases z) (fun _ => ?_)
      · walk_at "rd"
        refine ⟨qa, _, rfl, .inr hq, ?_⟩
        walk_at "rd"
        refine q_of hQ (decide_eq_false fun z => ?_)
        have z := V.int.inj z
        simp at z
        omega
      walk_at "nx"
      refine fun pd hpd => ?_
      refine ⟨upd_same, rkvs, rfl, by decide, ?_⟩
      have s1 : Same H (upd (upd H pd (.dK [])) pd (.dK (mergeK [] rkvs))) := same_mut (same_new hpd) hpd
      have e1 : (upd (upd H pd (.dK [])) pd (.dK (mergeK [] rkvs))) pd = some (.dK (mergeK [] rkvs)) := upd_same
      generalize upd (upd H pd (.dK [])) pd (.dK (mergeK [] rkvs)) = H1 at s1 e1 ⊢
      walk_at "nx"
      refine ⟨_, rfl, _, rfl, pd, _, rfl, .inl ⟨_, _, .inl e1, rfl, (rk_get hkT).symm⟩, ?_⟩
      walk_at "nx"
      have hq1 := (Keep.same s1).seq hq
      walk_at "rd"
      refine ⟨qa, _, rfl, hq1, fun z => absurd (((sIx1 qxs.length).symm.trans z.1)) (by decide), fun _ p9 hp9 => ?_⟩
      rw [cut_fromV (by decide)]
      have s2 := s1.trans (same_new (o := .tup qxs) hp9)
      have e2 : (upd H1 p9 (.tup qxs)) p9 = some (.tup qxs) := upd_same
      rw [show List.drop (Int.toNat 1) (V.str (trh T0) :: qxs) = qxs from rfl]
      generalize upd H1 p9 (.tup qxs) = H2 at s2 e2 ⊢
      have hdk : ∀ y ∈ kids T0, dep y ≤ n := fun y hy => by
        cases T0 with
        | sg c => cases hy
        | «at» c => cases hy
        | st z =>
          have : y = z := by simpa [kids] using hy
          rw [this]
          have : dep z + 1 ≤ n + 1 := hd
          omega
        | op o l r =>
          have hd : max (dep l) (dep r) + 1 ≤ n + 1 := hd
          have : y = l ∨ y = r := by simpa [kids] using hy
          rcases this with rfl | rfl <;> omega
      have hlk : ∀ y ∈ kids T0, (wtx y).length ≤ 1000 := fun y hy => by
        have hw : ∀ b t, (t : List Nat).length ≤ (wrapT b t).length := fun b t => by cases b <;> simp [wrapT]; omega
        cases T0 with
        | sg c => cases hy
        | «at» c => cases hy
        | st z =>
          have : y = z := by simpa [kids] using hy
          rw [this]
          have h1 := hw (decide (trank z < 5)) (wtx z)
          have h2 : (wtx (.st z)).length = (wrapT (decide (trank z < 5)) (wtx z)).length + 1 := by simp [wtx]
          omega
        | op o l r =>
          have h1 := hw (decide (trank l < o.rank)) (wtx l)
          have h2 := hw (decide (trank r < o.rank + 1)) (wtx r)
          have h3 : (wtx (.op o l r)).length = (wrapT (decide (trank l < o.rank)) (wtx l)).length + (o.tx.length + (wrapT (decide (trank r < o.rank + 1)) (wtx r)).length) := by simp [wtx]
          have : y = l ∨ y = r := by simpa [kids] using hy
          rcases this with rfl | rfl <;> omega
      refine ⟨p9, rfl, ⟨_, SqT.of e2⟩, fun D hD => lc_tupR (K := K) (a := p9) (xs := qxs) (l := kids T0) (Rel := fun H v t => Tp K H v (trD t)) hkl
        (fun pre H3 => ∃ acc, H3 D = some (.lst acc) ∧ Items (PtV K) H3 acc pre ∧ Same H2 H3) ⟨[], upd_same, Items.nil, same_new hD⟩
        (fun pre H3 ⟨_, _, _, s3⟩ => ⟨SqT.of (s3 _ _ e2), fun i x y h1 h2 => ?_⟩) ?_ ?_⟩
      · obtain ⟨d, hd9, ht9⟩ := hk3.getV h1
        rw [List.getElem?_map, h2] at hd9
        have hd9 : trD y = d := Option.some.inj hd9
        rw [hd9]
        exact ht9.keep (Keep.same (s2.trans s3))
      · rintro pre y post x H3 ee hx htp ⟨acc, h3, it3, s3⟩
        have hym : y ∈ kids T0 := by rw [ee]; simp
        have hpl : pre.length ≤ 2 := by
          have := congrArg List.length ee
          simp at this
          omega
        refine ⟨rfl, ty_T ?_⟩
        walk_at "rd"
        refine ⟨x, y, rfl, htp, hdk y hym, ⟨sg, hlow, ok_kids hok hym⟩, hlk y hym, fun p5 H5 s5 sq5 => ?_⟩
        have h5 := s5 _ _ h3
        have ku := Keep.upL (zs := acc ++ [V.ref p5]) h5
        refine ⟨acc, h5, ?_, acc ++ [.ref p5], upd_same, it3.snoc (fun a b h => h.keep ((Keep.same s5).trans ku)) ⟨p5, rfl, ku.seq sq5⟩, same_mut (s3.trans s5) hD⟩
        have := it3.1
        exact Nat.lt_of_le_of_lt (m := 10) (by omega) (by decide)
      · rintro H3 ⟨acc, h3, it3, s3⟩
        have s23 := s2.trans s3
        walk_at "nx"
        refine ⟨by walk_at "sz", fun pt hpt => ?_⟩
        have s4 := same_new (o := .lst []) hpt
        have e4 : (upd H3 pt (.lst [])) pt = some (.lst []) := upd_same
        have h4 := s4 _ _ h3
        generalize upd H3 pt (.lst []) = H4 at s4 e4 h4 ⊢
        have it4 : Items (PtV K) H4 acc (kids T0) := it3.mono fun a b h => h.keep (Keep.same s4)
        have hal : acc.length = (kids T0).length := it4.1
        walk_at "nx"
        walk_at "rd"
        refine ⟨D, _, rfl, .inl (SqL.of h4), ?_⟩
        refine tNil_mk ?_
        refine ⟨_, rfl, by omega, by omega, ?_⟩
        have hpD : pt ≠ D := fun z => by rw [z, h4] at e4; cases acc with
          | nil => simp at hal; omega
          | cons a b => cases e4
        refine for_range (lo := 0) (n := ((acc.length : Nat) : Int).toNat) (fun i σ H5 => ∃ v6 v7 v8 v9 : Option V, σ = [some (.ref qa), some (.str (trh T0)), some (.ref pd), some (.int ((trank T0 : Nat) : Int)), some (.ref D), some (.ref pt), v6, v7, v8, v9] ∧ Same H H5 ∧ H5 pt = some (.lst ((List.range i).map fun j => V.str (S (pw T0 j)))) ∧ H5 D = some (.lst acc) ∧ Items (PtV K) H5 acc (kids T0))
          ⟨_, _, _, _, rfl, s23.trans s4, e4, h4, it4⟩ ?_ ?_
        · rintro i σ H5 hi ⟨v6, v7, v8, v9, rfl, s5, h5t, h5D, it5⟩
          rw [Int.zero_add]
          have hia : i < acc.length := by omega
          obtain ⟨y, hy⟩ : ∃ y, (kids T0)[i]? = some y := ⟨(kids T0)[i]'(by omega), by simp [show i < (kids T0).length by omega]⟩
          obtain ⟨xq, hxq⟩ : ∃ x, acc[i]? = some x := ⟨acc[i], by simp [hia]⟩
          obtain ⟨q, rfl, sq⟩ := it5.2 i xq y hxq hy
          have hym : y ∈ kids T0 := List.mem_of_getElem? hy
          have hyl := hlk y hym
          have hSy := S_len (wtx y)
          walk_at "nx"
          walk_at "rd"
          refine ⟨D, _, _, _, rfl, rfl, SqL.of h5D, atI_nat hxq, ?_⟩
          refine ⟨q, _, rfl, sq, rfl, ?_⟩
          refine ⟨_, _, rfl, ?_⟩
          refine ⟨_, _, rfl, rfl, ?_⟩
          walk_at "nx"
          have hpw : pw T0 i = wrapT (decide (trank y < trank T0 + i)) (wtx y) := by unfold pw; rw [hy]
          have fin : ∀ (u : Str) (x9 : Option V), u = S (pw T0 i) → (∃ v6 v7 v8 v9 : Option V, [some (.ref qa), some (.str (trh T0)), some (.ref pd), some (.int ((trank T0 : Nat) : Int)), some (.ref D), some (.ref pt), some (.int ((i : Nat) : Int)), some (.str (S (wtx y))), some (.int ((trank y : Nat) : Int)), x9] = [some (.ref qa), some (.str (trh T0)), some (.ref pd), some (.int ((trank T0 : Nat) : Int)), some (.ref D), some (.ref pt), v6, v7, v8, v9] ∧ Same H (upd H5 pt (.lst ((List.range i).map (fun j => V.str (S (pw T0 j))) ++ [.str u]))) ∧ (upd H5 pt (.lst ((List.range i).map (fun j => V.str (S (pw T0 j))) ++ [.str u]))) pt = some (.lst ((List.range (i + 1)).map fun j => V.str (S (pw T0 j)))) ∧ (upd H5 pt (.lst ((List.range i).map (fun j => V.str (S (pw T0 j))) ++ [.str u]))) D = some (.lst acc) ∧ Items (PtV K) (upd H5 pt (.lst ((List.range i).map (fun j => V.str (S (pw T0 j))) ++ [.str u]))) acc (kids T0)) := by
            rintro u x9 rfl
            have hpt0 : H pt = none := by
              cases z : H pt with
              | none => rfl
              | some x => rw [s23 _ _ z] at hpt; cases hpt
            refine ⟨_, _, _, _, rfl, same_mut s5 hpt0, ?_, by rw [upd_ne hpD.symm]; exact h5D, it5.mono fun a b h => h.keep (Keep.upL h5t)⟩
            rw [upd_same, List.range_succ, List.map_append]
            rfl
          have hlen : ((List.range i).map fun j => V.str (S (pw T0 j))).length < sizeLine := by
            rw [List.length_map, List.length_range]
            exact Nat.lt_of_le_of_lt (m := 10) (by omega) (by decide)
          have e40 : (Str.ofString "(").length = 1 := rfl
          have e41 : (Str.ofString ")").length = 1 := rfl
          have hsl : (2000 : Nat) ≤ sizeLine := by decide
          walk_at "rd"
          refine ⟨.inl ⟨rfl, _, SqL.of h5t⟩, ?_⟩
          by_cases hcmp : trank y < trank T0 + i
          · rw [decide_eq_true hcmp] at hpw
            refine ⟨_, rfl, ?_⟩
            walk_at "rd"
            rw [decide_eq_true (show ((trank y : Nat) : Int) < ((trank T0 : Nat) : Int) + ((i : Nat) : Int) by omega)]
            refine iteT ?_
            walk_at "rd"
            refine ⟨by rw [PySem.Str.length_append, e40, e41]; omega, ?_⟩
            refine tNil_mk ?_
            refine ⟨pt, _, _, rfl, rfl, h5t, hlen, ?_⟩
            refine fin _ _ ?_
            rw [hpw]
            show Str.ofString "(" ++ S (wtx y) ++ Str.ofString ")" = S (40 :: (wtx y ++ [41]))
            rw [show Str.ofString "(" = S [40] from rfl, show Str.ofString ")" = S [41] from rfl, S_cat, S_cat]
            rfl
          · rw [decide_eq_false hcmp] at hpw
            refine ⟨_, rfl, ?_⟩
            walk_at "rd"
            rw [decide_eq_false (show ¬ ((trank y : Nat) : Int) < ((trank T0 : Nat) : Int) + ((i : Nat) : Int) by omega)]
            refine iteF ?_
            walk_at "rd"
            refine tNil_mk ?_
            refine ⟨pt, _, _, rfl, rfl, h5t, hlen, ?_⟩
            refine fin _ _ ?_
            rw [hpw]
            rfl
        · rintro σ H5 ⟨v6, v7, v8, v9, rfl, s5, h5t, h5D, it5⟩
          have h5t : H5 pt = some (.lst ((List.range acc.length).map fun j => V.str (S (pw T0 j)))) := h5t
          rw [hal] at h5t
          walk_at "nx"
          cases T0 with
          | sg c => cases hkT
          | «at» c => cases hkT
          | st z =>
            refine if_K true (fun Q' hQ => ?_) (fun _ => ?_) (fun z => by cases z)
            · walk_at "rd"
              exact hQ
            · have ew : wtx (.st z) = pw (.st z) 0 ++ [42] := rfl
              rw [ew] at hl kk
              rw [List.length_append] at hl
              have hSp := S_len (pw (.st z) 0)
              have e42 : (Str.ofString "*").length = 1 := rfl
              have hsl : (2000 : Nat) ≤ sizeLine := by decide
              walk_at "rd"
              refine ⟨by show (S (pw (.st z) 0)).length + (Str.ofString "*").length ≤ sizeLine; rw [e42, hSp]; omega, ?_⟩
              walk_at "rd"
              refine ⟨by walk_at "sz", fun p8 hp8 => ?_⟩
              refine kk p8 _ (s5.trans (same_new hp8)) (SqT.of ?_)
              rw [upd_same]
              show some (HO.tup [V.str (S (pw (.st z) 0) ++ Str.ofString "*"), _]) = _
              rw [show Str.ofString "*" = S [42] from rfl, S_cat]
              rfl
          | op o l r =>
            refine if_K false (fun Q' hQ => ?_) (fun z => by cases z) (fun _ => ?_)
            · walk_at "rd"
              rw [show decide (V.str (trh (.op o l r)) = V.str (Str.ofString "*")) = false by cases o <;> rfl]
              exact hQ
            · have ew : wtx (.op o l r) = pw (.op o l r) 0 ++ (o.tx ++ pw (.op o l r) 1) := rfl
              rw [ew] at hl kk
              rw [List.length_append, List.length_append] at hl
              have hSp := S_len (pw (.op o l r) 0)
              have hSp1 := S_len (pw (.op o l r) 1)
              have hsl : (2000 : Nat) ≤ sizeLine := by decide
              walk_at "rd"
              rw [show decide (V.str (trh (.op o l r)) = V.str (Str.ofString "row")) = decide (o = .row) by cases o <;> rfl]
              by_cases ho : o = .row
              · subst ho
                have e0 : (Str.ofString "").length = 0 := rfl
                refine iteT ?_
                walk_at "rd"
                refine ⟨by show (S (pw (.op .row l r) 0)).length + (Str.ofString "").length ≤ sizeLine; rw [e0, hSp]; omega, ?_⟩
                walk_at "rd"
                refine ⟨by show (S (pw (.op .row l r) 0) ++ Str.ofString "").length + (S (pw (.op .row l r) 1)).length ≤ sizeLine; rw [PySem.Str.length_append, e0, hSp, hSp1]; omega, ?_⟩
                walk_at "rd"
                refine ⟨by walk_at "sz", fun p8 hp8 => ?_⟩
                refine kk p8 _ (s5.trans (same_new hp8)) (SqT.of ?_)
                rw [upd_same]
                show some (HO.tup [V.str (S (pw (.op .row l r) 0) ++ Str.ofString "" ++ S (pw (.op .row l r) 1)), _]) = _
                rw [show Str.ofString "" = S [] from rfl, S_cat, S_cat, List.append_nil]
                rfl
              · rw [decide_eq_false ho]
                have et : opS o = S o.tx := by cases o <;> first | rfl | exact absurd rfl ho
                have elo := S_len o.tx
                refine iteF ?_
                walk_at "rd"
                refine ⟨by show (S (pw (.op o l r) 0)).length + (opS o).length ≤ sizeLine; rw [et, hSp, elo]; omega, ?_⟩
                walk_at "rd"
                refine ⟨by show (S (pw (.op o l r) 0) ++ opS o).length + (S (pw (.op o l r) 1)).length ≤ sizeLine; rw [PySem.Str.length_append, et, hSp, hSp1, elo]; omega, ?_⟩
                walk_at "rd"
                refine ⟨by walk_at "sz", fun p8 hp8 => ?_⟩
                refine kk p8 _ (s5.trans (same_new hp8)) (SqT.of ?_)
                rw [upd_same]
                show some (HO.tup [V.str (S (pw (.op o l r) 0) ++ opS o ++ S (pw (.op o l r) 1)), _]) = _
                rw [et, S_cat, S_cat, List.append_assoc]
theorem c__law_writtenN (T : Txt K mg) : ∀ n, Cal P w K mg base CX0 (n + 1) "_law_written" (spWr K n)
  | 0 => Cal.mk0 T.d__law_written sc__law_written (fun vs H Q E h => by obtain ⟨v, T0, rfl, _⟩ := h; rfl) (fun f cdv A outer s H vs Q E hr h => by
      obtain ⟨v, T0, _, _, z, _⟩ := h
      have := Ex.dep_pos T0
      omega)
  | n + 1 => wrStep T n (c__law_writtenN T n)
end
end Sh
set_option Elab.async false
set_option linter.all false
set_option maxRecDepth 100000
set_option maxHeartbeats 4000000
namespace Sh
open PySem PySem.Spec PyProof.Rows L2
open SX (S S_inj S_len S_cat)
open Ex (Fs Op Tr Wd fb spl isAt isAng fst binOf dbl foldO cntS cntN run s0 dep mdep kids nod snod wtx trank wrapT)
local macro_rules | `(tactic| walk_at "nx") => `(tactic| repeat (with_reducible first | refine Sh.gn_mk ?_ | refine Sh.nx_mk ?_ | refine Sh.st_nx ?_ | refine Sh.rt_mk ?_ | refine Sh.ct_mk ?_ | refine Sh.bk_mk ?_))
local macro_rules | `(tactic| walk_at "sq") => `(tactic| first | exact SqL.of upd_same | exact SqT.of upd_same | exact SqL.of (by assumption) | exact SqT.of (by assumption) | assumption | exact Or.inl (SqL.of (by assumption)) | exact Or.inr (SqT.of (by assumption)) | exact Or.inl (by assumption) | exact Or.inr (by assumption))
local macro_rules | `(tactic| walk_at "hp") => `(tactic| first | exact upd_same | assumption)
local macro_rules | `(tactic| walk_at "sz") => `(tactic| first | exact Nat.le_of_ble_eq_true rfl | omega)
local macro_rules | `(tactic| walk_at "sd") => `(tactic| first | omega | exact rfl | assumption | (show (0 : Int) < _; omega) | exact And.intro (by omega) (by omega) | exact Or.inl (And.intro (by omega) (by omega)) | exact Or.inr (And.intro (by omega) (by omega)) | omega | exact Sh.sz_S (by omega) | decide)
local macro_rules | `(tactic| walk_at "rd1") => `(tactic| first
  | (with_reducible first | refine Sh.gn_mk ?_ | refine Sh.nx_mk ?_ | refine Sh.st_nx ?_ | refine Sh.rt_mk ?_ | refine Sh.ct_mk ?_ | refine Sh.bk_mk ?_)
  | refine Exists.intro (α := V) _ (And.intro rfl ?_)
  | refine Exists.intro (α := Bool) _ (And.intro rfl ?_)
  | refine Exists.intro (α := Int) _ (And.intro rfl ?_)
  | refine Exists.intro (α := PySem.Str) _ (And.intro rfl ?_)
  | refine Exists.intro (α := Int) _ (Exists.intro (α := Int) _ (And.intro rfl (And.intro rfl ?_)))
  | refine Exists.intro (α := PySem.Str) _ (Exists.intro (α := PySem.Str) _ (And.intro rfl (And.intro rfl ?_)))
  | refine Exists.intro (α := Int) _ (Exists.intro (α := Int) _ (And.intro rfl ?_))
  | refine Or.inl (Exists.intro (α := Int) _ (And.intro rfl ?_))
  | refine Exists.intro _ (Exists.intro _ (Exists.intro _ (Exists.intro _ (And.intro rfl (And.intro rfl (And.intro (by walk_at "sq") (And.intro rfl ?_)))))))
  | refine Exists.intro _ (Exists.intro _ (Exists.intro _ (Exists.intro _ (And.intro rfl (And.intro rfl (And.intro (by walk_at "hp") (And.intro rfl ?_)))))))
  | refine And.intro (by walk_at "sd") ?_
  )
local macro_rules | `(tactic| walk_at "rd") => `(tactic| repeat walk_at "rd1")
local macro_rules | `(tactic| walk_at "lk") => `(tactic| first | exact rfl | (rw [lookup_putF, if_pos rfl]) | (rw [lookup_putF, if_neg (by decide +kernel)]; walk_at "lk"))

section
variable {P : Program} {w : World} {K : PySem.W.Frag} {mg : Str → Option Value} {base : Heap} {C0 XE FE DI XM FM XT FT DT XS XB BS AT RK : Addr}
def spRk (K : PySem.W.Frag) : Sp := fun vs H Q _ => ∃ (v : V) (T : Tr), vs = [v] ∧ Tp K H v (trD T) ∧ (∃ sg, Ex.Ok sg T) ∧ Q (.int ((trank T : Nat) : Int)) H
theorem c_rank_of (T : TxtX P K mg C0 w XE FE DI XM FM XT FT DT XS XB BS AT RK) : Cal P w K mg base CX0 1 "rank_of" (spRk K) := by
  refine Cal.mk0 T.toTxtC.toTxt.d_rank_of sc_rank_of (fun vs H Q E h => ?_) (fun f cdv A outer s H vs Q E hr h => ?_)
  · obtain ⟨v, T0, rfl, _⟩ := h
    rfl
  · obtain ⟨v, T0, rfl, tp, ⟨sg, hok⟩, kk⟩ := h
    obtain ⟨esR, nR, kdR⟩ := T.r_RANKS.kd
    have hu := hu_of hr
    refine ⟨_, (pss_cons (ps_if (pt_cmpR op_eq (pe_ix ix_tup (pv 0) pe_int (fun _ _ => rfl)) pe_str (nomark _))
    (pss_one (ps_ret pe_int))
    pss_nil)
  (pss_one (ps_ret (pe_kdget2 kdR (pe_gK rfl T.g_RANKS) (pe_ix ix_tup (pv 0) pe_int (fun _ _ => rfl)) pe_int ⟨rfl, rfl, rfl, rfl⟩)))), ?_⟩
    obtain ⟨qa, qxs, rfl, hq, hk3⟩ := tr_inv tp
    walk_at "nx"
    have hst : decide (V.str (trh T0) = V.str (Str.ofString "*")) = decide (trank T0 = 5) := by
      cases T0 with
      | sg c => rfl
      | «at» c => exact star_head hok rfl
      | st z => rfl
      | op o l r => cases o <;> rfl
    refine if_K (decide (trank T0 = 5)) (fun Q' hQ => ?_) (fun hb => ?_) (fun hb => ?_)
    · walk_at "rd"
      refine ⟨qa, _, _, _, rfl, rfl, hq, atI_at (Int.le_refl 0) rfl, ?_⟩
      walk_at "rd"
      rw [hst]
      exact hQ
    · walk_at "rd"
      rw [of_decide_eq_true hb] at kk
      exact kk
    · walk_at "rd"
      refine ⟨qa, _, _, _, rfl, rfl, hq, atI_at (Int.le_refl 0) rfl, ?_⟩
      obtain ⟨r, hr1, hr2⟩ := rank_head T.r_RANKS hok
      have hb := of_decide_eq_false hb
      refine ⟨_, _, rfl, ?_, kk⟩
      cases T0 with
      | sg c =>
        cases r with
        | none => exact .inr ⟨hr1, rfl⟩
        | some u => cases hr2
      | «at» c =>
        cases r with
        | none => exact .inr ⟨hr1, rfl⟩
        | some u => cases hr2
      | st z => exact absurd rfl hb
      | op o l r => exact .inl (T.r_RANKS.has o)
theorem atom_three {sg : List Nat} {c : Nat} (h : Ex.Ok sg (.at c)) : [c] = [49] ∨ [c] = [48] ∨ [c] = [46] := by
  have h : isAt c = true := h
  unfold isAt at h
  simpa [or_assoc] using h
def spWri (K : PySem.W.Frag) (n : Nat) : Sp := fun vs H Q _ => ∃ (v : V) (T : Tr), vs = [v] ∧ Tp K H v (trD T) ∧ dep T ≤ n ∧ (∃ sg, Low sg ∧ Ex.Ok sg T) ∧ (wtx T).length ≤ 1000 ∧ Q (.str (S (wtx T))) H
def spWrp (K : PySem.W.Frag) (n : Nat) : Sp := fun vs H Q _ => ∃ (v : V) (T : Tr) (k : Nat), vs = [v, .int (k : Nat)] ∧ Tp K H v (trD T) ∧ dep T ≤ n ∧ (∃ sg, Low sg ∧ Ex.Ok sg T) ∧ (wtx T).length ≤ 1000 ∧ Q (.str (S (wrapT (decide (trank T < k)) (wtx T)))) H
theorem wrpStep (T : TxtX P K mg C0 w XE FE DI XM FM XT FT DT XS XB BS AT RK) (n m : Nat) (hm : 1 ≤ m) (c_written : Cal P w K mg base CX0 m "written" (spWri K n)) : Cal P w K mg base CX0 (m + 1) "wrapped" (spWrp K n) := by
  have c_rank_of := c_rank_of (P := P) (w := w) (base := base) T
  refine Cal.mk0 T.toTxtC.toTxt.d_wrapped sc_wrapped (fun vs H Q E h => ?_) (fun f cdv A outer s H vs Q E hr h => ?_)
  · obtain ⟨v, T0, k, rfl, _⟩ := h
    rfl
  · obtain ⟨v, T0, k, rfl, tp, hd, hok, hl, kk⟩ := h
    have hSl := S_len (wtx T0)
    have hsl : (2000 : Nat) ≤ sizeLine := by decide
    have e40 : (Str.ofString "(").length = 1 := rfl
    have e41 : (Str.ofString ")").length = 1 := rfl
    refine ⟨_, (pss_cons (ps_set (i := 2) sc_wrapped.nd rfl (Or.inl rfl) (pe_c c_written hr (by omega) rfl (pa_cons (pv 0) pa_nil)))
  (pss_one (ps_ret (pe_ifExp (pt_cmpR op_lt (pe_c c_rank_of hr (by omega) rfl (pa_cons (pv 0) pa_nil)) (pv 1) (nomark _)) (pe_op op_add_str (pe_op op_add_str pe_str (pv 2)) pe_str) (pv 2))))), ?_⟩
    walk_at "nx"
    walk_at "rd"
    refine ⟨v, T0, rfl, tp, hd, hok, hl, ?_⟩
    walk_at "nx"
    walk_at "rd"
    refine ⟨v, T0, rfl, tp, ⟨_, hok.choose_spec.2⟩, ?_⟩
    walk_at "rd"
    by_cases hk : trank T0 < k
    · rw [decide_eq_true hk] at kk
      rw [decide_eq_true (show ((trank T0 : Nat) : Int) < ((k : Nat) : Int) by omega)]
      refine iteT ?_
      walk_at "rd"
      refine ⟨by rw [PySem.Str.length_append, e40, e41]; omega, ?_⟩
      show Q (V.str (Str.ofString "(" ++ S (wtx T0) ++ Str.ofString ")")) H
      rw [show Str.ofString "(" = S [40] from rfl, show Str.ofString ")" = S [41] from rfl, S_cat, S_cat]
      exact kk
    · rw [decide_eq_false hk] at kk
      rw [decide_eq_false (show ¬ ((trank T0 : Nat) : Int) < ((k : Nat) : Int) by omega)]
      refine iteF ?_
      walk_at "rd"
      exact kk
theorem wriStep (T : TxtX P K mg C0 w XE FE DI XM FM XT FT DT XS XB BS AT RK) (n m : Nat) (c_wrapped : Cal P w K mg base CX0 m "wrapped" (spWrp K n)) : Cal P w K mg base CX0 (m + 1) "written" (spWri K (n + 1)) := by
  refine Cal.mk0 T.toTxtC.toTxt.d_written sc_written (fun vs H Q E h => ?_) (fun f cdv A outer s H vs Q E hr h => ?_)
  · obtain ⟨v, T0, rfl, _⟩ := h
    rfl
  · obtain ⟨v, T0, rfl, tp, hd, ⟨sg, hlow, hok⟩, hl, kk⟩ := h
    obtain ⟨esR, nR, kdR⟩ := T.r_RANKS.kd
    refine ⟨_, (pss_cons (ps_set (i := 1) sc_written.nd rfl (Or.inl rfl) (pe_ix ix_tup (pv 0) pe_int (fun _ _ => rfl)))
  (pss_cons (ps_if (pt_cmpR op_eq (pv 1) pe_str (nomark _))
    (pss_one (ps_ret (pe_ix ix_tup (pv 0) pe_int (fun _ _ => rfl))))
    pss_nil)
  (pss_cons (ps_if (pt_cmpR op_in_seq (pv 1) (pe_gK rfl T.g_ATOMS) (by rfl))
    (pss_one (ps_ret (pv 1)))
    pss_nil)
  (pss_cons (ps_if (pt_cmpR op_eq (pv 1) pe_str (nomark _))
    (pss_one (ps_ret (pe_op op_add_str (pe_c c_wrapped hr (by omega) rfl (pa_cons (pe_ix ix_tup (pv 0) pe_int (fun _ _ => rfl)) (pa_cons pe_int pa_nil))) pe_str)))
    pss_nil)
  (pss_cons (ps_set (i := 2) sc_written.nd rfl (Or.inl rfl) (pe_ix ix_kdict (pe_gK rfl T.g_RANKS) (pv 1) (fun _ _ => rfl)))
  (pss_one (ps_ret (pe_op op_add_str (pe_op op_add_str (pe_c c_wrapped hr (by omega) rfl (pa_cons (pe_ix ix_tup (pv 0) pe_int (fun _ _ => rfl)) (pa_cons (pv 2) pa_nil))) (pe_ifExp (pt_cmpR op_eq (pv 1) pe_str (nomark _)) pe_str (pv 1))) (pe_c c_wrapped hr (by omega) rfl (pa_cons (pe_ix ix_tup (pv 0) pe_int (fun _ _ => rfl)) (pa_cons (pe_op op_add (pv 2) pe_int) pa_nil))))))))))), ?_⟩
    obtain ⟨qa, qxs, rfl, hq, hk3⟩ := tr_inv tp
    walk_at "nx"
    walk_at "rd"
    refine ⟨qa, _, _, _, rfl, rfl, hq, atI_at (Int.le_refl 0) rfl, ?_⟩
    walk_at "nx"
    have hsg := sign_head hok
    have hsl : (2000 : Nat) ≤ sizeLine := by decide
    have hw : ∀ b t, (t : List Nat).length ≤ (wrapT b t).length := fun b t => by cases b <;> simp [wrapT]; omega
    cases T0 with
    | sg c =>
      obtain ⟨a', xs', e', hq', ht'⟩ := tp.inv
      cases e'
      cases ht' with
      | cons h1 h2 => cases h2 with
        | cons h3 h4 => cases h4 with
          | nil =>
            cases h1
            cases h3
            refine if_K true (fun Q' hQ => ?_) (fun _ => ?_) (fun z => by cases z)
            · walk_at "rd"
              rw [hsg]
              exact hQ
            · walk_at "rd"
              exact kk
    | «at» c =>
      refine if_K false (fun Q' hQ => ?_) (fun z => by cases z) (fun _ => ?_)
      · walk_at "rd"
        rw [hsg]
        exact hQ
      walk_at "nx"
      refine if_K true (fun Q' hQ => ?_) (fun _ => ?_) (fun z => by cases z)
      · walk_at "rd"
        refine ⟨AT, _, rfl, .inr (T.s_ATOMS _), rfl, rfl, ?_⟩
        refine ⟨_, rfl, ?_⟩
        rw [if_neg Bool.false_ne_true]
        rw [show V.str (trh (.at c)) = V.str (S [c]) from rfl, in_atomsL, decide_eq_true (atom_three hok)]
        exact hQ
      · walk_at "rd"
        exact kk
    | st z =>
      refine if_K false (fun Q' hQ => ?_) (fun z => by cases z) (fun _ => ?_)
      · walk_at "rd"
        rw [hsg]
        exact hQ
      walk_at "nx"
      refine if_K false (fun Q' hQ => ?_) (fun z => by cases z) (fun _ => ?_)
      · walk_at "rd"
        refine ⟨AT, _, rfl, .inr (T.s_ATOMS _), rfl, rfl, ?_⟩
        refine ⟨_, rfl, ?_⟩
        exact hQ
      walk_at "nx"
      refine if_K true (fun Q' hQ => ?_) (fun _ => ?_) (fun z => by cases z)
      · walk_at "rd"
        exact hQ
      have ew : wtx (.st z) = wrapT (decide (trank z < 5)) (wtx z) ++ [42] := rfl
      rw [ew] at hl kk
      rw [List.length_append] at hl
      have h1 := hw (decide (trank z < 5)) (wtx z)
      have hS := S_len (wrapT (decide (trank z < 5)) (wtx z))
      have e42 : (Str.ofString "*").length = 1 := rfl
      obtain ⟨x1, rfl, tz⟩ : ∃ x1, qxs = [x1] ∧ Tp K H x1 (trD z) := by
        cases hk3 rfl with
        | cons a b => cases b; exact ⟨_, rfl, a⟩
      have hd : dep z + 1 ≤ n + 1 := hd
      walk_at "rd"
      refine ⟨x1, z, 5, rfl, tz, by omega, ⟨sg, hlow, hok⟩, by omega, ?_⟩
      walk_at "rd"
      show Q (V.str (S (wrapT (decide (trank z < 5)) (wtx z)) ++ Str.ofString "*")) H
      rw [show Str.ofString "*" = S [42] from rfl, S_cat]
      exact kk
    | op o l r =>
      refine if_K false (fun Q' hQ => ?_) (fun z => by cases z) (fun _ => ?_)
      · walk_at "rd"
        rw [hsg]
        exact hQ
      walk_at "nx"
      refine if_K false (fun Q' hQ => ?_) (fun z => by cases z) (fun _ => ?_)
      · walk_at "rd"
        refine ⟨AT, _, rfl, .inr (T.s_ATOMS _), rfl, rfl, ?_⟩
        refine ⟨_, rfl, ?_⟩
        rw [if_neg Bool.false_ne_true]
        rw [show inV (V.str (trh (.op o l r))) [V.str (Str.ofString "1"), V.str (Str.ofString "0"), V.str (Str.ofString ".")] = false by cases o <;> rfl]
        exact hQ
      walk_at "nx"
      refine if_K false (fun Q' hQ => ?_) (fun z => by cases z) (fun _ => ?_)
      · walk_at "rd"
        rw [show decide (V.str (trh (.op o l r)) = V.str (Str.ofString "*")) = false by cases o <;> rfl]
        exact hQ
      walk_at "nx"
      walk_at "rd"
      refine ⟨RK, _, _, rfl, rfl, T.r_RANKS.get o, ?_⟩
      have ew : wtx (.op o l r) = wrapT (decide (trank l < o.rank)) (wtx l) ++ (o.tx ++ wrapT (decide (trank r < o.rank + 1)) (wtx r)) := rfl
      rw [ew] at hl kk
      rw [List.length_append, List.length_append] at hl
      have h1 := hw (decide (trank l < o.rank)) (wtx l)
      have h2 := hw (decide (trank r < o.rank + 1)) (wtx r)
      have hS1 := S_len (wrapT (decide (trank l < o.rank)) (wtx l))
      have hS2 := S_len (wrapT (decide (trank r < o.rank + 1)) (wtx r))
      have hd : max (dep l) (dep r) + 1 ≤ n + 1 := hd
      obtain ⟨x1, x2, rfl, tl, tr⟩ : ∃ x1 x2, qxs = [x1, x2] ∧ Tp K H x1 (trD l) ∧ Tp K H x2 (trD r) := by
        cases hk3 rfl with
        | cons a b => cases b with
          | cons b c => cases c; exact ⟨_, _, rfl, a, b⟩
      walk_at "nx"
      walk_at "rd"
      refine ⟨x1, l, o.rank, rfl, tl, by omega, ⟨sg, hlow, hok.1⟩, by omega, ?_⟩
      walk_at "rd"
      have last : ∀ u : List Nat, u = o.tx → ∃ i j, V.str (S (wrapT (decide (trank l < o.rank)) (wtx l)) ++ S u) = V.str i ∧ V.str (S (wrapT (decide (trank r < o.rank + 1)) (wtx r))) = V.str j ∧ i.length + j.length ≤ sizeLine ∧ Q (V.str (i ++ j)) H := by
        rintro u rfl
        refine ⟨_, _, rfl, rfl, by rw [PySem.Str.length_append, hS1, hS2, S_len]; omega, ?_⟩
        rw [S_cat, S_cat, List.append_assoc]
        exact kk
      rw [show decide (V.str (trh (.op o l r)) = V.str (Str.ofString "row")) = decide (o = .row) by cases o <;> rfl]
      by_cases ho : o = .row
      · subst ho
        have e0 : (Str.ofString "").length = 0 := rfl
        refine iteT ?_
        walk_at "rd"
        refine ⟨x2, r, 5, rfl, tr, by omega, ⟨sg, hlow, hok.2⟩, by omega, ?_⟩
        exact last [] rfl
      · rw [decide_eq_false ho]
        have et : opS o = S o.tx := by cases o <;> first | rfl | exact absurd rfl ho
        have elo := S_len o.tx
        refine iteF ?_
        walk_at "rd"
        refine ⟨by show _ + (opS o).length ≤ _; rw [et, hS1, elo]; omega, ?_⟩
        walk_at "rd"
        refine ⟨x2, r, o.rank + 1, rfl, tr, by omega, ⟨sg, hlow, hok.2⟩, by omega, ?_⟩
        rw [show trh (.op o l r) = S o.tx from et]
        exact last _ rfl
theorem c_writtenN (T : TxtX P K mg C0 w XE FE DI XM FM XT FT DT XS XB BS AT RK) : ∀ n, Cal P w K mg base CX0 (2 * n + 1) "written" (spWri K n)
  | 0 => Cal.mk0 T.toTxtC.toTxt.d_written sc_written (fun vs H Q E h => by obtain ⟨v, T0, rfl, _⟩ := h; rfl) (fun f cdv A outer s H vs Q E hr h => by
      obtain ⟨v, T0, _, _, z, _⟩ := h
      have := Ex.dep_pos T0
      omega)
  | n + 1 => wriStep T n (2 * n + 2) (wrpStep T n (2 * n + 1) (by omega) (c_writtenN T n))
end
end Sh
set_option Elab.async false
set_option linter.all false
set_option maxRecDepth 100000
set_option maxHeartbeats 4000000
namespace Sh
open PySem PySem.Spec PyProof.Rows L2
open SX (S S_inj S_len S_cat)
open Ex (Fs Op Tr Wd fb spl isAt isAng fst binOf dbl foldO cntS cntN run s0 dep mdep kids nod snod wtx trank wrapT)
local macro_rules | `(tactic| walk_at "nx") => `(tactic| repeat (with_reducible first | refine Sh.gn_mk ?_ | refine Sh.nx_mk ?_ | refine Sh.st_nx ?_ | refine Sh.rt_mk ?_ | refine Sh.ct_mk ?_ | refine Sh.bk_mk ?_))
local macro_rules | `(tactic| walk_at "sq") => `(tactic| first | exact SqL.of upd_same | exact SqT.of upd_same | exact SqL.of (by assumption) | exact SqT.of (by assumption) | assumption | exact Or.inl (SqL.of (by assumption)) | exact Or.inr (SqT.of (by assumption)) | exact Or.inl (by assumption) | exact Or.inr (by assumption))
local macro_rules | `(tactic| walk_at "hp") => `(tactic| first | exact upd_same | assumption)
local macro_rules | `(tactic| walk_at "sz") => `(tactic| first | exact Nat.le_of_ble_eq_true rfl | omega)
local macro_rules | `(tactic| walk_at "sd") => `(tactic| first | omega | exact rfl | assumption | (show (0 : Int) < _; omega) | exact And.intro (by omega) (by omega) | exact Or.inl (And.intro (by omega) (by omega)) | exact Or.inr (And.intro (by omega) (by omega)) | omega | exact Sh.sz_S (by omega) | decide)
local macro_rules | `(tactic| walk_at "rd1") => `(tactic| first
  | (with_reducible first | refine Sh.gn_mk ?_ | refine Sh.nx_mk ?_ | refine Sh.st_nx ?_ | refine Sh.rt_mk ?_ | refine Sh.ct_mk ?_ | refine Sh.bk_mk ?_)
  | refine Exists.intro (α := V) _ (And.intro rfl ?_)
  | refine Exists.intro (α := Bool) _ (And.intro rfl ?_)
  | refine Exists.intro (α := Int) _ (And.intro rfl ?_)
  | refine Exists.intro (α := PySem.Str) _ (And.intro rfl ?_)
  | refine Exists.intro (α := Int) _ (Exists.intro (α := Int) _ (And.intro rfl (And.intro rfl ?_)))
  | refine Exists.intro (α := PySem.Str) _ (Exists.intro (α := PySem.Str) _ (And.intro rfl (And.intro rfl ?_)))
  | refine Exists.intro (α := Int) _ (Exists.intro (α := Int) _ (And.intro rfl ?_))
  | refine Or.inl (Exists.intro (α := Int) _ (And.intro rfl ?_))
  | refine Exists.intro _ (Exists.intro _ (Exists.intro _ (Exists.intro _ (And.intro rfl (And.intro rfl (And.intro (by walk_at "sq") (And.intro rfl ?_)))))))
  | refine Exists.intro _ (Exists.intro _ (Exists.intro _ (Exists.intro _ (And.intro rfl (And.intro rfl (And.intro (by walk_at "hp") (And.intro rfl ?_)))))))
  | refine And.intro (by walk_at "sd") ?_
  )
local macro_rules | `(tactic| walk_at "rd") => `(tactic| repeat walk_at "rd1")
local macro_rules | `(tactic| walk_at "lk") => `(tactic| first | exact rfl | (rw [lookup_putF, if_pos rfl]) | (rw [lookup_putF, if_neg (by decide +kernel)]; walk_at "lk"))

section
variable {P : Program} {w : World} {K : PySem.W.Frag} {mg : Str → Option Value} {base : Heap} {C0 XE FE DI XM FM XT FT DT XS XB BS AT RK : Addr}
def SqA (K : PySem.W.Frag) (H : Hp) (a : Addr) (xs : List V) : Prop := SqL K H a xs ∨ SqT K H a xs
def NotLs (K : PySem.W.Frag) (H : Hp) (v : V) : Prop := ∃ n, TyX K H v (.type n) ∧ n ∈ tys ∧ (n == "tuple" || n == "list") = false
/-- a head and what follows it that are no expression -/
def OddS (K : PySem.W.Frag) (RK : Addr) (sg : List Nat) (wd : Str) (xs : List V) : Prop :=
  (wd = Str.ofString "sign" → xs.length = 1 → ∃ u : List Nat, xs = [.str (S u)] ∧ u.length ≤ 1000 ∧ ∀ c, u = [c] → c ∉ sg) ∧
  ((wd = Str.ofString "1" ∨ wd = Str.ofString "0" ∨ wd = Str.ofString ".") → xs.length ≠ 0) ∧ (wd = Str.ofString "*" → xs.length ≠ 1) ∧ ∃ r, PySem.W.nsIn K RK wd = some r ∧ (r.isSome = true → xs.length ≠ 2)
inductive Ckd (K : PySem.W.Frag) (RK : Addr) (H : Hp) (sg : List Nat) : Nat → V → Option Tr → Prop
  | zero (v : V) : Ckd K RK H sg 0 v none
  | notl (n : Nat) (v : V) : (∀ H, NotLs K H v) → Ckd K RK H sg (n + 1) v none
  | nil (n : Nat) (a : Addr) : SqA K H a [] → Ckd K RK H sg (n + 1) (.ref a) none
  | nostr (n : Nat) (a : Addr) (x : V) (xs : List V) : SqA K H a (x :: xs) → (∀ H, NotStr K H x) → Ckd K RK H sg (n + 1) (.ref a) none
  | sign (n : Nat) (a : Addr) (c : Nat) : SqA K H a [.str (Str.ofString "sign"), .str (S [c])] → c ∈ sg → Ckd K RK H sg (n + 1) (.ref a) (some (.sg c))
  | atom (n : Nat) (a : Addr) (c : Nat) : SqA K H a [.str (S [c])] → isAt c = true → Ckd K RK H sg (n + 1) (.ref a) (some (.at c))
  | star (n : Nat) (a : Addr) (x : V) (r : Option Tr) : SqA K H a [.str (Str.ofString "*"), x] → Ckd K RK H sg n x r → Ckd K RK H sg (n + 1) (.ref a) (r.map .st)
  | op1 (n : Nat) (a : Addr) (o : Op) (x y : V) : SqA K H a [.str (opS o), x, y] → Ckd K RK H sg n x none → Ckd K RK H sg (n + 1) (.ref a) none
  | op2 (n : Nat) (a : Addr) (o : Op) (x y : V) (t : Tr) (r : Option Tr) : SqA K H a [.str (opS o), x, y] → Ckd K RK H sg n x (some t) → Ckd K RK H sg n y r → Ckd K RK H sg (n + 1) (.ref a) (r.map (.op o t))
  | odd (n : Nat) (a : Addr) (wd : Str) (xs : List V) : SqA K H a (.str wd :: xs) → OddS K RK sg wd xs → Ckd K RK H sg (n + 1) (.ref a) none
theorem ck_inv {K : PySem.W.Frag} {RK : Addr} {H : Hp} {sg : List Nat} {n : Nat} {v : V} {r : Option Tr} (h : Ckd K RK H sg (n + 1) v r) : (r = none ∧ (NotLs K H v ∨ ∃ a, v = .ref a ∧ (SqA K H a [] ∨ ∃ x xs, SqA K H a (x :: xs) ∧ NotStr K H x))) ∨
    ∃ a wd xs, v = .ref a ∧ SqA K H a (.str wd :: xs) ∧ ((∃ c, wd = Str.ofString "sign" ∧ xs = [.str (S [c])] ∧ c ∈ sg ∧ r = some (.sg c)) ∨ (∃ c, wd = S [c] ∧ isAt c = true ∧ xs = [] ∧ r = some (.at c)) ∨
      (∃ x r1, wd = Str.ofString "*" ∧ xs = [x] ∧ Ckd K RK H sg n x r1 ∧ r = r1.map .st) ∨
      (∃ o x y r1, wd = opS o ∧ xs = [x, y] ∧ Ckd K RK H sg n x r1 ∧ ((r1 = none ∧ r = none) ∨ ∃ t r2, r1 = some t ∧ Ckd K RK H sg n y r2 ∧ r = r2.map (.op o t))) ∨ (OddS K RK sg wd xs ∧ r = none)) := by
  cases h with
  | notl _ _ h => exact .inl ⟨rfl, .inl (h _)⟩
  | nil _ a h => exact .inl ⟨rfl, .inr ⟨a, rfl, .inl h⟩⟩
  | nostr _ a x xs h h2 => exact .inl ⟨rfl, .inr ⟨a, rfl, .inr ⟨x, xs, h, h2 _⟩⟩⟩
  | sign _ a c h h2 => exact .inr ⟨a, _, _, rfl, h, .inl ⟨c, rfl, rfl, h2, rfl⟩⟩
  | atom _ a c h h2 => exact .inr ⟨a, _, _, rfl, h, .inr (.inl ⟨c, rfl, h2, rfl, rfl⟩)⟩
  | star _ a x r h h2 => exact .inr ⟨a, _, _, rfl, h, .inr (.inr (.inl ⟨x, r, rfl, rfl, h2, rfl⟩))⟩
  | op1 _ a o x y h h2 => exact .inr ⟨a, _, _, rfl, h, .inr (.inr (.inr (.inl ⟨o, x, y, none, rfl, rfl, h2, .inl ⟨rfl, rfl⟩⟩)))⟩
  | op2 _ a o x y t r h h2 h3 => exact .inr ⟨a, _, _, rfl, h, .inr (.inr (.inr (.inl ⟨o, x, y, some t, rfl, rfl, h2, .inr ⟨t, r, rfl, h3, rfl⟩⟩)))⟩
  | odd _ a wd xs h h2 => exact .inr ⟨a, wd, xs, rfl, h, .inr (.inr (.inr (.inr ⟨h2, rfl⟩)))⟩
theorem SqA.ty {K : PySem.W.Frag} {H : Hp} {a : Addr} {xs : List V} (h : SqA K H a xs) : ∃ n, TyX K H (.ref a) (.type n) ∧ n ∈ tys ∧ (n == "tuple" || n == "list") = true := by
  rcases h with h | h
  · exact ⟨"list", ty_lst h, by decide, by decide⟩
  · exact ⟨"tuple", ty_tup h, by decide, by decide⟩
theorem SqA.ix {K : PySem.W.Frag} {H : Hp} {a : Addr} {xs : List V} {i : Int} {v : V} {Q : VK} (h : SqA K H a xs) (e : atI xs i = some v) (q : Q v H) : rIx K (.ref a) (.int i) H Q := by
  rcases h with h | h
  · exact .inl ⟨a, xs, i, v, rfl, rfl, h, e, q⟩
  · exact .inr (.inl ⟨a, xs, i, v, rfl, rfl, h, e, q⟩)
theorem SqA.keep {H H' : Hp} {a : Addr} {xs : List V} (h : SqA K H a xs) (k : Same H H') : SqA K H' a xs := by
  rcases h with h | h
  · exact .inl (k.seq h)
  · exact .inr ((Keep.same k).seq h)
theorem Ckd.keep {K : PySem.W.Frag} {RK : Addr} {H H' : Hp} {sg : List Nat} (k : Same H H') : ∀ {n : Nat} {v : V} {r : Option Tr}, Ckd K RK H sg n v r → Ckd K RK H' sg n v r
  | _, _, _, .zero v => .zero v
  | _, _, _, .notl n v h => .notl n v h
  | _, _, _, .nil n a h => .nil n a (h.keep k)
  | _, _, _, .nostr n a x xs h h2 => .nostr n a x xs (h.keep k) h2
  | _, _, _, .sign n a c h h2 => .sign n a c (h.keep k) h2
  | _, _, _, .atom n a c h h2 => .atom n a c (h.keep k) h2
  | _, _, _, .star n a x r h h2 => .star n a x r (h.keep k) (h2.keep k)
  | _, _, _, .op1 n a o x y h h2 => .op1 n a o x y (h.keep k) (h2.keep k)
  | _, _, _, .op2 n a o x y t r h h2 h3 => .op2 n a o x y t r (h.keep k) (h2.keep k) (h3.keep k)
  | _, _, _, .odd n a wd xs h h2 => .odd n a wd xs (h.keep k) h2
def spCk (K : PySem.W.Frag) (XB RK : Addr) (n : Nat) : Sp := fun vs H Q E => ∃ (sg : List Nat) (v : V) (r : Option Tr), vs = [.str (S sg), v, .int (n : Nat)] ∧ Low sg ∧ sg.length ≤ 1000 ∧ Ckd K RK H sg n v r ∧
  (r = none → ∀ H', Same H H' → E (.ref XB) none H') ∧ (∀ T, r = some T → ∀ v' H', Same H H' → Tp K H' v' (trD T) → Q v' H')
theorem no_atom {wd : Str} (h : ¬ (wd = Str.ofString "1" ∨ wd = Str.ofString "0" ∨ wd = Str.ofString ".")) : inV (V.str wd) [V.str (Str.ofString "1"), V.str (Str.ofString "0"), V.str (Str.ofString ".")] = false := by
  have e : ∀ d : Str, d ≠ wd → eqV (V.str d) (V.str wd) = false := fun d hd => by
    show (d == wd) = false
    exact beq_eq_false_iff_ne.mpr hd
  show (eqV (V.str (Str.ofString "1")) (V.str wd) || (eqV (V.str (Str.ofString "0")) (V.str wd) || (eqV (V.str (Str.ofString ".")) (V.str wd) || false))) = _
  rw [e _ (fun z => h (.inl z.symm)), e _ (fun z => h (.inr (.inl z.symm))), e _ (fun z => h (.inr (.inr z.symm)))]
  rfl
theorem ckZero (T : TxtX P K mg C0 w XE FE DI XM FM XT FT DT XS XB BS AT RK) : Cal P w K mg base (L2.CX P w) 2 "checked_tree" (spCk K XB RK 0) := by
  have c_is_listed := c_is_listed (P := P) (w := w) (base := base) T.toTxtC.toTxt
  have c_X_checked_tree : Cal P w K mg base (L2.CX P w) 1 "checked_tree" (fun _ _ _ _ => False) := Cal.mkX T.toTxtC.toTxt.d_checked_tree sc_checked_tree (fun _ _ _ _ h => h.elim) (fun _ _ _ _ _ _ _ _ _ _ h => h.elim)
  refine Cal.mkX T.toTxtC.toTxt.d_checked_tree sc_checked_tree (fun vs H Q E h => ?_) (fun f cdv A outer s H vs Q E hr h => ?_)
  · obtain ⟨sg, v, r, rfl, _⟩ := h
    rfl
  · obtain ⟨sg, v, r, rfl, hlow, hsl, ck, kN, kS⟩ := h
    obtain ⟨esR, nR, kdR⟩ := T.r_RANKS.kd
    cases ck
    have kN := kN rfl H (Same.refl _)
    refine ⟨_, (pss_cons (ps_if (PW.pt (pw_or (pt_cmpR op_eq (pv 2) pe_int (nomark _)) (pw_or (pt_not (pt_truth (pe_c c_is_listed hr (by omega) rfl (pa_cons (pv 1) pa_nil)) (by intro _; rfl))) (pw_or (pt_cmpR op_eq (pe_callB call_len_seq (by rfl) T.b_len (by decide +kernel) (pa_cons (pv 1) pa_nil)) pe_int (nomark _)) (pw_or1 (pt_not (pt_val (pe_callB call_isi (by rfl) T.b_isinstance (by decide +kernel) (pa_cons (pe_ix ix_seq (pv 1) pe_int (fun _ _ => rfl)) (pa_cons (pe_bltn (v := .ty "str") (by rfl) T.b_str (by decide +kernel) rfl) pa_nil))))))))))
    (pss_one (ps_raise rfl (takes_of rfl rfl rfl rfl) (pmk_own PySem.F.excBase_ValueError T.x_BadTree T.g_BadTree T.k_BadTree (raises_own T.b_BadTree T.t_BadTree) rfl)))
    pss_nil)
  (pss_cons (ps_set (i := 3) sc_checked_tree.nd rfl (Or.inl rfl) (pe_ix ix_seq (pv 1) pe_int (fun _ _ => rfl)))
  (pss_cons (ps_if (PW.pt (pw_and (pt_cmpR op_eq (pv 3) pe_str (nomark _)) (pw_and (pt_cmpR op_eq (pe_callB call_len_seq (by rfl) T.b_len (by decide +kernel) (pa_cons (pv 1) pa_nil)) pe_int (nomark _)) (pw_and (pt_val (pe_callB call_isi (by rfl) T.b_isinstance (by decide +kernel) (pa_cons (pe_ix ix_seq (pv 1) pe_int (fun _ _ => rfl)) (pa_cons (pe_bltn (v := .ty "str") (by rfl) T.b_str (by decide +kernel) rfl) pa_nil)))) (pw_and (pt_cmpR op_eq (pe_callB call_len_str (by rfl) T.b_len (by decide +kernel) (pa_cons (pe_ix ix_seq (pv 1) pe_int (fun _ _ => rfl)) pa_nil)) pe_int (nomark _)) (pw_and1 (pt_cmpR op_in_sign (pe_ix ix_seq (pv 1) pe_int (fun _ _ => rfl)) (pv 0) (by rfl))))))))
    (pss_one (ps_ret (pe_tup (pa_cons pe_str (pa_cons (pe_ix ix_seq (pv 1) pe_int (fun _ _ => rfl)) pa_nil)))))
    pss_nil)
  (pss_cons (ps_if (PW.pt (pw_and (pt_cmpR op_in_seq (pv 3) (pe_gK rfl T.g_ATOMS) (by rfl)) (pw_and1 (pt_cmpR op_eq (pe_callB call_len_seq (by rfl) T.b_len (by decide +kernel) (pa_cons (pv 1) pa_nil)) pe_int (nomark _)))))
    (pss_one (ps_ret (pe_tup (pa_cons (pv 3) pa_nil))))
    pss_nil)
  (pss_cons (ps_if (PW.pt (pw_and (pt_cmpR op_eq (pv 3) pe_str (nomark _)) (pw_and1 (pt_cmpR op_eq (pe_callB call_len_seq (by rfl) T.b_len (by decide +kernel) (pa_cons (pv 1) pa_nil)) pe_int (nomark _)))))
    (pss_one (ps_ret (pe_tup (pa_cons (pv 3) (pa_cons (pe_cX c_X_checked_tree hr (by omega) (takes_of rfl rfl rfl rfl) rfl (pa_cons (pv 0) (pa_cons (pe_ix ix_seq (pv 1) pe_int (fun _ _ => rfl)) (pa_cons (pe_op op_sub (pv 2) pe_int) pa_nil)))) pa_nil)))))
    pss_nil)
  (pss_cons (ps_if (PW.pt (pw_and (pt_cmpR (op_in_kd kdR) (pv 3) (pe_gK rfl T.g_RANKS) (by rfl)) (pw_and1 (pt_cmpR op_eq (pe_callB call_len_seq (by rfl) T.b_len (by decide +kernel) (pa_cons (pv 1) pa_nil)) pe_int (nomark _)))))
    (pss_one (ps_ret (pe_tup (pa_cons (pv 3) (pa_cons (pe_cX c_X_checked_tree hr (by omega) (takes_of rfl rfl rfl rfl) rfl (pa_cons (pv 0) (pa_cons (pe_ix ix_seq (pv 1) pe_int (fun _ _ => rfl)) (pa_cons (pe_op op_sub (pv 2) pe_int) pa_nil)))) (pa_cons (pe_cX c_X_checked_tree hr (by omega) (takes_of rfl rfl rfl rfl) rfl (pa_cons (pv 0) (pa_cons (pe_ix ix_seq (pv 1) pe_int (fun _ _ => rfl)) (pa_cons (pe_op op_sub (pv 2) pe_int) pa_nil)))) pa_nil))))))
    pss_nil)
  (pss_one (ps_raise rfl (takes_of rfl rfl rfl rfl) (pmk_own PySem.F.excBase_ValueError T.x_BadTree T.g_BadTree T.k_BadTree (raises_own T.b_BadTree T.t_BadTree) rfl))))))))), ?_⟩
    refine if_K true (fun Q' hQ => ?_) (fun _ => ?_) (fun z => by cases z)
    · walk_at "rd"
      exact hQ
    · walk_at "rd"
      exact kN
theorem ckStep (T : TxtX P K mg C0 w XE FE DI XM FM XT FT DT XS XB BS AT RK) (n m : Nat) (hm : 1 ≤ m) (c_X_checked_tree : Cal P w K mg base (L2.CX P w) m "checked_tree" (spCk K XB RK n)) : Cal P w K mg base (L2.CX P w) (m + 1) "checked_tree" (spCk K XB RK (n + 1)) := by
  have c_is_listed := c_is_listed (P := P) (w := w) (base := base) T.toTxtC.toTxt
  refine Cal.mkX T.toTxtC.toTxt.d_checked_tree sc_checked_tree (fun vs H Q E h => ?_) (fun f cdv A outer s H vs Q E hr h => ?_)
  · obtain ⟨sg, v, r, rfl, _⟩ := h
    rfl
  · obtain ⟨sg, v, r, rfl, hlow, hsl, ck, kN, kS⟩ := h
    obtain ⟨esR, nR, kdR⟩ := T.r_RANKS.kd
    refine ⟨_, (pss_cons (ps_if (PW.pt (pw_or (pt_cmpR op_eq (pv 2) pe_int (nomark _)) (pw_or (pt_not (pt_truth (pe_c c_is_listed hr (by omega) rfl (pa_cons (pv 1) pa_nil)) (by intro _; rfl))) (pw_or (pt_cmpR op_eq (pe_callB call_len_seq (by rfl) T.b_len (by decide +kernel) (pa_cons (pv 1) pa_nil)) pe_int (nomark _)) (pw_or1 (pt_not (pt_val (pe_callB call_isi (by rfl) T.b_isinstance (by decide +kernel) (pa_cons (pe_ix ix_seq (pv 1) pe_int (fun _ _ => rfl)) (pa_cons (pe_bltn (v := .ty "str") (by rfl) T.b_str (by decide +kernel) rfl) pa_nil))))))))))
    (pss_one (ps_raise rfl (takes_of rfl rfl rfl rfl) (pmk_own PySem.F.excBase_ValueError T.x_BadTree T.g_BadTree T.k_BadTree (raises_own T.b_BadTree T.t_BadTree) rfl)))
    pss_nil)
  (pss_cons (ps_set (i := 3) sc_checked_tree.nd rfl (Or.inl rfl) (pe_ix ix_seq (pv 1) pe_int (fun _ _ => rfl)))
  (pss_cons (ps_if (PW.pt (pw_and (pt_cmpR op_eq (pv 3) pe_str (nomark _)) (pw_and (pt_cmpR op_eq (pe_callB call_len_seq (by rfl) T.b_len (by decide +kernel) (pa_cons (pv 1) pa_nil)) pe_int (nomark _)) (pw_and (pt_val (pe_callB call_isi (by rfl) T.b_isinstance (by decide +kernel) (pa_cons (pe_ix ix_seq (pv 1) pe_int (fun _ _ => rfl)) (pa_cons (pe_bltn (v := .ty "str") (by rfl) T.b_str (by decide +kernel) rfl) pa_nil)))) (pw_and (pt_cmpR op_eq (pe_callB call_len_str (by rfl) T.b_len (by decide +kernel) (pa_cons (pe_ix ix_seq (pv 1) pe_int (fun _ _ => rfl)) pa_nil)) pe_int (nomark _)) (pw_and1 (pt_cmpR op_in_sign (pe_ix ix_seq (pv 1) pe_int (fun _ _ => rfl)) (pv 0) (by rfl))))))))
    (pss_one (ps_ret (pe_tup (pa_cons pe_str (pa_cons (pe_ix ix_seq (pv 1) pe_int (fun _ _ => rfl)) pa_nil)))))
    pss_nil)
  (pss_cons (ps_if (PW.pt (pw_and (pt_cmpR op_in_seq (pv 3) (pe_gK rfl T.g_ATOMS) (by rfl)) (pw_and1 (pt_cmpR op_eq (pe_callB call_len_seq (by rfl) T.b_len (by decide +kernel) (pa_cons (pv 1) pa_nil)) pe_int (nomark _)))))
    (pss_one (ps_ret (pe_tup (pa_cons (pv 3) pa_nil))))
    pss_nil)
  (pss_cons (ps_if (PW.pt (pw_and (pt_cmpR op_eq (pv 3) pe_str (nomark _)) (pw_and1 (pt_cmpR op_eq (pe_callB call_len_seq (by rfl) T.b_len (by decide +kernel) (pa_cons (pv 1) pa_nil)) pe_int (nomark _)))))
    (pss_one (ps_ret (pe_tup (pa_cons (pv 3) (pa_cons (pe_cX c_X_checked_tree hr (by omega) (takes_of rfl rfl rfl rfl) rfl (pa_cons (pv 0) (pa_cons (pe_ix ix_seq (pv 1) pe_int (fun _ _ => rfl)) (pa_cons (pe_op op_sub (pv 2) pe_int) pa_nil)))) pa_nil)))))
    pss_nil)
  (pss_cons (ps_if (PW.pt (pw_and (pt_cmpR (op_in_kd kdR) (pv 3) (pe_gK rfl T.g_RANKS) (by rfl)) (pw_and1 (pt_cmpR op_eq (pe_callB call_len_seq (by rfl) T.b_len (by decide +kernel) (pa_cons (pv 1) pa_nil)) pe_int (nomark _)))))
    (pss_one (ps_ret (pe_tup (pa_cons (pv 3) (pa_cons (pe_cX c_X_checked_tree hr (by omega) (takes_of rfl rfl rfl rfl) rfl (pa_cons (pv 0) (pa_cons (pe_ix ix_seq (pv 1) pe_int (fun _ _ => rfl)) (pa_cons (pe_op op_sub (pv 2) pe_int) pa_nil)))) (pa_cons (pe_cX c_X_checked_tree hr (by omega) (takes_of rfl rfl rfl rfl) rfl (pa_cons (pv 0) (pa_cons (pe_ix ix_seq (pv 1) pe_int (fun _ _ => rfl)) (pa_cons (pe_op op_sub (pv 2) pe_int) pa_nil)))) pa_nil))))))
    pss_nil)
  (pss_one (ps_raise rfl (takes_of rfl rfl rfl rfl) (pmk_own PySem.F.excBase_ValueError T.x_BadTree T.g_BadTree T.k_BadTree (raises_own T.b_BadTree T.t_BadTree) rfl))))))))), ?_⟩
    have hn0 : decide (V.int ((n + 1 : Nat) : Int) = V.int 0) = false := decide_eq_false fun z => by have := V.int.inj z; omega
    rcases ck_inv ck with ⟨rfl, hbad⟩ | ⟨a, wd, xs, rfl, hq, hcs⟩
    · have kN := kN rfl H (Same.refl _)
      refine if_K true (fun Q' hQ => ?_) (fun _ => ?_) (fun z => by cases z)
      · walk_at "rd"
        rcases hbad with ⟨nn, ht, hn, hf⟩ | ⟨a, rfl, hbad⟩
        · refine ⟨_, nn, rfl, ht, hn, ?_⟩
          rw [hf]
          walk_at "rd"
          exact hQ
        · obtain ⟨xs, hq⟩ : ∃ xs, SqA K H a xs := by
            rcases hbad with h | ⟨x, xs, h, _⟩
            · exact ⟨_, h⟩
            · exact ⟨_, h⟩
          obtain ⟨nn, ht, hn, hf⟩ := hq.ty
          refine ⟨_, nn, rfl, ht, hn, ?_⟩
          rw [hf]
          walk_at "rd"
          rcases hbad with h | ⟨x, xs, h, h2⟩
          · refine ⟨a, _, rfl, h, ?_⟩
            walk_at "rd"
            exact hQ
          · refine ⟨a, _, rfl, h, ?_⟩
            walk_at "rd"
            refine h.ix (atI_at (Int.le_refl 0) rfl) ?_
            obtain ⟨n2, ht2, hn2, hs2⟩ := h2
            walk_at "rd"
            refine ⟨_, _, _, _, _, rfl, .ty _, ht2, kit_ty (kit_all _ hn2 _ (by decide)), _, rfl, ?_⟩
            rw [isaB_str hn2, show (n2 == "str") = false from by simp [hs2]]
            exact hQ
      · walk_at "rd"
        exact kN
    · refine if_K false (fun Q' hQ => ?_) (fun z => by cases z) (fun _ => ?_)
      · walk_at "rd"
        obtain ⟨nn, ht, hn, hf⟩ := hq.ty
        refine ⟨_, nn, rfl, ht, hn, ?_⟩
        rw [hf]
        walk_at "rd"
        refine ⟨a, _, rfl, hq, ?_⟩
        walk_at "rd"
        refine hq.ix (atI_at (Int.le_refl 0) rfl) ?_
        walk_at "rd"
        refine ⟨_, _, _, _, _, rfl, .ty _, .base (.str _), kit_ty (r := true) (by decide +kernel), _, rfl, ?_⟩
        exact hQ
      walk_at "nx"
      walk_at "rd"
      refine hq.ix (atI_at (Int.le_refl 0) rfl) ?_
      walk_at "nx"
      rcases hcs with ⟨c, rfl, rfl, hc, rfl⟩ | ⟨c, rfl, hc, rfl, rfl⟩ | ⟨x, r1, rfl, rfl, ck1, rfl⟩ | ⟨o, x, y, r1, rfl, rfl, ck1, hcs⟩ | ⟨⟨o1, o2, o3, ro, o4, o5⟩, rfl⟩
      · refine if_K true (fun Q' hQ => ?_) (fun _ => ?_) (fun z => by cases z)
        · walk_at "rd"
          refine ⟨a, _, rfl, hq, ?_⟩
          walk_at "rd"
          refine hq.ix (atI_at (by decide) rfl) ?_
          walk_at "rd"
          refine ⟨_, _, _, _, _, rfl, .ty _, .base (.str _), kit_ty (r := true) (by decide +kernel), _, rfl, ?_⟩
          refine iteT ?_
          walk_at "rd"
          refine hq.ix (atI_at (by decide) rfl) ?_
          walk_at "rd"
          refine ⟨by rw [S_len]; exact Nat.le_trans (m := 1) (Nat.le_refl _) (by decide), ?_⟩
          walk_at "rd"
          refine hq.ix (atI_at (by decide) rfl) ?_
          walk_at "rd"
          refine ⟨c, S sg, rfl, rfl, ?_⟩
          refine ⟨_, rfl, ?_⟩
          rw [show decide (c ∈ (S sg).cps.toList) = true from decide_eq_true hc]
          exact hQ
        · walk_at "rd"
          refine hq.ix (atI_at (by decide) rfl) ?_
          walk_at "rd"
          refine ⟨by walk_at "sz", fun p9 hp9 => ?_⟩
          exact kS _ rfl _ _ (same_new hp9) (.tup (SqT.of upd_same) (.cons (.str _) (.cons (.str _) .nil)))
      · have hc3 := atom_three (sg := sg) hc
        refine if_K false (fun Q' hQ => ?_) (fun z => by cases z) (fun _ => ?_)
        · walk_at "rd"
          rw [show decide (V.str (S [c]) = V.str (Str.ofString "sign")) = false from decide_eq_false fun z => by have := congrArg List.length (S_inj (V.str.inj z) : [c] = [115, 105, 103, 110]); simp at this]
          exact iteF hQ
        walk_at "nx"
        refine if_K true (fun Q' hQ => ?_) (fun _ => ?_) (fun z => by cases z)
        · walk_at "rd"
          refine ⟨AT, _, rfl, .inr (T.s_ATOMS _), rfl, rfl, ?_⟩
          refine ⟨_, rfl, ?_⟩
          rw [if_neg Bool.false_ne_true, in_atomsL, decide_eq_true hc3]
          refine iteT ?_
          walk_at "rd"
          refine ⟨a, _, rfl, hq, ?_⟩
          walk_at "rd"
          exact hQ
        · walk_at "rd"
          refine ⟨by walk_at "sz", fun p9 hp9 => ?_⟩
          exact kS _ rfl _ _ (same_new hp9) (.tup (SqT.of upd_same) (.cons (.str _) .nil))
      · refine if_K false (fun Q' hQ => ?_) (fun z => by cases z) (fun _ => ?_)
        · walk_at "rd"
          exact hQ
        walk_at "nx"
        refine if_K false (fun Q' hQ => ?_) (fun z => by cases z) (fun _ => ?_)
        · walk_at "rd"
          refine ⟨AT, _, rfl, .inr (T.s_ATOMS _), rfl, rfl, ?_⟩
          refine ⟨_, rfl, ?_⟩
          rw [if_neg Bool.false_ne_true]
          exact hQ
        walk_at "nx"
        refine if_K true (fun Q' hQ => ?_) (fun _ => ?_) (fun z => by cases z)
        · walk_at "rd"
          refine ⟨a, _, rfl, hq, ?_⟩
          walk_at "rd"
          exact hQ
        · walk_at "rd"
          refine hq.ix (atI_at (by decide) rfl) ?_
          walk_at "rd"
          refine ⟨sg, x, r1, by show [V.str (S sg), _, V.int (((n + 1 : Nat) : Int) - 1)] = _; rw [show ((n + 1 : Nat) : Int) - 1 = ((n : Nat) : Int) by omega], hlow, hsl, ck1, fun e H' s' => kN (by rw [e]; rfl) H' s', fun t e v' H' s' tp => ?_⟩
          dsimp only
          walk_at "rd"
          refine ⟨by walk_at "sz", fun p9 hp9 => ?_⟩
          exact kS _ (by rw [e]; rfl) _ _ (s'.trans (same_new hp9)) (.tup (SqT.of upd_same) (.cons (.str _) (.cons (tp.keep (Keep.same (same_new hp9))) .nil)))
      · refine if_K false (fun Q' hQ => ?_) (fun z => by cases z) (fun _ => ?_)
        · walk_at "rd"
          rw [show decide (V.str (opS o) = V.str (Str.ofString "sign")) = false by cases o <;> rfl]
          exact iteF hQ
        walk_at "nx"
        refine if_K false (fun Q' hQ => ?_) (fun z => by cases z) (fun _ => ?_)
        · walk_at "rd"
          refine ⟨AT, _, rfl, .inr (T.s_ATOMS _), rfl, rfl, ?_⟩
          refine ⟨_, rfl, ?_⟩
          rw [if_neg Bool.false_ne_true, show inV (V.str (opS o)) [V.str (Str.ofString "1"), V.str (Str.ofString "0"), V.str (Str.ofString ".")] = false by cases o <;> rfl]
          exact hQ
        walk_at "nx"
        refine if_K false (fun Q' hQ => ?_) (fun z => by cases z) (fun _ => ?_)
        · walk_at "rd"
          rw [show decide (V.str (opS o) = V.str (Str.ofString "*")) = false by cases o <;> rfl]
          exact iteF hQ
        walk_at "nx"
        refine if_K true (fun Q' hQ => ?_) (fun _ => ?_) (fun z => by cases z)
        · obtain ⟨u, hu1, hu2⟩ := T.r_RANKS.has o
          walk_at "rd"
          refine ⟨_, some u, rfl, rfl, hu1, ?_⟩
          walk_at "rd"
          refine ⟨a, _, rfl, hq, ?_⟩
          walk_at "rd"
          exact hQ
        · walk_at "rd"
          refine hq.ix (atI_at (by decide) rfl) ?_
          walk_at "rd"
          refine ⟨sg, x, r1, by show [V.str (S sg), _, V.int (((n + 1 : Nat) : Int) - 1)] = _; rw [show ((n + 1 : Nat) : Int) - 1 = ((n : Nat) : Int) by omega], hlow, hsl, ck1, fun e H' s' => ?_, fun t e v' H' s' tp => ?_⟩
          · rcases hcs with ⟨_, rfl⟩ | ⟨t, r2, e2, _⟩
            · exact kN rfl H' s'
            · rw [e] at e2; cases e2
          rcases hcs with ⟨e2, _⟩ | ⟨t, r2, e2, ck2, rfl⟩
          · rw [e] at e2; cases e2
          rw [e] at e2
          cases e2
          have hq' := hq.keep s'
          dsimp only
          walk_at "rd"
          refine hq'.ix (atI_at (by decide) rfl) ?_
          walk_at "rd"
          refine ⟨sg, y, r2, by show [V.str (S sg), _, V.int (((n + 1 : Nat) : Int) - 1)] = _; rw [show ((n + 1 : Nat) : Int) - 1 = ((n : Nat) : Int) by omega], hlow, hsl, ck2.keep s', fun e H2 s2 => kN (by rw [e]; rfl) H2 (s'.trans s2), fun t2 e v2 H2 s2 tp2 => ?_⟩
          dsimp only
          walk_at "rd"
          refine tNil_mk ?_
          refine ⟨by walk_at "sz", fun p9 hp9 => ?_⟩
          have t9 := same_new (o := .tup [.str (opS o), v', v2]) hp9
          exact kS (.op o t t2) (by rw [e]; rfl) _ _ ((s'.trans s2).trans t9) (.tup (SqT.of upd_same) (.cons (.str _) (.cons (tp.keep ((Keep.same s2).trans (Keep.same t9))) (.cons (tp2.keep (Keep.same t9)) .nil))))
      · have kN := kN rfl H (Same.refl _)
        have dl : ∀ m : Nat, decide (V.int (((V.str wd :: xs).length : Nat) : Int) = V.int ((m + 1 : Nat) : Int)) = decide (xs.length = m) := fun m => decide_eq_decide.mpr ⟨fun z => by have := V.int.inj z; simp at this; omega, fun z => by rw [List.length_cons, z]⟩
        refine if_K false (fun Q' hQ => ?_) (fun z => by cases z) (fun _ => ?_)
        · walk_at "rd"
          by_cases e1 : wd = Str.ofString "sign"
          · subst e1
            refine iteT ?_
            walk_at "rd"
            refine ⟨a, _, rfl, hq, ?_⟩
            walk_at "rd"
            rw [show decide (V.int (((V.str (Str.ofString "sign") :: xs).length : Nat) : Int) = V.int 2) = decide (xs.length = 1) from dl 1]
            by_cases l1 : xs.length = 1
            · obtain ⟨u, rfl, hul, hu⟩ := o1 rfl l1
              rw [decide_eq_true l1]
              refine iteT ?_
              walk_at "rd"
              refine hq.ix (atI_at (by decide) rfl) ?_
              walk_at "rd"
              refine ⟨_, _, _, _, _, rfl, .ty _, .base (.str _), kit_ty (r := true) (by decide +kernel), _, rfl, ?_⟩
              refine iteT ?_
              walk_at "rd"
              refine hq.ix (atI_at (by decide) rfl) ?_
              walk_at "rd"
              rw [show decide (V.int (((S u).length : Nat) : Int) = V.int 1) = decide (u.length = 1) from decide_eq_decide.mpr ⟨fun z => by have := V.int.inj z; rw [S_len] at this; omega, fun z => by rw [S_len, z]; rfl⟩]
              by_cases l2 : u.length = 1
              · obtain ⟨c, rfl⟩ : ∃ c, u = [c] := List.length_eq_one_iff.mp l2
                refine iteT ?_
                walk_at "rd"
                refine hq.ix (atI_at (by decide) rfl) ?_
                walk_at "rd"
                refine ⟨c, S sg, rfl, rfl, ?_⟩
                refine ⟨_, rfl, ?_⟩
                rw [show decide (c ∈ (S sg).cps.toList) = false from decide_eq_false (hu c rfl)]
                exact hQ
              · rw [decide_eq_false l2]
                exact iteF hQ
            · rw [decide_eq_false l1]
              exact iteF hQ
          · rw [decide_eq_false (fun z => e1 (V.str.inj z))]
            exact iteF hQ
        walk_at "nx"
        refine if_K false (fun Q' hQ => ?_) (fun z => by cases z) (fun _ => ?_)
        · walk_at "rd"
          refine ⟨AT, _, rfl, .inr (T.s_ATOMS _), rfl, rfl, ?_⟩
          refine ⟨_, rfl, ?_⟩
          rw [if_neg Bool.false_ne_true]
          by_cases e1 : wd = Str.ofString "1" ∨ wd = Str.ofString "0" ∨ wd = Str.ofString "."
          · rw [show inV (V.str wd) [V.str (Str.ofString "1"), V.str (Str.ofString "0"), V.str (Str.ofString ".")] = true by rcases e1 with rfl | rfl | rfl <;> rfl]
            refine iteT ?_
            walk_at "rd"
            refine ⟨a, _, rfl, hq, ?_⟩
            walk_at "rd"
            refine q_of hQ ?_
            exact decide_eq_false fun z => o2 e1 (by have := V.int.inj z; rw [List.length_cons] at this; omega)
          · rw [show inV (V.str wd) [V.str (Str.ofString "1"), V.str (Str.ofString "0"), V.str (Str.ofString ".")] = false from no_atom e1]
            exact iteF hQ
        walk_at "nx"
        refine if_K false (fun Q' hQ => ?_) (fun z => by cases z) (fun _ => ?_)
        · walk_at "rd"
          by_cases e1 : wd = Str.ofString "*"
          · subst e1
            refine iteT ?_
            walk_at "rd"
            refine ⟨a, _, rfl, hq, ?_⟩
            walk_at "rd"
            refine q_of hQ ?_
            rw [show decide (V.int (((V.str (Str.ofString "*") :: xs).length : Nat) : Int) = V.int 2) = decide (xs.length = 1) from dl 1]
            exact decide_eq_false (o3 rfl)
          · rw [decide_eq_false (fun z => e1 (V.str.inj z))]
            exact iteF hQ
        walk_at "nx"
        refine if_K false (fun Q' hQ => ?_) (fun z => by cases z) (fun _ => ?_)
        · walk_at "rd"
          refine ⟨_, ro, rfl, rfl, o4, ?_⟩
          cases er : ro.isSome with
          | false =>
            refine ⟨_, rfl, ?_⟩
            exact iteF hQ
          | true =>
            refine ⟨_, rfl, ?_⟩
            refine iteT ?_
            walk_at "rd"
            refine ⟨a, _, rfl, hq, ?_⟩
            walk_at "rd"
            refine q_of hQ ?_
            rw [show decide (V.int (((V.str wd :: xs).length : Nat) : Int) = V.int 3) = decide (xs.length = 2) from dl 2]
            exact decide_eq_false (o5 er)
        · walk_at "rd"
          exact kN
theorem c_X_checked_treeN (T : TxtX P K mg C0 w XE FE DI XM FM XT FT DT XS XB BS AT RK) : ∀ n, Cal P w K mg base (L2.CX P w) (n + 2) "checked_tree" (spCk K XB RK n)
  | 0 => ckZero T
  | n + 1 => ckStep T n (n + 2) (by omega) (c_X_checked_treeN T n)
end
end Sh
set_option Elab.async false
set_option linter.all false
set_option maxRecDepth 100000
set_option maxHeartbeats 4000000
namespace Sh
open PySem PySem.Spec PyProof.Rows L2
open SX (S S_inj S_len S_cat)
open Ex (Fs Op Tr Wd fb spl isAt isAng fst binOf dbl foldO cntS cntN run s0 dep mdep kids nod snod wtx trank wrapT)
local macro_rules | `(tactic| walk_at "nx") => `(tactic| repeat (with_reducible first | refine Sh.gn_mk ?_ | refine Sh.nx_mk ?_ | refine Sh.st_nx ?_ | refine Sh.rt_mk ?_ | refine Sh.ct_mk ?_ | refine Sh.bk_mk ?_))
local macro_rules | `(tactic| walk_at "sq") => `(tactic| first | exact SqL.of upd_same | exact SqT.of upd_same | exact SqL.of (by assumption) | exact SqT.of (by assumption) | assumption | exact Or.inl (SqL.of (by assumption)) | exact Or.inr (SqT.of (by assumption)) | exact Or.inl (by assumption) | exact Or.inr (by assumption))
local macro_rules | `(tactic| walk_at "hp") => `(tactic| first | exact upd_same | assumption)
local macro_rules | `(tactic| walk_at "sz") => `(tactic| first | exact Nat.le_of_ble_eq_true rfl | omega)
local macro_rules | `(tactic| walk_at "sd") => `(tactic| first | omega | exact rfl | assumption | (show (0 : Int) < _; omega) | exact And.intro (by omega) (by omega) | exact Or.inl (And.intro (by omega) (by omega)) | exact Or.inr (And.intro (by omega) (by omega)) | omega | exact Sh.sz_S (by omega) | decide)
local macro_rules | `(tactic| walk_at "rd1") => `(tactic| first
  | (with_reducible first | refine Sh.gn_mk ?_ | refine Sh.nx_mk ?_ | refine Sh.st_nx ?_ | refine Sh.rt_mk ?_ | refine Sh.ct_mk ?_ | refine Sh.bk_mk ?_)
  | refine Exists.intro (α := V) _ (And.intro rfl ?_)
  | refine Exists.intro (α := Bool) _ (And.intro rfl ?_)
  | refine Exists.intro (α := Int) _ (And.intro rfl ?_)
  | refine Exists.intro (α := PySem.Str) _ (And.intro rfl ?_)
  | refine Exists.intro (α := Int) _ (Exists.intro (α := Int) _ (And.intro rfl (And.intro rfl ?_)))
  | refine Exists.intro (α := PySem.Str) _ (Exists.intro (α := PySem.Str) _ (And.intro rfl (And.intro rfl ?_)))
  | refine Exists.intro (α := Int) _ (Exists.intro (α := Int) _ (And.intro rfl ?_))
  | refine Or.inl (Exists.intro (α := Int) _ (And.intro rfl ?_))
  | refine Exists.intro _ (Exists.intro _ (Exists.intro _ (Exists.intro _ (And.intro rfl (And.intro rfl (And.intro (by walk_at "sq") (And.intro rfl ?_)))))))
  | refine Exists.intro _ (Exists.intro _ (Exists.intro _ (Exists.intro _ (And.intro rfl (And.intro rfl (And.intro (by walk_at "hp") (And.intro rfl ?_)))))))
  | refine And.intro (by walk_at "sd") ?_
  )
local macro_rules | `(tactic| walk_at "rd") => `(tactic| repeat walk_at "rd1")
local macro_rules | `(tactic| walk_at "lk") => `(tactic| first | exact rfl | (rw [lookup_putF, if_pos rfl]) | (rw [lookup_putF, if_neg (by decide +kernel)]; walk_at "lk"))

section
variable {P : Program} {w : World} {K : PySem.W.Frag} {mg : Str → Option Value} {base : Heap} {C0 XE FE DI XM FM XT FT DT XS XB BS AT RK : Addr}
theorem ck_ok {H : Hp} {sg : List Nat} {n : Nat} {v : V} {r : Option Tr} (h : Ckd K RK H sg n v r) : ∀ T, r = some T → Ex.Ok sg T ∧ dep T ≤ n := by
  induction h with
  | sign n a c h h2 =>
    intro T e
    cases e
    exact ⟨h2, Nat.le_add_left 1 n⟩
  | atom n a c h h2 =>
    intro T e
    cases e
    exact ⟨h2, Nat.le_add_left 1 n⟩
  | star n a x r h h2 ih =>
    intro T e
    cases r with
    | none => cases e
    | some t =>
      cases e
      obtain ⟨k1, k2⟩ := ih t rfl
      exact ⟨k1, Nat.succ_le_succ k2⟩
  | op2 n a o x y t r h h2 h3 ih1 ih2 =>
    intro T e
    cases r with
    | none => cases e
    | some t2 =>
      cases e
      obtain ⟨k1, k2⟩ := ih1 t rfl
      obtain ⟨k3, k4⟩ := ih2 t2 rfl
      exact ⟨⟨k1, k3⟩, Nat.succ_le_succ (Nat.max_le.mpr ⟨k2, k4⟩)⟩
  | zero v => intro T e; cases e
  | notl n v h => intro T e; cases e
  | nil n a h => intro T e; cases e
  | nostr n a x xs h h2 => intro T e; cases e
  | op1 n a o x y h h2 ih => intro T e; cases e
  | odd n a wd xs h h2 => intro T e; cases e
theorem c_written (T : TxtX P K mg C0 w XE FE DI XM FM XT FT DT XS XB BS AT RK) : Cal P w K mg base CX0 41 "written" (spWri K 20) := c_writtenN T 20
theorem c_X_checked_tree (T : TxtX P K mg C0 w XE FE DI XM FM XT FT DT XS XB BS AT RK) : Cal P w K mg base (L2.CX P w) 22 "checked_tree" (spCk K XB RK 20) := c_X_checked_treeN T 20
def spWrite (K : PySem.W.Frag) (XS XB RK : Addr) : Sp := fun vs H Q E => ∃ (sg : List Nat) (v : V), vs = [.str (S sg), v] ∧ sg.length ≤ 1000 ∧ ((isSigns sg = false ∧ Thrown E H XS "thing" (.str (S sg))) ∨
  (isSigns sg = true ∧ Low sg ∧ ∃ r, Ckd K RK H sg 20 v r ∧ (r = none → ∀ H', Same H H' → E (.ref XB) none H') ∧ ∀ T, r = some T → (wtx T).length ≤ 1000 ∧ ∀ H', Same H H' → Q (.str (S (wtx T))) H'))
theorem c_X_write (T : TxtX P K mg C0 w XE FE DI XM FM XT FT DT XS XB BS AT RK) : Cal P w K mg base (L2.CX P w) 42 "write" (spWrite K XS XB RK) := by
  have c_X_check_signs := c_X_check_signs (P := P) (w := w) (base := base) T
  have c_written := c_written (P := P) (w := w) (base := base) T
  have c_X_checked_tree := c_X_checked_tree (P := P) (w := w) (base := base) T
  refine Cal.mkX T.toTxtC.toTxt.d_write sc_write (fun vs H Q E h => ?_) (fun f cdv A outer s H vs Q E hr h => ?_)
  · obtain ⟨sg, v, rfl, _⟩ := h
    rfl
  · obtain ⟨sg, v, rfl, hsl, h⟩ := h
    refine ⟨_, (pss_cons (ps_expr (pe_cX c_X_check_signs hr (by decide) (takes_of rfl rfl rfl rfl) rfl (pa_cons (pv 0) pa_nil)))
  (pss_one (ps_ret (pe_c c_written hr (by decide) rfl (pa_cons (pe_cX c_X_checked_tree hr (by decide) (takes_of rfl rfl rfl rfl) rfl (pa_cons (pv 0) (pa_cons (pv 1) (pa_cons (pe_gK rfl T.g_MOST_DEEP) pa_nil)))) pa_nil))))), ?_⟩
    walk_at "rd"
    rcases h with ⟨hb, th⟩ | ⟨hb, hlow, r, ck, kN, kS⟩
    · exact .inl ⟨sg, rfl, by omega, fun z => (by rw [hb] at z; cases z), fun _ => th⟩
    refine .inl ⟨sg, rfl, by omega, fun _ => ?_, fun z => (by rw [hb] at z; cases z)⟩
    walk_at "rd"
    refine ⟨sg, v, r, rfl, hlow, by omega, ck, fun e H' s' => kN e H' s', fun T0 e v' H' s' tp => ?_⟩
    obtain ⟨hok, hd⟩ := ck_ok ck T0 e
    obtain ⟨hl, kS⟩ := kS T0 e
    refine ⟨v', T0, rfl, tp, hd, ⟨sg, hlow, hok⟩, hl, ?_⟩
    exact kS H' s'
/-- refused or not -/
def spRefd (K : PySem.W.Frag) (RK : Addr) : Sp := fun vs H Q _ => ∃ (sg : List Nat) (v : V), vs = [.str (S sg), v] ∧ sg.length ≤ 1000 ∧ isSigns sg = true ∧ Low sg ∧ ∃ r, Ckd K RK H sg 20 v r ∧ (∀ T, r = some T → (wtx T).length ≤ 1000) ∧ ∀ H', Same H H' → Q (.bl r.isNone) H'
theorem c__law_refused (T : TxtX P K mg C0 w XE FE DI XM FM XT FT DT XS XB BS AT RK) : Cal P w K mg base CX0 43 "_law_refused" (spRefd K RK) := by
  have c_X_write := c_X_write (P := P) (w := w) (base := base) T
  refine Cal.mk0 T.toTxtC.toTxt.d__law_refused sc__law_refused (fun vs H Q E h => ?_) (fun f cdv A outer s H vs Q E hr h => ?_)
  · obtain ⟨sg, v, rfl, _⟩ := h
    rfl
  · obtain ⟨sg, v, rfl, hsl, hb, hlow, r, ck, hl, kk⟩ := h
    refine ⟨_, (pss_cons (ps_tryT rfl rfl sc__law_refused.nd takes0 (fun W pn xe tk po => (pss_one (ps_expr (pe_cX c_X_write hr (by decide) tk rfl (pa_cons (pv 0) (pa_cons (pv 1) pa_nil))))))
    (HdsA.cons (i := 2) rfl rfl ⟨rfl, by decide, Or.inl T.g_BadTree⟩ (fun a oe cls d pn hz hf => (pss_one (ps_ret (pe_callB (call_isX0 T.c_BadTree hz hf) (by rfl) T.b_isinstance (by decide +kernel) (pa_cons (pv 2) (pa_cons (pe_glob (v := .ref BS) rfl T.gc_ShrunkError rfl) pa_nil))))))
    HdsA.nil))
  (pss_one (ps_ret pe_bl))), ?_⟩
    refine ⟨_, rfl, _, rfl, sg, v, rfl, hsl, .inr ⟨hb, hlow, r, ck, fun e H' s' => ?_, fun T0 e => ⟨hl T0 e, fun H' s' => ?_⟩⟩⟩
    · refine ⟨true, T.mm_BadTree_BadTree, fun _ a0 ha0 => ?_, fun zz => (by cases zz)⟩
      dsimp only [outA]
      walk_at "rd"
      refine ⟨_, _, true, rfl, rfl, fun u h => h, T.ko_BadTree_ShrunkError, ?_⟩
      rw [e] at kk
      exact kk H' s'
    · walk_at "rd"
      rw [e] at kk
      exact kk H' s'
end
end Sh
set_option Elab.async false
set_option linter.all false
set_option maxRecDepth 100000
/-! a tree is written with the fewest brackets -/
namespace Ex
def ind (b : Prop) [Decidable b] : Nat := if b then 1 else 0
theorem ind_le {a b : Prop} [Decidable a] [Decidable b] (h : a → b) : ind a ≤ ind b := by
  unfold ind; split
  · rw [if_pos (h ‹_›)]; exact Nat.le_refl _
  · exact Nat.zero_le _
theorem ind_no {a : Prop} [Decidable a] (h : ¬ a) : ind a = 0 := if_neg h
theorem ind_one {a : Prop} [Decidable a] : ind a ≤ 1 := by unfold ind; split <;> omega
theorem oc_app7 (a b : List Nat) : oc (a ++ b) = oc a + oc b := List.countP_append
theorem oc_wrap (b : Prop) [Decidable b] (t : List Nat) : oc (wrapT (decide b) t) = oc t + ind b := by
  unfold ind
  split
  · rw [decide_eq_true ‹b›]
    show oc (40 :: (t ++ [41])) = _
    unfold oc
    rw [List.countP_cons, List.countP_append]
    simp
  · rw [decide_eq_false ‹¬ b›]
    rfl
theorem oc_tx (o : Op) : oc o.tx = 0 := by cases o <;> rfl
def c5 (t : Tr) : Nat := oc (wtx t) + ind (trank t < 5)
theorem oc_st (x : Tr) : oc (wtx (.st x)) = c5 x := by
  show oc (wrapT _ _ ++ [42]) = _
  rw [oc_app7, oc_wrap]
  rfl
theorem oc_op (o : Op) (l r : Tr) : oc (wtx (.op o l r)) = oc (wtx l) + ind (trank l < o.rank) + (oc (wtx r) + ind (trank r < o.rank + 1)) := by
  show oc (wrapT _ _ ++ (o.tx ++ wrapT _ _)) = _
  rw [oc_app7, oc_app7, oc_wrap, oc_wrap, oc_tx]
  omega
def Nr : List (Option Op) → List Tr → Nat
  | some o :: os, t :: ts => oc (wtx t) + ind (trank t < o.rank) + Nr os ts
  | some _ :: _, [] => 0
  | none :: os, ts => 1 + Nr os ts
  | [], _ => 0
def Asc : List (Option Op) → Prop
  | some o :: os => Safe o.rank os ∧ Asc os
  | none :: os => Asc os
  | [] => True
def Dn : List (Option Op) → Tr → Nat
  | some o :: _, t => oc (wtx t) + ind (trank t < o.rank + 1)
  | _, t => oc (wtx t)
theorem Dn_lo (os : List (Option Op)) (t : Tr) : oc (wtx t) ≤ Dn os t := by
  match os with
  | [] => exact Nat.le_refl _
  | none :: _ => exact Nat.le_refl _
  | some o :: _ => exact Nat.le_add_right _ _
theorem Dn_c5 (os : List (Option Op)) (t : Tr) : Dn os t ≤ c5 t := by
  match os with
  | [] => exact Nat.le_add_right _ _
  | none :: _ => exact Nat.le_add_right _ _
  | some o :: _ =>
    have := rank_le o
    exact Nat.add_le_add_left (ind_le (fun h => by omega)) _
theorem Dn_safe {os : List (Option Op)} {t : Tr} (h : Safe (trank t) os) : Dn os t = oc (wtx t) := by
  match os, h with
  | [], _ => rfl
  | none :: _, _ => rfl
  | some o :: r, h =>
    have := h o r rfl
    show oc (wtx t) + ind _ = _
    rw [ind_no (by omega)]; rfl
theorem fold_nr (k : Nat) : ∀ (os : List (Option Op)) (t : Tr) (ts : List Tr), ts.length = cntS os → Asc os →
    ∃ os' t' ts', foldO k os (t :: ts) = (os', t' :: ts') ∧ Asc os' ∧ Safe k os' ∧ Dn os' t' + Nr os' ts' ≤ Dn os t + Nr os ts ∧ (k ≤ trank t' ∨ (t' = t ∧ os' = os ∧ ts' = ts)) := by
  intro os
  induction os with
  | nil => intro t ts _ _; exact ⟨[], t, ts, by unfold foldO; rfl, trivial, (fun o r z => by cases z), Nat.le_refl _, .inr ⟨rfl, rfl, rfl⟩⟩
  | cons o os ih =>
    intro t ts hl ha
    cases o with
    | none => exact ⟨none :: os, t, ts, by unfold foldO; rfl, ha, (fun o r z => by cases z), Nat.le_refl _, .inr ⟨rfl, rfl, rfl⟩⟩
    | some o =>
      cases ts with
      | nil => simp [cntS] at hl
      | cons l ts =>
        obtain ⟨hs, ha⟩ := ha
        by_cases hk : k ≤ o.rank
        · obtain ⟨os', t', ts', e, a', s', n', d'⟩ := ih (.op o l t) ts (by simp [cntS] at hl; omega) ha
          refine ⟨os', t', ts', ?_, a', s', ?_, ?_⟩
          · unfold foldO; rw [if_pos hk]; exact e
          · rw [Dn_safe (show Safe (trank (.op o l t)) os from hs), oc_op] at n'
            show _ ≤ (oc (wtx t) + ind (trank t < o.rank + 1)) + (oc (wtx l) + ind (trank l < o.rank) + Nr os ts)
            omega
          · rcases d' with h | ⟨rfl, _, _⟩
            · exact .inl h
            · exact .inl hk
        · refine ⟨some o :: os, t, l :: ts, by unfold foldO; rw [if_neg hk], ⟨hs, ha⟩, (fun p r z => ?_), Nat.le_refl _, .inr ⟨rfl, rfl, rfl⟩⟩
          injection z with z
          injection z with z
          subst z
          omega
structure Brk (want : Bool) (s : St) (cnt : Nat) : Prop where
  asc : Asc s.os
  w : want = true → Nr s.os s.ts ≤ cnt
  h : want = false → ∃ t ts, s.ts = t :: ts ∧ c5 t + Nr s.os ts ≤ cnt
theorem Brk.mono {want : Bool} {s : St} {a b : Nat} (k : Brk want s a) (h : a ≤ b) : Brk want s b :=
  ⟨k.asc, fun e => Nat.le_trans (k.w e) h, fun e => let ⟨t, ts, e1, e2⟩ := k.h e; ⟨t, ts, e1, Nat.le_trans e2 h⟩⟩
theorem Brk.first {s : St} {w : Wd} {sg : List Nat} {c cnt : Nat} (hf : fst sg c = some w) (hcs : c ∉ sg) (k : Brk true s cnt) : Brk (decide (w = .opn)) (step s w) (cnt + if c == 40 then 1 else 0) := by
  have hw := k.w rfl
  unfold fst at hf
  split at hf
  · exact absurd ‹_› hcs
  · split at hf
    · rename_i hc
      injection hf with hf; subst hf
      refine ⟨k.asc, (fun e => by simp at e), fun _ => ⟨_, _, rfl, ?_⟩⟩
      have : c5 (.at c) = 0 := by
        show oc [c] + 0 = 0
        have h3 : c = 49 ∨ c = 48 ∨ c = 46 := by unfold isAt at hc; simpa [or_assoc] using hc
        rcases h3 with rfl | rfl | rfl <;> rfl
      rw [this]
      show 0 + Nr s.os s.ts ≤ _
      omega
    · split at hf
      · rename_i hc
        injection hf with hf; subst hf
        refine ⟨k.asc, fun _ => ?_, fun e => by simp at e⟩
        show 1 + Nr s.os s.ts ≤ _
        rw [hc]
        simp
        omega
      · cases hf
theorem Brk.sg0 {s : St} {cnt c : Nat} (k : Brk true s cnt) (h : oc [c] = 0) : Brk false (step s (.sg c)) cnt :=
  ⟨k.asc, (fun e => by simp at e), fun _ => ⟨_, _, rfl, by show oc [c] + 0 + Nr s.os s.ts ≤ _; rw [h]; have := k.w rfl; omega⟩⟩
theorem Brk.op {op : Nat} {s : St} {cnt : Nat} (o : Op) (wf : WF false op s) (k : Brk false s cnt) : Brk true (step s (.op o)) cnt := by
  obtain ⟨t, ts, e, hn⟩ := k.h rfl
  have hl : ts.length = cntS s.os := by
    have h3 : s.ts.length = cntS s.os + 1 := by simpa using wf.2.2
    rw [e] at h3; simpa using h3
  obtain ⟨os', t', ts', f, a', s', n', d'⟩ := fold_nr o.rank s.os t ts hl k.asc
  have e1 : (step s (.op o)).os = some o :: os' := by show some o :: (foldO o.rank s.os s.ts).1 = _; rw [e, f]
  have e2 : (step s (.op o)).ts = t' :: ts' := by show (foldO o.rank s.os s.ts).2 = _; rw [e, f]
  refine ⟨by rw [e1]; exact ⟨s', a'⟩, fun _ => ?_, fun z => by cases z⟩
  rw [e1, e2]
  show oc (wtx t') + ind (trank t' < o.rank) + Nr os' ts' ≤ cnt
  have h1 := Dn_c5 s.os t
  have h2 := Dn_lo os' t'
  have h3 := rank_le o
  rcases d' with h | ⟨rfl, rfl, rfl⟩
  · rw [ind_no (by omega)]; omega
  · have : oc (wtx t') + ind (trank t' < o.rank) ≤ c5 t' := Nat.add_le_add_left (ind_le (fun h => by omega)) _
    omega
theorem Brk.cls {op : Nat} {s : St} {cnt : Nat} (wf : WF false op s) (h0 : op ≠ 0) (k : Brk false s cnt) : Brk false (step s .cls) cnt := by
  obtain ⟨t, ts, e, hn⟩ := k.h rfl
  have h3 : s.ts.length = cntS s.os + 1 := by simpa using wf.2.2
  have hl : ts.length = cntS s.os := by rw [e] at h3; simpa using h3
  obtain ⟨os', t', ts', f, a', s', n', d'⟩ := fold_nr 0 s.os t ts hl k.asc
  have hcn := (foldO_cnt 0 s.os s.ts h3).2
  have htop := foldO_top s.os s.ts h3
  rw [e, f] at hcn htop
  obtain ⟨r, rfl⟩ : ∃ r, os' = none :: r := by
    rcases htop with z | z
    · have z : os' = [] := z
      subst z
      have := wf.2.1
      simp [cntN] at hcn
      omega
    · exact z
  have e1 : (step s .cls).os = r := by show (foldO 0 s.os s.ts).1.tail = _; rw [e, f]; rfl
  have e2 : (step s .cls).ts = t' :: ts' := by show (foldO 0 s.os s.ts).2 = _; rw [e, f]
  refine ⟨by rw [e1]; exact a', (fun z => by cases z), fun _ => ⟨t', ts', e2, ?_⟩⟩
  rw [e1]
  have h1 := Dn_c5 s.os t
  have n' : oc (wtx t') + (1 + Nr r ts') ≤ _ := n'
  have : c5 t' ≤ oc (wtx t') + 1 := Nat.add_le_add_left ind_one _
  omega
theorem Brk.str {s : St} {cnt : Nat} (k : Brk false s cnt) : Brk false (step s .str) cnt := by
  obtain ⟨t, ts, e, hn⟩ := k.h rfl
  refine ⟨k.asc, (fun z => by cases z), fun _ => ⟨.st t, ts, by simp [step, e], ?_⟩⟩
  show oc (wtx (.st t)) + 0 + Nr s.os ts ≤ cnt
  rw [oc_st]
  exact hn
theorem spl_brk {sg : List Nat} : ∀ (n : Nat) (t : List Nat), t.length ≤ n → ∀ (k op : Nat) (want : Bool) (ws : List Wd) (s : St) (cnt : Nat), (∀ c ∈ sg, c ≠ 40) → spl sg k op want t = .ok ws → WF want op s → Brk want s cnt → Brk false (run s ws) (cnt + oc t) := by
  intro n
  induction n with
  | zero =>
    intro t ht k op want ws s cnt hsg h wf br
    have : t = [] := List.length_eq_zero_iff.mp (by omega)
    subst this
    rw [spl] at h
    split at h
    · cases h
    · injection h with h; subst h
      have hw : want = false := by cases want with | false => rfl | true => exact absurd (Or.inl rfl) ‹_›
      subst hw
      exact br
  | succ n ih =>
    intro t ht k op want ws s cnt hsg h wf br
    cases t with
    | nil =>
      rw [spl] at h
      split at h
      · cases h
      · injection h with h; subst h
        have hw : want = false := by cases want with | false => rfl | true => exact absurd (Or.inl rfl) ‹_›
        subst hw
        exact br
    | cons c r =>
      have hr : r.length ≤ n := by simp at ht; omega
      have hrt : r.tail.length ≤ n := by rw [List.length_tail]; omega
      have hoc : oc (c :: r) = oc r + if c == 40 then 1 else 0 := by unfold oc; rw [List.countP_cons]
      have first : ∀ {s : St} {w : Wd} {cnt : Nat}, fst sg c = some w → Brk true s cnt → Brk (decide (w = .opn)) (step s w) (cnt + if c == 40 then 1 else 0) := by
        intro s w cnt hf br
        by_cases hcs : c ∈ sg
        · have hw : w = .sg c := by unfold fst at hf; rw [if_pos hcs] at hf; injection hf with hf; exact hf.symm
          subst hw
          exact (Brk.sg0 br (by unfold oc; simp [hsg c hcs])).mono (Nat.le_add_right _ _)
        · refine (Brk.first hf hcs br).mono (Nat.le_refl _)
      rw [spl] at h
      cases hf : fst sg c with
      | some w =>
        rw [hf] at h
        dsimp only at h
        cases want with
        | true =>
          rw [if_pos rfl] at h
          obtain ⟨v, e, rfl⟩ := R.cons_ok h
          obtain ⟨p, wf2⟩ := WF.step_first (want := true) hf wf
          have := ih r hr _ _ _ _ _ _ hsg e wf2 (first hf br)
          rw [run_cons]
          exact this.mono (by omega)
        | false =>
          rw [if_neg (by simp)] at h
          obtain ⟨v1, e1, rfl⟩ := R.cons_ok h
          obtain ⟨v, e, rfl⟩ := R.cons_ok e1
          obtain ⟨p0, wf1⟩ := WF.step_op .row wf
          obtain ⟨p, wf2⟩ := WF.step_first (want := true) hf wf1
          have := ih r hr _ _ _ _ _ _ hsg e wf2 (first hf (br.op .row wf))
          rw [run_cons, run_cons]
          exact this.mono (by omega)
      | none =>
        rw [hf] at h
        dsimp only at h
        cases want with
        | true => rw [if_pos rfl] at h; cases h
        | false =>
          rw [if_neg (by simp)] at h
          by_cases c1 : c = 42
          · rw [if_pos c1] at h
            obtain ⟨v, e, rfl⟩ := R.cons_ok h
            obtain ⟨p, wf2⟩ := WF.step_str wf
            rw [run_cons]
            exact (ih r hr _ _ _ _ _ _ hsg e wf2 br.str).mono (by omega)
          · rw [if_neg c1] at h
            by_cases c2 : c = 41
            · rw [if_pos c2] at h
              by_cases o0 : op = 0
              · rw [if_pos o0] at h; cases h
              · rw [if_neg o0] at h
                obtain ⟨v, e, rfl⟩ := R.cons_ok h
                obtain ⟨p, wf2⟩ := WF.step_cls wf o0
                rw [run_cons]
                exact (ih r hr _ _ _ _ _ _ hsg e wf2 (br.cls wf o0)).mono (by omega)
            · rw [if_neg c2] at h
              cases hb : binOf c with
              | none => rw [hb] at h; cases h
              | some o =>
                rw [hb] at h
                dsimp only at h
                split at h
                · obtain ⟨v, e, rfl⟩ := R.cons_ok h
                  obtain ⟨p, wf2⟩ := WF.step_op (dbl o) wf
                  rw [run_cons]
                  have := oc_tail r
                  exact (ih r.tail hrt _ _ _ _ _ _ hsg e wf2 (br.op (dbl o) wf)).mono (by omega)
                · obtain ⟨v, e, rfl⟩ := R.cons_ok h
                  obtain ⟨p, wf2⟩ := WF.step_op o wf
                  rw [run_cons]
                  exact (ih r hr _ _ _ _ _ _ hsg e wf2 (br.op o wf)).mono (by omega)
/-- no text that is read so has fewer brackets than what is written -/
theorem Read.few {sg t : List Nat} {T : Tr} {mo : Nat} (hs : ∀ c ∈ sg, 97 ≤ c ∧ c ≤ 122) (h : Read sg t T mo) : oc (wtx T) ≤ oc t := by
  obtain ⟨ws, h1, h2, h3⟩ := h.ex
  have b := spl_brk t.length t (Nat.le_refl _) 0 0 true ws s0 0 (fun c hc z => by have := hs c hc; omega) h1 wf0 ⟨trivial, fun _ => Nat.le_refl _, fun z => by cases z⟩
  have g := spl_good t.length t (Nat.le_refl _) 0 0 true ws s0 h1 wf0
  obtain ⟨g1, g2⟩ := good_end g
  obtain ⟨u, us, e, hn⟩ := b.h rfl
  rw [e] at g1 h2
  obtain ⟨os', t', ts', f, a', s', n', d'⟩ := fold_nr 0 (run s0 ws).os u us (by simpa using g1) b.asc
  rw [h2] at f
  injection f with f1 f2
  injection f2 with f2 f3
  subst f1 f2 f3
  have h5 := Dn_c5 (run s0 ws).os u
  have n' : oc (wtx T) + 0 ≤ _ := n'
  omega
end Ex
set_option Elab.async false
set_option linter.all false
set_option maxRecDepth 100000
/-! a bracket pair left out; a text with idle brackets; what repr tells of a tree is its own -/
namespace Ex
/-! ### balance -/
def dl (c : Nat) : Int := if c = 40 then 1 else if c = 41 then -1 else 0
def bal : List Nat → Int
  | [] => 0
  | c :: r => dl c + bal r
theorem bal_app (a b : List Nat) : bal (a ++ b) = bal a + bal b := by
  induction a with
  | nil => simp [bal]
  | cons c r ih => simp [bal, ih]; omega
structure Bal (t : List Nat) : Prop where
  z : bal t = 0
  n : ∀ n, 0 ≤ bal (t.take n)
theorem Bal.nil : Bal [] := ⟨rfl, fun n => by simp [bal]⟩
theorem Bal.one {c : Nat} (h : dl c = 0) : Bal [c] := ⟨by simp [bal, h], fun n => by cases n <;> simp [bal, h]⟩
theorem Bal.app {a b : List Nat} (ha : Bal a) (hb : Bal b) : Bal (a ++ b) :=
  ⟨by rw [bal_app, ha.z, hb.z]; rfl, fun n => by rw [List.take_append, bal_app]; have := ha.n n; have := hb.n (n - a.length); omega⟩
theorem Bal.wrap {a : List Nat} (ha : Bal a) : Bal (wrapT true a) := by
  show Bal (40 :: (a ++ [41]))
  refine ⟨?_, fun n => ?_⟩
  · show 1 + bal (a ++ [41]) = 0
    rw [bal_app, ha.z]; rfl
  · cases n with
    | zero => exact Int.le_refl 0
    | succ n =>
      show 0 ≤ 1 + bal ((a ++ [41]).take n)
      rw [List.take_append, bal_app]
      have := ha.n n
      have : -1 ≤ bal (List.take (n - a.length) [41]) := by
        cases h : n - a.length with
        | zero => decide
        | succ m => simp [bal, dl]
      omega
theorem Bal.wrapT {a : List Nat} (ha : Bal a) (b : Bool) : Bal (Ex.wrapT b a) := by
  cases b with
  | true => exact ha.wrap
  | false => exact ha
theorem Bal.tx (o : Op) : Bal o.tx := by
  have h : ∀ c, dl c = 0 → Bal [c] := fun c h => Bal.one h
  cases o with
  | row => exact Bal.nil
  | gg => exact (h 62 rfl).app (h 62 rfl)
  | ll => exact (h 60 rfl).app (h 60 rfl)
  | or => exact h _ rfl
  | and => exact h _ rfl
  | sub => exact h _ rfl
  | gt => exact h _ rfl
  | lt => exact h _ rfl
theorem bal_wtx {sg : List Nat} (hs : ∀ c ∈ sg, 97 ≤ c ∧ c ≤ 122) : ∀ {t : Tr}, Ok sg t → Bal (wtx t)
  | .sg c, h => Bal.one (by have := hs c h; unfold dl; rw [if_neg (by omega), if_neg (by omega)])
  | .at c, h => Bal.one (by
      have h : isAt c = true := h
      have h3 : c = 49 ∨ c = 48 ∨ c = 46 := by unfold isAt at h; simpa [or_assoc] using h
      rcases h3 with rfl | rfl | rfl <;> rfl)
  | .st x, h => ((bal_wtx hs (t := x) h).wrapT _).app (Bal.one rfl)
  | .op o l r, h => ((bal_wtx hs h.1).wrapT _).app ((Bal.tx o).app ((bal_wtx hs h.2).wrapT _))
theorem dl_lo (c : Nat) : -1 ≤ dl c := by unfold dl; split <;> (try split) <;> omega
/-- a scan that never comes to nothing stays above -/
theorem scan_up {t : List Nat} {at_ : Nat} (h1 : t[at_]? = some 40) {m : Nat} (hm : at_ + m ≤ t.length) (hz : ∀ j, 1 ≤ j → j ≤ m → bal ((t.drop at_).take j) ≠ 0) : ∀ j, 1 ≤ j → j ≤ m → 1 ≤ bal ((t.drop at_).take j) := by
  have hd : t.drop at_ = 40 :: t.drop (at_ + 1) := by
    obtain ⟨h, e⟩ := List.getElem?_eq_some_iff.mp h1
    rw [List.drop_eq_getElem_cons h, e]
  intro j
  induction j with
  | zero => intro h; omega
  | succ j ih =>
    intro _ hj
    by_cases h0 : j = 0
    · subst h0
      rw [hd]
      simp [bal, dl]
    · have a := ih (by omega) (by omega)
      have b := hz (j + 1) (by omega) hj
      have hlt : j < (t.drop at_).length := by rw [List.length_drop]; omega
      rw [List.take_succ, List.getElem?_eq_getElem hlt, bal_app] at b ⊢
      have : bal (some (t.drop at_)[j]).toList = dl (t.drop at_)[j] := by simp [bal]
      rw [this] at b ⊢
      have := dl_lo (t.drop at_)[j]
      omega
theorem scan_ends {t : List Nat} {at_ : Nat} (hb : Bal t) (h1 : t[at_]? = some 40) : ¬ ∀ j, 1 ≤ j → at_ + j ≤ t.length → bal ((t.drop at_).take j) ≠ 0 := by
  intro hz
  have hl : at_ < t.length := (List.getElem?_eq_some_iff.mp h1).1
  have := scan_up h1 (m := t.length - at_) (by omega) (fun j a b => hz j a (by omega)) (t.length - at_) (by omega) (Nat.le_refl _)
  rw [List.take_of_length_le (by rw [List.length_drop]; omega)] at this
  have h2 := hb.n at_
  have h3 := hb.z
  rw [← List.take_append_drop at_ t, bal_app] at h3
  omega
/-- one pair left out -/
def Less (t u : List Nat) : Prop := ∃ a m b, t = a ++ 40 :: (m ++ 41 :: b) ∧ u = a ++ m ++ b
theorem scan_less {t : List Nat} {at_ k : Nat} (h1 : t[at_]? = some 40) (hk : at_ < k) (hkl : k < t.length) (hz : ∀ j, 1 ≤ j → j ≤ k - at_ → bal ((t.drop at_).take j) ≠ 0) (h0 : bal ((t.drop at_).take (k - at_ + 1)) = 0) :
    Less t (t.take at_ ++ (t.take k).drop (at_ + 1) ++ t.drop (k + 1)) := by
  have up := scan_up h1 (m := k - at_) (by omega) hz (k - at_) (by omega) (Nat.le_refl _)
  have hlt : k - at_ < (t.drop at_).length := by rw [List.length_drop]; omega
  rw [List.take_succ, List.getElem?_eq_getElem hlt, bal_app] at h0
  have e1 : (t.drop at_)[k - at_] = t[k] := by rw [List.getElem_drop]; congr 1; omega
  have e2 : bal (some (t.drop at_)[k - at_]).toList = dl t[k] := by rw [e1]; simp [bal]
  rw [e2] at h0
  have e41 : t[k] = 41 := by
    unfold dl at h0
    split at h0
    · omega
    · split at h0
      · assumption
      · omega
  obtain ⟨hal, ea⟩ := List.getElem?_eq_some_iff.mp h1
  refine ⟨t.take at_, (t.take k).drop (at_ + 1), t.drop (k + 1), ?_, rfl⟩
  conv => lhs; rw [← List.take_append_drop at_ t, List.drop_eq_getElem_cons hal, ea]
  congr 2
  conv => lhs; rw [← List.take_append_drop k t, List.drop_append_of_le_length (by rw [List.length_take]; omega), List.drop_eq_getElem_cons hkl, e41]
theorem Less.facts {sg t u : List Nat} (hs : ∀ c ∈ sg, 97 ≤ c ∧ c ≤ 122) (h : Less t u) : oc u + 1 = oc t ∧ wt sg u = wt sg t ∧ u.length + 2 = t.length := by
  obtain ⟨a, m, b, rfl, rfl⟩ := h
  have n40 : (isLf sg 40 || 40 == 42) = false := by
    have : ¬ (40 : Nat) ∈ sg := fun z => by have := hs _ z; omega
    simp [isLf, this, isAt]
  have n41 : (isLf sg 41 || 41 == 42) = false := by
    have : ¬ (41 : Nat) ∈ sg := fun z => by have := hs _ z; omega
    simp [isLf, this, isAt]
  refine ⟨?_, ?_, ?_⟩
  · unfold oc; simp [List.countP_append, List.countP_cons]; omega
  · unfold wt; rw [List.countP_append, List.countP_append, List.countP_append, List.countP_cons, List.countP_append, List.countP_cons, n40, n41]; simp; omega
  · simp; omega
/-! ### a text that is read, with brackets to spare -/
structure Rdx (sg t : List Nat) (n : Nat) (T : Tr) (p : Nat) : Prop where
  ex : ∃ ws, (∀ k op rest, spl sg k op true (t ++ rest) = R.app ws (spl sg (k + t.length) op false rest)) ∧ Reads ws n T p
  beg : Beg sg t
theorem Reads.down {ws : List Wd} {n m : Nat} {t : Tr} {p : Nat} (h : Reads ws n t p) (hm : m ≤ n) : Reads ws m t p :=
  ⟨fun s a b => let ⟨x, y⟩ := h.run s a (fun o r z => Nat.lt_of_lt_of_le (b o r z) hm); ⟨fun k hk => x k (Nat.le_trans hk hm), y⟩, fun h5 => h.exact (Nat.le_trans h5 hm)⟩
section
variable {sg : List Nat} (hs : ∀ c ∈ sg, 97 ≤ c ∧ c ≤ 122)
include hs
theorem Rdx.wtx {T : Tr} (h : Ok sg T) : Rdx sg (wtx T) (trank T) T (pd T) := ⟨⟨wws T, spl_wtx hs h, reads_wws T⟩, beg_wtx hs h⟩
theorem Rdx.wrap {t : List Nat} {n : Nat} {T : Tr} {p : Nat} (h : Rdx sg t n T p) : Rdx sg (wrapT true t) 6 T (p + 1) := by
  obtain ⟨ws, h1, h2⟩ := h.ex
  exact ⟨⟨wrapW true ws, fun k op rest => spl_wrap hs h1 true k op rest, reads_wrap h2⟩, ⟨40, t ++ [41], .opn, rfl, fst_opn hs⟩⟩
theorem Rdx.st {t : List Nat} {n : Nat} {x : Tr} {p : Nat} (h : Rdx sg t n x p) (h5 : 5 ≤ n) : Rdx sg (t ++ [42]) 5 (.st x) p := by
  obtain ⟨ws, h1, h2⟩ := h.ex
  refine ⟨⟨ws ++ [.str], fun k op rest => ?_, Reads.of_exact fun s hm => ?_⟩, ?_⟩
  · rw [List.append_assoc, h1]
    show R.app _ (spl sg _ op false (42 :: rest)) = _
    rw [spl_str hs, R.cons_app, R.app_app, List.length_append]
    rfl
  · obtain ⟨a, b, c, d⟩ := h2.exact h5 s hm
    have e : run s (ws ++ [.str]) = step (run s ws) .str := by rw [run_app]; rfl
    rw [e]
    refine ⟨a, ?_, c, d⟩
    show (match (run s ws).ts with | t :: ts => Tr.st t :: ts | [] => []) = _
    rw [b]
  · obtain ⟨c, r, w, e, f⟩ := h.beg
    exact ⟨c, r ++ [42], w, by rw [e]; rfl, f⟩
theorem Beg.app' {t : List Nat} (h : Beg sg t) (u : List Nat) : Beg sg (t ++ u) := by
  obtain ⟨c, r, w, e, f⟩ := h
  exact ⟨c, r ++ u, w, by rw [e]; rfl, f⟩
theorem Rdx.op {t u : List Nat} {n m : Nat} {l r : Tr} {p q : Nat} (o : Op) (hl : Rdx sg t n l p) (hr : Rdx sg u m r q) (hn : o.rank ≤ n) (hm : o.rank + 1 ≤ m) : Rdx sg (t ++ (o.tx ++ u)) o.rank (.op o l r) (max p q) := by
  obtain ⟨ws, h1, h2⟩ := hl.ex
  obtain ⟨vs, k1, k2⟩ := hr.ex
  have ro := rank_le o
  refine ⟨⟨ws ++ (.op o :: vs), fun k op rest => ?_, ⟨fun s hmo safe => ?_, fun z => by omega⟩⟩, Beg.app' hs hl.beg _⟩
  · rw [List.append_assoc, h1, List.append_assoc, spl_op hs (Beg.app' hs hr.beg rest), k1, R.cons_app, R.app_app, R.app_app]
    rw [show k + t.length + o.tx.length + u.length = k + (t ++ (o.tx ++ u)).length by simp [Nat.add_assoc]]
    rw [List.append_assoc]
    rfl
  · have e : run s (ws ++ (.op o :: vs)) = run (step (run s ws) (.op o)) vs := by rw [run_app, run_cons]
    rw [e]
    obtain ⟨a, b, c⟩ := h2.run s hmo (fun x y z => by have := safe x y z; omega)
    have a1 := a o.rank hn
    rw [foldO_safe safe] at a1
    generalize run s ws = s1 at a1 b c ⊢
    have t1 : (step s1 (.op o)).os = some o :: s.os := by show some o :: (foldO o.rank s1.os s1.ts).1 = _; rw [a1]
    have t2 : (step s1 (.op o)).ts = l :: s.ts := by show (foldO o.rank s1.os s1.ts).2 = _; rw [a1]
    have t3 : (step s1 (.op o)).op = s.op := b
    have t4 : (step s1 (.op o)).mo = max s.mo (s.op + p) := c
    obtain ⟨a2, b2, c2⟩ := k2.run (step s1 (.op o)) (by rw [t3, t4]; omega) (fun x y z => by
      rw [t1] at z
      injection z with z
      injection z with z
      subst z
      omega)
    refine ⟨fun k hk => ?_, by rw [b2, t3], ?_⟩
    · rw [a2 k (by omega), t1, t2]
      conv => lhs; unfold foldO
      rw [if_pos hk]
    · rw [c2, t3, t4]
      omega
theorem Rdx.read {t : List Nat} {n : Nat} {T : Tr} {p : Nat} (h : Rdx sg t n T p) : Read sg t T p := by
  obtain ⟨ws, h1, h2⟩ := h.ex
  refine ⟨ws, ?_, ?_, ?_⟩
  · have := h1 0 0 []
    rw [List.append_nil] at this
    rw [this, spl, if_neg (by simp)]
    simp [R.app]
  · obtain ⟨a, b, c⟩ := h2.run s0 (Nat.le_refl _) (fun o r z => by cases z)
    rw [a 0 (Nat.zero_le _)]
    show foldO 0 [] [T] = _
    unfold foldO
    rfl
  · obtain ⟨a, b, c⟩ := h2.run s0 (Nat.le_refl _) (fun o r z => by cases z)
    rw [c]
    show max 0 (0 + p) = p
    omega
end
/-- brackets that need not be -/
def Idl : Tr → List Nat → Prop
  | .sg c, t => t = [c] ∨ t = wrapT true [c]
  | .at c, t => t = [c] ∨ t = wrapT true [c]
  | .st x, t => ∃ u, (Idl x u ∨ u = wtx x) ∧ t = wrapT true u ++ [42]
  | .op o l r, t => ∃ u v, (Idl l u ∨ u = wtx l) ∧ (Idl r v ∨ v = wtx r) ∧ t = wrapT true u ++ (o.tx ++ wrapT true v)
theorem idl_read {sg : List Nat} (hs : ∀ c ∈ sg, 97 ≤ c ∧ c ≤ 122) : ∀ {T : Tr} {t : List Nat}, Ok sg T → Idl T t → ∃ p, Rdx sg t (trank T) T p ∧ p ≤ dep T ∧ t.length ≤ 9 * inn T + 3
  | .sg c, t, h, hi => by
    have r := Rdx.wtx hs (T := .sg c) h
    rcases hi with rfl | rfl
    · exact ⟨0, r, Nat.zero_le _, by simp⟩
    · exact ⟨1, (r.wrap hs), Nat.le_refl _, by simp [wrapT]⟩
  | .at c, t, h, hi => by
    have r := Rdx.wtx hs (T := .at c) h
    rcases hi with rfl | rfl
    · exact ⟨0, r, Nat.zero_le _, by simp⟩
    · exact ⟨1, (r.wrap hs), Nat.le_refl _, by simp [wrapT]⟩
  | .st x, t, h, hi => by
    obtain ⟨u, hu, rfl⟩ := hi
    obtain ⟨p, n, r, hp, hl⟩ : ∃ p n, Rdx sg u n x p ∧ p ≤ dep x ∧ u.length ≤ 9 * inn x + 3 := by
      rcases hu with hu | rfl
      · obtain ⟨p, a, b, c⟩ := idl_read hs (T := x) h hu
        exact ⟨p, _, a, b, c⟩
      · have := (wt_wtx hs (t := x) h).2.2
        have := pd_dep x
        exact ⟨pd x, _, Rdx.wtx hs h, by omega, by omega⟩
    refine ⟨p + 1, (r.wrap hs).st hs (by omega), Nat.succ_le_succ hp, ?_⟩
    show (40 :: (u ++ [41]) ++ [42]).length ≤ 9 * (inn x + 1) + 3
    simp
    omega
  | .op o l r, t, h, hi => by
    obtain ⟨u, v, hu, hv, rfl⟩ := hi
    have sub : ∀ (x : Tr) (u : List Nat), Ok sg x → (∀ {t}, Idl x t → ∃ p, Rdx sg t (trank x) x p ∧ p ≤ dep x ∧ t.length ≤ 9 * inn x + 3) → (Idl x u ∨ u = wtx x) → ∃ p n, Rdx sg u n x p ∧ p ≤ dep x ∧ u.length ≤ 9 * inn x + 3 := by
      intro x u h ih hu
      rcases hu with hu | rfl
      · obtain ⟨p, a, b, c⟩ := ih hu
        exact ⟨p, _, a, b, c⟩
      · have := (wt_wtx hs (t := x) h).2.2
        have := pd_dep x
        exact ⟨pd x, _, Rdx.wtx hs h, by omega, by omega⟩
    obtain ⟨p, n, r1, hp, hl⟩ := sub l u h.1 (fun hi => idl_read hs h.1 hi) hu
    obtain ⟨q, m, r2, hq, hl2⟩ := sub r v h.2 (fun hi => idl_read hs h.2 hi) hv
    have ro := rank_le o
    have ho : o.tx.length ≤ 2 := by cases o <;> decide
    refine ⟨max (p + 1) (q + 1), (r1.wrap hs).op hs o (r2.wrap hs) (by omega) (by omega), ?_, ?_⟩
    · show _ ≤ max (dep l) (dep r) + 1
      omega
    · show (40 :: (u ++ [41]) ++ (o.tx ++ 40 :: (v ++ [41]))).length ≤ 9 * (inn l + inn r + 1) + 3
      simp
      omega
theorem Rdx.wraps {sg : List Nat} (hs : ∀ c ∈ sg, 97 ≤ c ∧ c ≤ 122) {t : List Nat} {n : Nat} {T : Tr} {p : Nat} (h : Rdx sg t n T p) : ∀ j, ∃ m, Rdx sg (List.replicate j 40 ++ t ++ List.replicate j 41) m T (p + j)
  | 0 => ⟨n, by simpa using h⟩
  | j + 1 => by
    obtain ⟨m, r⟩ := Rdx.wraps hs h j
    refine ⟨6, ?_⟩
    have := r.wrap hs
    have e : wrapT true (List.replicate j 40 ++ t ++ List.replicate j 41) = List.replicate (j + 1) 40 ++ t ++ List.replicate (j + 1) 41 := by
      show 40 :: (List.replicate j 40 ++ t ++ List.replicate j 41 ++ [41]) = _
      rw [List.replicate_succ, List.replicate_succ' (n := j) (a := 41)]
      simp
    rw [e] at this
    exact this
/-! ### what repr tells -/
def opl8 : Op → List Nat
  | .or => [124]
  | .and => [38]
  | .sub => [45]
  | .gt => [62]
  | .gg => [62, 62]
  | .lt => [60]
  | .ll => [60, 60]
  | .row => [114, 111, 119]
def rhd : Tr → List Nat
  | .sg _ => [115, 105, 103, 110]
  | .at c => [c]
  | .st _ => [42]
  | .op o _ _ => opl8 o
def rp : Tr → List Nat
  | .sg c => 40 :: 39 :: ([115, 105, 103, 110] ++ 39 :: 44 :: 32 :: 39 :: c :: [39, 41])
  | .at c => 40 :: 39 :: ([c] ++ 39 :: [44, 41])
  | .st x => 40 :: 39 :: ([42] ++ 39 :: 44 :: 32 :: (rp x ++ [41]))
  | .op o l r => 40 :: 39 :: (opl8 o ++ 39 :: 44 :: 32 :: (rp l ++ 44 :: 32 :: (rp r ++ [41])))
theorem quote_cut {w w' u u' : List Nat} (h : 39 ∉ w) (h' : 39 ∉ w') (e : w ++ 39 :: u = w' ++ 39 :: u') : w = w' ∧ u = u' := by
  induction w generalizing w' with
  | nil =>
    cases w' with
    | nil => exact ⟨rfl, by injection e⟩
    | cons a r => injection e with e1 e2; exact absurd (by rw [← e1]; simp) h'
  | cons a r ih =>
    cases w' with
    | nil => injection e with e1 e2; exact absurd (by rw [e1]; simp) h
    | cons b r' =>
      injection e with e1 e2
      obtain ⟨x, y⟩ := ih (fun z => h (by simp [z])) (fun z => h' (by simp [z])) e2
      exact ⟨by rw [e1, x], y⟩
theorem opl8_q (o : Op) : 39 ∉ opl8 o := by cases o <;> decide
theorem opl8_inj {a b : Op} (h : opl8 a = opl8 b) : a = b := by cases a <;> cases b <;> first | rfl | (simp [opl8] at h)
theorem rp_inj {sg : List Nat} (hs : ∀ c ∈ sg, 97 ≤ c ∧ c ≤ 122) : ∀ {T T' : Tr} {x x' : List Nat}, Ok sg T → Ok sg T' → rp T ++ x = rp T' ++ x' → T = T' ∧ x = x' := by
  have at3 : ∀ {c}, Ok sg (.at c) → c = 49 ∨ c = 48 ∨ c = 46 := fun {c} h => by
    have h : isAt c = true := h
    unfold isAt at h
    simpa [or_assoc] using h
  intro T
  induction T with
  | sg c =>
    intro T' x x' h h' e
    cases T' with
    | sg c' => simp [rp] at e; exact ⟨by rw [e.1], e.2⟩
    | «at» c' => have := at3 h'; simp [rp] at e
    | st y => simp [rp] at e
    | op o l r => cases o <;> simp [rp, opl8] at e
  | «at» c =>
    intro T' x x' h h' e
    have := at3 h
    cases T' with
    | sg c' => simp [rp] at e
    | «at» c' => simp [rp] at e; exact ⟨by rw [e.1], e.2⟩
    | st y => simp [rp] at e
    | op o l r => cases o <;> simp [rp, opl8] at e
  | st y ih =>
    intro T' x x' h h' e
    cases T' with
    | sg c' => simp [rp] at e
    | «at» c' => simp [rp] at e
    | st y' =>
      simp only [rp, List.cons_append, List.append_assoc, List.nil_append, List.cons.injEq, true_and] at e
      obtain ⟨a, b⟩ := ih (T' := y') h h' e
      exact ⟨by rw [a], by simpa using b⟩
    | op o l r => cases o <;> simp [rp, opl8] at e
  | op o l r ihl ihr =>
    intro T' x x' h h' e
    cases T' with
    | sg c' => cases o <;> simp [rp, opl8] at e
    | «at» c' => have := at3 h'; cases o <;> simp [rp, opl8] at e
    | st y' => cases o <;> simp [rp, opl8] at e
    | op o' l' r' =>
      simp only [rp, List.cons_append, List.append_assoc, List.cons.injEq, true_and] at e
      obtain ⟨e1, e2⟩ := quote_cut (opl8_q o) (opl8_q o') e
      simp only [List.cons.injEq, true_and] at e2
      obtain ⟨a, b⟩ := ihl (T' := l') h.1 h'.1 e2
      simp only [List.cons.injEq, true_and] at b
      obtain ⟨c, d⟩ := ihr (T' := r') h.2 h'.2 b
      exact ⟨by rw [opl8_inj e1, a, c], by simpa using d⟩
end Ex
set_option Elab.async false
set_option linter.all false
set_option maxRecDepth 100000
/-! how data are shown: bounds -/
namespace Sh
open PySem PySem.Spec PyProof.Rows L2
open SX (S S_inj S_len S_cat)
def Shw (d : PyData) (k m : Nat) : Prop := d.showable = true ∧ d.hasDict = false ∧ d.depth ≤ k ∧ d.shown.length ≤ m
theorem Shw.mono {d : PyData} {k m k' m' : Nat} (h : Shw d k m) (h1 : k ≤ k') (h2 : m ≤ m') : Shw d k' m' := ⟨h.1, h.2.1, Nat.le_trans h.2.2.1 h1, Nat.le_trans h.2.2.2 h2⟩
theorem Shw.non : Shw .none 0 4 := ⟨rfl, rfl, Nat.le_refl _, by decide⟩
theorem Shw.bl (b : Bool) : Shw (.bool b) 0 5 := by cases b <;> exact ⟨rfl, rfl, Nat.le_refl _, by decide⟩
theorem Shw.str {u : List Nat} (h : ∀ c ∈ u, c < 1114112) : Shw (.str (S u)) 0 (10 * u.length + 2) := by
  refine ⟨rfl, rfl, Nat.le_refl _, ?_⟩
  have := PySem.StrLaws.reprText_len (S u) (fun c hc => Nat.lt_trans (h c hc) (by decide))
  rw [S_len] at this
  exact this
theorem showAll {ds : List PyData} {k m : Nat} (h : ∀ d ∈ ds, Shw d k m) : PyData.showableAll ds = true ∧ PyData.hasDictAll ds = false ∧ PyData.depthAll ds ≤ k ∧ (((PyData.shownAll ds).map (·.length)).sum ≤ ds.length * m) ∧ (PyData.shownAll ds).length = ds.length := by
  induction ds with
  | nil => exact ⟨rfl, rfl, Nat.zero_le _, Nat.zero_le _, rfl⟩
  | cons d ds ih =>
    obtain ⟨a1, a2, a3, a4⟩ := h d List.mem_cons_self
    obtain ⟨b1, b2, b3, b4, b5⟩ := ih fun x hx => h x (List.mem_cons_of_mem _ hx)
    refine ⟨?_, ?_, ?_, ?_, ?_⟩
    · show (d.showable && PyData.showableAll ds) = true
      rw [a1, b1]; rfl
    · show (d.hasDict || PyData.hasDictAll ds) = false
      rw [a2, b2]; rfl
    · show max d.depth (PyData.depthAll ds) ≤ k
      omega
    · show d.shown.length + ((PyData.shownAll ds).map (·.length)).sum ≤ (ds.length + 1) * m
      rw [Nat.succ_mul]
      omega
    · show (PyData.shownAll ds).length + 1 = ds.length + 1
      rw [b5]
theorem Shw.tup {ds : List PyData} {k m : Nat} (h : ∀ d ∈ ds, Shw d k m) : Shw (.tuple ds) (k + 1) (ds.length * m + 2 * ds.length + 3) := by
  obtain ⟨b1, b2, b3, b4, b5⟩ := showAll h
  refine ⟨b1, b2, ?_, ?_⟩
  · show PyData.depthAll ds + 1 ≤ k + 1
    omega
  · have := PySem.tupleText_len_le (PyData.shownAll ds)
    rw [b5] at this
    show (tupleText (PyData.shownAll ds)).length ≤ _
    omega
theorem Shw.lst {ds : List PyData} {k m : Nat} (h : ∀ d ∈ ds, Shw d k m) : Shw (.list ds) (k + 1) (ds.length * m + 2 * ds.length + 3) := by
  obtain ⟨b1, b2, b3, b4, b5⟩ := showAll h
  refine ⟨b1, b2, ?_, ?_⟩
  · show PyData.depthAll ds + 1 ≤ k + 1
    omega
  · have := PySem.listText_len_le (PyData.shownAll ds)
    rw [b5] at this
    show (listText (PyData.shownAll ds)).length ≤ _
    omega
theorem Shw.ok {d : PyData} {k m : Nat} (h : Shw d k m) (h1 : k ≤ 60) (h2 : m ≤ 16777216) : d.showable = true ∧ d.hasDict = false ∧ d.depth ≤ 60 ∧ d.shown.length ≤ sizeLine := ⟨h.1, h.2.1, Nat.le_trans h.2.2.1 h1, Nat.le_trans h.2.2.2 (Nat.le_trans h2 (by decide))⟩
end Sh
set_option Elab.async false
set_option linter.all false
set_option maxRecDepth 100000
set_option maxHeartbeats 4000000
namespace Sh
open PySem PySem.Spec PyProof.Rows L2
open SX (S S_inj S_len S_cat)
open Ex (Fs Op Tr Wd dep wtx trank wrapT rp)
theorem tt2 (a b : List Nat) : tupleText [S a, S b] = S (40 :: (a ++ 44 :: 32 :: (b ++ [41]))) := by
  show Str.ofString "(" ++ Str.join ", " [S a, S b] ++ Str.ofString ")" = _
  rw [show Str.join ", " [S a, S b] = S a ++ Str.ofString ", " ++ S b from rfl]
  rw [show Str.ofString "(" = S [40] from rfl, show Str.ofString ")" = S [41] from rfl, show Str.ofString ", " = S [44, 32] from rfl, S_cat, S_cat, S_cat, S_cat]
  congr 1
  simp
theorem tt1 (a : List Nat) : tupleText [S a] = S (40 :: (a ++ [44, 41])) := by
  show Str.ofString "(" ++ Str.join ", " [S a] ++ Str.ofString ",)" = _
  rw [show Str.join ", " [S a] = S a from rfl]
  rw [show Str.ofString "(" = S [40] from rfl, show Str.ofString ",)" = S [44, 41] from rfl, S_cat, S_cat]
  congr 1
theorem tt3 (a b c : List Nat) : tupleText [S a, S b, S c] = S (40 :: (a ++ 44 :: 32 :: (b ++ 44 :: 32 :: (c ++ [41])))) := by
  show Str.ofString "(" ++ Str.join ", " [S a, S b, S c] ++ Str.ofString ")" = _
  rw [show Str.join ", " [S a, S b, S c] = S a ++ Str.ofString ", " ++ (S b ++ Str.ofString ", " ++ S c) from rfl]
  rw [show Str.ofString "(" = S [40] from rfl, show Str.ofString ")" = S [41] from rfl, show Str.ofString ", " = S [44, 32] from rfl, S_cat, S_cat, S_cat, S_cat, S_cat, S_cat]
  congr 1
  simp
theorem rep_low : ∀ c : Fin 26, reprText (S [97 + c.val]) = S [39, 97 + c.val, 39] := by decide +kernel
theorem rep_lowN {c : Nat} (h : 97 ≤ c ∧ c ≤ 122) : reprText (S [c]) = S [39, c, 39] := by
  have := rep_low ⟨c - 97, by omega⟩
  dsimp only at this
  rw [show 97 + (c - 97) = c by omega] at this
  exact this
theorem shown_tr {sg : List Nat} (hs : Low sg) : ∀ {T : Tr}, Ex.Ok sg T → (trD T).shown = S (rp T)
  | .sg c, h => by
    show tupleText [reprText (Str.ofString "sign"), reprText (S [c])] = _
    rw [show reprText (Str.ofString "sign") = S [39, 115, 105, 103, 110, 39] by decide +kernel, rep_lowN (hs c h), tt2]
    rfl
  | .at c, h => by
    have h : Ex.isAt c = true := h
    have h3 : c = 49 ∨ c = 48 ∨ c = 46 := by unfold Ex.isAt at h; simpa [or_assoc] using h
    show tupleText [reprText (S [c])] = _
    rw [show reprText (S [c]) = S [39, c, 39] by rcases h3 with rfl | rfl | rfl <;> decide +kernel, tt1]
    rfl
  | .st x, h => by
    show tupleText [reprText (Str.ofString "*"), (trD x).shown] = _
    rw [show reprText (Str.ofString "*") = S [39, 42, 39] by decide +kernel, shown_tr hs (T := x) h, tt2]
    rfl
  | .op o l r, h => by
    show tupleText [reprText (opS o), (trD l).shown, (trD r).shown] = _
    rw [show reprText (opS o) = S (39 :: (Ex.opl8 o ++ [39])) by cases o <;> decide +kernel, shown_tr hs h.1, shown_tr hs h.2, tt3]
    congr 1
    simp [Ex.rp]
theorem tr_shown_inj {sg : List Nat} (hs : Low sg) {T T' : Tr} (h : Ex.Ok sg T) (h' : Ex.Ok sg T') (e : (trD T).shown = (trD T').shown) : T = T' := by
  rw [shown_tr hs h, shown_tr hs h'] at e
  exact (Ex.rp_inj hs h h' (x := []) (x' := []) (by rw [List.append_nil, List.append_nil]; exact S_inj e)).1
end Sh
set_option Elab.async false
set_option linter.all false
set_option maxRecDepth 100000
set_option maxHeartbeats 4000000
namespace Sh
open PySem PySem.Spec PyProof.Rows L2
open SX (S S_inj S_len S_cat)
open Ex (Fs Op Tr Wd dep wtx trank wrapT rp Bal bal Less dl)
local macro_rules | `(tactic| walk_at "nx") => `(tactic| repeat (with_reducible first | refine Sh.gn_mk ?_ | refine Sh.nx_mk ?_ | refine Sh.st_nx ?_ | refine Sh.rt_mk ?_ | refine Sh.ct_mk ?_ | refine Sh.bk_mk ?_))
local macro_rules | `(tactic| walk_at "sq") => `(tactic| first | exact SqL.of upd_same | exact SqT.of upd_same | exact SqL.of (by assumption) | exact SqT.of (by assumption) | assumption | exact Or.inl (SqL.of (by assumption)) | exact Or.inr (SqT.of (by assumption)) | exact Or.inl (by assumption) | exact Or.inr (by assumption))
local macro_rules | `(tactic| walk_at "hp") => `(tactic| first | exact upd_same | assumption)
local macro_rules | `(tactic| walk_at "sz") => `(tactic| first | exact Nat.le_of_ble_eq_true rfl | omega)
local macro_rules | `(tactic| walk_at "sd") => `(tactic| first | omega | exact rfl | assumption | (show (0 : Int) < _; omega) | exact And.intro (by omega) (by omega) | exact Or.inl (And.intro (by omega) (by omega)) | exact Or.inr (And.intro (by omega) (by omega)) | omega | exact Sh.sz_S (by omega) | decide)
local macro_rules | `(tactic| walk_at "rd1") => `(tactic| first
  | (with_reducible first | refine Sh.gn_mk ?_ | refine Sh.nx_mk ?_ | refine Sh.st_nx ?_ | refine Sh.rt_mk ?_ | refine Sh.ct_mk ?_ | refine Sh.bk_mk ?_)
  | refine Exists.intro (α := V) _ (And.intro rfl ?_)
  | refine Exists.intro (α := Bool) _ (And.intro rfl ?_)
  | refine Exists.intro (α := Int) _ (And.intro rfl ?_)
  | refine Exists.intro (α := PySem.Str) _ (And.intro rfl ?_)
  | refine Exists.intro (α := Int) _ (Exists.intro (α := Int) _ (And.intro rfl (And.intro rfl ?_)))
  | refine Exists.intro (α := PySem.Str) _ (Exists.intro (α := PySem.Str) _ (And.intro rfl (And.intro rfl ?_)))
  | refine Exists.intro (α := Int) _ (Exists.intro (α := Int) _ (And.intro rfl ?_))
  | refine Or.inl (Exists.intro (α := Int) _ (And.intro rfl ?_))
  | refine Exists.intro _ (Exists.intro _ (Exists.intro _ (Exists.intro _ (And.intro rfl (And.intro rfl (And.intro (by walk_at "sq") (And.intro rfl ?_)))))))
  | refine Exists.intro _ (Exists.intro _ (Exists.intro _ (Exists.intro _ (And.intro rfl (And.intro rfl (And.intro (by walk_at "hp") (And.intro rfl ?_)))))))
  | refine And.intro (by walk_at "sd") ?_
  )
local macro_rules | `(tactic| walk_at "rd") => `(tactic| repeat walk_at "rd1")
local macro_rules | `(tactic| walk_at "lk") => `(tactic| first | exact rfl | (rw [lookup_putF, if_pos rfl]) | (rw [lookup_putF, if_neg (by decide +kernel)]; walk_at "lk"))

section
variable {P : Program} {w : World} {K : PySem.W.Frag} {mg : Str → Option Value} {base : Heap} {C0 XE FE DI XM FM XT FT DT XS XB BS AT RK : Addr}
def spWo (K : PySem.W.Frag) : Sp := fun vs H Q _ => ∃ (t : List Nat) (i : Nat), vs = [.str (S t), .int (i : Nat)] ∧ t.length ≤ 1000 ∧ t[i]? = some 40 ∧ Bal t ∧ ∀ u, Less t u → Q (.str (S u)) H
theorem c__law_without (T : Txt K mg) : Cal P w K mg base CX0 1 "_law_without" (spWo K) := by
  refine Cal.mk0 T.d__law_without sc__law_without (fun vs H Q E h => ?_) (fun f cdv A outer s H vs Q E hr h => ?_)
  · obtain ⟨t, i, rfl, _⟩ := h
    rfl
  · obtain ⟨t, at_, rfl, hl, h40, hb, kk⟩ := h
    have hSt := S_len t
    have hsl : (2000 : Nat) ≤ sizeLine := by decide
    have hat : at_ < t.length := (List.getElem?_eq_some_iff.mp h40).1
    refine ⟨_, (pss_cons (ps_set (i := 2) sc__law_without.nd rfl (Or.inl rfl) pe_int)
  (pss_cons (ps_for PassesOwn.never rfl (pi_range2 (by rfl) T.b_range (pa_cons (pv 1) (pa_cons (pe_callB call_len_str (by rfl) T.b_len (by decide +kernel) (pa_cons (pv 0) pa_nil)) pa_nil))) (pg_name (i := 3) sc__law_without.nd rfl (Or.inl rfl))
    (pss_cons (ps_set (i := 2) sc__law_without.nd rfl (Or.inl rfl) (pe_op op_add (pv 2) (pe_ifExp (pt_cmpR op_eq (pe_ix ix_str (pv 0) (pv 3) (fun _ _ => rfl)) pe_str (nomark _)) pe_int (pe_ifExp (pt_cmpR op_eq (pe_ix ix_str (pv 0) (pv 3) (fun _ _ => rfl)) pe_str (nomark _)) (pe_un un_neg pe_int) pe_int))))
    (pss_one (ps_if (pt_cmpR op_eq (pv 2) pe_int (nomark _))
      (pss_one (ps_ret (pe_op op_add_str (pe_op op_add_str (pe_slice sl_str (pv 0) po_none (po_some (pv 1))) (pe_slice sl_str (pv 0) (po_some (pe_op op_add (pv 1) pe_int)) (po_some (pv 3)))) (pe_slice sl_str (pv 0) (po_some (pe_op op_add (pv 3) pe_int)) po_none))))
      pss_nil))))
  (pss_one (ps_ret (pv 0))))), ?_⟩
    walk_at "nx"
    walk_at "rd"
    refine for_range (lo := (at_ : Nat)) (n := (((t.length : Nat) : Int) - ((at_ : Nat) : Int)).toNat) (fun i σ H' => ∃ v3 : Option V, σ = [some (.str (S t)), some (.int (at_ : Nat)), some (.int (bal ((t.drop at_).take i))), v3] ∧ H' = H ∧ ∀ j, 1 ≤ j → j ≤ i → bal ((t.drop at_).take j) ≠ 0)
      ⟨_, rfl, rfl, fun j a b => by omega⟩ ?_ ?_
    · rintro i σ H' hi ⟨v3, rfl, rfl, hz⟩
      have hil : at_ + i < t.length := by omega
      rw [show ((at_ : Nat) : Int) + ((i : Nat) : Int) = ((at_ + i : Nat) : Int) by omega]
      obtain ⟨c, hc⟩ : ∃ c, t[at_ + i]? = some c := ⟨t[at_ + i], by simp [hil]⟩
      have eqc : ∀ d : Nat, decide (V.str ⟨#[c]⟩ = V.str (S [d])) = decide (c = d) := fun d => decide_eq_decide.mpr ⟨fun e => by simpa using S_inj (show S [c] = S [d] from V.str.inj e), fun e => by rw [e]⟩
      have hnew : bal ((t.drop at_).take (i + 1)) = bal ((t.drop at_).take i) + Ex.dl c := by
        rw [List.take_succ, List.getElem?_drop, hc, Ex.bal_app]
        simp [bal]
      walk_at "nx"
      refine st_J (fun σ H2 => σ = [some (.str (S t)), some (.int (at_ : Nat)), some (.int (bal ((t.drop at_).take (i + 1)))), some (.int (at_ + i : Nat))] ∧ H2 = H') (fun N hN => ?_) (fun σ H2 hv => ?_)
      · have fin : ∀ z : Int, z = Ex.dl c → N [some (.str (S t)), some (.int (at_ : Nat)), some (.int (bal ((t.drop at_).take i) + z)), some (.int (at_ + i : Nat))] H' := by
          rintro z rfl
          rw [← hnew]
          exact hN _ _ ⟨rfl, rfl⟩
        walk_at "rd"
        refine ⟨_, _, c, rfl, rfl, sz_S (t := t) (by omega), atI_nat hc, ?_⟩
        walk_at "rd"
        rw [show Str.ofString "(" = S [40] from rfl, eqc]
        refine ite2 (fun m => ?_) (fun m => ?_)
        · walk_at "rd"
          refine fin 1 ?_
          unfold Ex.dl
          rw [if_pos (of_decide_eq_true m)]
        · have m := of_decide_eq_false (Bool.not_eq_true _ ▸ m)
          walk_at "rd"
          refine ⟨_, _, c, rfl, rfl, sz_S (t := t) (by omega), atI_nat hc, ?_⟩
          walk_at "rd"
          rw [show Str.ofString ")" = S [41] from rfl, eqc]
          refine ite2 (fun m2 => ?_) (fun m2 => ?_)
          · walk_at "rd"
            refine fin (-1) ?_
            unfold Ex.dl
            rw [if_neg m, if_pos (of_decide_eq_true m2)]
          · walk_at "rd"
            refine fin 0 ?_
            unfold Ex.dl
            rw [if_neg m, if_neg (of_decide_eq_false (Bool.not_eq_true _ ▸ m2))]
      · obtain ⟨rfl, rfl⟩ := hv
        by_cases h0 : bal ((t.drop at_).take (i + 1)) = 0
        · refine if_K true (fun Q' hQ => ?_) (fun _ => ?_) (fun z => by cases z)
          · walk_at "rd"
            refine q_of hQ ?_
            exact decide_eq_true (by rw [h0])
          · have hi0 : i ≠ 0 := by
              rintro rfl
              have hd : t.drop at_ = 40 :: t.drop (at_ + 1) := by
                rw [List.drop_eq_getElem_cons hat, (List.getElem?_eq_some_iff.mp h40).2]
              rw [hd] at h0
              simp [bal, Ex.dl] at h0
            have hLs := Ex.scan_less h40 (k := at_ + i) (by omega) hil (fun j a b => hz j a (by omega)) (by rw [show at_ + i - at_ + 1 = i + 1 by omega]; exact h0)
            rw [List.drop_take] at hLs
            walk_at "rd"
            have c1 : cutS (S t) none (some ((at_ : Nat) : Int)) = S (t.take at_) := by rw [cut_to (by omega)]; rfl
            have c2 : cutS (S t) (some (((at_ : Nat) : Int) + 1)) (some ((at_ + i : Nat) : Int)) = S ((t.drop (at_ + 1)).take (at_ + i - (at_ + 1))) := by
              rw [cut_mid (by omega) (by omega)]
              congr 2
            have c3 : cutS (S t) (some (((at_ + i : Nat) : Int) + 1)) none = S (t.drop (at_ + i + 1)) := by
              rw [cut_from (by omega)]
              congr 2
            rw [c1, c2]
            have l1 := S_len (t.take at_)
            rw [List.length_take] at l1
            have l2 := S_len ((t.drop (at_ + 1)).take (at_ + i - (at_ + 1)))
            rw [List.length_take, List.length_drop] at l2
            have l3 := S_len (t.drop (at_ + i + 1))
            rw [List.length_drop] at l3
            refine ⟨by omega, ?_⟩
            walk_at "rd"
            rw [c3]
            refine ⟨by rw [PySem.Str.length_append]; omega, ?_⟩
            rw [S_cat, S_cat]
            exact kk _ hLs
        · refine if_K false (fun Q' hQ => ?_) (fun z => by cases z) (fun _ => ?_)
          · walk_at "rd"
            refine q_of hQ ?_
            exact decide_eq_false fun z => h0 (V.int.inj z)
          · refine ⟨_, rfl, rfl, fun j a b => ?_⟩
            by_cases e : j = i + 1
            · rw [e]; exact h0
            · exact hz j a (by omega)
    · rintro σ H' ⟨v3, rfl, rfl, hz⟩
      exact absurd (fun j a b => hz j a (by omega)) (Ex.scan_ends hb h40)
end
end Sh
set_option Elab.async false
set_option linter.all false
set_option maxRecDepth 100000
set_option maxHeartbeats 4000000
namespace Sh
open PySem PySem.Spec PyProof.Rows L2
open SX (S S_inj S_len S_cat)
open Ex (Fs Op Tr Wd dep wtx trank wrapT rp kids Idl)
local macro_rules | `(tactic| walk_at "nx") => `(tactic| repeat (with_reducible first | refine Sh.gn_mk ?_ | refine Sh.nx_mk ?_ | refine Sh.st_nx ?_ | refine Sh.rt_mk ?_ | refine Sh.ct_mk ?_ | refine Sh.bk_mk ?_))
local macro_rules | `(tactic| walk_at "sq") => `(tactic| first | exact SqL.of upd_same | exact SqT.of upd_same | exact SqL.of (by assumption) | exact SqT.of (by assumption) | assumption | exact Or.inl (SqL.of (by assumption)) | exact Or.inr (SqT.of (by assumption)) | exact Or.inl (by assumption) | exact Or.inr (by assumption))
local macro_rules | `(tactic| walk_at "hp") => `(tactic| first | exact upd_same | assumption)
local macro_rules | `(tactic| walk_at "sz") => `(tactic| first | exact Nat.le_of_ble_eq_true rfl | omega)
local macro_rules | `(tactic| walk_at "sd") => `(tactic| first | omega | exact rfl | assumption | (show (0 : Int) < _; omega) | exact And.intro (by omega) (by omega) | exact Or.inl (And.intro (by omega) (by omega)) | exact Or.inr (And.intro (by omega) (by omega)) | omega | exact Sh.sz_S (by omega) | decide)
local macro_rules | `(tactic| walk_at "rd1") => `(tactic| first
  | (with_reducible first | refine Sh.gn_mk ?_ | refine Sh.nx_mk ?_ | refine Sh.st_nx ?_ | refine Sh.rt_mk ?_ | refine Sh.ct_mk ?_ | refine Sh.bk_mk ?_)
  | refine Exists.intro (α := V) _ (And.intro rfl ?_)
  | refine Exists.intro (α := Bool) _ (And.intro rfl ?_)
  | refine Exists.intro (α := Int) _ (And.intro rfl ?_)
  | refine Exists.intro (α := PySem.Str) _ (And.intro rfl ?_)
  | refine Exists.intro (α := Int) _ (Exists.intro (α := Int) _ (And.intro rfl (And.intro rfl ?_)))
  | refine Exists.intro (α := PySem.Str) _ (Exists.intro (α := PySem.Str) _ (And.intro rfl (And.intro rfl ?_)))
  | refine Exists.intro (α := Int) _ (Exists.intro (α := Int) _ (And.intro rfl ?_))
  | refine Or.inl (Exists.intro (α := Int) _ (And.intro rfl ?_))
  | refine Exists.intro _ (Exists.intro _ (Exists.intro _ (Exists.intro _ (And.intro rfl (And.intro rfl (And.intro (by walk_at "sq") (And.intro rfl ?_)))))))
  | refine Exists.intro _ (Exists.intro _ (Exists.intro _ (Exists.intro _ (And.intro rfl (And.intro rfl (And.intro (by walk_at "hp") (And.intro rfl ?_)))))))
  | refine And.intro (by walk_at "sd") ?_
  )
local macro_rules | `(tactic| walk_at "rd") => `(tactic| repeat walk_at "rd1")
local macro_rules | `(tactic| walk_at "lk") => `(tactic| first | exact rfl | (rw [lookup_putF, if_pos rfl]) | (rw [lookup_putF, if_neg (by decide +kernel)]; walk_at "lk"))

theorem But.mut {a p : Addr} {H H1 : Hp} {o : HO} (b : But a H H1) (hp : H p = none) : But a H (upd H1 p o) := fun x y n e => by
  rw [upd_ne (fun z => by rw [z, hp] at e; cases e)]
  exact b x y n e
theorem if_JG {c : TT} {t u : TS} {D : Ends} {σ : L2.St} {H : Hp} (P : Bool → Hp → Prop) (h : ∀ Q : Bool → Hp → Prop, (∀ b H', P b H' → Q b H') → c σ H Q) (k : ∀ b H', P b H' → (if b = true then t else u) D σ H') : tIfS c t u D σ H := by
  refine h _ fun b H' p => ?_
  have := k b H' p
  cases b with
  | true => exact iteT this
  | false => exact iteF this
section
variable {P : Program} {w : World} {K : PySem.W.Frag} {mg : Str → Option Value} {base : Heap} {C0 XE FE DI XM FM XT FT DT XS XB BS AT RK : Addr}
theorem c__law_tree (T : Txt K mg) : Cal P w K mg base CX0 6 "_law_tree" (spTr K 5) := c__law_treeN T 4
theorem c__law_written (T : Txt K mg) : Cal P w K mg base CX0 23 "_law_written" (spWr K 22) := c__law_writtenN T 22
def spId (K : PySem.W.Frag) (n : Nat) : Sp := fun vs H Q _ => ∃ (a : Addr) (v : V) (T : Tr), vs = [.ref a, v] ∧ Src H a ∧ Tp K H v (trD T) ∧ dep T ≤ n ∧ (∃ sg, Low sg ∧ Ex.Ok sg T) ∧ Ex.inn T ≤ 20 ∧
  ∀ t H', Idl T t → Src H' a → But a H H' → Keep H H' → Q (.str (S t)) H'
def Brt (_ : Hp) (v : V) (y : Tr) : Prop := ∃ u, v = .str (S (wrapT true u)) ∧ (Idl y u ∨ u = wtx y)
theorem len_wrap (u : List Nat) : (wrapT true u).length = u.length + 2 := by
  show (40 :: (u ++ [41])).length = _
  simp
theorem S_wrap (u : List Nat) : Str.ofString "(" ++ S u ++ Str.ofString ")" = S (wrapT true u) := by
  rw [show Str.ofString "(" = S [40] from rfl, show Str.ofString ")" = S [41] from rfl, S_cat, S_cat]
  rfl
theorem idStep (T : Txt K mg) (n : Nat) (hn : n ≤ 21) (c__law_idle : Cal P w K mg base CX0 (n + 24) "_law_idle" (spId K n)) : Cal P w K mg base CX0 (n + 25) "_law_idle" (spId K (n + 1)) := by
  have c__law_pick := c__law_pick (P := P) (w := w) (base := base) T
  have c__law_written := c__law_written (P := P) (w := w) (base := base) T
  refine Cal.mk0 T.d__law_idle sc__law_idle (fun vs H Q E h => ?_) (fun f cdv A outer s H vs Q E hr h => ?_)
  · obtain ⟨a, v, T0, rfl, _⟩ := h
    rfl
  · obtain ⟨a, v, T0, rfl, hS, tp, hd, ⟨sg, hlow, hok⟩, hin, kk⟩ := h
    have hsl : (2000 : Nat) ≤ sizeLine := by decide
    refine ⟨_, (pss_cons (ps_set (i := 2) sc__law_idle.nd rfl (Or.inl rfl) (pe_ix ix_tup (pv 1) pe_int (fun _ _ => rfl)))
  (pss_cons (ps_if (PW.pt (pw_or (pt_cmpR op_eq (pv 2) pe_str (nomark _)) (pw_or1 (pt_cmpR op_eq (pe_callB call_len_seq (by rfl) T.b_len (by decide +kernel) (pa_cons (pv 1) pa_nil)) pe_int (nomark _)))))
    (pss_cons (ps_set (i := 3) sc__law_idle.nd rfl (Or.inl rfl) (pe_ifExp (pt_cmpR op_eq (pv 2) pe_str (nomark _)) (pe_ix ix_tup (pv 1) pe_int (fun _ _ => rfl)) (pv 2)))
    (pss_one (ps_ret (pe_ifExp (pt_cmpR op_eq (pe_c c__law_pick hr (by omega) rfl (pa_cons (pv 0) (pa_cons pe_int pa_nil))) pe_int (nomark _)) (pe_op op_add_str (pe_op op_add_str pe_str (pv 3)) pe_str) (pv 3)))))
    pss_nil)
  (pss_cons (ps_set (i := 4) sc__law_idle.nd rfl (Or.inl rfl) (pe_lst pa_nil))
  (pss_cons (ps_for PassesOwn.never rfl (pi_tup (pe_slice sl_tupA (pv 1) (po_some pe_int) po_none)) (pg_name (i := 5) sc__law_idle.nd rfl (Or.inl rfl))
    (pss_one (ps_if (pt_cmpR op_eq (pe_c c__law_pick hr (by omega) rfl (pa_cons (pv 0) (pa_cons pe_int pa_nil))) pe_int (nomark _))
      (pss_one (ps_expr (pe_bm PySem.F.plainAttrs_list PySem.F.slot_list_append PySem.F.type_list_append mt_append (pv 4) (pa_cons (pe_op op_add_str (pe_op op_add_str pe_str (pe_c c__law_idle hr (by omega) rfl (pa_cons (pv 0) (pa_cons (pv 5) pa_nil)))) pe_str) pa_nil))))
      (pss_one (ps_expr (pe_bm PySem.F.plainAttrs_list PySem.F.slot_list_append PySem.F.type_list_append mt_append (pv 4) (pa_cons (pe_op op_add_str (pe_op op_add_str pe_str (pe_ix ix_tup (pe_c c__law_written hr (by omega) rfl (pa_cons (pv 5) pa_nil)) pe_int (fun _ _ => rfl))) pe_str) pa_nil)))))))
  (pss_cons (ps_if (pt_cmpR op_eq (pv 2) pe_str (nomark _))
    (pss_one (ps_ret (pe_op op_add_str (pe_ix ix_list (pv 4) pe_int (fun _ _ => rfl)) pe_str)))
    pss_nil)
  (pss_one (ps_ret (pe_op op_add_str (pe_op op_add_str (pe_ix ix_list (pv 4) pe_int (fun _ _ => rfl)) (pe_ifExp (pt_cmpR op_eq (pv 2) pe_str (nomark _)) pe_str (pv 2))) (pe_ix ix_list (pv 4) pe_int (fun _ _ => rfl)))))))))), ?_⟩
    obtain ⟨qa, qxs, rfl, hq, hk3⟩ := tr_inv tp
    walk_at "nx"
    walk_at "rd"
    refine ⟨qa, _, _, .str (trh T0), rfl, rfl, hq, atI_at (Int.le_refl 0) rfl, ?_⟩
    walk_at "nx"
    have hsg := sign_head hok
    cases hkT : hk T0 with
    | false =>
     cases T0 with
     | st z => cases hkT
     | op o l r => cases hkT
     | sg c =>
      obtain ⟨a', xs', e', hq', ht'⟩ := tp.inv
      cases e'
      cases ht' with
      | cons h1 h2 => cases h2 with
        | cons h3 h4 => cases h4 with
          | nil =>
            cases h1
            cases h3
            refine if_K true (fun Q' hQ => ?_) (fun _ => ?_) (fun z => by cases z)
            · walk_at "rd"
              rw [hsg]
              exact hQ
            · walk_at "nx"
              walk_at "rd"
              refine ⟨a, _, rfl, hS, by decide, by decide, fun r H1 r0 r1 hS1 b1 => ?_⟩
              have k1 := Keep.but b1 hS
              have hSc := S_len [c]
              have e1 : [c].length = 1 := rfl
              have e40 : (Str.ofString "(").length = 1 := rfl
              have e41 : (Str.ofString ")").length = 1 := rfl
              walk_at "rd"
              refine ite2 (fun m => ?_) (fun m => ?_)
              · walk_at "rd"
                refine ⟨by rw [PySem.Str.length_append]; omega, ?_⟩
                rw [show Str.ofString "(" ++ S [c] ++ Str.ofString ")" = _ from S_wrap [c]]
                exact kk _ H1 (.inr rfl) hS1 b1 k1
              · walk_at "rd"
                exact kk _ H1 (.inl rfl) hS1 b1 k1
     | «at» c =>
      obtain ⟨a', xs', e', hq', ht'⟩ := tp.inv
      cases e'
      cases ht' with
      | cons h1 h2 => cases h2 with
        | nil =>
          cases h1
          refine if_K true (fun Q' hQ => ?_) (fun _ => ?_) (fun z => by cases z)
          · walk_at "rd"
            refine ⟨qa, _, rfl, .inr hq', ?_⟩
            walk_at "rd"
            exact hQ
          · walk_at "nx"
            rw [show trh (Tr.at c) = S [c] from rfl]
            walk_at "rd"
            refine ⟨a, _, rfl, hS, by decide, by decide, fun r H1 r0 r1 hS1 b1 => ?_⟩
            have k1 := Keep.but b1 hS
            have hSc := S_len [c]
            have e1 : [c].length = 1 := rfl
            have e40 : (Str.ofString "(").length = 1 := rfl
            have e41 : (Str.ofString ")").length = 1 := rfl
            walk_at "rd"
            refine ite2 (fun m => ?_) (fun m => ?_)
            · walk_at "rd"
              refine ⟨by rw [PySem.Str.length_append]; omega, ?_⟩
              rw [show Str.ofString "(" ++ S [c] ++ Str.ofString ")" = _ from S_wrap [c]]
              exact kk _ H1 (.inr rfl) hS1 b1 k1
            · walk_at "rd"
              exact kk _ H1 (.inl rfl) hS1 b1 k1
    | true =>
      have hk3 := hk3 hkT
      have hkl : qxs.length = (kids T0).length := by have := hk3.len; simpa using this
      have hk12 : 1 ≤ (kids T0).length ∧ (kids T0).length ≤ 2 := hk_kids hkT
      rw [hk_sg hkT] at hsg
      refine if_K false (fun Q' hQ => ?_) (fun z => by cases z) (fun _ => ?_)
      · walk_at "rd"
        rw [hsg]
        refine iteF ?_
        walk_at "rd"
        refine ⟨qa, _, rfl, .inr hq, ?_⟩
        walk_at "rd"
        refine q_of hQ (decide_eq_false fun z => ?_)
        have z := V.int.inj z
        simp at z
        omega
      walk_at "nx"
      refine ⟨by walk_at "sz", fun pt hpt => ?_⟩
      have s1 := same_new (o := .lst []) hpt
      have e1 : (upd H pt (.lst [])) pt = some (.lst []) := upd_same
      generalize upd H pt (.lst []) = H1 at s1 e1 ⊢
      have hpa : pt ≠ a := by
        obtain ⟨d, e, c, z⟩ := hS
        exact (ne_of_none z hpt).symm
      have hq1 := (Keep.same s1).seq hq
      have hS1 := hS.sm s1
      walk_at "nx"
      walk_at "rd"
      refine ⟨qa, _, rfl, hq1, fun z => absurd (((sIx1 qxs.length).symm.trans z.1)) (by decide), fun _ p9 hp9 => ?_⟩
      rw [cut_fromV (by decide)]
      have s2 := s1.trans (same_new (o := .tup qxs) hp9)
      have s12 := same_new (o := .tup qxs) hp9
      have e2 : (upd H1 p9 (.tup qxs)) p9 = some (.tup qxs) := upd_same
      rw [show List.drop (Int.toNat 1) (V.str (trh T0) :: qxs) = qxs from rfl]
      generalize upd H1 p9 (.tup qxs) = H2 at s2 s12 e2 ⊢
      have e3 := s12 _ _ e1
      have hS2 := hS1.sm s12
      have hp9a : p9 ≠ a := fun z => by
        obtain ⟨d, e, c, z2⟩ := hS2
        rw [z, z2] at e2
        cases e2
      have hp9t : p9 ≠ pt := fun z => by rw [z, e3] at e2; cases e2
      have hdk : ∀ y ∈ kids T0, dep y ≤ n ∧ Ex.inn y ≤ 20 := fun y hy => by
        cases T0 with
        | sg c => cases hy
        | «at» c => cases hy
        | st z =>
          have : y = z := by simpa [kids] using hy
          rw [this]
          have : dep z + 1 ≤ n + 1 := hd
          have : Ex.inn z + 1 ≤ 20 := hin
          omega
        | op o l r =>
          have hd : max (dep l) (dep r) + 1 ≤ n + 1 := hd
          have hin : Ex.inn l + Ex.inn r + 1 ≤ 20 := hin
          have : y = l ∨ y = r := by simpa [kids] using hy
          rcases this with rfl | rfl <;> omega
      refine ⟨p9, rfl, ⟨_, SqT.of e2⟩, ?_⟩
      refine for_tupR (K := K) (a := p9) (xs := qxs) (l := kids T0) (Rel := fun H v t => Tp K H v (trD t)) hkl
        (fun pre σ H3 => ∃ (acc : List V) (v3 v5 : Option V), σ = [some (.ref a), some (.ref qa), some (.str (trh T0)), v3, some (.ref pt), v5] ∧ H3 pt = some (.lst acc) ∧ Items Brt H3 acc pre ∧ But a H H3 ∧ Keep H2 H3 ∧ Src H3 a ∧ H3 p9 = some (.tup qxs)) ⟨[], _, _, rfl, e3, Items.nil, But.same s2, Keep.refl _, hS2, e2⟩
        (fun pre σ H3 ⟨_, _, _, _, _, _, _, k3, _, e9⟩ => ⟨SqT.of e9, fun i x y h1 h2 => ?_⟩) ?_ ?_
      · obtain ⟨d, hd9, ht9⟩ := hk3.getV h1
        rw [List.getElem?_map, h2] at hd9
        have hd9 : trD y = d := Option.some.inj hd9
        rw [hd9]
        exact ht9.keep ((Keep.same s2).trans k3)
      · rintro pre y post x σ H3 ee hx htp ⟨acc, v3, v5, rfl, h3, it3, b3, k3, hS3, e9⟩
        have hym : y ∈ kids T0 := by rw [ee]; simp
        obtain ⟨hyd, hyi⟩ := hdk y hym
        have hyo := ok_kids hok hym
        have hpl : pre.length ≤ 2 := by
          have := congrArg List.length ee
          simp at this
          omega
        have hal : acc.length < sizeLine := by have := it3.1; exact Nat.lt_of_le_of_lt (m := 10) (by omega) (by decide)
        obtain ⟨w1, w2, w3⟩ := Ex.wt_wtx hlow hyo
        have fin : ∀ (u : List Nat) (H5 : Hp) (v5 : Option V), (Idl y u ∨ u = wtx y) → Src H5 a → But a H3 H5 → Keep H3 H5 → ∃ (acc' : List V) (v3' v5' : Option V), [some (V.ref a), some (.ref qa), some (.str (trh T0)), v3, some (.ref pt), v5] = [some (.ref a), some (.ref qa), some (.str (trh T0)), v3', some (.ref pt), v5'] ∧ (upd H5 pt (.lst (acc ++ [.str (S (wrapT true u))]))) pt = some (.lst acc') ∧ Items Brt (upd H5 pt (.lst (acc ++ [.str (S (wrapT true u))]))) acc' (pre ++ [y]) ∧ But a H (upd H5 pt (.lst (acc ++ [.str (S (wrapT true u))]))) ∧ Keep H2 (upd H5 pt (.lst (acc ++ [.str (S (wrapT true u))]))) ∧ Src (upd H5 pt (.lst (acc ++ [.str (S (wrapT true u))]))) a ∧ (upd H5 pt (.lst (acc ++ [.str (S (wrapT true u))]))) p9 = some (.tup qxs) := by
          intro u H5 v5 hu hS5 b5 k5
          have h5 := b5 _ _ hpa h3
          refine ⟨_, v3, v5, rfl, upd_same, it3.snoc (fun _ _ h => h) ⟨u, rfl, hu⟩, (b3.trans b5).mut hpt, (k3.trans k5).trans (Keep.upL h5), ?_, by rw [upd_ne hp9t]; exact b5 _ _ hp9a e9⟩
          obtain ⟨d, e, c, z⟩ := hS5
          exact ⟨d, e, c, by rw [upd_ne hpa.symm]; exact z⟩
        walk_at "nx"
        refine if_JG (fun _ H4 => But a H3 H4 ∧ Keep H3 H4 ∧ Src H4 a) (fun Q' hQ => ?_) (fun bb H4 hv => ?_)
        · walk_at "rd"
          refine ⟨a, _, rfl, hS3, by decide, by decide, fun r H4 r0 r1 hS4 b4 => ?_⟩
          walk_at "rd"
          exact hQ _ _ ⟨b4, Keep.but b4 hS3, hS4⟩
        obtain ⟨b4, k4, hS4⟩ := hv
        have h4 := b4 _ _ hpa h3
        have e40 : (Str.ofString "(").length = 1 := rfl
        have e41 : (Str.ofString ")").length = 1 := rfl
        cases bb with
        | true =>
          rw [if_pos rfl]
          walk_at "rd"
          refine ⟨.inl ⟨rfl, _, SqL.of h4⟩, ?_⟩
          walk_at "rd"
          refine ⟨a, x, y, rfl, hS4, htp.keep k4, hyd, ⟨sg, hlow, hyo⟩, hyi, fun u H5 hi hS5 b5 k5 => ?_⟩
          obtain ⟨_, _, _, hul⟩ := Ex.idl_read hlow hyo hi
          have hSu := S_len u
          have e40u : (Str.ofString "(" ++ S u).length = u.length + 1 := by rw [PySem.Str.length_append]; omega
          refine ⟨_, _, rfl, rfl, by omega, ?_⟩
          refine ⟨_, _, rfl, rfl, by omega, ?_⟩
          rw [S_wrap]
          refine tNil_mk ?_
          refine ⟨pt, _, _, rfl, rfl, b5 _ _ hpa h4, hal, ?_⟩
          exact fin u H5 (some x) (.inl hi) hS5 (b4.trans b5) (k4.trans k5)
        | false =>
          rw [if_neg Bool.false_ne_true]
          walk_at "rd"
          refine ⟨.inl ⟨rfl, _, SqL.of h4⟩, ?_⟩
          walk_at "rd"
          refine ⟨x, y, rfl, htp.keep k4, by omega, ⟨sg, hlow, hyo⟩, by omega, fun p5 H5 s5 sq5 => ?_⟩
          refine ⟨p5, _, _, .str (S (wtx y)), rfl, rfl, sq5, atI_at (Int.le_refl 0) rfl, ?_⟩
          have hSu := S_len (wtx y)
          have e40u : (Str.ofString "(" ++ S (wtx y)).length = (wtx y).length + 1 := by rw [PySem.Str.length_append]; omega
          refine ⟨_, _, rfl, rfl, by omega, ?_⟩
          refine ⟨_, _, rfl, rfl, by omega, ?_⟩
          rw [S_wrap]
          refine tNil_mk ?_
          refine ⟨pt, _, _, rfl, rfl, s5 _ _ h4, hal, ?_⟩
          exact fin (wtx y) H5 (some x) (.inr rfl) (hS4.sm s5) (b4.trans (But.same s5)) (k4.trans (Keep.same s5))
      · rintro σ H3 ⟨acc, v3, v5, rfl, h3, it3, b3, k3, hS3, e9⟩
        have hsl : (2000 : Nat) ≤ sizeLine := by decide
        have lens : ∀ (y : Tr) (u : List Nat), y ∈ kids T0 → (Idl y u ∨ u = wtx y) → u.length ≤ 200 := by
          intro y u hy hu
          have h1 := (hdk y hy).2
          have h2 := ok_kids hok hy
          rcases hu with hu | rfl
          · obtain ⟨p, _, _, hl⟩ := Ex.idl_read hlow h2 hu
            omega
          · have := (Ex.wt_wtx hlow h2).2.2
            omega
        walk_at "nx"
        cases T0 with
        | sg c => cases hkT
        | «at» c => cases hkT
        | st z =>
          obtain ⟨x1, hx1, u, rfl, hu⟩ := it3.get (i := 0) (y := z) rfl
          have hl := lens z u (by simp [kids]) hu
          have hSu := S_len (wrapT true u)
          have hwl := len_wrap u
          have e42 : (Str.ofString "*").length = 1 := rfl
          refine if_K true (fun Q' hQ => ?_) (fun _ => ?_) (fun z => by cases z)
          · walk_at "rd"
            exact hQ
          · walk_at "rd"
            refine ⟨pt, _, _, _, rfl, rfl, SqL.of h3, atI_at (Int.le_refl 0) hx1, ?_⟩
            walk_at "rd"
            rw [show Str.ofString "*" = S [42] from rfl, S_cat]
            exact kk _ H3 ⟨u, hu, rfl⟩ hS3 b3 ((Keep.same s2).trans k3)
        | op o l r =>
          obtain ⟨x1, hx1, u, rfl, hu⟩ := it3.get (i := 0) (y := l) rfl
          obtain ⟨x2, hx2, v, rfl, hv⟩ := it3.get (i := 1) (y := r) rfl
          have hl := lens l u (by simp [kids]) hu
          have hl2 := lens r v (by simp [kids]) hv
          have hSu := S_len (wrapT true u)
          have hSv := S_len (wrapT true v)
          have hwl := len_wrap u
          have hwv := len_wrap v
          refine if_K false (fun Q' hQ => ?_) (fun z => by cases z) (fun _ => ?_)
          · walk_at "rd"
            rw [show decide (V.str (trh (.op o l r)) = V.str (Str.ofString "*")) = false by cases o <;> rfl]
            exact hQ
          · walk_at "rd"
            refine ⟨pt, _, _, _, rfl, rfl, SqL.of h3, atI_at (Int.le_refl 0) hx1, ?_⟩
            walk_at "rd"
            have last : ∀ w9 : List Nat, w9 = o.tx → (S (wrapT true u) ++ S w9).length + (S (wrapT true v)).length ≤ sizeLine ∧ Q (.str (S (wrapT true u) ++ S w9 ++ S (wrapT true v))) H3 := by
              rintro w9 rfl
              have : o.tx.length ≤ 2 := by cases o <;> decide
              refine ⟨by rw [PySem.Str.length_append, S_len o.tx]; omega, ?_⟩
              rw [S_cat, S_cat, List.append_assoc]
              exact kk _ H3 ⟨u, v, hu, hv, rfl⟩ hS3 b3 ((Keep.same s2).trans k3)
            rw [show decide (V.str (trh (.op o l r)) = V.str (Str.ofString "row")) = decide (o = .row) by cases o <;> rfl]
            by_cases ho : o = .row
            · rw [decide_eq_true ho]
              refine iteT ?_
              have e0 : (Str.ofString "").length = 0 := rfl
              walk_at "rd"
              refine ⟨pt, _, _, _, rfl, rfl, SqL.of h3, atI_at (by decide) hx2, ?_⟩
              exact ⟨_, _, rfl, rfl, last [] (by rw [ho]; rfl)⟩
            · rw [decide_eq_false ho]
              have et : opS o = S o.tx := by cases o <;> first | rfl | exact absurd rfl ho
              have elo := S_len o.tx
              have : o.tx.length ≤ 2 := by cases o <;> decide
              refine iteF ?_
              walk_at "rd"
              refine ⟨by show _ + (opS o).length ≤ _; rw [et]; omega, ?_⟩
              walk_at "rd"
              refine ⟨pt, _, _, _, rfl, rfl, SqL.of h3, atI_at (by decide) hx2, ?_⟩
              rw [show trh (.op o l r) = S o.tx from et]
              exact ⟨_, _, rfl, rfl, last _ rfl⟩
theorem c__law_idleN (T : Txt K mg) : ∀ n, n ≤ 22 → Cal P w K mg base CX0 (n + 24) "_law_idle" (spId K n)
  | 0, _ => Cal.mk0 T.d__law_idle sc__law_idle (fun vs H Q E h => by obtain ⟨a, v, T0, rfl, _⟩ := h; rfl) (fun f cdv A outer s H vs Q E hr h => by
      obtain ⟨a, v, T0, _, _, _, z, _⟩ := h
      have := Ex.dep_pos T0
      omega)
  | n + 1, h => idStep T n (by omega) (c__law_idleN T n (by omega))
theorem c__law_idle (T : Txt K mg) : Cal P w K mg base CX0 29 "_law_idle" (spId K 5) := c__law_idleN T 5 (by omega)
end
end Sh
set_option Elab.async false
set_option linter.all false
set_option maxRecDepth 100000
set_option maxHeartbeats 4000000
namespace Sh
open PySem PySem.Spec PyProof.Rows L2
open SX (S S_inj S_len S_cat)
open Ex (Fs Op Tr Wd dep wtx trank wrapT rp kids Idl)
local macro_rules | `(tactic| walk_at "nx") => `(tactic| repeat (with_reducible first | refine Sh.gn_mk ?_ | refine Sh.nx_mk ?_ | refine Sh.st_nx ?_ | refine Sh.rt_mk ?_ | refine Sh.ct_mk ?_ | refine Sh.bk_mk ?_))
local macro_rules | `(tactic| walk_at "sq") => `(tactic| first | exact SqL.of upd_same | exact SqT.of upd_same | exact SqL.of (by assumption) | exact SqT.of (by assumption) | assumption | exact Or.inl (SqL.of (by assumption)) | exact Or.inr (SqT.of (by assumption)) | exact Or.inl (by assumption) | exact Or.inr (by assumption))
local macro_rules | `(tactic| walk_at "hp") => `(tactic| first | exact upd_same | assumption)
local macro_rules | `(tactic| walk_at "sz") => `(tactic| first | exact Nat.le_of_ble_eq_true rfl | omega)
local macro_rules | `(tactic| walk_at "sd") => `(tactic| first | omega | exact rfl | assumption | (show (0 : Int) < _; omega) | exact And.intro (by omega) (by omega) | exact Or.inl (And.intro (by omega) (by omega)) | exact Or.inr (And.intro (by omega) (by omega)) | omega | exact Sh.sz_S (by omega) | decide)
local macro_rules | `(tactic| walk_at "rd1") => `(tactic| first
  | (with_reducible first | refine Sh.gn_mk ?_ | refine Sh.nx_mk ?_ | refine Sh.st_nx ?_ | refine Sh.rt_mk ?_ | refine Sh.ct_mk ?_ | refine Sh.bk_mk ?_)
  | refine Exists.intro (α := V) _ (And.intro rfl ?_)
  | refine Exists.intro (α := Bool) _ (And.intro rfl ?_)
  | refine Exists.intro (α := Int) _ (And.intro rfl ?_)
  | refine Exists.intro (α := PySem.Str) _ (And.intro rfl ?_)
  | refine Exists.intro (α := Int) _ (Exists.intro (α := Int) _ (And.intro rfl (And.intro rfl ?_)))
  | refine Exists.intro (α := PySem.Str) _ (Exists.intro (α := PySem.Str) _ (And.intro rfl (And.intro rfl ?_)))
  | refine Exists.intro (α := Int) _ (Exists.intro (α := Int) _ (And.intro rfl ?_))
  | refine Or.inl (Exists.intro (α := Int) _ (And.intro rfl ?_))
  | refine Exists.intro _ (Exists.intro _ (Exists.intro _ (Exists.intro _ (And.intro rfl (And.intro rfl (And.intro (by walk_at "sq") (And.intro rfl ?_)))))))
  | refine Exists.intro _ (Exists.intro _ (Exists.intro _ (Exists.intro _ (And.intro rfl (And.intro rfl (And.intro (by walk_at "hp") (And.intro rfl ?_)))))))
  | refine And.intro (by walk_at "sd") ?_
  )
local macro_rules | `(tactic| walk_at "rd") => `(tactic| repeat walk_at "rd1")
local macro_rules | `(tactic| walk_at "lk") => `(tactic| first | exact rfl | (rw [lookup_putF, if_pos rfl]) | (rw [lookup_putF, if_neg (by decide +kernel)]; walk_at "lk"))

theorem atI_S {z : List Nat} {r : Int} (h0 : 0 ≤ r) (h1 : r < (z.length : Nat)) : ∃ c, atI z r = some c ∧ c ∈ z := by
  have hr : r.toNat < z.length := by omega
  exact ⟨z[r.toNat], atI_at h0 (by simp [hr]), List.getElem_mem hr⟩
section
variable {P : Program} {w : World} {K : PySem.W.Frag} {mg : Str → Option Value} {base : Heap} {C0 XE FE DI XM FM XT FT DT XS XB BS AT RK : Addr}
def spTl (K : PySem.W.Frag) : Sp := fun vs H Q _ => ∃ (a : Addr) (sg : List Nat) (n : Nat), vs = [.ref a, .str (S sg), .int (n : Nat)] ∧ Src H a ∧ 0 < sg.length ∧ sg.length ≤ 1000 ∧ 1 ≤ n ∧ n ≤ 30 ∧
  ∀ v T H', Src H' a → But a H H' → Keep H H' → Tp K H' v (trD T) → dep T = n → Ex.inn T + 1 = n → Ex.Ok sg T → Q v H'
theorem c__law_tall (T : Txt K mg) : Cal P w K mg base CX0 2 "_law_tall" (spTl K) := by
  have c__law_pick := c__law_pick (P := P) (w := w) (base := base) T
  refine Cal.mk0 T.d__law_tall sc__law_tall (fun vs H Q E h => ?_) (fun f cdv A outer s H vs Q E hr h => ?_)
  · obtain ⟨a, sg, n, rfl, _⟩ := h
    rfl
  · obtain ⟨a, sg, n, rfl, hS, hs0, hs1, hn1, hn30, kk⟩ := h
    have hSl := S_len sg
    obtain ⟨c0, hc0⟩ : ∃ c, sg[0]? = some c := ⟨sg[0], by simp [hs0]⟩
    refine ⟨_, (pss_cons (ps_set (i := 3) sc__law_tall.nd rfl (Or.inl rfl) (pe_tup (pa_cons pe_str (pa_cons (pe_ix ix_str (pv 1) pe_int (fun _ _ => rfl)) pa_nil))))
  (pss_cons (ps_for PassesOwn.never rfl (pi_range1 (by rfl) T.b_range (pa_cons (pe_op op_sub (pv 2) pe_int) pa_nil)) (pg_name (i := 4) sc__law_tall.nd rfl (Or.inl rfl))
    (pss_cons (ps_set (i := 5) sc__law_tall.nd rfl (Or.inl rfl) (pe_ix ix_list (pe_lst (pa_cons pe_str (pa_cons pe_str (pa_cons pe_str (pa_cons pe_str (pa_cons pe_str pa_nil)))))) (pe_c c__law_pick hr (by decide) rfl (pa_cons (pv 0) (pa_cons pe_int pa_nil))) (fun _ _ => rfl)))
    (pss_cons (ps_set (i := 6) sc__law_tall.nd rfl (Or.inl rfl) (pe_tup (pa_cons pe_str (pa_cons (pe_ix ix_str (pv 1) (pe_c c__law_pick hr (by decide) rfl (pa_cons (pv 0) (pa_cons (pe_callB call_len_str (by rfl) T.b_len (by decide +kernel) (pa_cons (pv 1) pa_nil)) pa_nil))) (fun _ _ => rfl)) pa_nil))))
    (pss_one (ps_if (pt_cmpR op_eq (pv 5) pe_str (nomark _))
      (pss_one (ps_set (i := 3) sc__law_tall.nd rfl (Or.inl rfl) (pe_tup (pa_cons pe_str (pa_cons (pv 3) pa_nil)))))
      (pss_one (ps_set (i := 3) sc__law_tall.nd rfl (Or.inl rfl) (pe_ifExp (pt_cmpR op_eq (pe_c c__law_pick hr (by decide) rfl (pa_cons (pv 0) (pa_cons pe_int pa_nil))) pe_int (nomark _)) (pe_tup (pa_cons (pv 5) (pa_cons (pv 3) (pa_cons (pv 6) pa_nil)))) (pe_tup (pa_cons (pv 5) (pa_cons (pv 6) (pa_cons (pv 3) pa_nil))))))))))))
  (pss_one (ps_ret (pv 3))))), ?_⟩
    walk_at "nx"
    walk_at "rd"
    refine ⟨_, _, c0, rfl, rfl, sz_S (t := sg) (by omega), atI_at (Int.le_refl 0) hc0, ?_⟩
    walk_at "rd"
    refine ⟨by walk_at "sz", fun q1 hq1 => ?_⟩
    have t1 := same_new (o := .tup [.str (Str.ofString "sign"), .str ⟨#[c0]⟩]) hq1
    have e1 : (upd H q1 (.tup [.str (Str.ofString "sign"), .str ⟨#[c0]⟩])) q1 = some (.tup [.str (Str.ofString "sign"), .str ⟨#[c0]⟩]) := upd_same
    generalize upd H q1 (.tup [.str (Str.ofString "sign"), .str ⟨#[c0]⟩]) = H1 at t1 e1 ⊢
    walk_at "nx"
    walk_at "rd"
    refine for_range (lo := 0) (n := (((n : Nat) : Int) - 1).toNat) (fun i σ H3 => ∃ (v : V) (T0 : Tr) (v4 v5 v6 : Option V), σ = [some (.ref a), some (.str (S sg)), some (.int (n : Nat)), some v, v4, v5, v6] ∧ Src H3 a ∧ But a H H3 ∧ Keep H H3 ∧ Tp K H3 v (trD T0) ∧ dep T0 = i + 1 ∧ Ex.inn T0 = i ∧ Ex.Ok sg T0)
      ⟨.ref q1, .sg c0, _, _, _, rfl, hS.sm t1, But.same t1, Keep.same t1, .tup (SqT.of e1) (.cons (.str _) (.cons (.str _) .nil)), rfl, rfl, List.mem_of_getElem? hc0⟩ ?_ ?_
    · rintro i σ H3 hi ⟨v, T0, v4, v5, v6, rfl, hS3, b3, k3, tp, hd, hin, hok⟩
      walk_at "nx"
      walk_at "rd"
      refine fun p7 hp7 => ?_
      have s7 := same_new (o := .lst [.str (Str.ofString "row"), .str (Str.ofString ">"), .str (Str.ofString "*"), .str (Str.ofString "|"), .str (Str.ofString "-")]) hp7
      have e7 : (upd H3 p7 (.lst [.str (Str.ofString "row"), .str (Str.ofString ">"), .str (Str.ofString "*"), .str (Str.ofString "|"), .str (Str.ofString "-")])) p7 = some (.lst [.str (Str.ofString "row"), .str (Str.ofString ">"), .str (Str.ofString "*"), .str (Str.ofString "|"), .str (Str.ofString "-")]) := upd_same
      generalize upd H3 p7 _ = H4 at s7 e7 ⊢
      have hnp : p7 ≠ a := by
        obtain ⟨d, e, c, z⟩ := hS3
        exact (ne_of_none z hp7).symm
      walk_at "rd"
      refine ⟨a, _, rfl, hS3.sm s7, by decide, by decide, fun r H5 r0 r1 hS5 b5 => ?_⟩
      have k5 : Keep H3 H5 := (Keep.same s7).trans (Keep.but b5 (hS3.sm s7))
      have b35 : But a H3 H5 := (But.same s7).trans b5
      obtain ⟨wd, hwd, hcs⟩ : ∃ wd : Str, atI ([.str (Str.ofString "row"), .str (Str.ofString ">"), .str (Str.ofString "*"), .str (Str.ofString "|"), .str (Str.ofString "-")] : List V) r = some (.str wd) ∧ (wd = Str.ofString "*" ∨ ∃ o, wd = opS o) := by
        rcases (by omega : r = 0 ∨ r = 1 ∨ r = 2 ∨ r = 3 ∨ r = 4) with rfl | rfl | rfl | rfl | rfl
        · exact ⟨_, rfl, .inr ⟨.row, rfl⟩⟩
        · exact ⟨_, rfl, .inr ⟨.gt, rfl⟩⟩
        · exact ⟨_, rfl, .inl rfl⟩
        · exact ⟨_, rfl, .inr ⟨.or, rfl⟩⟩
        · exact ⟨_, rfl, .inr ⟨.sub, rfl⟩⟩
      refine ⟨p7, _, _, .str wd, rfl, rfl, SqL.of (b5 _ _ hnp e7), hwd, ?_⟩
      walk_at "nx"
      walk_at "rd"
      refine ⟨a, _, rfl, hS5, by omega, by omega, fun r2 H6 r20 r21 hS6 b6 => ?_⟩
      obtain ⟨c, hc, hcm⟩ := atI_S (z := sg) r20 (by omega)
      refine ⟨_, r2, c, rfl, rfl, sz_S (t := sg) (by omega), hc, ?_⟩
      walk_at "rd"
      refine ⟨by walk_at "sz", fun q9 hq9 => ?_⟩
      have t9 := same_new (o := .tup [.str (Str.ofString "sign"), .str ⟨#[c]⟩]) hq9
      have e9 : (upd H6 q9 (.tup [.str (Str.ofString "sign"), .str ⟨#[c]⟩])) q9 = some (.tup [.str (Str.ofString "sign"), .str ⟨#[c]⟩]) := upd_same
      generalize upd H6 q9 (.tup [.str (Str.ofString "sign"), .str ⟨#[c]⟩]) = H7 at t9 e9 ⊢
      have hS7 := hS6.sm t9
      have b7 : But a H H7 := ((b3.trans b35).trans b6).trans (But.same t9)
      have k7 : Keep H3 H7 := (k5.trans (Keep.but b6 hS5)).trans (Keep.same t9)
      have tp7 := tp.keep k7
      have ta : Tp K H7 (.ref q9) (trD (.sg c)) := .tup (SqT.of e9) (.cons (.str _) (.cons (.str _) .nil))
      walk_at "nx"
      rcases hcs with rfl | ⟨o, rfl⟩
      · refine if_K true (fun Q' hQ => ?_) (fun _ => ?_) (fun z => by cases z)
        · walk_at "rd"
          exact hQ
        · walk_at "rd"
          refine ⟨by walk_at "sz", fun q8 hq8 => ?_⟩
          have t8 := same_new (o := .tup [.str (Str.ofString "*"), v]) hq8
          exact ⟨.ref q8, .st T0, _, _, _, rfl, hS7.sm t8, b7.trans (But.same t8), (k3.trans k7).trans (Keep.same t8), .tup (SqT.of upd_same) (.cons (.str _) (.cons (tp7.keep (Keep.same t8)) .nil)), by show dep T0 + 1 = _; omega, by show Ex.inn T0 + 1 = _; omega, hok⟩
      · refine if_K false (fun Q' hQ => ?_) (fun z => by cases z) (fun _ => ?_)
        · walk_at "rd"
          rw [show decide (V.str (opS o) = V.str (Str.ofString "*")) = false by cases o <;> rfl]
          exact hQ
        · walk_at "rd"
          refine ⟨a, _, rfl, hS7, by decide, by decide, fun r4 H8 r40 r41 hS8 b8 => ?_⟩
          have k8 := Keep.but b8 hS7
          walk_at "rd"
          refine ite2 (fun m => ?_) (fun m => ?_)
          · walk_at "rd"
            refine ⟨by walk_at "sz", fun q8 hq8 => ?_⟩
            have t8 := same_new (o := .tup [.str (opS o), v, .ref q9]) hq8
            exact ⟨.ref q8, .op o T0 (.sg c), _, _, _, rfl, hS8.sm t8, (b7.trans b8).trans (But.same t8), ((k3.trans k7).trans k8).trans (Keep.same t8), .tup (SqT.of upd_same) (.cons (.str _) (.cons (tp7.keep (k8.trans (Keep.same t8))) (.cons (ta.keep (k8.trans (Keep.same t8))) .nil))), by show max (dep T0) 1 + 1 = _; omega, by show Ex.inn T0 + 0 + 1 = _; omega, ⟨hok, hcm⟩⟩
          · walk_at "rd"
            refine ⟨by walk_at "sz", fun q8 hq8 => ?_⟩
            have t8 := same_new (o := .tup [.str (opS o), .ref q9, v]) hq8
            exact ⟨.ref q8, .op o (.sg c) T0, _, _, _, rfl, hS8.sm t8, (b7.trans b8).trans (But.same t8), ((k3.trans k7).trans k8).trans (Keep.same t8), .tup (SqT.of upd_same) (.cons (.str _) (.cons (ta.keep (k8.trans (Keep.same t8))) (.cons (tp7.keep (k8.trans (Keep.same t8))) .nil))), by show max 1 (dep T0) + 1 = _; omega, by show 0 + Ex.inn T0 + 1 = _; omega, ⟨hcm, hok⟩⟩
    · rintro σ H3 ⟨v, T0, v4, v5, v6, rfl, hS3, b3, k3, tp, hd, hin, hok⟩
      walk_at "rd"
      exact kk v T0 H3 hS3 b3 k3 tp (by omega) (by omega) hok
end
end Sh
set_option Elab.async false
set_option linter.all false
set_option maxRecDepth 100000
set_option maxHeartbeats 4000000
namespace Sh
open PySem PySem.Spec PyProof.Rows L2
open SX (S S_inj S_len S_cat)
open Ex (Fs Op Tr Wd dep wtx trank wrapT rp kids Idl nod)
section
variable {P : Program} {w : World} {K : PySem.W.Frag} {mg : Str → Option Value} {base : Heap} {C0 XE FE DI XM FM XT FT DT XS XB BS AT RK : Addr}
theorem ix_tupT {X : Cx} {pn : List (Addr × Obj)} {xe : Value → Shared → Prop} : IxR (X.tr pn xe) (rIxT X.K) := ix_tup
theorem But.toSame {p : Addr} {H H' : Hp} (b : But p H H') (n : H p = none) : Same H H' := fun c o e => b c o (ne_of_none e n) e
theorem ne_refl {z : Str} {H : Hp} {Q : VK} (q : Q (.bl false) H) : rNe (.str z) (.str z) H Q := ⟨rfl, by rw [decide_eq_true rfl]; exact q⟩
theorem ne_yes {y z : Str} {H : Hp} {Q : VK} (h : y ≠ z) (q : Q (.bl true) H) : rNe (.str y) (.str z) H Q := ⟨rfl, by rw [decide_eq_false (fun e => h (V.str.inj e))]; exact q⟩
theorem eq_no {y z : Str} {H : Hp} {Q : VK} (h : y ≠ z) (q : Q (.bl false) H) : rEq (.str y) (.str z) H Q := ⟨rfl, by rw [decide_eq_false (fun e => h (V.str.inj e))]; exact q⟩
def trI : Tr → List PyData
  | .sg c => [.str "sign", .str (S [c])]
  | .at c => [.str (S [c])]
  | .st x => [.str "*", trD x]
  | .op o l r => [.str (opS o), trD l, trD r]
theorem trD_I (T : Tr) : trD T = .tuple (trI T) := by cases T <;> rfl
def okN (T : Tr) (n : Nat) : Option Tr := if dep T ≤ n then some T else none
theorem tr_ckA {H : Hp} {sg : List Nat} : ∀ {T : Tr} {n : Nat} {a : Addr} {xs : List V}, SqA K H a xs → TpAll K H xs (trI T) → Ex.Ok sg T → Ckd K RK H sg n (.ref a) (okN T n) := by
  intro T
  induction T with
  | sg c =>
    intro n a xs h ht hok
    cases n with
    | zero => exact .zero _
    | succ n =>
      rw [show okN (.sg c) (n + 1) = some (.sg c) from if_pos (show 1 ≤ n + 1 by omega)]
      cases ht with
      | cons h1 h2 => cases h2 with
        | cons h3 h4 =>
          cases h4
          cases h1
          cases h3
          exact .sign n a c h hok
  | «at» c =>
    intro n a xs h ht hok
    cases n with
    | zero => exact .zero _
    | succ n =>
      rw [show okN (.at c) (n + 1) = some (.at c) from if_pos (show 1 ≤ n + 1 by omega)]
      cases ht with
      | cons h1 h2 =>
        cases h2
        cases h1
        exact .atom n a c h hok
  | st x ih =>
    intro n a xs h ht hok
    cases n with
    | zero => exact .zero _
    | succ n =>
      cases ht with
      | cons h1 h2 => cases h2 with
        | cons h3 h4 =>
          cases h4
          cases h1
          rw [trD_I] at h3
          obtain ⟨b, ys, rfl, hq, hy⟩ := h3.inv
          have := Ckd.star n a (.ref b) _ h (ih (n := n) (.inr hq) hy hok)
          have e : okN (.st x) (n + 1) = (okN x n).map .st := by
            unfold okN
            by_cases q : dep x ≤ n
            · rw [if_pos q, if_pos (show dep (.st x) ≤ n + 1 from Nat.succ_le_succ q)]; rfl
            · rw [if_neg q, if_neg (show ¬ dep (.st x) ≤ n + 1 from fun z => q (Nat.le_of_succ_le_succ z))]; rfl
          rw [e]
          exact this
  | op o l r ihl ihr =>
    intro n a xs h ht hok
    cases n with
    | zero => exact .zero _
    | succ n =>
      cases ht with
      | cons h1 h2 => cases h2 with
        | cons h3 h4 => cases h4 with
          | cons h5 h6 =>
            cases h6
            cases h1
            rw [trD_I] at h3 h5
            obtain ⟨b, ys, rfl, hq, hy⟩ := h3.inv
            obtain ⟨b2, ys2, rfl, hq2, hy2⟩ := h5.inv
            have k1 := ihl (n := n) (.inr hq) hy hok.1
            have k2 := ihr (n := n) (.inr hq2) hy2 hok.2
            have hd : dep (.op o l r) = max (dep l) (dep r) + 1 := rfl
            by_cases q : dep l ≤ n
            · rw [show okN l n = some l from if_pos q] at k1
              have := Ckd.op2 n a o _ _ l _ h k1 k2
              have e : okN (.op o l r) (n + 1) = (okN r n).map (.op o l) := by
                unfold okN
                by_cases q2 : dep r ≤ n
                · rw [if_pos q2, if_pos (by omega)]; rfl
                · rw [if_neg q2, if_neg (by omega)]; rfl
              rw [e]
              exact this
            · rw [show okN l n = none from if_neg q] at k1
              rw [show okN (.op o l r) (n + 1) = none from if_neg (by omega)]
              exact .op1 n a o _ _ h k1
theorem tr_ck {H : Hp} {sg : List Nat} {T : Tr} {v : V} (h : Tp K H v (trD T)) (hok : Ex.Ok sg T) (n : Nat) : Ckd K RK H sg n v (okN T n) := by
  rw [trD_I] at h
  obtain ⟨b, ys, rfl, hq, hy⟩ := h.inv
  exact tr_ckA (.inr hq) hy hok
/-- how a tree is shown -/
theorem opl8_len (o : Op) : (Ex.opl8 o).length ≤ 3 := by cases o <;> decide
theorem rp_len : ∀ T : Tr, (rp T).length ≤ 14 * nod T
  | .sg c => by show 13 ≤ 14 * 1; omega
  | .at c => by show 6 ≤ 14 * 1; omega
  | .st x => by
    have := rp_len x
    show (40 :: 39 :: ([42] ++ 39 :: 44 :: 32 :: (rp x ++ [41]))).length ≤ 14 * (nod x + 1)
    simp
    omega
  | .op o l r => by
    have := rp_len l
    have := rp_len r
    have := opl8_len o
    show (40 :: 39 :: (Ex.opl8 o ++ 39 :: 44 :: 32 :: (rp l ++ 44 :: 32 :: (rp r ++ [41])))).length ≤ 14 * (nod l + nod r + 1)
    simp
    omega
theorem tr_show : ∀ T : Tr, (trD T).showable = true ∧ (trD T).hasDict = false ∧ PyData.depth (trD T) ≤ dep T
  | .sg c => ⟨rfl, rfl, by show max 0 (max 0 0) + 1 ≤ 1; decide⟩
  | .at c => ⟨rfl, rfl, by show max 0 0 + 1 ≤ 1; decide⟩
  | .st x => by
    obtain ⟨a, b, c⟩ := tr_show x
    refine ⟨?_, ?_, ?_⟩
    · show (true && ((trD x).showable && true)) = true
      rw [a]; rfl
    · show (false || ((trD x).hasDict || false)) = false
      rw [b]; rfl
    · show max 0 (max (PyData.depth (trD x)) 0) + 1 ≤ dep x + 1
      omega
  | .op o l r => by
    obtain ⟨a, b, c⟩ := tr_show l
    obtain ⟨a', b', c'⟩ := tr_show r
    refine ⟨?_, ?_, ?_⟩
    · show (true && ((trD l).showable && ((trD r).showable && true))) = true
      rw [a, a']; rfl
    · show (false || ((trD l).hasDict || ((trD r).hasDict || false))) = false
      rw [b, b']; rfl
    · show max 0 (max (PyData.depth (trD l)) (max (PyData.depth (trD r)) 0)) + 1 ≤ max (dep l) (dep r) + 1
      omega
theorem tr_shw {sg : List Nat} (hs : Low sg) {T : Tr} (h : Ex.Ok sg T) (hd : dep T ≤ 60) (hn : nod T ≤ 1000) : (trD T).showable = true ∧ (trD T).hasDict = false ∧ (trD T).depth ≤ 60 ∧ (trD T).shown.length ≤ sizeLine := by
  obtain ⟨a, b, c⟩ := tr_show T
  refine ⟨a, b, by omega, ?_⟩
  rw [shown_tr hs h, S_len]
  have := rp_len T
  exact Nat.le_trans (m := 14000) (by omega) (by decide)
theorem str_shw {u : List Nat} (h : ∀ c ∈ u, c < 1114112) (hl : u.length ≤ 1000) : (PyData.str (S u)).showable = true ∧ (PyData.str (S u)).hasDict = false ∧ (PyData.str (S u)).depth ≤ 60 ∧ (PyData.str (S u)).shown.length ≤ sizeLine :=
  (Shw.str h).ok (by decide) (by omega)
theorem wtx_low {sg : List Nat} (hs : Low sg) : ∀ {T : Tr}, Ex.Ok sg T → ∀ c ∈ wtx T, c < 1114112 := by
  have hw : ∀ (b : Bool) (t : List Nat), (∀ c ∈ t, c < 1114112) → ∀ c ∈ wrapT b t, c < 1114112 := fun b t h c hc => by
    cases b with
    | false => exact h c hc
    | true =>
      have hc : c ∈ 40 :: (t ++ [41]) := hc
      simp only [List.mem_cons, List.mem_append, List.not_mem_nil, or_false] at hc
      rcases hc with rfl | hc | rfl
      · decide
      · exact h c hc
      · decide
  intro T
  induction T with
  | sg c =>
    intro h d hd
    have : d = c := by simpa [wtx] using hd
    have := hs c h
    omega
  | «at» c =>
    intro h d hd
    have h : Ex.isAt c = true := h
    have h3 : c = 49 ∨ c = 48 ∨ c = 46 := by unfold Ex.isAt at h; simpa [or_assoc] using h
    have : d = c := by simpa [wtx] using hd
    omega
  | st x ih =>
    intro h d hd
    have hd : d ∈ wrapT _ (wtx x) ++ [42] := hd
    rcases List.mem_append.mp hd with q | q
    · exact hw _ _ (ih h) d q
    · have : d = 42 := by simpa using q
      omega
  | op o l r ihl ihr =>
    intro h d hd
    have hd : d ∈ wrapT _ (wtx l) ++ (o.tx ++ wrapT _ (wtx r)) := hd
    rcases List.mem_append.mp hd with q | q
    · exact hw _ _ (ihl h.1) d q
    · rcases List.mem_append.mp q with q | q
      · cases o <;> simp [Op.tx] at q <;> omega
      · exact hw _ _ (ihr h.2) d q
end
end Sh
set_option Elab.async false
set_option linter.all false
set_option maxRecDepth 100000
set_option maxHeartbeats 4000000
namespace Sh
open PySem PySem.Spec PyProof.Rows L2
open SX (S S_inj S_len S_cat)
open Ex (Fs Op Tr Wd dep wtx trank wrapT rp kids Idl nod)
local macro_rules | `(tactic| walk_at "nx") => `(tactic| repeat (with_reducible first | refine Sh.gn_mk ?_ | refine Sh.nx_mk ?_ | refine Sh.st_nx ?_ | refine Sh.rt_mk ?_ | refine Sh.ct_mk ?_ | refine Sh.bk_mk ?_))
local macro_rules | `(tactic| walk_at "sq") => `(tactic| first | exact SqL.of upd_same | exact SqT.of upd_same | exact SqL.of (by assumption) | exact SqT.of (by assumption) | assumption | exact Or.inl (SqL.of (by assumption)) | exact Or.inr (SqT.of (by assumption)) | exact Or.inl (by assumption) | exact Or.inr (by assumption))
local macro_rules | `(tactic| walk_at "hp") => `(tactic| first | exact upd_same | assumption)
local macro_rules | `(tactic| walk_at "sz") => `(tactic| first | exact Nat.le_of_ble_eq_true rfl | omega)
local macro_rules | `(tactic| walk_at "sd") => `(tactic| first | omega | exact rfl | assumption | (show (0 : Int) < _; omega) | exact And.intro (by omega) (by omega) | exact Or.inl (And.intro (by omega) (by omega)) | exact Or.inr (And.intro (by omega) (by omega)) | omega | exact Sh.sz_S (by omega) | decide)
local macro_rules | `(tactic| walk_at "rd1") => `(tactic| first
  | (with_reducible first | refine Sh.gn_mk ?_ | refine Sh.nx_mk ?_ | refine Sh.st_nx ?_ | refine Sh.rt_mk ?_ | refine Sh.ct_mk ?_ | refine Sh.bk_mk ?_)
  | refine Exists.intro (α := V) _ (And.intro rfl ?_)
  | refine Exists.intro (α := Bool) _ (And.intro rfl ?_)
  | refine Exists.intro (α := Int) _ (And.intro rfl ?_)
  | refine Exists.intro (α := PySem.Str) _ (And.intro rfl ?_)
  | refine Exists.intro (α := Int) _ (Exists.intro (α := Int) _ (And.intro rfl (And.intro rfl ?_)))
  | refine Exists.intro (α := PySem.Str) _ (Exists.intro (α := PySem.Str) _ (And.intro rfl (And.intro rfl ?_)))
  | refine Exists.intro (α := Int) _ (Exists.intro (α := Int) _ (And.intro rfl ?_))
  | refine Or.inl (Exists.intro (α := Int) _ (And.intro rfl ?_))
  | refine Exists.intro _ (Exists.intro _ (Exists.intro _ (Exists.intro _ (And.intro rfl (And.intro rfl (And.intro (by walk_at "sq") (And.intro rfl ?_)))))))
  | refine Exists.intro _ (Exists.intro _ (Exists.intro _ (Exists.intro _ (And.intro rfl (And.intro rfl (And.intro (by walk_at "hp") (And.intro rfl ?_)))))))
  | refine And.intro (by walk_at "sd") ?_
  )
local macro_rules | `(tactic| walk_at "rd") => `(tactic| repeat walk_at "rd1")
local macro_rules | `(tactic| walk_at "lk") => `(tactic| first | exact rfl | (rw [lookup_putF, if_pos rfl]) | (rw [lookup_putF, if_neg (by decide +kernel)]; walk_at "lk"))

section
variable {P : Program} {w : World} {K : PySem.W.Frag} {mg : Str → Option Value} {base : Heap} {C0 XE FE DI XM FM XT FT DT XS XB BS AT RK : Addr}
theorem blk_ba (T : TxtX P K mg C0 w XE FE DI XM FM XT FT DT XS XB BS AT RK) (f : Addr) (cdv : Value) (A : Around) (outer : List Env) (s : Shared) (H : Hp) (E : XK) (hr : Room 50 (A.deeper (envOfC "law" (defScope s_law) s.heap.objs.size f cdv))) (hgd : A.guards = some []) :
    ∃ t_, PSs (cxOf CX0 P w K mg base ["_law_script", "_law_source_here", "_law_signs_here", "_law_tree_here", "_law_due", "_law_listed", "_law_told", "_law_idle_here", "_law_text", "_law_pairs", "_law_less", "_law_depth", "_law_tall_here", "raised", "_law_odd", "_law_lost", "_law_k"] "law" (defScope s_law) f cdv A outer s H E).nox ((defBody s_law).drop 17) t_ ∧
    ∀ (D : Ends) (H0 : Hp) (a p : Addr) (v : V) (sg : List Nat) (od : V) (v4 v5 v6 v7 v8 v9 v10 v11 v12 v13 v15 v16 : Option V),
      (∀ H', D.rt (.bl true) H') →
      t_ D [some (.ref a), some (.ref p), some (.str (S sg)), some v, v4, v5, v6, v7, v8, v9, v10, v11, v12, v13, some od, v15, v16] H0 := by
  have c__law_source := c__law_source (P := P) (w := w) (base := base) T.toTxtC.toTxt
  have c__law_signs := c__law_signs (P := P) (w := w) (base := base) T.toTxtC.toTxt
  have c__law_tree := c__law_tree (P := P) (w := w) (base := base) T.toTxtC.toTxt
  have c_X_write := c_X_write (P := P) (w := w) (base := base) T
  have c__law_tall := c__law_tall (P := P) (w := w) (base := base) T.toTxtC.toTxt
  have c__law_written := c__law_written (P := P) (w := w) (base := base) T.toTxtC.toTxt
  have c__law_pick := c__law_pick (P := P) (w := w) (base := base) T.toTxtC.toTxt
  have c__law_without := c__law_without (P := P) (w := w) (base := base) T.toTxtC.toTxt
  have c__law_idle := c__law_idle (P := P) (w := w) (base := base) T.toTxtC.toTxt
  have c__law_refused := c__law_refused (P := P) (w := w) (base := base) T
  have c_X_parse := c_X_parse (P := P) (w := w) (base := base) T
  have c__law_first_bad := c__law_first_bad (P := P) (w := w) (base := base) T.toTxtC.toTxt
  have hgd : (A.deeper (envOfC "law" (defScope s_law) s.heap.objs.size f cdv)).guards = some [] := hgd
  have hu := hu_of hr
  refine ⟨_, (pss_one (ps_tryT rfl rfl sc_law.nd takes0 (fun W pn xe tk po => (pss_cons (ps_set (i := 15) sc_law.nd rfl (Or.inl rfl) (pe_cX c_X_write hr (by decide) tk rfl (pa_cons pe_str (pa_cons (pv 14) pa_nil))))
    (pss_one ps_never)))
    (HdsA.cons (i := 13) rfl rfl ⟨rfl, by decide, Or.inl T.e_BadSigns.mgC⟩ (fun a oe cls d pn hz hf => (pss_one (ps_ret (pe_cmpR op_eq (pe_xf T.e_BadSigns.xf T.nf_BadSigns_thing hz hf (pv 13)) pe_str (nomark _)))))
    HdsA.nil))), ?_⟩
  intro D H0 a p v sg od v4 v5 v6 v7 v8 v9 v10 v11 v12 v13 v15 v16 kD
  refine ⟨_, rfl, [98, 97], od, rfl, by decide, .inl ⟨by decide, fun d hd => ⟨true, T.mm_BadSigns_BadSigns, fun _ a0 ha0 => ?_, fun zz => (by cases zz)⟩⟩⟩
  dsimp only [outA]
  obtain ⟨z, hz⟩ : ∃ z, z = S [98, 97] := ⟨_, rfl⟩
  rw [← hz]
  walk_at "rd"
  refine ⟨d, _, _, rfl, upd_same, lk1, ?_⟩
  have e := decide_eq_true (show V.str z = V.str (Str.ofString "ba") by rw [hz]; rfl)
  generalize Str.ofString "ba" = y at e ⊢
  refine ⟨rfl, ?_⟩
  show D.rt (V.bl (decide (V.str z = V.str y))) _
  rw [e]
  exact kD _
end
end Sh
set_option Elab.async false
set_option linter.all false
set_option maxRecDepth 100000
set_option maxHeartbeats 4000000
namespace Sh
open PySem PySem.Spec PyProof.Rows L2
open SX (S S_inj S_len S_cat)
open Ex (Fs Op Tr Wd dep wtx trank wrapT rp kids Idl nod)
local macro_rules | `(tactic| walk_at "nx") => `(tactic| repeat (with_reducible first | refine Sh.gn_mk ?_ | refine Sh.nx_mk ?_ | refine Sh.st_nx ?_ | refine Sh.rt_mk ?_ | refine Sh.ct_mk ?_ | refine Sh.bk_mk ?_))
local macro_rules | `(tactic| walk_at "sq") => `(tactic| first | exact SqL.of upd_same | exact SqT.of upd_same | exact SqL.of (by assumption) | exact SqT.of (by assumption) | assumption | exact Or.inl (SqL.of (by assumption)) | exact Or.inr (SqT.of (by assumption)) | exact Or.inl (by assumption) | exact Or.inr (by assumption))
local macro_rules | `(tactic| walk_at "hp") => `(tactic| first | exact upd_same | assumption)
local macro_rules | `(tactic| walk_at "sz") => `(tactic| first | exact Nat.le_of_ble_eq_true rfl | omega)
local macro_rules | `(tactic| walk_at "sd") => `(tactic| first | omega | exact rfl | assumption | (show (0 : Int) < _; omega) | exact And.intro (by omega) (by omega) | exact Or.inl (And.intro (by omega) (by omega)) | exact Or.inr (And.intro (by omega) (by omega)) | omega | exact Sh.sz_S (by omega) | decide)
local macro_rules | `(tactic| walk_at "rd1") => `(tactic| first
  | (with_reducible first | refine Sh.gn_mk ?_ | refine Sh.nx_mk ?_ | refine Sh.st_nx ?_ | refine Sh.rt_mk ?_ | refine Sh.ct_mk ?_ | refine Sh.bk_mk ?_)
  | refine Exists.intro (α := V) _ (And.intro rfl ?_)
  | refine Exists.intro (α := Bool) _ (And.intro rfl ?_)
  | refine Exists.intro (α := Int) _ (And.intro rfl ?_)
  | refine Exists.intro (α := PySem.Str) _ (And.intro rfl ?_)
  | refine Exists.intro (α := Int) _ (Exists.intro (α := Int) _ (And.intro rfl (And.intro rfl ?_)))
  | refine Exists.intro (α := PySem.Str) _ (Exists.intro (α := PySem.Str) _ (And.intro rfl (And.intro rfl ?_)))
  | refine Exists.intro (α := Int) _ (Exists.intro (α := Int) _ (And.intro rfl ?_))
  | refine Or.inl (Exists.intro (α := Int) _ (And.intro rfl ?_))
  | refine Exists.intro _ (Exists.intro _ (Exists.intro _ (Exists.intro _ (And.intro rfl (And.intro rfl (And.intro (by walk_at "sq") (And.intro rfl ?_)))))))
  | refine Exists.intro _ (Exists.intro _ (Exists.intro _ (Exists.intro _ (And.intro rfl (And.intro rfl (And.intro (by walk_at "hp") (And.intro rfl ?_)))))))
  | refine And.intro (by walk_at "sd") ?_
  )
local macro_rules | `(tactic| walk_at "rd") => `(tactic| repeat walk_at "rd1")
local macro_rules | `(tactic| walk_at "lk") => `(tactic| first | exact rfl | (rw [lookup_putF, if_pos rfl]) | (rw [lookup_putF, if_neg (by decide +kernel)]; walk_at "lk"))

section
variable {P : Program} {w : World} {K : PySem.W.Frag} {mg : Str → Option Value} {base : Heap} {C0 XE FE DI XM FM XT FT DT XS XB BS AT RK : Addr}
theorem blk_odd (T : TxtX P K mg C0 w XE FE DI XM FM XT FT DT XS XB BS AT RK) (f : Addr) (cdv : Value) (A : Around) (outer : List Env) (s : Shared) (H : Hp) (E : XK) (hr : Room 50 (A.deeper (envOfC "law" (defScope s_law) s.heap.objs.size f cdv))) (hgd : A.guards = some []) :
    ∃ t_, PSs (cxOf CX0 P w K mg base ["_law_script", "_law_source_here", "_law_signs_here", "_law_tree_here", "_law_due", "_law_listed", "_law_told", "_law_idle_here", "_law_text", "_law_pairs", "_law_less", "_law_depth", "_law_tall_here", "raised", "_law_odd", "_law_lost", "_law_k"] "law" (defScope s_law) f cdv A outer s H E).nox ((defBody s_law).drop 15) t_ ∧
    ∀ (D : Ends) (H0 : Hp) (a p : Addr) (v : V) (sg : List Nat) (T0 : Tr) (v4 v5 v6 v7 v8 v9 v10 v11 v12 v13 v14 v15 v16 : Option V), Src H0 p → isSigns sg = true → Sgn sg → Tp K H0 v (trD T0) → Ex.Ok sg T0 → dep T0 ≤ 5 →
      (∀ H', D.rt (.bl true) H') →
      t_ D [some (.ref a), some (.ref p), some (.str (S sg)), some v, v4, v5, v6, v7, v8, v9, v10, v11, v12, v13, v14, v15, v16] H0 := by
  have c__law_source := c__law_source (P := P) (w := w) (base := base) T.toTxtC.toTxt
  have c__law_signs := c__law_signs (P := P) (w := w) (base := base) T.toTxtC.toTxt
  have c__law_tree := c__law_tree (P := P) (w := w) (base := base) T.toTxtC.toTxt
  have c_X_write := c_X_write (P := P) (w := w) (base := base) T
  have c__law_tall := c__law_tall (P := P) (w := w) (base := base) T.toTxtC.toTxt
  have c__law_written := c__law_written (P := P) (w := w) (base := base) T.toTxtC.toTxt
  have c__law_pick := c__law_pick (P := P) (w := w) (base := base) T.toTxtC.toTxt
  have c__law_without := c__law_without (P := P) (w := w) (base := base) T.toTxtC.toTxt
  have c__law_idle := c__law_idle (P := P) (w := w) (base := base) T.toTxtC.toTxt
  have c__law_refused := c__law_refused (P := P) (w := w) (base := base) T
  have c_X_parse := c_X_parse (P := P) (w := w) (base := base) T
  have c__law_first_bad := c__law_first_bad (P := P) (w := w) (base := base) T.toTxtC.toTxt
  obtain ⟨tb_ba, hb_ba, kb_ba⟩ := blk_ba (P := P) (w := w) (base := base) T f cdv A outer s H E hr hgd
  have hgd : (A.deeper (envOfC "law" (defScope s_law) s.heap.objs.size f cdv)).guards = some [] := hgd
  have hu := hu_of hr
  refine ⟨_, (pss_cons (ps_set (i := 14) sc_law.nd rfl (Or.inl rfl) (pe_ix ix_list (pe_lst (pa_cons pe_non (pa_cons pe_str (pa_cons (pe_tup pa_nil) (pa_cons (pe_tup (pa_cons pe_str pa_nil)) (pa_cons (pe_tup (pa_cons pe_str (pa_cons pe_str pa_nil))) (pa_cons (pe_tup (pa_cons pe_str (pa_cons (pe_op op_add_str (pv 2) pe_str) pa_nil))) (pa_cons (pe_tup (pa_cons pe_str (pa_cons (pv 3) pa_nil))) (pa_cons (pe_tup (pa_cons pe_str pa_nil)) (pa_cons (pe_tup (pa_cons pe_str (pa_cons (pv 3) (pa_cons (pv 3) pa_nil)))) (pa_cons (pe_tup (pa_cons pe_str (pa_cons (pv 3) pa_nil))) (pa_cons (pe_tup (pa_cons pe_str (pa_cons (pv 3) (pa_cons pe_non pa_nil)))) (pa_cons (pe_tup (pa_cons pe_str (pa_cons (pv 3) (pa_cons (pv 3) pa_nil)))) (pa_cons (pe_tup (pa_cons pe_int pa_nil)) (pa_cons (pe_tup (pa_cons pe_str (pa_cons pe_str pa_nil))) (pa_cons (pe_tup (pa_cons pe_str (pa_cons (pv 3) (pa_cons (pv 3) pa_nil)))) pa_nil)))))))))))))))) (pe_c c__law_pick hr (by decide) rfl (pa_cons (pv 1) (pa_cons pe_int pa_nil))) (fun _ _ => rfl)))
  (pss_cons (ps_if (PW.pt (pw_or (pt_not (pt_val (pe_c c__law_refused hr (by decide) rfl (pa_cons (pv 2) (pa_cons (pv 14) pa_nil))))) (pw_or1 (pt_not (pt_val (pe_c c__law_refused hr (by decide) rfl (pa_cons (pv 2) (pa_cons (pe_tup (pa_cons pe_str (pa_cons (pv 14) (pa_cons (pv 3) pa_nil)))) pa_nil))))))))
    (pss_one (ps_ret pe_bl))
    pss_nil)
  hb_ba)), ?_⟩
  intro D H0 a p v sg T0 v4 v5 v6 v7 v8 v9 v10 v11 v12 v13 v14 v15 v16 hS hsg hsn tp hok hd kD
  have hSl := S_len sg
  have hsl := hsn.len
  walk_at "nx"
  walk_at "rd"
  first
    | refine fun q1 hq1 => ?_
    | refine ⟨by walk_at "sz", fun q1 hq1 => ?_⟩
  have t1 := same_new (o := .tup []) hq1
  have e1 : (upd H0 q1 (.tup [])) q1 = some (.tup []) := upd_same
  generalize upd H0 q1 _ = F1 at t1 e1 ⊢
  walk_at "rd"
  first
    | refine fun q2 hq2 => ?_
    | refine ⟨by walk_at "sz", fun q2 hq2 => ?_⟩
  have t2 := same_new (o := .tup [.str (Str.ofString "sign")]) hq2
  have e2 : (upd F1 q2 (.tup [.str (Str.ofString "sign")])) q2 = some (.tup [.str (Str.ofString "sign")]) := upd_same
  generalize upd F1 q2 _ = F2 at t2 e2 ⊢
  walk_at "rd"
  first
    | refine fun q3 hq3 => ?_
    | refine ⟨by walk_at "sz", fun q3 hq3 => ?_⟩
  have t3 := same_new (o := .tup [.str (Str.ofString "sign"), .str (Str.ofString "A")]) hq3
  have e3 : (upd F2 q3 (.tup [.str (Str.ofString "sign"), .str (Str.ofString "A")])) q3 = some (.tup [.str (Str.ofString "sign"), .str (Str.ofString "A")]) := upd_same
  generalize upd F2 q3 _ = F3 at t3 e3 ⊢
  walk_at "rd"
  refine ⟨by rw [hSl]; exact Nat.le_trans (m := 1001) (by show sg.length + 1 ≤ 1001; omega) (by decide), ?_⟩
  walk_at "rd"
  first
    | refine fun q4 hq4 => ?_
    | refine ⟨by walk_at "sz", fun q4 hq4 => ?_⟩
  have t4 := same_new (o := .tup [.str (Str.ofString "sign"), .str (S sg ++ Str.ofString "q")]) hq4
  have e4 : (upd F3 q4 (.tup [.str (Str.ofString "sign"), .str (S sg ++ Str.ofString "q")])) q4 = some (.tup [.str (Str.ofString "sign"), .str (S sg ++ Str.ofString "q")]) := upd_same
  generalize upd F3 q4 _ = F4 at t4 e4 ⊢
  walk_at "rd"
  first
    | refine fun q5 hq5 => ?_
    | refine ⟨by walk_at "sz", fun q5 hq5 => ?_⟩
  have t5 := same_new (o := .tup [.str (Str.ofString "1"), v]) hq5
  have e5 : (upd F4 q5 (.tup [.str (Str.ofString "1"), v])) q5 = some (.tup [.str (Str.ofString "1"), v]) := upd_same
  generalize upd F4 q5 _ = F5 at t5 e5 ⊢
  walk_at "rd"
  first
    | refine fun q6 hq6 => ?_
    | refine ⟨by walk_at "sz", fun q6 hq6 => ?_⟩
  have t6 := same_new (o := .tup [.str (Str.ofString "*")]) hq6
  have e6 : (upd F5 q6 (.tup [.str (Str.ofString "*")])) q6 = some (.tup [.str (Str.ofString "*")]) := upd_same
  generalize upd F5 q6 _ = F6 at t6 e6 ⊢
  walk_at "rd"
  first
    | refine fun q7 hq7 => ?_
    | refine ⟨by walk_at "sz", fun q7 hq7 => ?_⟩
  have t7 := same_new (o := .tup [.str (Str.ofString "*"), v, v]) hq7
  have e7 : (upd F6 q7 (.tup [.str (Str.ofString "*"), v, v])) q7 = some (.tup [.str (Str.ofString "*"), v, v]) := upd_same
  generalize upd F6 q7 _ = F7 at t7 e7 ⊢
  walk_at "rd"
  first
    | refine fun q8 hq8 => ?_
    | refine ⟨by walk_at "sz", fun q8 hq8 => ?_⟩
  have t8 := same_new (o := .tup [.str (Str.ofString "|"), v]) hq8
  have e8 : (upd F7 q8 (.tup [.str (Str.ofString "|"), v])) q8 = some (.tup [.str (Str.ofString "|"), v]) := upd_same
  generalize upd F7 q8 _ = F8 at t8 e8 ⊢
  walk_at "rd"
  first
    | refine fun q9 hq9 => ?_
    | refine ⟨by walk_at "sz", fun q9 hq9 => ?_⟩
  have t9 := same_new (o := .tup [.str (Str.ofString "row"), v, .non]) hq9
  have e9 : (upd F8 q9 (.tup [.str (Str.ofString "row"), v, .non])) q9 = some (.tup [.str (Str.ofString "row"), v, .non]) := upd_same
  generalize upd F8 q9 _ = F9 at t9 e9 ⊢
  walk_at "rd"
  first
    | refine fun q10 hq10 => ?_
    | refine ⟨by walk_at "sz", fun q10 hq10 => ?_⟩
  have t10 := same_new (o := .tup [.str (Str.ofString "?"), v, v]) hq10
  have e10 : (upd F9 q10 (.tup [.str (Str.ofString "?"), v, v])) q10 = some (.tup [.str (Str.ofString "?"), v, v]) := upd_same
  generalize upd F9 q10 _ = F10 at t10 e10 ⊢
  walk_at "rd"
  first
    | refine fun q11 hq11 => ?_
    | refine ⟨by walk_at "sz", fun q11 hq11 => ?_⟩
  have t11 := same_new (o := .tup [.int 5]) hq11
  have e11 : (upd F10 q11 (.tup [.int 5])) q11 = some (.tup [.int 5]) := upd_same
  generalize upd F10 q11 _ = F11 at t11 e11 ⊢
  walk_at "rd"
  first
    | refine fun q12 hq12 => ?_
    | refine ⟨by walk_at "sz", fun q12 hq12 => ?_⟩
  have t12 := same_new (o := .tup [.str (Str.ofString "sign"), .str (Str.ofString "")]) hq12
  have e12 : (upd F11 q12 (.tup [.str (Str.ofString "sign"), .str (Str.ofString "")])) q12 = some (.tup [.str (Str.ofString "sign"), .str (Str.ofString "")]) := upd_same
  generalize upd F11 q12 _ = F12 at t12 e12 ⊢
  walk_at "rd"
  first
    | refine fun q13 hq13 => ?_
    | refine ⟨by walk_at "sz", fun q13 hq13 => ?_⟩
  have t13 := same_new (o := .tup [.str (Str.ofString ""), v, v]) hq13
  have e13 : (upd F12 q13 (.tup [.str (Str.ofString ""), v, v])) q13 = some (.tup [.str (Str.ofString ""), v, v]) := upd_same
  generalize upd F12 q13 _ = F13 at t13 e13 ⊢
  walk_at "rd"
  first
    | refine fun p1 hp1 => ?_
    | refine ⟨by walk_at "sz", fun p1 hp1 => ?_⟩
  have s14 := same_new (o := .lst [.non, .str (Str.ofString "a"), .ref q1, .ref q2, .ref q3, .ref q4, .ref q5, .ref q6, .ref q7, .ref q8, .ref q9, .ref q10, .ref q11, .ref q12, .ref q13]) hp1
  have e14 : (upd F13 p1 (.lst [.non, .str (Str.ofString "a"), .ref q1, .ref q2, .ref q3, .ref q4, .ref q5, .ref q6, .ref q7, .ref q8, .ref q9, .ref q10, .ref q11, .ref q12, .ref q13])) p1 = some (.lst [.non, .str (Str.ofString "a"), .ref q1, .ref q2, .ref q3, .ref q4, .ref q5, .ref q6, .ref q7, .ref q8, .ref q9, .ref q10, .ref q11, .ref q12, .ref q13]) := upd_same
  generalize upd F13 p1 _ = G at s14 e14 ⊢
  have u13 := s14
  have u12 := t13.trans u13
  have u11 := t12.trans u12
  have u10 := t11.trans u11
  have u9 := t10.trans u10
  have u8 := t9.trans u9
  have u7 := t8.trans u8
  have u6 := t7.trans u7
  have u5 := t6.trans u6
  have u4 := t5.trans u5
  have u3 := t4.trans u4
  have u2 := t3.trans u3
  have u1 := t2.trans u2
  have u0 := t1.trans u1
  have h1 := u1 _ _ e1
  have h2 := u2 _ _ e2
  have h3 := u3 _ _ e3
  have h4 := u4 _ _ e4
  have h5 := u5 _ _ e5
  have h6 := u6 _ _ e6
  have h7 := u7 _ _ e7
  have h8 := u8 _ _ e8
  have h9 := u9 _ _ e9
  have h10 := u10 _ _ e10
  have h11 := u11 _ _ e11
  have h12 := u12 _ _ e12
  have h13 := u13 _ _ e13
  have hSG := hS.sm u0
  have hnp : p1 ≠ p := by
    obtain ⟨d, e, c, z⟩ := hSG
    intro y
    rw [y, z] at e14
    cases e14
  walk_at "rd"
  refine ⟨p, _, rfl, hSG, by decide, by decide, fun r H1 r0 r1 hS1 b1 => ?_⟩
  have hp0 : ∀ i o, G i = some (.tup o) → H1 i = some (.tup o) := fun i o e => b1 _ _ (fun z => by
    obtain ⟨d, e2, c, z2⟩ := hSG
    rw [z, z2] at e
    cases e) e
  have k1 : Keep H0 H1 := (Keep.same u0).trans (Keep.but b1 hSG)
  have tp1 := tp.keep k1
  obtain ⟨od, hod, hck⟩ : ∃ od, atI ([.non, .str (Str.ofString "a"), .ref q1, .ref q2, .ref q3, .ref q4, .ref q5, .ref q6, .ref q7, .ref q8, .ref q9, .ref q10, .ref q11, .ref q12, .ref q13] : List V) r = some od ∧ ∀ n, 10 ≤ n → Ckd K RK H1 sg n od none := by
    have sgn : ∀ (u : List Nat) (c : Nat), u ≠ [c] → True := fun _ _ _ => trivial
    have rno : ∀ x ∈ (["sign", "1", "0", ".", "*", "?", ""] : List Str), PySem.W.nsIn K RK x = some none := T.r_RANKS.no
    rcases (by omega : r = 0 ∨ r = 1 ∨ r = 2 ∨ r = 3 ∨ r = 4 ∨ r = 5 ∨ r = 6 ∨ r = 7 ∨ r = 8 ∨ r = 9 ∨ r = 10 ∨ r = 11 ∨ r = 12 ∨ r = 13 ∨ r = 14) with rfl | rfl | rfl | rfl | rfl | rfl | rfl | rfl | rfl | rfl | rfl | rfl | rfl | rfl | rfl
    · refine ⟨_, rfl, fun n hn => ?_⟩
      obtain ⟨m, rfl⟩ : ∃ m, n = m + 1 := ⟨n - 1, by omega⟩
      exact .notl m _ fun H => ⟨"NoneType", .base .non, by decide, by decide⟩
    · refine ⟨_, rfl, fun n hn => ?_⟩
      obtain ⟨m, rfl⟩ : ∃ m, n = m + 1 := ⟨n - 1, by omega⟩
      exact .notl m _ fun H => ⟨"str", .base (.str _), by decide, by decide⟩
    · refine ⟨_, rfl, fun n hn => ?_⟩
      obtain ⟨m, rfl⟩ : ∃ m, n = m + 1 := ⟨n - 1, by omega⟩
      exact .nil m _ (.inr (SqT.of (hp0 _ _ h1)))
    · refine ⟨_, rfl, fun n hn => ?_⟩
      obtain ⟨m, rfl⟩ : ∃ m, n = m + 1 := ⟨n - 1, by omega⟩
      refine .odd m _ (Str.ofString "sign") _ (.inr (SqT.of (hp0 _ _ h2))) ⟨(fun _ z => by cases z), (fun z => absurd z (by decide)), (fun z => absurd z (by decide)), none, rno _ (by decide), by intro z; cases z⟩
    · refine ⟨_, rfl, fun n hn => ?_⟩
      obtain ⟨m, rfl⟩ : ∃ m, n = m + 1 := ⟨n - 1, by omega⟩
      refine .odd m _ (Str.ofString "sign") _ (.inr (SqT.of (hp0 _ _ h3))) ⟨fun _ _ => ⟨[65], rfl, by decide, fun c e z => ?_⟩, (fun z => absurd z (by decide)), (fun z => absurd z (by decide)), none, rno _ (by decide), by intro z; cases z⟩
      have e : c = 65 := by simpa using e.symm
      have := hsn.low c z
      omega
    · refine ⟨_, rfl, fun n hn => ?_⟩
      obtain ⟨m, rfl⟩ : ∃ m, n = m + 1 := ⟨n - 1, by omega⟩
      refine .odd m _ (Str.ofString "sign") _ (.inr (SqT.of (hp0 _ _ h4))) ⟨fun _ _ => ⟨sg ++ [113], by rw [← S_cat]; rfl, by have := (signs_len hsg).2; rw [List.length_append]; show sg.length + 1 ≤ 1000; omega, fun c e z => ?_⟩, (fun z => absurd z (by decide)), (fun z => absurd z (by decide)), none, rno _ (by decide), by intro z; cases z⟩
      have h1 := congrArg List.length e
      rw [List.length_append] at h1
      have h2 := (signs_len hsg).1
      have h3 : [113].length = 1 := rfl
      have h4 : [c].length = 1 := rfl
      omega
    · refine ⟨_, rfl, fun n hn => ?_⟩
      obtain ⟨m, rfl⟩ : ∃ m, n = m + 1 := ⟨n - 1, by omega⟩
      refine .odd m _ (Str.ofString "1") _ (.inr (SqT.of (hp0 _ _ h5))) ⟨(fun z => absurd z (by decide)), (fun _ z => by cases z), (fun z => absurd z (by decide)), none, rno _ (by decide), by intro z; cases z⟩
    · refine ⟨_, rfl, fun n hn => ?_⟩
      obtain ⟨m, rfl⟩ : ∃ m, n = m + 1 := ⟨n - 1, by omega⟩
      refine .odd m _ (Str.ofString "*") _ (.inr (SqT.of (hp0 _ _ h6))) ⟨(fun z => absurd z (by decide)), (fun z => absurd z (by decide)), (fun _ z => by cases z), none, rno _ (by decide), by intro z; cases z⟩
    · refine ⟨_, rfl, fun n hn => ?_⟩
      obtain ⟨m, rfl⟩ : ∃ m, n = m + 1 := ⟨n - 1, by omega⟩
      refine .odd m _ (Str.ofString "*") _ (.inr (SqT.of (hp0 _ _ h7))) ⟨(fun z => absurd z (by decide)), (fun z => absurd z (by decide)), (fun _ z => by cases z), none, rno _ (by decide), by intro z; cases z⟩
    · refine ⟨_, rfl, fun n hn => ?_⟩
      obtain ⟨m, rfl⟩ : ∃ m, n = m + 1 := ⟨n - 1, by omega⟩
      obtain ⟨u, hu1, hu2⟩ := T.r_RANKS.has .or
      exact .odd m _ (Str.ofString "|") _ (.inr (SqT.of (hp0 _ _ h8))) ⟨(fun z => absurd z (by decide)), (fun z => absurd z (by decide)), (fun z => absurd z (by decide)), some u, hu1, fun _ z => by cases z⟩
    · refine ⟨_, rfl, fun n hn => ?_⟩
      obtain ⟨m, rfl⟩ : ∃ m, n = m + 1 := ⟨n - 1, by omega⟩
      have k2 := tr_ck (RK := RK) tp1 hok m
      rw [show okN T0 m = some T0 from if_pos (by omega)] at k2
      obtain ⟨m2, rfl⟩ : ∃ m2, m = m2 + 1 := ⟨m - 1, by omega⟩
      exact .op2 _ _ .row v .non T0 none (.inr (SqT.of (hp0 _ _ h9))) k2 (.notl m2 _ fun H => ⟨"NoneType", .base .non, by decide, by decide⟩)
    · refine ⟨_, rfl, fun n hn => ?_⟩
      obtain ⟨m, rfl⟩ : ∃ m, n = m + 1 := ⟨n - 1, by omega⟩
      refine .odd m _ (Str.ofString "?") _ (.inr (SqT.of (hp0 _ _ h10))) ⟨(fun z => absurd z (by decide)), (fun z => absurd z (by decide)), (fun z => absurd z (by decide)), none, rno _ (by decide), by intro z; cases z⟩
    · refine ⟨_, rfl, fun n hn => ?_⟩
      obtain ⟨m, rfl⟩ : ∃ m, n = m + 1 := ⟨n - 1, by omega⟩
      exact .nostr m _ (.int 5) [] (.inr (SqT.of (hp0 _ _ h11))) fun H => ⟨"int", .base (.int _), by decide, by decide⟩
    · refine ⟨_, rfl, fun n hn => ?_⟩
      obtain ⟨m, rfl⟩ : ∃ m, n = m + 1 := ⟨n - 1, by omega⟩
      exact .odd m _ (Str.ofString "sign") _ (.inr (SqT.of (hp0 _ _ h12))) ⟨fun _ _ => ⟨[], rfl, by decide, fun c e => by cases e⟩, (fun z => absurd z (by decide)), (fun z => absurd z (by decide)), none, rno _ (by decide), by intro z; cases z⟩
    · refine ⟨_, rfl, fun n hn => ?_⟩
      obtain ⟨m, rfl⟩ : ∃ m, n = m + 1 := ⟨n - 1, by omega⟩
      refine .odd m _ (Str.ofString "") _ (.inr (SqT.of (hp0 _ _ h13))) ⟨(fun z => absurd z (by decide)), (fun z => absurd z (by decide)), (fun z => absurd z (by decide)), none, rno _ (by decide), by intro z; cases z⟩
  refine ⟨p1, _, _, od, rfl, rfl, SqL.of (b1 _ _ hnp e14), hod, ?_⟩
  walk_at "nx"
  refine if_KH false (fun H2 => Same H1 H2) (fun Q' hQ => ?_) (fun z => by cases z) (fun _ H2 s2 => ?_)
  · walk_at "rd"
    refine ⟨sg, od, rfl, by omega, hsg, hsn.low, none, hck 20 (by omega), (fun _ e => by cases e), fun H2 s2 => ?_⟩
    walk_at "rd"
    first
      | refine fun q hq => ?_
      | refine ⟨by walk_at "sz", fun q hq => ?_⟩
    have t9 := same_new (o := .tup [.str (Str.ofString "row"), od, v]) hq
    have e9 : (upd H2 q (.tup [.str (Str.ofString "row"), od, v])) q = some (.tup [.str (Str.ofString "row"), od, v]) := upd_same
    generalize upd H2 q _ = H3 at t9 e9 ⊢
    walk_at "rd"
    refine ⟨sg, .ref q, rfl, by omega, hsg, hsn.low, none, ?_, (fun _ e => by cases e), fun H4 s4 => ?_⟩
    · exact .op1 19 q .row od v (.inr (SqT.of e9)) ((hck 19 (by omega)).keep (s2.trans t9))
    · walk_at "rd"
      exact hQ _ ((s2.trans t9).trans s4)
  walk_at "nx"
  show tb_ba _ _ _
  exact kb_ba _ _ a p v sg od _ _ _ _ _ _ _ _ _ _ _ _ kD
end
end Sh
set_option Elab.async false
set_option linter.all false
set_option maxRecDepth 100000
set_option maxHeartbeats 4000000
namespace Sh
open PySem PySem.Spec PyProof.Rows L2
open SX (S S_inj S_len S_cat)
open Ex (Fs Op Tr Wd dep wtx trank wrapT rp kids Idl nod)
local macro_rules | `(tactic| walk_at "nx") => `(tactic| repeat (with_reducible first | refine Sh.gn_mk ?_ | refine Sh.nx_mk ?_ | refine Sh.st_nx ?_ | refine Sh.rt_mk ?_ | refine Sh.ct_mk ?_ | refine Sh.bk_mk ?_))
local macro_rules | `(tactic| walk_at "sq") => `(tactic| first | exact SqL.of upd_same | exact SqT.of upd_same | exact SqL.of (by assumption) | exact SqT.of (by assumption) | assumption | exact Or.inl (SqL.of (by assumption)) | exact Or.inr (SqT.of (by assumption)) | exact Or.inl (by assumption) | exact Or.inr (by assumption))
local macro_rules | `(tactic| walk_at "hp") => `(tactic| first | exact upd_same | assumption)
local macro_rules | `(tactic| walk_at "sz") => `(tactic| first | exact Nat.le_of_ble_eq_true rfl | omega)
local macro_rules | `(tactic| walk_at "sd") => `(tactic| first | omega | exact rfl | assumption | (show (0 : Int) < _; omega) | exact And.intro (by omega) (by omega) | exact Or.inl (And.intro (by omega) (by omega)) | exact Or.inr (And.intro (by omega) (by omega)) | omega | exact Sh.sz_S (by omega) | decide)
local macro_rules | `(tactic| walk_at "rd1") => `(tactic| first
  | (with_reducible first | refine Sh.gn_mk ?_ | refine Sh.nx_mk ?_ | refine Sh.st_nx ?_ | refine Sh.rt_mk ?_ | refine Sh.ct_mk ?_ | refine Sh.bk_mk ?_)
  | refine Exists.intro (α := V) _ (And.intro rfl ?_)
  | refine Exists.intro (α := Bool) _ (And.intro rfl ?_)
  | refine Exists.intro (α := Int) _ (And.intro rfl ?_)
  | refine Exists.intro (α := PySem.Str) _ (And.intro rfl ?_)
  | refine Exists.intro (α := Int) _ (Exists.intro (α := Int) _ (And.intro rfl (And.intro rfl ?_)))
  | refine Exists.intro (α := PySem.Str) _ (Exists.intro (α := PySem.Str) _ (And.intro rfl (And.intro rfl ?_)))
  | refine Exists.intro (α := Int) _ (Exists.intro (α := Int) _ (And.intro rfl ?_))
  | refine Or.inl (Exists.intro (α := Int) _ (And.intro rfl ?_))
  | refine Exists.intro _ (Exists.intro _ (Exists.intro _ (Exists.intro _ (And.intro rfl (And.intro rfl (And.intro (by walk_at "sq") (And.intro rfl ?_)))))))
  | refine Exists.intro _ (Exists.intro _ (Exists.intro _ (Exists.intro _ (And.intro rfl (And.intro rfl (And.intro (by walk_at "hp") (And.intro rfl ?_)))))))
  | refine And.intro (by walk_at "sd") ?_
  )
local macro_rules | `(tactic| walk_at "rd") => `(tactic| repeat walk_at "rd1")
local macro_rules | `(tactic| walk_at "lk") => `(tactic| first | exact rfl | (rw [lookup_putF, if_pos rfl]) | (rw [lookup_putF, if_neg (by decide +kernel)]; walk_at "lk"))

section
variable {P : Program} {w : World} {K : PySem.W.Frag} {mg : Str → Option Value} {base : Heap} {C0 XE FE DI XM FM XT FT DT XS XB BS AT RK : Addr}
theorem blk_tall (T : TxtX P K mg C0 w XE FE DI XM FM XT FT DT XS XB BS AT RK) (f : Addr) (cdv : Value) (A : Around) (outer : List Env) (s : Shared) (H : Hp) (E : XK) (hr : Room 50 (A.deeper (envOfC "law" (defScope s_law) s.heap.objs.size f cdv))) (hgd : A.guards = some []) :
    ∃ t_, PSs (cxOf CX0 P w K mg base ["_law_script", "_law_source_here", "_law_signs_here", "_law_tree_here", "_law_due", "_law_listed", "_law_told", "_law_idle_here", "_law_text", "_law_pairs", "_law_less", "_law_depth", "_law_tall_here", "raised", "_law_odd", "_law_lost", "_law_k"] "law" (defScope s_law) f cdv A outer s H E).nox ((defBody s_law).drop 12) t_ ∧
    ∀ (D : Ends) (Hi H0 : Hp) (a p : Addr) (ns : List Int) (v : V) (sg : List Nat) (T0 : Tr) (v4 v5 v6 v7 v8 v9 v10 v11 v12 v13 v14 v15 v16 : Option V), SqL K Hi a (ns.map V.int) → (∀ z ∈ ns, Builtin.Int.intBits z ≤ 1048576) → ns.length ≤ 63 → Hi p = none → But p Hi H0 → Src H0 p → isSigns sg = true → Sgn sg → Tp K H0 v (trD T0) → Ex.Ok sg T0 → dep T0 ≤ 5 →
      (∀ H', D.rt (.bl true) H') →
      t_ D [some (.ref a), some (.ref p), some (.str (S sg)), some v, v4, v5, v6, v7, v8, v9, v10, v11, v12, v13, v14, v15, v16] H0 := by
  have c__law_source := c__law_source (P := P) (w := w) (base := base) T.toTxtC.toTxt
  have c__law_signs := c__law_signs (P := P) (w := w) (base := base) T.toTxtC.toTxt
  have c__law_tree := c__law_tree (P := P) (w := w) (base := base) T.toTxtC.toTxt
  have c_X_write := c_X_write (P := P) (w := w) (base := base) T
  have c__law_tall := c__law_tall (P := P) (w := w) (base := base) T.toTxtC.toTxt
  have c__law_written := c__law_written (P := P) (w := w) (base := base) T.toTxtC.toTxt
  have c__law_pick := c__law_pick (P := P) (w := w) (base := base) T.toTxtC.toTxt
  have c__law_without := c__law_without (P := P) (w := w) (base := base) T.toTxtC.toTxt
  have c__law_idle := c__law_idle (P := P) (w := w) (base := base) T.toTxtC.toTxt
  have c__law_refused := c__law_refused (P := P) (w := w) (base := base) T
  have c_X_parse := c_X_parse (P := P) (w := w) (base := base) T
  have c__law_first_bad := c__law_first_bad (P := P) (w := w) (base := base) T.toTxtC.toTxt
  obtain ⟨tb_odd, hb_odd, kb_odd⟩ := blk_odd (P := P) (w := w) (base := base) T f cdv A outer s H E hr hgd
  have hgd : (A.deeper (envOfC "law" (defScope s_law) s.heap.objs.size f cdv)).guards = some [] := hgd
  have hu := hu_of hr
  refine ⟨_, (pss_cons (ps_set (i := 11) sc_law.nd rfl (Or.inl rfl) (pe_op op_add pe_int (pe_c c__law_pick hr (by decide) rfl (pa_cons (pv 1) (pa_cons pe_int pa_nil)))))
  (pss_cons (ps_set (i := 12) sc_law.nd rfl (Or.inl rfl) (pe_c c__law_tall hr (by decide) rfl (pa_cons (pe_c c__law_source hr (by decide) rfl (pa_cons (pv 0) (pa_cons pe_int pa_nil))) (pa_cons (pv 2) (pa_cons (pv 11) pa_nil)))))
  (pss_cons (ps_if (pt_cmpR op_eq (pv 11) pe_int (nomark _))
    (pss_cons (ps_if (pt_not (pt_val (pe_c c__law_refused hr (by decide) rfl (pa_cons (pv 2) (pa_cons (pv 12) pa_nil)))))
      (pss_one (ps_ret pe_bl))
      pss_nil)
    (pss_one (ps_tryT rfl rfl sc_law.nd takes0 (fun W pn xe tk po => (pss_cons (ps_expr (pe_cX c_X_parse hr (by decide) tk rfl (pa_cons (pv 2) (pa_cons (pe_ix ix_tupT (pe_c c__law_written hr (by decide) rfl (pa_cons (pv 12) pa_nil)) pe_int (fun _ _ => rfl)) pa_nil))))
      (pss_one (ps_ret pe_bl))))
      (HdsA.cons (i := 13) rfl rfl ⟨rfl, by decide, Or.inl T.e_TooMany.mgC⟩ (fun a oe cls d pn hz hf => (pss_one (ps_if (pt_cmpR op_ne (pe_xf T.e_TooMany.xf T.nf_TooMany_word hz hf (pv 13)) pe_str (nomark _))
        (pss_one (ps_ret pe_bl))
        pss_nil)))
      HdsA.nil))))
    (pss_one (ps_if (PW.pt (pw_or (pt_cmpR op_ne (pe_callB (call_reprD hgd hr.units) (by rfl) T.b_repr (by decide +kernel) (pa_cons (pe_cXn c_X_write hr (by decide) rfl (pa_cons (pv 2) (pa_cons (pv 12) pa_nil))) pa_nil)) (pe_callB (call_reprD hgd hr.units) (by rfl) T.b_repr (by decide +kernel) (pa_cons (pe_ix ix_tup (pe_c c__law_written hr (by decide) rfl (pa_cons (pv 12) pa_nil)) pe_int (fun _ _ => rfl)) pa_nil)) (nomark _)) (pw_or1 (pt_cmpR op_ne (pe_callB (call_reprD hgd hr.units) (by rfl) T.b_repr (by decide +kernel) (pa_cons (pe_cXn c_X_parse hr (by decide) rfl (pa_cons (pv 2) (pa_cons (pe_cXn c_X_write hr (by decide) rfl (pa_cons (pv 2) (pa_cons (pv 12) pa_nil))) pa_nil))) pa_nil)) (pe_callB (call_reprD hgd hr.units) (by rfl) T.b_repr (by decide +kernel) (pa_cons (pv 12) pa_nil)) (nomark _)))))
      (pss_one (ps_ret pe_bl))
      pss_nil)))
  hb_odd))), ?_⟩
  intro D Hi H0 a p ns v sg T0 v4 v5 v6 v7 v8 v9 v10 v11 v12 v13 v14 v15 v16 hSa hbits hlen hip hib hS hsg hsn tp hok hd kD
  have hSl := S_len sg
  have hsl := hsn.len
  have hlow := hsn.low
  obtain ⟨hs1, hs8⟩ := signs_len hsg
  walk_at "nx"
  walk_at "rd"
  refine ⟨p, _, rfl, hS, by decide, by decide, fun r H1 r0 r1 hS1 b1 => ?_⟩
  have s1 : Same Hi H1 := But.toSame (But.trans hib b1) hip
  have k1 := Keep.but b1 hS
  walk_at "nx"
  walk_at "rd"
  refine ⟨a, ns, 1, rfl, s1.seq hSa, hbits, hlen, by decide, by decide, fun q H2 hq s2 hS2 => ?_⟩
  walk_at "rd"
  have hqp : p ≠ q := by
    obtain ⟨d, e, c, z⟩ := hS1
    exact ne_of_none z hq
  obtain ⟨n, rfl⟩ : ∃ n : Nat, r = (n : Nat) := ⟨r.toNat, by omega⟩
  have hn : n < 3 := by omega
  refine ⟨q, sg, 19 + n, by rw [show ((19 + n : Nat) : Int) = 19 + (n : Int) by omega]; rfl, hS2, hs1, by omega, by omega, by omega, fun vt T1 H3 hS3 b3 k3 tp1 hd1 hin1 hok1 => ?_⟩
  have hSp3 : Src H3 p := by
    obtain ⟨d, e, c, z⟩ := hS1.sm s2
    exact ⟨d, e, c, b3 _ _ hqp z⟩
  have tp3 : Tp K H3 v (trD T0) := tp.keep ((k1.trans (Keep.same s2)).trans k3)
  obtain ⟨w1, w2, w3⟩ := Ex.wt_wtx hlow hok1
  have hnod := Ex.nod_inn T1
  have hpd := Ex.pd_dep T1
  have hwl := wtx_low hlow hok1
  have hread := Ex.read_wtx hlow hok1
  walk_at "nx"
  refine st_J (fun σ H4 => (∃ w13 : Option V, σ = [some (.ref a), some (.ref p), some (.str (S sg)), some v, v4, v5, v6, v7, v8, v9, v10, some (.int (19 + (n : Nat))), some vt, w13, v14, v15, v16]) ∧ Same H3 H4) (fun N hN => ?_) (fun σ H4 hv => ?_)
  · have sw := str_shw hwl (by omega)
    by_cases h21 : n = 2
    · subst h21
      have e20 : okN T1 20 = none := if_neg (by omega)
      have ck := tr_ck (RK := RK) tp1 hok1 20
      rw [e20] at ck
      refine if_K true (fun Q' hQ => ?_) (fun _ => ?_) (fun z => by cases z)
      · walk_at "rd"
        exact hQ
      refine if_KH false (fun H4 => Same H3 H4) (fun Q' hQ => ?_) (fun z => by cases z) (fun _ H4 s4 => ?_)
      · walk_at "rd"
        refine ⟨sg, vt, rfl, by omega, hsg, hlow, none, ck, (fun _ e => by cases e), fun H4 s4 => ?_⟩
        walk_at "rd"
        exact hQ _ s4
      refine ⟨_, rfl, _, rfl, vt, T1, rfl, tp1.keep (Keep.same s4), by omega, ⟨sg, hlow, hok1⟩, by omega, fun p5 H5 s5 sq5 => ?_⟩
      refine ⟨p5, _, _, .str (S (wtx T1)), rfl, rfl, sq5, atI_at (Int.le_refl 0) rfl, ?_⟩
      refine ⟨sg, .str (S (wtx T1)), rfl, hsn.len, .inr ⟨hsg, hsn, .inr ⟨wtx T1, rfl, by omega, .inr ⟨by omega, .inr ⟨T1, Ex.pd T1, hread, .inl ⟨fun z => by omega, fun H6 s6 d hd => ⟨true, T.mm_TooMany_TooMany, fun _ a0 ha0 => ?_, fun zz => (by cases zz)⟩⟩⟩⟩⟩⟩⟩
      dsimp only [outA]
      refine if_K false (fun Q' hQ => ?_) (fun z => by cases z) (fun _ => ?_)
      · refine ⟨_, rfl, rfl, rfl, d, _, _, rfl, upd_same, lk1, ?_⟩
        refine ⟨rfl, _, rfl, ?_⟩
        rw [decide_eq_true (show V.str (Str.ofString "depth") = V.str (Str.ofString "depth") from rfl)]
        exact hQ
      · exact hN _ _ ⟨⟨_, rfl⟩, ((s4.trans s5).trans s6).trans (same_new hd)⟩
    · refine if_K false (fun Q' hQ => ?_) (fun z => by cases z) (fun _ => ?_)
      · walk_at "rd"
        refine q_of hQ (decide_eq_false fun z => ?_)
        have := V.int.inj z
        omega
      have e20 : okN T1 20 = some T1 := if_pos (by omega)
      have ck := tr_ck (RK := RK) tp1 hok1 20
      rw [e20] at ck
      have tw := tr_shw hlow hok1 (by omega) (by omega)
      refine if_KH false (fun H4 => Same H3 H4) (fun Q' hQ => ?_) (fun z => by cases z) (fun _ H4 s4 => ?_)
      · walk_at "rd"
        refine ⟨sg, vt, rfl, by omega, .inr ⟨hsg, hlow, some T1, ck, (fun e => by cases e), fun T2 e => ?_⟩⟩
        cases e
        refine ⟨by omega, fun H4 s4 => ?_⟩
        walk_at "rd"
        refine ⟨_, .str (S (wtx T1)), rfl, .str _, sw.1, sw.2.1, sw.2.2.1, sw.2.2.2, ?_⟩
        walk_at "rd"
        refine ⟨vt, T1, rfl, tp1.keep (Keep.same s4), by omega, ⟨sg, hlow, hok1⟩, by omega, fun p5 H5 s5 sq5 => ?_⟩
        refine ⟨p5, _, _, .str (S (wtx T1)), rfl, rfl, sq5, atI_at (Int.le_refl 0) rfl, ?_⟩
        refine tNil_mk ?_
        refine ⟨_, .str (S (wtx T1)), rfl, .str _, sw.1, sw.2.1, sw.2.2.1, sw.2.2.2, ?_⟩
        refine ne_refl ⟨_, rfl, ?_⟩
        refine iteF ?_
        walk_at "rd"
        refine ⟨sg, vt, rfl, by omega, .inr ⟨hsg, hlow, some T1, ck.keep (s4.trans s5), (fun e => by cases e), fun T2 e => ?_⟩⟩
        cases e
        refine ⟨by omega, fun H6 s6 => ?_⟩
        walk_at "rd"
        refine ⟨sg, .str (S (wtx T1)), rfl, hsn.len, .inr ⟨hsg, hsn, .inr ⟨wtx T1, rfl, by omega, .inr ⟨by omega, .inr ⟨T1, Ex.pd T1, hread, .inr ⟨by omega, by omega, fun v2 H7 s7 tp7 => ?_⟩⟩⟩⟩⟩⟩
        walk_at "rd"
        refine ⟨_, trD T1, rfl, tp7.dp, tw.1, tw.2.1, tw.2.2.1, tw.2.2.2, ?_⟩
        walk_at "rd"
        have s47 := ((s4.trans s5).trans s6).trans s7
        refine ⟨_, trD T1, rfl, (tp1.keep (Keep.same s47)).dp, tw.1, tw.2.1, tw.2.2.1, tw.2.2.2, ?_⟩
        refine ne_refl ?_
        exact ⟨_, rfl, hQ _ s47⟩
      · exact hN _ _ ⟨⟨_, rfl⟩, s4⟩
  · obtain ⟨⟨w13, rfl⟩, s4⟩ := hv
    show tb_odd _ _ _
    exact kb_odd _ _ a p v sg T0 _ _ _ _ _ _ _ _ _ _ _ _ _ (hSp3.sm s4) hsg hsn (tp3.keep (Keep.same s4)) hok hd kD
end
end Sh
set_option Elab.async false
set_option linter.all false
set_option maxRecDepth 100000
set_option maxHeartbeats 4000000
namespace Sh
open PySem PySem.Spec PyProof.Rows L2
open SX (S S_inj S_len S_cat)
open Ex (Fs Op Tr Wd dep wtx trank wrapT rp kids Idl nod)
local macro_rules | `(tactic| walk_at "nx") => `(tactic| repeat (with_reducible first | refine Sh.gn_mk ?_ | refine Sh.nx_mk ?_ | refine Sh.st_nx ?_ | refine Sh.rt_mk ?_ | refine Sh.ct_mk ?_ | refine Sh.bk_mk ?_))
local macro_rules | `(tactic| walk_at "sq") => `(tactic| first | exact SqL.of upd_same | exact SqT.of upd_same | exact SqL.of (by assumption) | exact SqT.of (by assumption) | assumption | exact Or.inl (SqL.of (by assumption)) | exact Or.inr (SqT.of (by assumption)) | exact Or.inl (by assumption) | exact Or.inr (by assumption))
local macro_rules | `(tactic| walk_at "hp") => `(tactic| first | exact upd_same | assumption)
local macro_rules | `(tactic| walk_at "sz") => `(tactic| first | exact Nat.le_of_ble_eq_true rfl | omega)
local macro_rules | `(tactic| walk_at "sd") => `(tactic| first | omega | exact rfl | assumption | (show (0 : Int) < _; omega) | exact And.intro (by omega) (by omega) | exact Or.inl (And.intro (by omega) (by omega)) | exact Or.inr (And.intro (by omega) (by omega)) | omega | exact Sh.sz_S (by omega) | decide)
local macro_rules | `(tactic| walk_at "rd1") => `(tactic| first
  | (with_reducible first | refine Sh.gn_mk ?_ | refine Sh.nx_mk ?_ | refine Sh.st_nx ?_ | refine Sh.rt_mk ?_ | refine Sh.ct_mk ?_ | refine Sh.bk_mk ?_)
  | refine Exists.intro (α := V) _ (And.intro rfl ?_)
  | refine Exists.intro (α := Bool) _ (And.intro rfl ?_)
  | refine Exists.intro (α := Int) _ (And.intro rfl ?_)
  | refine Exists.intro (α := PySem.Str) _ (And.intro rfl ?_)
  | refine Exists.intro (α := Int) _ (Exists.intro (α := Int) _ (And.intro rfl (And.intro rfl ?_)))
  | refine Exists.intro (α := PySem.Str) _ (Exists.intro (α := PySem.Str) _ (And.intro rfl (And.intro rfl ?_)))
  | refine Exists.intro (α := Int) _ (Exists.intro (α := Int) _ (And.intro rfl ?_))
  | refine Or.inl (Exists.intro (α := Int) _ (And.intro rfl ?_))
  | refine Exists.intro _ (Exists.intro _ (Exists.intro _ (Exists.intro _ (And.intro rfl (And.intro rfl (And.intro (by walk_at "sq") (And.intro rfl ?_)))))))
  | refine Exists.intro _ (Exists.intro _ (Exists.intro _ (Exists.intro _ (And.intro rfl (And.intro rfl (And.intro (by walk_at "hp") (And.intro rfl ?_)))))))
  | refine And.intro (by walk_at "sd") ?_
  )
local macro_rules | `(tactic| walk_at "rd") => `(tactic| repeat walk_at "rd1")
local macro_rules | `(tactic| walk_at "lk") => `(tactic| first | exact rfl | (rw [lookup_putF, if_pos rfl]) | (rw [lookup_putF, if_neg (by decide +kernel)]; walk_at "lk"))

/-- brackets of what is written -/
theorem oc_inn {sg : List Nat} (hs : Low sg) : ∀ {T : Tr}, Ex.Ok sg T → Ex.c5 T ≤ Ex.inn T
  | .sg c, h => by
    have := hs c h
    show Ex.oc [c] + 0 ≤ 0
    unfold Ex.oc
    simp
    omega
  | .at c, h => by
    have h : Ex.isAt c = true := h
    have h3 : c = 49 ∨ c = 48 ∨ c = 46 := by unfold Ex.isAt at h; simpa [or_assoc] using h
    show Ex.oc [c] + 0 ≤ 0
    unfold Ex.oc
    simp
    omega
  | .st x, h => by
    have := oc_inn hs (T := x) h
    show Ex.oc (wtx (.st x)) + 0 ≤ Ex.inn x + 1
    rw [Ex.oc_st]
    omega
  | .op o l r, h => by
    have h1 := oc_inn hs (T := l) h.1
    have h2 := oc_inn hs (T := r) h.2
    have ro := Ex.rank_le o
    have i1 : Ex.ind (trank l < o.rank) ≤ Ex.ind (trank l < 5) := Ex.ind_le (fun z => by omega)
    have i2 : Ex.ind (trank r < o.rank + 1) ≤ Ex.ind (trank r < 5) := Ex.ind_le (fun z => by omega)
    have i3 : Ex.ind (trank (.op o l r) < 5) ≤ 1 := Ex.ind_one
    show Ex.oc (wtx (.op o l r)) + Ex.ind (trank (.op o l r) < 5) ≤ Ex.inn l + Ex.inn r + 1
    rw [Ex.oc_op]
    unfold Ex.c5 at h1 h2
    omega
section
variable {P : Program} {w : World} {K : PySem.W.Frag} {mg : Str → Option Value} {base : Heap} {C0 XE FE DI XM FM XT FT DT XS XB BS AT RK : Addr}
theorem blk_pairs (T : TxtX P K mg C0 w XE FE DI XM FM XT FT DT XS XB BS AT RK) (f : Addr) (cdv : Value) (A : Around) (outer : List Env) (s : Shared) (H : Hp) (E : XK) (hr : Room 50 (A.deeper (envOfC "law" (defScope s_law) s.heap.objs.size f cdv))) (hgd : A.guards = some []) :
    ∃ t_, PSs (cxOf CX0 P w K mg base ["_law_script", "_law_source_here", "_law_signs_here", "_law_tree_here", "_law_due", "_law_listed", "_law_told", "_law_idle_here", "_law_text", "_law_pairs", "_law_less", "_law_depth", "_law_tall_here", "raised", "_law_odd", "_law_lost", "_law_k"] "law" (defScope s_law) f cdv A outer s H E).nox ((defBody s_law).drop 10) t_ ∧
    ∀ (D : Ends) (Hi H0 : Hp) (a p : Addr) (ns : List Int) (v : V) (sg : List Nat) (T0 : Tr) (v5 v6 v7 v8 v9 v10 v11 v12 v13 v14 v15 v16 : Option V), SqL K Hi a (ns.map V.int) → (∀ z ∈ ns, Builtin.Int.intBits z ≤ 1048576) → ns.length ≤ 63 → Hi p = none → But p Hi H0 → Src H0 p → isSigns sg = true → Sgn sg → Tp K H0 v (trD T0) → Ex.Ok sg T0 → dep T0 ≤ 5 →
      (∀ H', D.rt (.bl true) H') →
      t_ D [some (.ref a), some (.ref p), some (.str (S sg)), some v, some (.str (S (wtx T0))), v5, v6, v7, v8, v9, v10, v11, v12, v13, v14, v15, v16] H0 := by
  have c__law_source := c__law_source (P := P) (w := w) (base := base) T.toTxtC.toTxt
  have c__law_signs := c__law_signs (P := P) (w := w) (base := base) T.toTxtC.toTxt
  have c__law_tree := c__law_tree (P := P) (w := w) (base := base) T.toTxtC.toTxt
  have c_X_write := c_X_write (P := P) (w := w) (base := base) T
  have c__law_tall := c__law_tall (P := P) (w := w) (base := base) T.toTxtC.toTxt
  have c__law_written := c__law_written (P := P) (w := w) (base := base) T.toTxtC.toTxt
  have c__law_pick := c__law_pick (P := P) (w := w) (base := base) T.toTxtC.toTxt
  have c__law_without := c__law_without (P := P) (w := w) (base := base) T.toTxtC.toTxt
  have c__law_idle := c__law_idle (P := P) (w := w) (base := base) T.toTxtC.toTxt
  have c__law_refused := c__law_refused (P := P) (w := w) (base := base) T
  have c_X_parse := c_X_parse (P := P) (w := w) (base := base) T
  have c__law_first_bad := c__law_first_bad (P := P) (w := w) (base := base) T.toTxtC.toTxt
  obtain ⟨tb_tall, hb_tall, kb_tall⟩ := blk_tall (P := P) (w := w) (base := base) T f cdv A outer s H E hr hgd
  have hgd : (A.deeper (envOfC "law" (defScope s_law) s.heap.objs.size f cdv)).guards = some [] := hgd
  have hu := hu_of hr
  refine ⟨_, (pss_cons (ps_setLc (i := 9) (own := [("_law_k", 16)]) (g := gName 16) (by rfl) sc_law.nd rfl rfl (sw_true rfl rfl rfl (by decide +kernel)) (pi_range1 (by rfl) T.b_range (pa_cons (pe_callB call_len_str (by rfl) T.b_len (by decide +kernel) (pa_cons (pv 4) pa_nil)) pa_nil)) (blkOk_by (N := ["_law_script", "_law_source_here", "_law_signs_here", "_law_tree_here", "_law_due", "_law_listed", "_law_told", "_law_idle_here", "_law_text", "_law_pairs", "_law_less", "_law_depth", "_law_tall_here", "raised", "_law_odd", "_law_lost", "_law_k"]) (sc := defScope s_law) (by decide +kernel)) (fun _ _ _ _ _ => (pg_name (i := 16) sc_law.nd rfl (Or.inl rfl))) (fun _ _ _ _ _ => (pts_one (pt_cmpR op_eq (pe_ix ix_str (pv 4) (pv 16) (fun _ _ => rfl)) pe_str (nomark _)))) (fun _ _ _ _ _ => (pv 16)))
  (pss_cons (ps_if (pt_truth (pv 9) (by intro _; rfl))
    (pss_cons (ps_set (i := 10) sc_law.nd rfl (Or.inl rfl) (pe_c c__law_without hr (by decide) rfl (pa_cons (pv 4) (pa_cons (pe_ix ix_list (pv 9) (pe_c c__law_pick hr (by decide) rfl (pa_cons (pv 1) (pa_cons (pe_callB call_len_seq (by rfl) T.b_len (by decide +kernel) (pa_cons (pv 9) pa_nil)) pa_nil))) (fun _ _ => rfl)) pa_nil))))
    (pss_one (ps_if (PW.pt (pw_and (pt_cmpR op_isN (pe_c c__law_first_bad hr (by decide) rfl (pa_cons (pv 2) (pa_cons (pv 10) pa_nil))) pe_non (nomark _)) (pw_and1 (pt_cmpR op_eq (pe_callB (call_reprD hgd hr.units) (by rfl) T.b_repr (by decide +kernel) (pa_cons (pe_cXn c_X_parse hr (by decide) rfl (pa_cons (pv 2) (pa_cons (pv 10) pa_nil))) pa_nil)) (pe_callB (call_reprD hgd hr.units) (by rfl) T.b_repr (by decide +kernel) (pa_cons (pv 3) pa_nil)) (nomark _)))))
      (pss_one (ps_ret pe_bl))
      pss_nil)))
    pss_nil)
  hb_tall)), ?_⟩
  intro D Hi H0 a p ns v sg T0 v5 v6 v7 v8 v9 v10 v11 v12 v13 v14 v15 v16 hSa hbits hlen hip hib hS hsg hsn tp hok hd kD
  have hSl := S_len sg
  have hsl := hsn.len
  have hlow := hsn.low
  obtain ⟨hs1, hs8⟩ := signs_len hsg
  have hin : Ex.inn T0 + 1 ≤ 16 := Nat.le_trans (Ex.inn_dep T0) (Nat.le_trans (Nat.pow_le_pow_right (by decide) (show dep T0 - 1 ≤ 4 by omega)) (by decide))
  obtain ⟨w1, w2, w3⟩ := Ex.wt_wtx hlow hok
  have hnod := Ex.nod_inn T0
  have hwl := wtx_low hlow hok
  have hbal := Ex.bal_wtx hlow hok
  have hSt := S_len (wtx T0)
  walk_at "nx"
  have hoc := oc_inn hlow hok
  have hoc : Ex.oc (wtx T0) + Ex.ind (trank T0 < 5) ≤ Ex.inn T0 := hoc
  generalize ht : wtx T0 = t at *
  walk_at "rd"
  rw [hSt]
  refine fun D9 hD9 => ?_
  refine lc_range (lo := 0) (n := ((t.length : Nat) : Int).toNat) (fun i H7 => H7 D9 = some (.lst (((List.range i).filter fun k => decide (t[k]? = some 40)).map fun k : Nat => V.int (k : Nat))) ∧ Same H0 H7) ⟨upd_same, same_new hD9⟩ ?_ ?_
  · rintro i H7 hi ⟨h7, s7⟩
    rw [Int.zero_add]
    have hil : i < t.length := by omega
    obtain ⟨c, hc⟩ : ∃ c, t[i]? = some c := ⟨t[i], by simp [hil]⟩
    have eqc : decide (V.str ⟨#[c]⟩ = V.str (Str.ofString "(")) = decide (t[i]? = some 40) := by
      rw [hc]
      exact decide_eq_decide.mpr ⟨fun e => by have := S_inj (show S [c] = S [40] from V.str.inj e); simpa using this, fun e => by injection e with e; rw [e]; rfl⟩
    refine ⟨rfl, ?_⟩
    walk_at "rd"
    refine ⟨_, _, c, rfl, rfl, sz_S (t := t) (by omega), atI_nat hc, ?_⟩
    walk_at "rd"
    rw [eqc, List.range_succ, List.filter_append]
    cases hcn : decide (t[i]? = some 40) with
    | false =>
      refine iteF ?_
      rw [show [i].filter (fun k => decide (t[k]? = some 40)) = [] by simp [of_decide_eq_false hcn], List.append_nil]
      exact ⟨h7, s7⟩
    | true =>
      refine iteT ?_
      rw [show [i].filter (fun k => decide (t[k]? = some 40)) = [i] by simp [of_decide_eq_true hcn], List.map_append]
      refine ⟨_, rfl, _, h7, ?_, upd_same, same_mut s7 hD9⟩
      rw [List.length_map]
      have h1 := List.length_filter_le (fun k => decide (t[k]? = some 40)) (List.range i)
      rw [List.length_range] at h1
      exact Nat.lt_of_le_of_lt (m := 200) (by omega) (by decide)
  · rintro H7 ⟨h7, s7⟩
    rw [Int.toNat_natCast] at h7
    have hmem : ∀ k ∈ (List.range t.length).filter (fun k => decide (t[k]? = some 40)), t[k]? = some 40 := fun k hk => of_decide_eq_true (List.mem_filter.mp hk).2
    have hfl := List.length_filter_le (fun k => decide (t[k]? = some 40)) (List.range t.length)
    rw [List.length_range] at hfl
    generalize (List.range t.length).filter (fun k => decide (t[k]? = some 40)) = ks at h7 hmem hfl
    have hS7 := hS.sm s7
    have tp7 := tp.keep (Keep.same s7)
    have hDp : D9 ≠ p := by
      obtain ⟨d, e, c, z⟩ := hS
      exact (ne_of_none z hD9).symm
    walk_at "nx"
    refine st_J (fun σ H8 => (∃ w10 w16 : Option V, σ = [some (.ref a), some (.ref p), some (.str (S sg)), some v, some (.str (S t)), v5, v6, v7, v8, some (.ref D9), w10, v11, v12, v13, v14, v15, w16]) ∧ But p H7 H8 ∧ Src H8 p) (fun N hN => ?_) (fun σ H8 hv => ?_)
    · cases ks with
      | nil =>
        refine if_K false (fun Q' hQ => ?_) (fun z => by cases z) (fun _ => ?_)
        · walk_at "rd"
          refine ⟨false, .inl ⟨_, SqL.of h7, rfl⟩, ?_⟩
          exact hQ
        · exact hN _ _ ⟨⟨_, _, rfl⟩, But.refl _ _, hS7⟩
      | cons k0 ks =>
        refine if_K true (fun Q' hQ => ?_) (fun _ => ?_) (fun z => by cases z)
        · walk_at "rd"
          refine ⟨true, .inl ⟨_, SqL.of h7, rfl⟩, ?_⟩
          exact hQ
        walk_at "nx"
        walk_at "rd"
        refine ⟨D9, _, rfl, .inl (SqL.of h7), ?_⟩
        refine ⟨p, _, rfl, hS7, by simp, by rw [List.length_map]; simp at hfl ⊢; omega, fun r H8 r0 r1 hS8 b8 => ?_⟩
        obtain ⟨k, hk, hkm⟩ : ∃ k : Nat, atI ((k0 :: ks).map fun k : Nat => V.int (k : Nat)) r = some (.int (k : Nat)) ∧ k ∈ k0 :: ks := by
          have hr : r.toNat < (k0 :: ks).length := by rw [List.length_map] at r1; omega
          exact ⟨(k0 :: ks)[r.toNat], atI_at r0 (by rw [List.getElem?_map, List.getElem?_eq_getElem hr]; rfl), List.getElem_mem hr⟩
        refine ⟨D9, _, _, .int (k : Nat), rfl, rfl, SqL.of (b8 _ _ hDp h7), hk, ?_⟩
        refine tNil_mk ?_
        refine ⟨t, k, rfl, by omega, hmem k hkm, hbal, fun u hL => ?_⟩
        obtain ⟨f1, f2, f3⟩ := hL.facts (sg := sg) hlow
        have tp8 := tp7.keep (Keep.but b8 hS7)
        have hSu := S_len u
        have tw := tr_shw hlow hok (by omega) (by omega)
        walk_at "nx"
        refine if_KH false (fun H9 => Same H8 H9) (fun Q' hQ => ?_) (fun z => by cases z) (fun _ H9 s9 => ?_)
        · walk_at "rd"
          refine ⟨sg, u, rfl, hlow, by omega, ?_⟩
          cases hfb : Ex.fb sg 0 .want 0 u with
          | some e =>
            refine ⟨rfl, _, rfl, ?_⟩
            rw [show decide (optV (some e) = V.non) = false from decide_eq_false (fun z => by cases z)]
            exact iteF (hQ _ (Same.refl _))
          | none =>
            have hsp := Ex.fb_spl hlow u.length u (Nat.le_refl _) 0 0 true
            rw [if_pos rfl, hfb] at hsp
            obtain ⟨ws, hws⟩ : ∃ ws, Ex.spl sg 0 0 true u = .ok ws := by
              cases e : Ex.spl sg 0 0 true u with
              | ok ws => exact ⟨ws, rfl⟩
              | error q => rw [e] at hsp; cases hsp
            obtain ⟨T1, hR⟩ := Ex.read_of hws
            generalize (Ex.run Ex.s0 ws).mo = mo at hR
            have r1 := hR.inn
            have r2 := hR.mo
            have r3 := hR.few hlow
            have r4 := Ex.dep_inn T1
            have r5 := Ex.nod_inn T1
            have hneT : T1 ≠ T0 := fun z => by rw [z, ht] at r3; omega
            have tw1 := tr_shw hlow hR.ok (by omega) (by omega)
            refine ⟨rfl, _, rfl, ?_⟩
            rw [show decide (optV none = V.non) = true from rfl]
            refine iteT ?_
            walk_at "rd"
            refine ⟨sg, .str (S u), rfl, hsn.len, .inr ⟨hsg, hsn, .inr ⟨u, rfl, by omega, .inr ⟨by omega, .inr ⟨T1, mo, hR, .inr ⟨by omega, by omega, fun v2 H9 s9 tp9 => ?_⟩⟩⟩⟩⟩⟩
            walk_at "rd"
            refine ⟨_, trD T1, rfl, tp9.dp, tw1.1, tw1.2.1, tw1.2.2.1, tw1.2.2.2, ?_⟩
            walk_at "rd"
            refine ⟨_, trD T0, rfl, (tp8.keep (Keep.same s9)).dp, tw.1, tw.2.1, tw.2.2.1, tw.2.2.2, ?_⟩
            refine eq_no (fun z => hneT (tr_shown_inj hlow hR.ok hok z)) ?_
            exact ⟨_, rfl, hQ _ s9⟩
        · exact hN _ _ ⟨⟨_, _, rfl⟩, b8.trans (But.same s9), hS8.sm s9⟩
    · obtain ⟨⟨w10, w16, rfl⟩, b8, hS8⟩ := hv
      show tb_tall _ _ _
      exact kb_tall _ Hi _ a p ns v sg T0 _ _ _ _ _ _ _ _ _ _ _ _ _ hSa hbits hlen hip ((But.trans hib (But.same s7)).trans b8) hS8 hsg hsn (tp7.keep (Keep.but b8 hS7)) hok hd kD
end
end Sh
set_option Elab.async false
set_option linter.all false
set_option maxRecDepth 100000
/-! x in t, items and x data of any depth, t a tuple -/
namespace Sh
open PySem PySem.Spec PyProof.Rows L2
section
variable {X : Cx}
def rInDT (K : PySem.W.Frag) (neg : Bool) : R2 := fun x y H Q => ∃ d ds, Dp K H x d ∧ Dp K H y (.tuple ds) ∧ SeqAt.shaped d = true ∧ SeqAt.shaped (.tuple ds) = true ∧ Q (.bl (if neg then !ds.any fun z => PyData.eqv z d else ds.any fun z => PyData.eqv z d)) H
theorem op_inDT (hu : X.A.units + 65 < cLine) : OpR X (compareOp .In) (rInDT X.K false) := fun pins s σ H x y v u Q I rx ry h =>
  match h with
  | ⟨d, ds, hd, he, sd, se, q⟩ => by
    obtain ⟨as, r1⟩ := Dp.reads I d x v hd rx
    obtain ⟨bs, r2⟩ := Dp.reads I (.tuple ds) y u he ry
    exact SeqAt.in_tuple_reads r2 r1 (SeqAt.canLay_of_shaped se) (SeqAt.canLay_of_shaped sd) (room_in_shaped sd hu) ⟨.bl _, H, I, rfl, q⟩
theorem op_notInDT (hu : X.A.units + 65 < cLine) : OpR X (compareOp .NotIn) (rInDT X.K true) := fun pins s σ H x y v u Q I rx ry h =>
  match h with
  | ⟨d, ds, hd, he, sd, se, q⟩ => by
    obtain ⟨as, r1⟩ := Dp.reads I d x v hd rx
    obtain ⟨bs, r2⟩ := Dp.reads I (.tuple ds) y u he ry
    exact SeqAt.notIn_tuple_reads r2 r1 (SeqAt.canLay_of_shaped se) (SeqAt.canLay_of_shaped sd) (room_in_shaped sd hu) ⟨.bl _, H, I, rfl, q⟩
end
end Sh
set_option Elab.async false
set_option linter.all false
set_option maxRecDepth 100000
/-! t[::-1], t a tuple -/
namespace Sh
open PySem PySem.Spec PyProof.Rows L2
theorem back_adjust (n : Nat) : Builtin.Slice.sliceAdjust none none (-1) (n : Int) = ((n : Int) - 1, -1) := rfl
theorem back_places (n : Nat) : Builtin.Slice.slicePlaces ((n : Int) - 1) (-1) (-1) = n := by
  unfold Builtin.Slice.slicePlaces
  rw [if_neg (by decide)]
  by_cases h : (n : Int) - 1 > -1
  · rw [if_pos h, show (-(-1) : Int) = 1 by decide, Int.ediv_one]
    omega
  · rw [if_neg h]
    omega
theorem fm_congr {α β : Type} {f g : α → Option β} : ∀ {l : List α}, (∀ x ∈ l, f x = g x) → l.filterMap f = l.filterMap g
  | [], _ => rfl
  | x :: l, h => by
    rw [List.filterMap_cons, List.filterMap_cons, h x List.mem_cons_self, fm_congr fun y hy => h y (List.mem_cons_of_mem _ hy)]
theorem back_pick (xs : Array Value) : (List.range xs.size).filterMap (fun (k : Nat) => xs[((xs.size : Int) - 1 + (k : Int) * (-1)).toNat]?) = xs.toList.reverse := by
  have e : (List.range xs.size).filterMap (fun (k : Nat) => xs[((xs.size : Int) - 1 + (k : Int) * (-1)).toNat]?) = ((List.range xs.size).map fun k => xs.size - 1 - k).filterMap (xs[·]?) := by
    rw [List.filterMap_map]
    refine fm_congr fun k hk => ?_
    have := List.mem_range.mp hk
    show xs[_]? = xs[xs.size - 1 - k]?
    congr 1
    omega
  rw [e, PySem.W.krv_range, List.filterMap_reverse, PySem.W.krv_all]
section
variable {prog : Program} {w : World} {A : Around} {E : Value → Shared → Prop} {s : Shared}
theorem getItem_tup_back {t sl : Addr} {items : Array Value} {tk : Tok} {Q : Value → Shared → Prop} (ht : IsTup s.heap t items) (hs : s.heap.IsSliceOf sl .none .none (.int (-1) tk))
    (h : Q (.ref s.heap.objs.size) { s with heap := s.heap.push { cls := .type "tuple", data := .seq items.toList.reverse.toArray } }) (hsz : items.size ≤ sizeLine) : wpAny (model prog w) A (getItem (.ref t) (.ref sl)) Q E s := by
  have hok : sizeOk (.seq items.toList.reverse.toArray) := by
    show items.toList.reverse.toArray.size ≤ sizeLine
    rw [List.size_toArray, List.length_reverse, Array.length_toList]
    exact hsz
  obtain ⟨os, hos, hcs, hds⟩ := id hs
  have tyS : s.TypeIs (.ref sl) "slice" := ⟨os, hos, hcs⟩
  unfold getItem
  try with_reducible refine wpAny_holding ?_
  first | refine wpAny_bind (wpAny_pure ?_) | skip
  refine wpAny_bind (wpAny_sequenceKey ht.typeIs (by decide) (wpAny_bind (wpAny_callSpecial?_slot (name := Str.ofString "__getitem__") ht.typeIs PyProof.Rows.slot_tuple_getitem
    (wpAny_call_entry PyProof.Rows.slot_tuple_getitem ht.typeIs entry_tuple_getitem ?_ (args_tuple_getitem _ _)))))
  show wpAny _ _ (Builtin.Tuple.tupleItemsOf (.ref t) >>= _) _ _ s
  refine wpAny_bind (tupleItemsOf_ ht (wpAny_bind (wpAny_typeOf tyS ?_)))
  rw [if_pos (by decide)]
  refine wpAny_bind ?_
  unfold Builtin.Slice.sliceApplied Builtin.Slice.sliceFields
  refine wpAny_bind (wpAny_bind (wpAny_field hos hds (x := .none) rfl (wpAny_bind (wpAny_field hos hds (x := .none) rfl (wpAny_bind (wpAny_field hos hds (x := .int (-1) tk) rfl (wpAny_pure ?_)))))))
  refine wpAny_bind (slicePart_int ?_)
  show wpAny _ _ (if ((-1 : Int) == 0) = true then _ else _) _ _ s
  rw [if_neg (by decide)]
  refine wpAny_bind (slicePart_none (wpAny_bind (slicePart_none (wpAny_bind (wpAny_pure ?_)))))
  show wpAny _ _ (pure ((items.size : Int) - 1, (-1 : Int), Builtin.Slice.slicePlaces ((items.size : Int) - 1) (-1) (-1))) _ _ s
  rw [back_places]
  refine wpAny_pure ?_
  have hno : ¬ ((((items.size : Int) - 1) == 0 && (-1 : Int) == 1 && items.size == items.size) = true) := by simp
  show wpAny _ _ (if (((items.size : Int) - 1) == 0 && (-1 : Int) == 1 && items.size == items.size) = true then _ else _) _ _ s
  rw [if_neg hno, back_pick]
  first
    | exact wpAny_bind (m := Builtin.Tuple.tupleExact _) (wpAny_newObj_type (wpAny_pure ⟨_, rfl, wpAny_pure h⟩) hok)
    | exact wpAny_bind (m := Builtin.Tuple.tupleExact _) (wpAny_newObj_type (wpAny_bind (wpAny_pure (wpAny_pure ⟨_, rfl, wpAny_pure h⟩))) hok)
    | exact wpAny_bind (wpAny_bind (m := Builtin.Tuple.tupleExact _) (wpAny_newObj_type (wpAny_pure (wpAny_pure ⟨_, rfl, wpAny_pure h⟩)) hok))
    | exact wpAny_bind (wpAny_bind (m := Builtin.Tuple.tupleExact _) (wpAny_newObj_type (wpAny_pure ⟨_, rfl, wpAny_pure h⟩) hok))
end
section
variable {X : Cx}
def tRevT (K : PySem.W.Frag) (te : TE) : TE := fun σ H Q => te σ H fun x H1 => ∃ a xs, x = .ref a ∧ SqT K H1 a xs ∧ ∀ p, H1 p = none → Q (.ref p) (upd H1 p (.tup xs.reverse))
theorem pe_revT {e : Expr} {te : TE} {k : Nat} {p1 p2 p3 pos : Pos} (he : PE X e te) : PE X (.Subscript e (.Slice none none (some (.UnaryOp .USub (.Constant (.int 1) k p1) p2)) p3) pos) (tRevT X.K te) := by
  refine ⟨fun pins s σ H Q I h => Subscript_ (thn (he.run pins s σ H _ I h) fun v s1 ⟨x, H1, I1, r1, a, xs, ex, hx, q⟩ => ?_)⟩
  subst ex
  cases r1
  have hst : PO X (some (.UnaryOp .USub (.Constant (.int 1) k p1) p2)) (tPart (tUn (rU fun i => .int (-i)) (tC (.int 1)))) := po_some (pe_un un_neg pe_int)
  refine wpAny_Slice (thn (po_none.run pins s1 σ H1 (fun o H2 => o = none ∧ H2 = H1) I1 ⟨rfl, rfl⟩) fun vl s2 ⟨l, H2, I2, pl, el, e2⟩ => thn (po_none.run pins s2 σ H2 (fun o H3 => o = none ∧ H3 = H2) I2 ⟨rfl, rfl⟩) fun vu s3 ⟨u, H3, I3, pu, eu, e3⟩ =>
    thn (hst.run pins s3 σ H3 (fun o H4 => o = some (-1) ∧ H4 = H3) I3 ⟨1, rfl, -1, rfl, rfl, rfl⟩) fun vs s4 ⟨o, H4, I4, ps, eo, e4⟩ => ?_)
  subst el e2 eu e3 eo e4
  have I5 : Inv X pins σ H4 { s4 with heap := s4.heap.push { cls := .type "slice", data := .fields #[vl, vu, vs] } } := I4.kept (t' := s4.toks) fun b ob q => Heap.get?_push_of_some _ q
  obtain ⟨its, r, ht, hz⟩ := I5.tuple hx
  have hlen := r.length
  cases pl
  cases pu
  cases ps
  show wpAny (model X.prog X.w) X.A (subscriptTail e (.Slice none none (some (.UnaryOp .USub (.Constant (.int 1) k p1) p2)) p3) (.ref a) (.ref s4.heap.objs.size)) (EP X pins σ Q) X.xe _
  refine tail_any (ops := [.ref a, .ref s4.heap.objs.size]) ht.typeIs (PyProof.Rows.slot_tuple_getitem.lookup) ?_ (by with_unfolding_all rfl)
  refine getItem_tup_back ht (Heap.IsSliceOf.new _ _ _ _) ?_ (by rw [List.size_toArray]; omega)
  refine ⟨.ref _, _, I5.laid (t' := s4.toks) (o := .tup xs.reverse) (fun b ob q => Heap.get?_push_of_some _ q) (Nat.le_refl _) ?_, rfl, q _ (I5.hok.fresh (Nat.le_refl _))⟩
  exact ⟨by rw [List.length_reverse]; exact hz, _, r.reverse, IsTup.new _ _⟩
end
end Sh
set_option Elab.async false
set_option linter.all false
set_option maxRecDepth 100000
/-! t[::-1], t a text -/
namespace Sh
open PySem PySem.Spec PyProof.Rows L2
open SX (S S_inj S_len S_cat)
def revS (z : Str) : Str := ⟨z.cps.toList.reverse.toArray⟩
theorem revS_S (t : List Nat) : revS (S t) = S t.reverse := by
  unfold revS
  rfl
theorem back_txt (z : Str) : (Builtin.Str.strSliceIndices none none (-1) z.length).filterMap (z.cps[·]?) = z.cps.toList.reverse := by
  have e : Builtin.Str.strSliceIndices none none (-1) z.length = (List.range z.cps.size).map fun k => z.cps.size - 1 - k := by
    show sliceRange ((z.length : Int) - 1) (-1) (-1) = _
    have hz : z.length = z.cps.size := rfl
    unfold sliceRange
    dsimp only
    rw [if_neg (by decide), hz]
    have hc : (if ((z.cps.size : Nat) : Int) - 1 > -1 then (((z.cps.size : Nat) : Int) - 1 - -1 - -1 - 1) / - -1 else 0).toNat = z.cps.size := by
      rw [show (- -1 : Int) = 1 by decide, Int.ediv_one]
      split <;> omega
    rw [hc]
    refine List.map_congr_left fun k hk => ?_
    have := List.mem_range.mp hk
    omega
  rw [e, PySem.W.krv_range, List.filterMap_reverse, PySem.W.krv_all]
section
variable {X : Cx}
def tRevS (te : TE) : TE := fun σ H Q => te σ H fun x H1 => ∃ z, x = .str z ∧ z.length ≤ sizeLine ∧ Q (.str (revS z)) H1
theorem pe_revS {e : Expr} {te : TE} {k : Nat} {p1 p2 p3 pos : Pos} (he : PE X e te) : PE X (.Subscript e (.Slice none none (some (.UnaryOp .USub (.Constant (.int 1) k p1) p2)) p3) pos) (tRevS te) := by
  refine ⟨fun pins s σ H Q I h => Subscript_ (thn (he.run pins s σ H _ I h) fun v s1 ⟨x, H1, I1, r1, z, ex, hzl, q⟩ => ?_)⟩
  subst ex
  obtain ⟨tz, rfl⟩ := r1
  have hst : PO X (some (.UnaryOp .USub (.Constant (.int 1) k p1) p2)) (tPart (tUn (rU fun i => .int (-i)) (tC (.int 1)))) := po_some (pe_un un_neg pe_int)
  refine wpAny_Slice (thn (po_none.run pins s1 σ H1 (fun o H2 => o = none ∧ H2 = H1) I1 ⟨rfl, rfl⟩) fun vl s2 ⟨l, H2, I2, pl, el, e2⟩ => thn (po_none.run pins s2 σ H2 (fun o H3 => o = none ∧ H3 = H2) I2 ⟨rfl, rfl⟩) fun vu s3 ⟨u, H3, I3, pu, eu, e3⟩ =>
    thn (hst.run pins s3 σ H3 (fun o H4 => o = some (-1) ∧ H4 = H3) I3 ⟨1, rfl, -1, rfl, rfl, rfl⟩) fun vs s4 ⟨o, H4, I4, ps, eo, e4⟩ => ?_)
  subst el e2 eu e3 eo e4
  have I5 : Inv X pins σ H4 { s4 with heap := s4.heap.push { cls := .type "slice", data := .fields #[vl, vu, vs] } } := I4.kept (t' := s4.toks) fun b ob q => Heap.get?_push_of_some _ q
  cases pl
  cases pu
  cases ps

  show wpAny (model X.prog X.w) X.A (subscriptTail e (.Slice none none (some (.UnaryOp .USub (.Constant (.int 1) k p1) p2)) p3) (.str z tz) (.ref s4.heap.objs.size)) (EP X pins σ Q) X.xe _
  refine tail_any (ops := [.str z tz, .ref s4.heap.objs.size]) (typeIs_str _ z tz) F.slot_str_getitem.lookup ?_ (by with_unfolding_all rfl)
  refine wpAny_getItem_str_slice (l := none) (u := none) (st := some (-1, _)) ⟨_, Heap.get?_push_size _ rfl, rfl, rfl⟩ rfl ?_
  show Made.post (Made.str ⟨((Builtin.Str.strSliceIndices none none (-1) z.length).filterMap (z.cps[·]?)).toArray⟩) _ _
  rw [back_txt]
  refine ⟨?_, ?_⟩
  · show (z.cps.toList.reverse.toArray).size ≤ sizeLine
    rw [List.size_toArray, List.length_reverse, Array.length_toList]
    exact hzl
  · exact ⟨.str (revS z), H4, I5.kept (t' := _) fun b ob q => q, ⟨_, rfl⟩, q⟩
end
end Sh
set_option Elab.async false
set_option linter.all false
set_option maxRecDepth 100000
/-! text * number -/
namespace Sh
open PySem PySem.Spec PyProof.Rows L2
open SX (S S_inj S_len S_cat)
theorem fold_rep (a : List Nat) : ∀ (m : Nat) (acc : List Nat), (List.replicate m a.toArray).foldl (· ++ ·) acc.toArray = (acc ++ (List.replicate m a).flatten).toArray
  | 0, acc => by simp
  | m + 1, acc => by
    rw [List.replicate_succ, List.foldl_cons, List.replicate_succ, List.flatten_cons, ← List.append_assoc, ← fold_rep a m (acc ++ a)]
    congr 1
    simp
theorem mul_S (t : List Nat) (k : Nat) (hk : 1 ≤ k) : Txt.mul (S t) (k : Int) = S (List.replicate k t).flatten := by
  unfold Txt.mul
  rw [if_neg (by omega)]
  by_cases h : (((k : Int) == 1) || ((S t).length == 0)) = true
  · rw [if_pos h]
    rw [Bool.or_eq_true, beq_iff_eq, beq_iff_eq, S_len] at h
    rcases h with h | h
    · have : k = 1 := by omega
      subst this
      simp
    · have : t = [] := List.eq_nil_of_length_eq_zero h
      subst this
      congr 1
      simp
  · rw [if_neg h]
    show (⟨(List.replicate ((k : Int)).toNat t.toArray).foldl (· ++ ·) ([] : List Nat).toArray⟩ : Str) = _
    rw [Int.toNat_natCast, fold_rep, List.nil_append]
def rMulT : R2 := fun x y H Q => ∃ (t : List Nat) (k : Nat), x = .str (S t) ∧ y = .int (k : Nat) ∧ 1 ≤ k ∧ k ≤ 1000 ∧ t.length ≤ 1000 ∧ Q (.str (S (List.replicate k t).flatten)) H
theorem op_mulStr {X : Cx} : OpR X (binaryOp .Mult) rMulT := by
  intro pins s σ H x y v u Q I rx ry h
  obtain ⟨t, k, rfl, rfl, h1, h2, h3, q⟩ := h
  obtain ⟨t1, rfl⟩ := rx
  obtain ⟨t2, rfl⟩ := ry
  have hlen : (S t).length = t.length := S_len t
  have hm : t.length * k ≤ 1000000 := Nat.le_trans (Nat.mul_le_mul h3 h2) (by decide)
  refine SB.mul ⟨?_, fun _ _ => ?_, fun _ _ => ?_⟩ fun t' tk => ?_
  · rw [Bool.or_eq_false_iff]
    exact ⟨decide_eq_false (by omega), decide_eq_false (by omega)⟩
  · rw [hlen]
    intro z
    have h4 : (2 ^ 63 - 1 : Int) / (k : Int) ≥ 1000 := by
      rw [ge_iff_le, Int.le_ediv_iff_mul_le (by omega)]
      omega
    omega
  · rw [hlen, Int.toNat_natCast]
    exact decide_eq_false (by have : (1000000 : Nat) ≤ sizeLine := by decide
                              omega)
  · rw [mul_S t k h1]
    exact ⟨.str _, H, I.tok _, ⟨_, rfl⟩, q⟩
end Sh
set_option Elab.async false
set_option linter.all false
set_option maxRecDepth 100000
/-! text * number, also none -/
namespace Sh
open PySem PySem.Spec PyProof.Rows L2
open SX (S S_inj S_len S_cat)
def rMulT0 : R2 := fun x y H Q => ∃ (t : List Nat) (k : Nat), x = .str (S t) ∧ y = .int (k : Nat) ∧ k ≤ 1000 ∧ t.length ≤ 1000 ∧ Q (.str (S (List.replicate k t).flatten)) H
theorem op_mulStr0 {X : Cx} : OpR X (binaryOp .Mult) rMulT0 := by
  intro pins s σ H x y v u Q I rx ry h
  obtain ⟨t, k, rfl, rfl, h2, h3, q⟩ := h
  by_cases h1 : 1 ≤ k
  · exact op_mulStr pins s σ H _ _ v u Q I rx ry ⟨t, k, rfl, rfl, h1, h2, h3, q⟩
  · obtain rfl : k = 0 := by omega
    obtain ⟨t1, rfl⟩ := rx
    obtain ⟨t2, rfl⟩ := ry
    refine SB.mul ⟨?_, fun a b => ?_, fun a b => ?_⟩ fun t' tk => ?_
    · rfl
    · first | (exfalso; simp at a; done) | (exfalso; simp at b; done) | (exfalso; omega)
    · rw [show (((0 : Nat) : Int)).toNat = 0 from rfl, Nat.mul_zero]
      rfl
    · rw [show Txt.mul (S t) ((0 : Nat) : Int) = S [] from rfl]
      exact ⟨.str _, H, I.tok _, ⟨_, rfl⟩, q⟩
end Sh
set_option Elab.async false
set_option linter.all false
set_option maxRecDepth 100000
set_option maxHeartbeats 4000000
namespace Sh
open PySem PySem.Spec PyProof.Rows L2
open SX (S S_inj S_len S_cat)
open Ex (Fs Op Tr Wd dep wtx trank wrapT rp kids Idl nod)
local macro_rules | `(tactic| walk_at "nx") => `(tactic| repeat (with_reducible first | refine Sh.gn_mk ?_ | refine Sh.nx_mk ?_ | refine Sh.st_nx ?_ | refine Sh.rt_mk ?_ | refine Sh.ct_mk ?_ | refine Sh.bk_mk ?_))
local macro_rules | `(tactic| walk_at "sq") => `(tactic| first | exact SqL.of upd_same | exact SqT.of upd_same | exact SqL.of (by assumption) | exact SqT.of (by assumption) | assumption | exact Or.inl (SqL.of (by assumption)) | exact Or.inr (SqT.of (by assumption)) | exact Or.inl (by assumption) | exact Or.inr (by assumption))
local macro_rules | `(tactic| walk_at "hp") => `(tactic| first | exact upd_same | assumption)
local macro_rules | `(tactic| walk_at "sz") => `(tactic| first | exact Nat.le_of_ble_eq_true rfl | omega)
local macro_rules | `(tactic| walk_at "sd") => `(tactic| first | omega | exact rfl | assumption | (show (0 : Int) < _; omega) | exact And.intro (by omega) (by omega) | exact Or.inl (And.intro (by omega) (by omega)) | exact Or.inr (And.intro (by omega) (by omega)) | omega | exact Sh.sz_S (by omega) | decide)
local macro_rules | `(tactic| walk_at "rd1") => `(tactic| first
  | (with_reducible first | refine Sh.gn_mk ?_ | refine Sh.nx_mk ?_ | refine Sh.st_nx ?_ | refine Sh.rt_mk ?_ | refine Sh.ct_mk ?_ | refine Sh.bk_mk ?_)
  | refine Exists.intro (α := V) _ (And.intro rfl ?_)
  | refine Exists.intro (α := Bool) _ (And.intro rfl ?_)
  | refine Exists.intro (α := Int) _ (And.intro rfl ?_)
  | refine Exists.intro (α := PySem.Str) _ (And.intro rfl ?_)
  | refine Exists.intro (α := Int) _ (Exists.intro (α := Int) _ (And.intro rfl (And.intro rfl ?_)))
  | refine Exists.intro (α := PySem.Str) _ (Exists.intro (α := PySem.Str) _ (And.intro rfl (And.intro rfl ?_)))
  | refine Exists.intro (α := Int) _ (Exists.intro (α := Int) _ (And.intro rfl ?_))
  | refine Or.inl (Exists.intro (α := Int) _ (And.intro rfl ?_))
  | refine Exists.intro _ (Exists.intro _ (Exists.intro _ (Exists.intro _ (And.intro rfl (And.intro rfl (And.intro (by walk_at "sq") (And.intro rfl ?_)))))))
  | refine Exists.intro _ (Exists.intro _ (Exists.intro _ (Exists.intro _ (And.intro rfl (And.intro rfl (And.intro (by walk_at "hp") (And.intro rfl ?_)))))))
  | refine And.intro (by walk_at "sd") ?_
  )
local macro_rules | `(tactic| walk_at "rd") => `(tactic| repeat walk_at "rd1")
local macro_rules | `(tactic| walk_at "lk") => `(tactic| first | exact rfl | (rw [lookup_putF, if_pos rfl]) | (rw [lookup_putF, if_neg (by decide +kernel)]; walk_at "lk"))

theorem rep_one (n c : Nat) : (List.replicate n [c]).flatten = List.replicate n c := by
  induction n with
  | zero => rfl
  | succ n ih => rw [List.replicate_succ, List.replicate_succ, List.flatten_cons, ih]; rfl
section
variable {P : Program} {w : World} {K : PySem.W.Frag} {mg : Str → Option Value} {base : Heap} {C0 XE FE DI XM FM XT FT DT XS XB BS AT RK : Addr}
theorem blk_idle (T : TxtX P K mg C0 w XE FE DI XM FM XT FT DT XS XB BS AT RK) (f : Addr) (cdv : Value) (A : Around) (outer : List Env) (s : Shared) (H : Hp) (E : XK) (hr : Room 50 (A.deeper (envOfC "law" (defScope s_law) s.heap.objs.size f cdv))) (hgd : A.guards = some []) :
    ∃ t_, PSs (cxOf CX0 P w K mg base ["_law_script", "_law_source_here", "_law_signs_here", "_law_tree_here", "_law_due", "_law_listed", "_law_told", "_law_idle_here", "_law_text", "_law_pairs", "_law_less", "_law_depth", "_law_tall_here", "raised", "_law_odd", "_law_lost", "_law_k"] "law" (defScope s_law) f cdv A outer s H E).nox ((defBody s_law).drop 7) t_ ∧
    ∀ (D : Ends) (Hi H0 : Hp) (a p : Addr) (ns : List Int) (v : V) (sg : List Nat) (T0 : Tr) (v5 v6 v7 v8 v9 v10 v11 v12 v13 v14 v15 v16 : Option V), SqL K Hi a (ns.map V.int) → (∀ z ∈ ns, Builtin.Int.intBits z ≤ 1048576) → ns.length ≤ 63 → Hi p = none → But p Hi H0 → Src H0 p → isSigns sg = true → Sgn sg → Tp K H0 v (trD T0) → Ex.Ok sg T0 → dep T0 ≤ 5 →
      (∀ H', D.rt (.bl true) H') →
      t_ D [some (.ref a), some (.ref p), some (.str (S sg)), some v, some (.str (S (wtx T0))), v5, v6, v7, v8, v9, v10, v11, v12, v13, v14, v15, v16] H0 := by
  have c__law_source := c__law_source (P := P) (w := w) (base := base) T.toTxtC.toTxt
  have c__law_signs := c__law_signs (P := P) (w := w) (base := base) T.toTxtC.toTxt
  have c__law_tree := c__law_tree (P := P) (w := w) (base := base) T.toTxtC.toTxt
  have c_X_write := c_X_write (P := P) (w := w) (base := base) T
  have c__law_tall := c__law_tall (P := P) (w := w) (base := base) T.toTxtC.toTxt
  have c__law_written := c__law_written (P := P) (w := w) (base := base) T.toTxtC.toTxt
  have c__law_pick := c__law_pick (P := P) (w := w) (base := base) T.toTxtC.toTxt
  have c__law_without := c__law_without (P := P) (w := w) (base := base) T.toTxtC.toTxt
  have c__law_idle := c__law_idle (P := P) (w := w) (base := base) T.toTxtC.toTxt
  have c__law_refused := c__law_refused (P := P) (w := w) (base := base) T
  have c_X_parse := c_X_parse (P := P) (w := w) (base := base) T
  have c__law_first_bad := c__law_first_bad (P := P) (w := w) (base := base) T.toTxtC.toTxt
  obtain ⟨tb_pairs, hb_pairs, kb_pairs⟩ := blk_pairs (P := P) (w := w) (base := base) T f cdv A outer s H E hr hgd
  have hgd : (A.deeper (envOfC "law" (defScope s_law) s.heap.objs.size f cdv)).guards = some [] := hgd
  have hu := hu_of hr
  refine ⟨_, (pss_cons (ps_set (i := 7) sc_law.nd rfl (Or.inl rfl) (pe_op op_mulStr0 pe_str (pe_c c__law_pick hr (by decide) rfl (pa_cons (pv 1) (pa_cons pe_int pa_nil)))))
  (pss_cons (ps_set (i := 8) sc_law.nd rfl (Or.inl rfl) (pe_op op_add_str (pe_op op_add_str (pv 7) (pe_c c__law_idle hr (by decide) rfl (pa_cons (pv 1) (pa_cons (pv 3) pa_nil)))) (pe_op op_mulStr0 pe_str (pe_callB call_len_str (by rfl) T.b_len (by decide +kernel) (pa_cons (pv 7) pa_nil)))))
  (pss_cons (ps_if (PW.pt (pw_and (pt_cmpR op_le (pe_callB call_len_str (by rfl) T.b_len (by decide +kernel) (pa_cons (pv 8) pa_nil)) pe_int (nomark _)) (pw_and1 (pt_cmpR op_ne (pe_callB (call_reprD hgd hr.units) (by rfl) T.b_repr (by decide +kernel) (pa_cons (pe_cXn c_X_parse hr (by decide) rfl (pa_cons (pv 2) (pa_cons (pv 8) pa_nil))) pa_nil)) (pe_callB (call_reprD hgd hr.units) (by rfl) T.b_repr (by decide +kernel) (pa_cons (pv 3) pa_nil)) (nomark _)))))
    (pss_one (ps_ret pe_bl))
    pss_nil)
  hb_pairs))), ?_⟩
  intro D Hi H0 a p ns v sg T0 v5 v6 v7 v8 v9 v10 v11 v12 v13 v14 v15 v16 hSa hbits hlen hip hib hS hsg hsn tp hok hd kD
  have hSl := S_len sg
  have hsl := hsn.len
  have hlow := hsn.low
  obtain ⟨hs1, hs8⟩ := signs_len hsg
  have hin : Ex.inn T0 + 1 ≤ 16 := Nat.le_trans (Ex.inn_dep T0) (Nat.le_trans (Nat.pow_le_pow_right (by decide) (show dep T0 - 1 ≤ 4 by omega)) (by decide))
  have hnod := Ex.nod_inn T0
  walk_at "nx"
  walk_at "rd"
  refine ⟨p, _, rfl, hS, by decide, by decide, fun r H1 r0 r1 hS1 b1 => ?_⟩
  obtain ⟨j, rfl⟩ : ∃ j : Nat, r = (j : Nat) := ⟨r.toNat, by omega⟩
  have k1 := Keep.but b1 hS
  refine ⟨[40], j, rfl, rfl, by omega, by decide, ?_⟩
  rw [rep_one]
  have hSj := S_len (List.replicate j 40)
  rw [List.length_replicate] at hSj
  have tp1 := tp.keep k1
  walk_at "nx"
  walk_at "rd"
  refine ⟨p, v, T0, rfl, hS1, tp1, hd, ⟨sg, hlow, hok⟩, by omega, fun u H2 hi hS2 b2 k2 => ?_⟩
  obtain ⟨pp, hrd, hpp, hul⟩ := Ex.idl_read hlow hok hi
  obtain ⟨m9, hrd2⟩ := hrd.wraps hlow j
  have hread := hrd2.read hlow
  have hSu := S_len u
  refine ⟨_, _, rfl, rfl, by rw [hSj, hSu]; exact Nat.le_trans (m := 1000) (by omega) (by decide), ?_⟩
  walk_at "rd"
  refine ⟨by rw [hSj]; exact Nat.le_trans (m := 3) (by omega) (by decide), ?_⟩
  refine ⟨[41], j, rfl, by rw [hSj], by omega, by decide, ?_⟩
  rw [rep_one]
  have hSj2 := S_len (List.replicate j 41)
  rw [List.length_replicate] at hSj2
  refine ⟨_, _, rfl, rfl, by rw [PySem.Str.length_append, hSj, hSu, hSj2]; exact Nat.le_trans (m := 1000) (by omega) (by decide), ?_⟩
  rw [S_cat, S_cat]
  have hxl : (List.replicate j 40 ++ u ++ List.replicate j 41).length ≤ 1000 := by
    rw [List.length_append, List.length_append, List.length_replicate, List.length_replicate]
    omega
  generalize List.replicate j 40 ++ u ++ List.replicate j 41 = x at hread hxl ⊢
  have hSx := S_len x
  have tp2 := tp1.keep k2
  have tw := tr_shw hlow hok (by omega) (by omega)
  walk_at "nx"
  refine if_KH false (fun H3 => Same H2 H3) (fun Q' hQ => ?_) (fun z => by cases z) (fun _ H3 s3 => ?_)
  · walk_at "rd"
    by_cases h4 : x.length ≤ 400
    · rw [decide_eq_true (show (((S x).length : Nat) : Int) ≤ 400 by omega)]
      refine iteT ?_
      walk_at "rd"
      refine ⟨sg, .str (S x), rfl, hsn.len, .inr ⟨hsg, hsn, .inr ⟨x, rfl, by omega, .inr ⟨h4, .inr ⟨T0, _, hread, .inr ⟨by omega, by omega, fun v2 H9 s9 tp9 => ?_⟩⟩⟩⟩⟩⟩
      walk_at "rd"
      refine ⟨_, trD T0, rfl, tp9.dp, tw.1, tw.2.1, tw.2.2.1, tw.2.2.2, ?_⟩
      walk_at "rd"
      refine ⟨_, trD T0, rfl, (tp2.keep (Keep.same s9)).dp, tw.1, tw.2.1, tw.2.2.1, tw.2.2.2, ?_⟩
      refine ne_refl ?_
      exact ⟨_, rfl, hQ _ s9⟩
    · rw [decide_eq_false (show ¬ (((S x).length : Nat) : Int) ≤ 400 by omega)]
      exact iteF (hQ _ (Same.refl _))
  · show tb_pairs _ _ _
    exact kb_pairs _ Hi _ a p ns v sg T0 _ _ _ _ _ _ _ _ _ _ _ _ hSa hbits hlen hip ((But.trans (But.trans hib b1) b2).trans (But.same s3)) (hS2.sm s3) hsg hsn (tp2.keep (Keep.same s3)) hok hd kD
end
end Sh
set_option Elab.async false
set_option linter.all false
set_option maxRecDepth 100000
set_option maxHeartbeats 4000000
namespace Sh
open PySem PySem.Spec PyProof.Rows L2
open SX (S S_inj S_len S_cat)
open Ex (Fs Op Tr Wd dep wtx trank wrapT rp kids Idl nod)
local macro_rules | `(tactic| walk_at "nx") => `(tactic| repeat (with_reducible first | refine Sh.gn_mk ?_ | refine Sh.nx_mk ?_ | refine Sh.st_nx ?_ | refine Sh.rt_mk ?_ | refine Sh.ct_mk ?_ | refine Sh.bk_mk ?_))
local macro_rules | `(tactic| walk_at "sq") => `(tactic| first | exact SqL.of upd_same | exact SqT.of upd_same | exact SqL.of (by assumption) | exact SqT.of (by assumption) | assumption | exact Or.inl (SqL.of (by assumption)) | exact Or.inr (SqT.of (by assumption)) | exact Or.inl (by assumption) | exact Or.inr (by assumption))
local macro_rules | `(tactic| walk_at "hp") => `(tactic| first | exact upd_same | assumption)
local macro_rules | `(tactic| walk_at "sz") => `(tactic| first | exact Nat.le_of_ble_eq_true rfl | omega)
local macro_rules | `(tactic| walk_at "sd") => `(tactic| first | omega | exact rfl | assumption | (show (0 : Int) < _; omega) | exact And.intro (by omega) (by omega) | exact Or.inl (And.intro (by omega) (by omega)) | exact Or.inr (And.intro (by omega) (by omega)) | omega | exact Sh.sz_S (by omega) | decide)
local macro_rules | `(tactic| walk_at "rd1") => `(tactic| first
  | (with_reducible first | refine Sh.gn_mk ?_ | refine Sh.nx_mk ?_ | refine Sh.st_nx ?_ | refine Sh.rt_mk ?_ | refine Sh.ct_mk ?_ | refine Sh.bk_mk ?_)
  | refine Exists.intro (α := V) _ (And.intro rfl ?_)
  | refine Exists.intro (α := Bool) _ (And.intro rfl ?_)
  | refine Exists.intro (α := Int) _ (And.intro rfl ?_)
  | refine Exists.intro (α := PySem.Str) _ (And.intro rfl ?_)
  | refine Exists.intro (α := Int) _ (Exists.intro (α := Int) _ (And.intro rfl (And.intro rfl ?_)))
  | refine Exists.intro (α := PySem.Str) _ (Exists.intro (α := PySem.Str) _ (And.intro rfl (And.intro rfl ?_)))
  | refine Exists.intro (α := Int) _ (Exists.intro (α := Int) _ (And.intro rfl ?_))
  | refine Or.inl (Exists.intro (α := Int) _ (And.intro rfl ?_))
  | refine Exists.intro _ (Exists.intro _ (Exists.intro _ (Exists.intro _ (And.intro rfl (And.intro rfl (And.intro (by walk_at "sq") (And.intro rfl ?_)))))))
  | refine Exists.intro _ (Exists.intro _ (Exists.intro _ (Exists.intro _ (And.intro rfl (And.intro rfl (And.intro (by walk_at "hp") (And.intro rfl ?_)))))))
  | refine And.intro (by walk_at "sd") ?_
  )
local macro_rules | `(tactic| walk_at "rd") => `(tactic| repeat walk_at "rd1")
local macro_rules | `(tactic| walk_at "lk") => `(tactic| first | exact rfl | (rw [lookup_putF, if_pos rfl]) | (rw [lookup_putF, if_neg (by decide +kernel)]; walk_at "lk"))

theorem menu_sgn : ∀ sg ∈ sgMenu, Sgn sg := by
  have h1 : ∀ sg ∈ sgMenu, (sg.all fun c => decide (97 ≤ c) && decide (c ≤ 122)) = true ∧ sg.length ≤ 3 := by decide +kernel
  have h2 : ∀ sg ∈ sgMenu, 119 ∉ sg := by decide +kernel
  intro sg hm
  obtain ⟨a, b⟩ := h1 sg hm
  refine ⟨fun c hc => ?_, ?_, by omega⟩
  · have := List.all_eq_true.mp a c hc
    simpa using this
  · rintro ⟨x, y, e⟩
    exact h2 sg hm (by rw [e]; simp)
section
variable {P : Program} {w : World} {K : PySem.W.Frag} {mg : Str → Option Value} {base : Heap} {C0 XE FE DI XM FM XT FT DT XS XB BS AT RK : Addr}
theorem law_body (T : TxtX P K mg C0 w XE FE DI XM FM XT FT DT XS XB BS AT RK) (f : Addr) (cdv : Value) (A : Around) (outer : List Env) (s : Shared) (H : Hp) (E : XK) (hr : Room 50 (A.deeper (envOfC "law" (defScope s_law) s.heap.objs.size f cdv))) (hgd : A.guards = some [])
    (a : Addr) (ns : List Int) (hS : SqL K H a (ns.map V.int)) (hbits : ∀ z ∈ ns, Builtin.Int.intBits z ≤ 1048576) (hlen : ns.length ≤ 63) :
    ∃ t, PSs (cxOf CX0 P w K mg base ["_law_script", "_law_source_here", "_law_signs_here", "_law_tree_here", "_law_due", "_law_listed", "_law_told", "_law_idle_here", "_law_text", "_law_pairs", "_law_less", "_law_depth", "_law_tall_here", "raised", "_law_odd", "_law_lost", "_law_k"] "law" (defScope s_law) f cdv A outer s H E).nox (defBody s_law) t ∧
      t { nx := fun _ _ => V.non = V.bl true, rt := fun v _ => v = .bl true } (start ["_law_script", "_law_source_here", "_law_signs_here", "_law_tree_here", "_law_due", "_law_listed", "_law_told", "_law_idle_here", "_law_text", "_law_pairs", "_law_less", "_law_depth", "_law_tall_here", "raised", "_law_odd", "_law_lost", "_law_k"] [.ref a]) H := by
  have c__law_source := c__law_source (P := P) (w := w) (base := base) T.toTxtC.toTxt
  have c__law_signs := c__law_signs (P := P) (w := w) (base := base) T.toTxtC.toTxt
  have c__law_tree := c__law_tree (P := P) (w := w) (base := base) T.toTxtC.toTxt
  have c_X_write := c_X_write (P := P) (w := w) (base := base) T
  have c__law_tall := c__law_tall (P := P) (w := w) (base := base) T.toTxtC.toTxt
  have c__law_written := c__law_written (P := P) (w := w) (base := base) T.toTxtC.toTxt
  have c__law_pick := c__law_pick (P := P) (w := w) (base := base) T.toTxtC.toTxt
  have c__law_without := c__law_without (P := P) (w := w) (base := base) T.toTxtC.toTxt
  have c__law_idle := c__law_idle (P := P) (w := w) (base := base) T.toTxtC.toTxt
  have c__law_refused := c__law_refused (P := P) (w := w) (base := base) T
  have c_X_parse := c_X_parse (P := P) (w := w) (base := base) T
  have c__law_first_bad := c__law_first_bad (P := P) (w := w) (base := base) T.toTxtC.toTxt
  obtain ⟨tb_idle, hb_idle, kb_idle⟩ := blk_idle (P := P) (w := w) (base := base) T f cdv A outer s H E hr hgd
  have hgd : (A.deeper (envOfC "law" (defScope s_law) s.heap.objs.size f cdv)).guards = some [] := hgd
  have hu := hu_of hr
  refine ⟨_, (pss_cons (ps_set (i := 1) sc_law.nd rfl (Or.inl rfl) (pe_c c__law_source hr (by decide) rfl (pa_cons (pv 0) (pa_cons pe_int pa_nil))))
  (pss_cons (ps_set (i := 2) sc_law.nd rfl (Or.inl rfl) (pe_c c__law_signs hr (by decide) rfl (pa_cons (pv 1) pa_nil)))
  (pss_cons (ps_set (i := 3) sc_law.nd rfl (Or.inl rfl) (pe_c c__law_tree hr (by decide) rfl (pa_cons (pv 1) (pa_cons (pv 2) (pa_cons pe_int pa_nil)))))
  (pss_cons (ps_set (i := 4) sc_law.nd rfl (Or.inr rfl) (pe_ix ix_tup (pe_c c__law_written hr (by decide) rfl (pa_cons (pv 3) pa_nil)) pe_int (fun _ _ => rfl)))
  (pss_cons (ps_set (i := 5) sc_law.nd rfl (Or.inl rfl) (pe_callTy call_list_of (by rfl) T.b_list (by decide +kernel) (pa_cons (pv 3) pa_nil)))
  (pss_cons (ps_set (i := 6) sc_law.nd rfl (Or.inl rfl) (pe_cXn c_X_write hr (by decide) rfl (pa_cons (pv 2) (pa_cons (pe_ifExp (pt_cmpR op_eq (pe_c c__law_pick hr (by decide) rfl (pa_cons (pv 1) (pa_cons pe_int pa_nil))) pe_int (nomark _)) (pv 5) (pv 3)) pa_nil))))
  (pss_cons (ps_if (PW.pt (pw_or (pt_cmpR op_ne (pe_callB (call_reprD hgd hr.units) (by rfl) T.b_repr (by decide +kernel) (pa_cons (pv 6) pa_nil)) (pe_callB (call_reprD hgd hr.units) (by rfl) T.b_repr (by decide +kernel) (pa_cons (pv 4) pa_nil)) (nomark _)) (pw_or1 (pt_cmpR op_ne (pe_callB (call_reprD hgd hr.units) (by rfl) T.b_repr (by decide +kernel) (pa_cons (pe_cXn c_X_parse hr (by decide) rfl (pa_cons (pv 2) (pa_cons (pv 4) pa_nil))) pa_nil)) (pe_callB (call_reprD hgd hr.units) (by rfl) T.b_repr (by decide +kernel) (pa_cons (pv 3) pa_nil)) (nomark _)))))
    (pss_one (ps_ret pe_bl))
    pss_nil)
  hb_idle))))))), ?_⟩
  refine ⟨_, rfl, a, ns, 0, rfl, hS, hbits, hlen, by decide, by decide, fun p H1 hp s1 hs1 => ?_⟩
  walk_at "nx"
  walk_at "rd"
  refine ⟨p, rfl, hs1, fun sg H2 hm hS2 b2 => ?_⟩
  have hsg := menu_signs sg hm
  have hsn := menu_sgn sg hm
  have hSl := S_len sg
  have hsl := hsn.len
  have hlow := hsn.low
  obtain ⟨hsa, hs8⟩ := signs_len hsg
  have b02 : But p H H2 := (But.same s1).trans b2
  walk_at "nx"
  walk_at "rd"
  refine ⟨p, sg, rfl, hS2, by omega, by omega, by decide, fun v T0 H3 hS3 b3 k3 tp3 hd hok => ?_⟩
  have b03 : But p H H3 := b02.trans b3
  have hin : Ex.inn T0 + 1 ≤ 16 := Nat.le_trans (Ex.inn_dep T0) (Nat.le_trans (Nat.pow_le_pow_right (by decide) (show dep T0 - 1 ≤ 4 by omega)) (by decide))
  obtain ⟨w1, w2, w3⟩ := Ex.wt_wtx hlow hok
  have hnod := Ex.nod_inn T0
  have hwl := wtx_low hlow hok
  have hSt := S_len (wtx T0)
  walk_at "nx"
  walk_at "rd"
  refine ⟨v, T0, rfl, tp3, by omega, ⟨sg, hlow, hok⟩, by omega, fun p5 H4 s4 sq4 => ?_⟩
  refine ⟨p5, _, _, .str (S (wtx T0)), rfl, rfl, sq4, atI_at (Int.le_refl 0) rfl, ?_⟩
  have tp4 := tp3.keep (Keep.same s4)
  have hS4 := hS3.sm s4
  have b04 : But p H H4 := b03.trans (But.same s4)
  have tpv := tp4
  rw [trD_I] at tp4
  obtain ⟨qa, qxs, rfl, hq4, ht4⟩ := tp4.inv
  have sw := str_shw hwl (by omega)
  have tw := tr_shw hlow hok (by omega) (by omega)
  have hpd := Ex.pd_dep T0
  have hread := Ex.read_wtx hlow hok
  walk_at "nx"
  walk_at "rd"
  refine ⟨qa, _, rfl, .inr hq4, fun pl hpl => ?_⟩
  have s5 := same_new (o := .lst qxs) hpl
  have e5 : (upd H4 pl (.lst qxs)) pl = some (.lst qxs) := upd_same
  generalize upd H4 pl (.lst qxs) = H5 at s5 e5 ⊢
  walk_at "nx"
  have hS5 := hS4.sm s5
  have b05 : But p H H5 := b04.trans (But.same s5)
  have tp5 := tpv.keep (Keep.same s5)
  have hq5 := (Keep.same s5).seq hq4
  have ht5 := ht4.keep (Keep.same s5)
  have hplp : p ≠ pl := by
    obtain ⟨d, e, c, z⟩ := hS4
    exact ne_of_none z hpl
  have oke : okN T0 20 = some T0 := if_pos (by omega)
  refine st_J (fun σ H7 => σ = [some (.ref a), some (.ref p), some (.str (S sg)), some (.ref qa), some (.str (S (wtx T0))), some (.ref pl), some (.str (S (wtx T0))), none, none, none, none, none, none, none, none, none, none] ∧ But p H H7 ∧ Src H7 p ∧ Tp K H7 (.ref qa) (trD T0)) (fun N hN => ?_) (fun σ H7 hv => ?_)
  · walk_at "rd"
    refine ⟨p, _, rfl, hS5, by decide, by decide, fun r H6 r0 r1 hS6 b6 => ?_⟩
    have k6 := Keep.but b6 hS5
    have b06 : But p H H6 := b05.trans b6
    have tp6 := tp5.keep k6
    have ck1 := tr_ckA (RK := RK) (n := 20) (.inr (k6.seq hq5)) (ht5.keep k6) hok
    have ck2 := tr_ckA (RK := RK) (n := 20) (.inl (SqL.of (b6 _ _ hplp.symm e5))) (ht5.keep k6) hok
    rw [oke] at ck1 ck2
    walk_at "rd"
    by_cases hr0 : r = 0
    · subst hr0
      rw [decide_eq_true (show V.int 0 = V.int 0 from rfl)]
      refine iteT ?_
      walk_at "rd"
      refine ⟨sg, .ref pl, rfl, by omega, .inr ⟨hsg, hlow, some T0, ck2, (fun e => by cases e), fun T2 e => ?_⟩⟩
      cases e
      refine ⟨by omega, fun H7 s7 => ?_⟩
      exact hN _ _ ⟨rfl, b06.trans (But.same s7), hS6.sm s7, tp6.keep (Keep.same s7)⟩
    · rw [decide_eq_false (show ¬ V.int r = V.int 0 from fun e => hr0 (V.int.inj e))]
      refine iteF ?_
      walk_at "rd"
      refine ⟨sg, .ref qa, rfl, by omega, .inr ⟨hsg, hlow, some T0, ck1, (fun e => by cases e), fun T2 e => ?_⟩⟩
      cases e
      refine ⟨by omega, fun H7 s7 => ?_⟩
      exact hN _ _ ⟨rfl, b06.trans (But.same s7), hS6.sm s7, tp6.keep (Keep.same s7)⟩
  · obtain ⟨rfl, b07, hS7, tp7⟩ := hv
    walk_at "nx"
    refine if_KH false (fun H4 => Same H7 H4) (fun Q' hQ => ?_) (fun z => by cases z) (fun _ H8 s8 => ?_)
    · walk_at "rd"
      refine ⟨_, .str (S (wtx T0)), rfl, .str _, sw.1, sw.2.1, sw.2.2.1, sw.2.2.2, ?_⟩
      walk_at "rd"
      refine ⟨_, .str (S (wtx T0)), rfl, .str _, sw.1, sw.2.1, sw.2.2.1, sw.2.2.2, ?_⟩
      refine ne_refl ⟨_, rfl, ?_⟩
      refine iteF ?_
      walk_at "rd"
      refine ⟨sg, .str (S (wtx T0)), rfl, hsn.len, .inr ⟨hsg, hsn, .inr ⟨wtx T0, rfl, by omega, .inr ⟨by omega, .inr ⟨T0, Ex.pd T0, hread, .inr ⟨by omega, by omega, fun v2 H9 s9 tp9 => ?_⟩⟩⟩⟩⟩⟩
      walk_at "rd"
      refine ⟨_, trD T0, rfl, tp9.dp, tw.1, tw.2.1, tw.2.2.1, tw.2.2.2, ?_⟩
      walk_at "rd"
      refine ⟨_, trD T0, rfl, (tp7.keep (Keep.same s9)).dp, tw.1, tw.2.1, tw.2.2.1, tw.2.2.2, ?_⟩
      refine ne_refl ?_
      exact ⟨_, rfl, hQ _ s9⟩
    · show tb_idle _ _ _
      exact kb_idle _ H _ a p ns (.ref qa) sg T0 _ _ _ _ _ _ _ _ _ _ _ _ hS hbits hlen hp (b07.trans (But.same s8)) (hS7.sm s8) hsg hsn (tp7.keep (Keep.same s8)) hok hd (fun _ => rfl)
end
end Sh
set_option Elab.async false
set_option linter.all false
set_option maxRecDepth 100000
namespace Sh
open PySem PySem.Spec PyProof.Rows L2
section
variable {P : Program} {K : PySem.W.Frag} {h : Heap} {mg : Str → Option Value}
/-- an exception class -/
theorem exc_mk {x : Str} {C f D N : Addr} {nm q : Str} {bs bm : List Value} {sn : List Str} {sub : List Value} {ab : Bool} {col : Option Bool} {dd : Option Addr} {k0 k1 k2 k3 k5 : Option Value} (X : K.In h) (Y : h.Ns mainGlobals mg)
    (a : PySem.W.nsIn K mainGlobals x = some (some (.ref C))) (l : K.lookup C = some (excClassObj nm q C N bs bm true sn sub ab col dd k0 k1 k2 k3 k5 "ValueError.__new__")) (vb : PySem.HandSPX.refsVE bm = true)
    (sa : PySem.W.findIn K (.ref C) "__setattr__" = some (some (.builtin "object.__setattr__"))) (ga : PySem.W.findIn K (.ref C) "__getattribute__" = some (some (.builtin "BaseException.__getattribute__"))) (gg : PySem.W.findIn K (.ref C) "__getattr__" = some none)
    (ic : PySem.W.findIn K (.ref C) "__init__" = some (some (.ref f))) (ti : PySem.W.typeIn K (.ref f) = some (.type "function")) (kc : PySem.W.keepIn K (.ref C) = true) (ex : PySem.W.subIn K (.ref C) (.type "BaseException") = some true)
    (ty : PySem.W.typeIn K (.ref C) = some (.type "type")) (hd : PySem.W.hasDictIn K C = true) (su : PySem.W.mroIn K C (.ref D) = some true) (sp : PySem.W.ks_superIn K C D "__init__" = some (some (.builtin "ValueError.__init__"))) (ve : PySem.W.subIn K (.ref C) (.type "ValueError") = some true) :
    ExcAt K mg x C f D :=
  ⟨⟨⟨nm, q, N, bs, bm, sn, sub, ab, col, dd, k0, k1, k2, k3, k5, l, vb⟩, sa, ex, ty, kc⟩, PySem.W.mg_of X Y a, ic, ti, ⟨su, sp, ve⟩, ⟨ga, gg, ex, hd⟩⟩
/-- its __init__ -/
theorem xinit_mk {q : Str} {st : Stmt} {ps : List Str} {D f cc cda : Addr} {oc kv dc pm ct cl cl2 : Value} {od an cld cld2 : Option Addr} {sl csl csl2 : Array (Option Value)} {vs : Array Value} {file : Str} {tf : Tok} {cd : ClassData}
    (l : K.lookup f = some ⟨oc, od, .func (PySem.W.fnX "__init__" q (defArgs st) (defBody st) (defScope st) [("__class__", cc)] .none kv dc pm an (.ref cda) ct), sl⟩) (c : PySem.W.codeIn K (.ref cda) q = true)
    (hcc : K.lookup cc = some ⟨cl, cld, .cell (some (.ref D)), csl⟩) (hcd : K.lookup cda = some ⟨cl2, cld2, .fields vs, csl2⟩) (hvs : vs[2]? = some (.str file tf)) (hfl : ((P.main.file : Str) == file) = true) (top : (P.main.scope.names.lookup ("super" : Str)).isSome = false)
    (hD : PySem.W.clsIn K D = some cd) (op : PySem.W.nsIn K cStatics "thirdparty.any" = some none) (ms : mg "super" = none) (hp : ∃ ar : Arg, ((defArgs st).posonlyargs ++ (defArgs st).args).head? = some ar ∧ ar.arg = "self") (hks : (defScope st).names.lookup ("super" : Str) = some .globalImplicit)
    (b : ∀ (kV doc pm : Value) (an : Option Addr) (cdv ct : Value) (us : List Value), us.length = ps.length → bindArgs (PySem.W.fnX "__init__" q (defArgs st) (defBody st) (defScope st) [("__class__", cc)] .none kV doc pm an cdv ct) ⟨us, []⟩ = pure (ps.zip us)) : XInit P K mg q st ps D f :=
  ⟨_, ⟨⟨cc, cda, oc, kv, dc, pm, ct, od, an, sl, rfl, l, c, ⟨cl, cld, csl, hcc⟩, ⟨cl2, cld2, vs, csl2, file, tf, hcd, hvs, hfl⟩⟩, top, ms, ⟨cd, hD⟩, op, hp, hks⟩, Binds.all fun us hl => b kv dc pm an (.ref cda) ct us hl⟩
end
end Sh
set_option Elab.async false
set_option linter.all false
set_option maxRecDepth 100000
namespace Sh
open PySem PySem.Spec PyProof.Rows L2
theorem all_exc {P : Program} {K : PySem.W.Frag} {h : Heap} {mg : Str → Option Value} {C0 XE FE DI XM FM XT FT DT XS XB BS AT RK : Addr} {w : World} {dA : Option Addr} {itsA : Array Value} {nA nR : Nat} {slA : Array (Option Value)} {esR : Array DictEntry} {u1 u2 u3 u4 u5 u6 u7 u8 : Value}
    {N_BadExpression : Addr} {nm_BadExpression q_BadExpression : Str} {bs_BadExpression bm_BadExpression : List Value} {sn_BadExpression : List Str} {sub_BadExpression : List Value} {ab_BadExpression : Bool} {col_BadExpression : Option Bool} {dd_BadExpression : Option Addr} {k0_BadExpression k1_BadExpression k2_BadExpression k3_BadExpression k5_BadExpression : Option Value}
    {cc_WrongItem ca_WrongItem : Addr} {oc_WrongItem kv_WrongItem dc_WrongItem pm_WrongItem ct_WrongItem cl_WrongItem cm_WrongItem : Value} {od_WrongItem an_WrongItem ce_WrongItem cf_WrongItem : Option Addr} {sl_WrongItem cs_WrongItem ct2_WrongItem : Array (Option Value)} {fv_WrongItem : Array Value} {fi_WrongItem : Str} {tf_WrongItem : Tok} {cd_WrongItem : ClassData}
    {N_TooMany : Addr} {nm_TooMany q_TooMany : Str} {bs_TooMany bm_TooMany : List Value} {sn_TooMany : List Str} {sub_TooMany : List Value} {ab_TooMany : Bool} {col_TooMany : Option Bool} {dd_TooMany : Option Addr} {k0_TooMany k1_TooMany k2_TooMany k3_TooMany k5_TooMany : Option Value}
    {cc_TooMany ca_TooMany : Addr} {oc_TooMany kv_TooMany dc_TooMany pm_TooMany ct_TooMany cl_TooMany cm_TooMany : Value} {od_TooMany an_TooMany ce_TooMany cf_TooMany : Option Addr} {sl_TooMany cs_TooMany ct2_TooMany : Array (Option Value)} {fv_TooMany : Array Value} {fi_TooMany : Str} {tf_TooMany : Tok} {cd_TooMany : ClassData}
    {N_BadText : Addr} {nm_BadText q_BadText : Str} {bs_BadText bm_BadText : List Value} {sn_BadText : List Str} {sub_BadText : List Value} {ab_BadText : Bool} {col_BadText : Option Bool} {dd_BadText : Option Addr} {k0_BadText k1_BadText k2_BadText k3_BadText k5_BadText : Option Value}
    {cc_WrongThing ca_WrongThing : Addr} {oc_WrongThing kv_WrongThing dc_WrongThing pm_WrongThing ct_WrongThing cl_WrongThing cm_WrongThing : Value} {od_WrongThing an_WrongThing ce_WrongThing cf_WrongThing : Option Addr} {sl_WrongThing cs_WrongThing ct2_WrongThing : Array (Option Value)} {fv_WrongThing : Array Value} {fi_WrongThing : Str} {tf_WrongThing : Tok} {cd_WrongThing : ClassData}
    {N_BadSigns : Addr} {nm_BadSigns q_BadSigns : Str} {bs_BadSigns bm_BadSigns : List Value} {sn_BadSigns : List Str} {sub_BadSigns : List Value} {ab_BadSigns : Bool} {col_BadSigns : Option Bool} {dd_BadSigns : Option Addr} {k0_BadSigns k1_BadSigns k2_BadSigns k3_BadSigns k5_BadSigns : Option Value}
    (KX : K.In h) (G : h.Ns mainGlobals mg) (TC : TxtC K mg C0)
    (aA : PySem.W.nsIn K mainGlobals "ATOMS" = some (some (.ref AT)))
    (lA : K.lookup AT = some ⟨.type "tuple", dA, .seq itsA nA, slA⟩)
    (zA : itsA.size ≤ sizeLine)
    (vA : Vals [.str "1", .str "0", .str "."] itsA.toList)
    (aR : PySem.W.nsIn K mainGlobals "RANKS" = some (some (.ref RK)))
    (lR : K.lookup RK = some ⟨.type "dict", none, .dict esR nR, #[]⟩)
    (kR : PySem.W.KeysLit w.params esR.toList)
    (oR : (RK == sysModules) = false)
    (h1 : PySem.W.nsIn K RK "|" = some (some u1))
    (h2 : PySem.W.nsIn K RK "&" = some (some u2))
    (h3 : PySem.W.nsIn K RK "-" = some (some u3))
    (h4 : PySem.W.nsIn K RK ">" = some (some u4))
    (h5 : PySem.W.nsIn K RK ">>" = some (some u5))
    (h6 : PySem.W.nsIn K RK "<" = some (some u6))
    (h7 : PySem.W.nsIn K RK "<<" = some (some u7))
    (h8 : PySem.W.nsIn K RK "row" = some (some u8))
    (r1 : RelV (.int 1) u1)
    (r2 : RelV (.int 2) u2)
    (r3 : RelV (.int 2) u3)
    (r4 : RelV (.int 3) u4)
    (r5 : RelV (.int 3) u5)
    (r6 : RelV (.int 3) u6)
    (r7 : RelV (.int 3) u7)
    (r8 : RelV (.int 4) u8)
    (n1 : PySem.W.nsIn K RK "sign" = some none)
    (n2 : PySem.W.nsIn K RK "1" = some none)
    (n3 : PySem.W.nsIn K RK "0" = some none)
    (n4 : PySem.W.nsIn K RK "." = some none)
    (n5 : PySem.W.nsIn K RK "*" = some none)
    (n6 : PySem.W.nsIn K RK "?" = some none)
    (n7 : PySem.W.nsIn K RK "" = some none)
    (gB : PySem.W.nsIn K mainGlobals "BadTree" = some (some (.ref XB)))
    (xB : PySem.W.excIn K XB [.type "ValueError", .type "Exception", .type "BaseException", .type "object"] "ValueError.__new__" = true)
    (kB : PySem.W.keepIn K (.ref XB) = true)
    (bB : PySem.W.subIn K (.ref XB) (.type "BaseException") = some true)
    (tB : PySem.W.typeIn K (.ref XB) = some (.type "type"))
    (dB : PySem.W.hasDictIn K XB = true)
    (sB : PySem.W.subIn K (.ref XB) (.ref XB) = some true)
    (gaB : PySem.W.findIn K (.ref XB) "__getattribute__" = some (some (.builtin "BaseException.__getattribute__")))
    (ggB : PySem.W.findIn K (.ref XB) "__getattr__" = some none)
    (coB : PySem.W.findIn K (.ref XB) "__class__" = some (some (.builtin "object.__class__")))
    (cgB : PySem.W.specialIn K (.builtin "object.__class__") "__get__" = some (some (.builtin "getset_descriptor.__get__")))
    (ctB : PySem.W.takesIn K (.builtin "object.__class__") = some true)
    (cmB : PySem.W.mroIn K XB (.type "object") = some true)
    (gS : PySem.W.nsIn K mainGlobals "ShrunkError" = some (some (.ref BS)))
    (dS : PySem.W.hasDictIn K BS = true)
    (tS : PySem.W.typeIn K (.ref BS) = some (.type "type"))
    (sS : PySem.W.subIn K (.ref XB) (.ref BS) = some true)
    (op : PySem.W.nsIn K cStatics "thirdparty.any" = some none)
    (a_BadExpression : PySem.W.nsIn K mainGlobals "BadExpression" = some (some (.ref XE)))
    (xl_BadExpression : K.lookup XE = some (excClassObj nm_BadExpression q_BadExpression XE N_BadExpression bs_BadExpression bm_BadExpression true sn_BadExpression sub_BadExpression ab_BadExpression col_BadExpression dd_BadExpression k0_BadExpression k1_BadExpression k2_BadExpression k3_BadExpression k5_BadExpression "ValueError.__new__"))
    (vb_BadExpression : PySem.HandSPX.refsVE bm_BadExpression = true)
    (sa_BadExpression : PySem.W.findIn K (.ref XE) "__setattr__" = some (some (.builtin "object.__setattr__")))
    (ga_BadExpression : PySem.W.findIn K (.ref XE) "__getattribute__" = some (some (.builtin "BaseException.__getattribute__")))
    (gg_BadExpression : PySem.W.findIn K (.ref XE) "__getattr__" = some none)
    (ic_BadExpression : PySem.W.findIn K (.ref XE) "__init__" = some (some (.ref FE)))
    (ti_BadExpression : PySem.W.typeIn K (.ref FE) = some (.type "function"))
    (kc_BadExpression : PySem.W.keepIn K (.ref XE) = true)
    (ex_BadExpression : PySem.W.subIn K (.ref XE) (.type "BaseException") = some true)
    (ty_BadExpression : PySem.W.typeIn K (.ref XE) = some (.type "type"))
    (hd_BadExpression : PySem.W.hasDictIn K XE = true)
    (l_WrongItem : K.lookup FE = some ⟨oc_WrongItem, od_WrongItem, .func (PySem.W.fnX "__init__" "WrongItem.__init__" (defArgs s_WrongItem___init__) (defBody s_WrongItem___init__) (defScope s_WrongItem___init__) [("__class__", cc_WrongItem)] .none kv_WrongItem dc_WrongItem pm_WrongItem an_WrongItem (.ref ca_WrongItem) ct_WrongItem), sl_WrongItem⟩)
    (c_WrongItem : PySem.W.codeIn K (.ref ca_WrongItem) "WrongItem.__init__" = true)
    (cl1_WrongItem : K.lookup cc_WrongItem = some ⟨cl_WrongItem, ce_WrongItem, .cell (some (.ref DI)), cs_WrongItem⟩)
    (cl2_WrongItem : K.lookup ca_WrongItem = some ⟨cm_WrongItem, cf_WrongItem, .fields fv_WrongItem, ct2_WrongItem⟩)
    (fv1_WrongItem : fv_WrongItem[2]? = some (.str fi_WrongItem tf_WrongItem))
    (fl_WrongItem : ((P.main.file : Str) == fi_WrongItem) = true)
    (cD_WrongItem : PySem.W.clsIn K DI = some cd_WrongItem)
    (top : (P.main.scope.names.lookup ("super" : Str)).isSome = false)
    (su_BadExpression : PySem.W.mroIn K XE (.ref DI) = some true)
    (sp_BadExpression : PySem.W.ks_superIn K XE DI "__init__" = some (some (.builtin "ValueError.__init__")))
    (ve_BadExpression : PySem.W.subIn K (.ref XE) (.type "ValueError") = some true)
    (nf_BadExpression_place : PySem.W.findIn K (.ref XE) "place" = some none)
    (a_TooMany : PySem.W.nsIn K mainGlobals "TooMany" = some (some (.ref XM)))
    (xl_TooMany : K.lookup XM = some (excClassObj nm_TooMany q_TooMany XM N_TooMany bs_TooMany bm_TooMany true sn_TooMany sub_TooMany ab_TooMany col_TooMany dd_TooMany k0_TooMany k1_TooMany k2_TooMany k3_TooMany k5_TooMany "ValueError.__new__"))
    (vb_TooMany : PySem.HandSPX.refsVE bm_TooMany = true)
    (sa_TooMany : PySem.W.findIn K (.ref XM) "__setattr__" = some (some (.builtin "object.__setattr__")))
    (ga_TooMany : PySem.W.findIn K (.ref XM) "__getattribute__" = some (some (.builtin "BaseException.__getattribute__")))
    (gg_TooMany : PySem.W.findIn K (.ref XM) "__getattr__" = some none)
    (ic_TooMany : PySem.W.findIn K (.ref XM) "__init__" = some (some (.ref FM)))
    (ti_TooMany : PySem.W.typeIn K (.ref FM) = some (.type "function"))
    (kc_TooMany : PySem.W.keepIn K (.ref XM) = true)
    (ex_TooMany : PySem.W.subIn K (.ref XM) (.type "BaseException") = some true)
    (ty_TooMany : PySem.W.typeIn K (.ref XM) = some (.type "type"))
    (hd_TooMany : PySem.W.hasDictIn K XM = true)
    (l_TooMany : K.lookup FM = some ⟨oc_TooMany, od_TooMany, .func (PySem.W.fnX "__init__" "TooMany.__init__" (defArgs s_TooMany___init__) (defBody s_TooMany___init__) (defScope s_TooMany___init__) [("__class__", cc_TooMany)] .none kv_TooMany dc_TooMany pm_TooMany an_TooMany (.ref ca_TooMany) ct_TooMany), sl_TooMany⟩)
    (c_TooMany : PySem.W.codeIn K (.ref ca_TooMany) "TooMany.__init__" = true)
    (cl1_TooMany : K.lookup cc_TooMany = some ⟨cl_TooMany, ce_TooMany, .cell (some (.ref XM)), cs_TooMany⟩)
    (cl2_TooMany : K.lookup ca_TooMany = some ⟨cm_TooMany, cf_TooMany, .fields fv_TooMany, ct2_TooMany⟩)
    (fv1_TooMany : fv_TooMany[2]? = some (.str fi_TooMany tf_TooMany))
    (fl_TooMany : ((P.main.file : Str) == fi_TooMany) = true)
    (cD_TooMany : PySem.W.clsIn K XM = some cd_TooMany)
    (su_TooMany : PySem.W.mroIn K XM (.ref XM) = some true)
    (sp_TooMany : PySem.W.ks_superIn K XM XM "__init__" = some (some (.builtin "ValueError.__init__")))
    (ve_TooMany : PySem.W.subIn K (.ref XM) (.type "ValueError") = some true)
    (nf_TooMany_word : PySem.W.findIn K (.ref XM) "word" = some none)
    (a_BadText : PySem.W.nsIn K mainGlobals "BadText" = some (some (.ref XT)))
    (xl_BadText : K.lookup XT = some (excClassObj nm_BadText q_BadText XT N_BadText bs_BadText bm_BadText true sn_BadText sub_BadText ab_BadText col_BadText dd_BadText k0_BadText k1_BadText k2_BadText k3_BadText k5_BadText "ValueError.__new__"))
    (vb_BadText : PySem.HandSPX.refsVE bm_BadText = true)
    (sa_BadText : PySem.W.findIn K (.ref XT) "__setattr__" = some (some (.builtin "object.__setattr__")))
    (ga_BadText : PySem.W.findIn K (.ref XT) "__getattribute__" = some (some (.builtin "BaseException.__getattribute__")))
    (gg_BadText : PySem.W.findIn K (.ref XT) "__getattr__" = some none)
    (ic_BadText : PySem.W.findIn K (.ref XT) "__init__" = some (some (.ref FT)))
    (ti_BadText : PySem.W.typeIn K (.ref FT) = some (.type "function"))
    (kc_BadText : PySem.W.keepIn K (.ref XT) = true)
    (ex_BadText : PySem.W.subIn K (.ref XT) (.type "BaseException") = some true)
    (ty_BadText : PySem.W.typeIn K (.ref XT) = some (.type "type"))
    (hd_BadText : PySem.W.hasDictIn K XT = true)
    (l_WrongThing : K.lookup FT = some ⟨oc_WrongThing, od_WrongThing, .func (PySem.W.fnX "__init__" "WrongThing.__init__" (defArgs s_WrongThing___init__) (defBody s_WrongThing___init__) (defScope s_WrongThing___init__) [("__class__", cc_WrongThing)] .none kv_WrongThing dc_WrongThing pm_WrongThing an_WrongThing (.ref ca_WrongThing) ct_WrongThing), sl_WrongThing⟩)
    (c_WrongThing : PySem.W.codeIn K (.ref ca_WrongThing) "WrongThing.__init__" = true)
    (cl1_WrongThing : K.lookup cc_WrongThing = some ⟨cl_WrongThing, ce_WrongThing, .cell (some (.ref DT)), cs_WrongThing⟩)
    (cl2_WrongThing : K.lookup ca_WrongThing = some ⟨cm_WrongThing, cf_WrongThing, .fields fv_WrongThing, ct2_WrongThing⟩)
    (fv1_WrongThing : fv_WrongThing[2]? = some (.str fi_WrongThing tf_WrongThing))
    (fl_WrongThing : ((P.main.file : Str) == fi_WrongThing) = true)
    (cD_WrongThing : PySem.W.clsIn K DT = some cd_WrongThing)
    (su_BadText : PySem.W.mroIn K XT (.ref DT) = some true)
    (sp_BadText : PySem.W.ks_superIn K XT DT "__init__" = some (some (.builtin "ValueError.__init__")))
    (ve_BadText : PySem.W.subIn K (.ref XT) (.type "ValueError") = some true)
    (nf_BadText_thing : PySem.W.findIn K (.ref XT) "thing" = some none)
    (a_BadSigns : PySem.W.nsIn K mainGlobals "BadSigns" = some (some (.ref XS)))
    (xl_BadSigns : K.lookup XS = some (excClassObj nm_BadSigns q_BadSigns XS N_BadSigns bs_BadSigns bm_BadSigns true sn_BadSigns sub_BadSigns ab_BadSigns col_BadSigns dd_BadSigns k0_BadSigns k1_BadSigns k2_BadSigns k3_BadSigns k5_BadSigns "ValueError.__new__"))
    (vb_BadSigns : PySem.HandSPX.refsVE bm_BadSigns = true)
    (sa_BadSigns : PySem.W.findIn K (.ref XS) "__setattr__" = some (some (.builtin "object.__setattr__")))
    (ga_BadSigns : PySem.W.findIn K (.ref XS) "__getattribute__" = some (some (.builtin "BaseException.__getattribute__")))
    (gg_BadSigns : PySem.W.findIn K (.ref XS) "__getattr__" = some none)
    (ic_BadSigns : PySem.W.findIn K (.ref XS) "__init__" = some (some (.ref FT)))
    (ti_BadSigns : PySem.W.typeIn K (.ref FT) = some (.type "function"))
    (kc_BadSigns : PySem.W.keepIn K (.ref XS) = true)
    (ex_BadSigns : PySem.W.subIn K (.ref XS) (.type "BaseException") = some true)
    (ty_BadSigns : PySem.W.typeIn K (.ref XS) = some (.type "type"))
    (hd_BadSigns : PySem.W.hasDictIn K XS = true)
    (su_BadSigns : PySem.W.mroIn K XS (.ref DT) = some true)
    (sp_BadSigns : PySem.W.ks_superIn K XS DT "__init__" = some (some (.builtin "ValueError.__init__")))
    (ve_BadSigns : PySem.W.subIn K (.ref XS) (.type "ValueError") = some true)
    (nf_BadSigns_thing : PySem.W.findIn K (.ref XS) "thing" = some none)
    (h_TooMany_TooMany : PySem.W.subIn K (.ref XM) (.ref XM) = some true)
    (h_BadSigns_BadSigns : PySem.W.subIn K (.ref XS) (.ref XS) = some true) :
    ∃ XE FE DI XM FM XT FT DT XS XB BS AT RK : Addr, TxtX P K mg C0 w XE FE DI XM FM XT FT DT XS XB BS AT RK :=
  ⟨XE, FE, DI, XM, FM, XT, FT, DT, XS, XB, BS, AT, RK, { TC with
    g_ATOMS := ⟨_, PySem.W.mg_of KX G aA, rfl⟩
    s_ATOMS := fun _ => .inr ⟨_, _, _, lA, rfl, rfl, zA, vA⟩
    g_RANKS := ⟨_, PySem.W.mg_of KX G aR, rfl⟩
    r_RANKS := ⟨⟨_, _, lR, kR, oR⟩, fun o => (match o with
      | .or => ⟨_, h1, r1⟩
      | .and => ⟨_, h2, r2⟩
      | .sub => ⟨_, h3, r3⟩
      | .gt => ⟨_, h4, r4⟩
      | .gg => ⟨_, h5, r5⟩
      | .lt => ⟨_, h6, r6⟩
      | .ll => ⟨_, h7, r7⟩
      | .row => ⟨_, h8, r8⟩), fun x hx => (by
        simp only [List.mem_cons, List.not_mem_nil, or_false] at hx
        rcases hx with rfl | rfl | rfl | rfl | rfl | rfl | rfl
        · exact n1
        · exact n2
        · exact n3
        · exact n4
        · exact n5
        · exact n6
        · exact n7)⟩
    x_BadTree := xB
    g_BadTree := PySem.W.mg_of KX G gB
    k_BadTree := kB
    b_BadTree := bB
    t_BadTree := tB
    mm_BadTree_BadTree := PySem.W.exm_ref bB dB tB sB
    c_BadTree := ⟨gaB, ggB, bB, dB, coB, cgB, ctB, cmB⟩
    gc_ShrunkError := PySem.W.mg_of KX G gS
    ko_BadTree_ShrunkError := kit_true dS tS sS
    e_BadExpression := exc_mk KX G a_BadExpression xl_BadExpression vb_BadExpression sa_BadExpression ga_BadExpression gg_BadExpression ic_BadExpression ti_BadExpression kc_BadExpression ex_BadExpression ty_BadExpression hd_BadExpression su_BadExpression sp_BadExpression ve_BadExpression
    q_WrongItem := xinit_mk l_WrongItem c_WrongItem cl1_WrongItem cl2_WrongItem fv1_WrongItem fl_WrongItem top cD_WrongItem op TC.b_super ⟨_, rfl, rfl⟩ (by decide +kernel) (fun _ _ _ _ _ _ us hl => match us, hl with | [_, _], _ => rfl)
    nf_BadExpression_place := nf_BadExpression_place
    e_TooMany := exc_mk KX G a_TooMany xl_TooMany vb_TooMany sa_TooMany ga_TooMany gg_TooMany ic_TooMany ti_TooMany kc_TooMany ex_TooMany ty_TooMany hd_TooMany su_TooMany sp_TooMany ve_TooMany
    q_TooMany := xinit_mk l_TooMany c_TooMany cl1_TooMany cl2_TooMany fv1_TooMany fl_TooMany top cD_TooMany op TC.b_super ⟨_, rfl, rfl⟩ (by decide +kernel) (fun _ _ _ _ _ _ us hl => match us, hl with | [_, _], _ => rfl)
    nf_TooMany_word := nf_TooMany_word
    e_BadText := exc_mk KX G a_BadText xl_BadText vb_BadText sa_BadText ga_BadText gg_BadText ic_BadText ti_BadText kc_BadText ex_BadText ty_BadText hd_BadText su_BadText sp_BadText ve_BadText
    q_WrongThing := xinit_mk l_WrongThing c_WrongThing cl1_WrongThing cl2_WrongThing fv1_WrongThing fl_WrongThing top cD_WrongThing op TC.b_super ⟨_, rfl, rfl⟩ (by decide +kernel) (fun _ _ _ _ _ _ us hl => match us, hl with | [_, _], _ => rfl)
    nf_BadText_thing := nf_BadText_thing
    e_BadSigns := exc_mk KX G a_BadSigns xl_BadSigns vb_BadSigns sa_BadSigns ga_BadSigns gg_BadSigns ic_BadSigns ti_BadSigns kc_BadSigns ex_BadSigns ty_BadSigns hd_BadSigns su_BadSigns sp_BadSigns ve_BadSigns
    nf_BadSigns_thing := nf_BadSigns_thing
    mm_TooMany_TooMany := PySem.W.exm_ref ex_TooMany hd_TooMany ty_TooMany h_TooMany_TooMany
    mm_BadSigns_BadSigns := PySem.W.exm_ref ex_BadSigns hd_BadSigns ty_BadSigns h_BadSigns_BadSigns }⟩
end Sh
open PySem PySem.W PyProof.Rows
set_option maxRecDepth 100000 in
set_option maxHeartbeats 0 in
theorem PySem.Challenge.cw_shrunkalike_k68_whole_written_and_read_holds : PySem.Challenge.rw_shrunkalike_k68_whole_written_and_read.Holds := by
  w_on; o_law; k_head; (case hw => w_witness2)
  k_fill
  refine Sh.walk_law (l := PySem.Challenge.rw_shrunkalike_k68_whole_written_and_read) (n := 63) (k := 50) (x := "law") (p1 := "_law_script") (st := Sh.s_law) (N := ["_law_script", "_law_source_here", "_law_signs_here", "_law_tree_here", "_law_due", "_law_listed", "_law_told", "_law_idle_here", "_law_text", "_law_pairs", "_law_less", "_law_depth", "_law_tall_here", "raised", "_law_odd", "_law_lost", "_law_k"]) rfl (by decide) rfl ⟨rfl, by decide, by decide⟩ Sh.sc_law (fun w h Y => PySem.W.kIn_of Y) ?F
  case F =>
    intro w mg fa h KX G hmg
    have b_len : mg "len" = none := by refine' PySem.W.mg_none_of KX G ?z; (case z => k_is)
    have b_range : mg "range" = none := by refine' PySem.W.mg_none_of KX G ?z; (case z => k_is)
    have b_max : mg "max" = none := by refine' PySem.W.mg_none_of KX G ?z; (case z => k_is)
    have b_isinstance : mg "isinstance" = none := by refine' PySem.W.mg_none_of KX G ?z; (case z => k_is)
    have b_abs : mg "abs" = none := by refine' PySem.W.mg_none_of KX G ?z; (case z => k_is)
    have b_int : mg "int" = none := by refine' PySem.W.mg_none_of KX G ?z; (case z => k_is)
    have b_str : mg "str" = none := by refine' PySem.W.mg_none_of KX G ?z; (case z => k_is)
    have b_tuple : mg "tuple" = none := by refine' PySem.W.mg_none_of KX G ?z; (case z => k_is)
    have b_list : mg "list" = none := by refine' PySem.W.mg_none_of KX G ?z; (case z => k_is)
    have b_repr : mg "repr" = none := by refine' PySem.W.mg_none_of KX G ?z; (case z => k_is)
    have b_super : mg "super" = none := by refine' PySem.W.mg_none_of KX G ?z; (case z => k_is)
    have g_LETTERS : ∃ u, mg "LETTERS" = some u ∧ L2.RelV (.str "abcdefghijklmnopqrstuvwxyz") u := by refine' Sh.con_mk KX G ?a ?r; (case a => k_is); (case r => exact ⟨_, rfl⟩)
    have g_MOST_LONG : ∃ u, mg "MOST_LONG" = some u ∧ L2.RelV (.int 400) u := by refine' Sh.con_mk KX G ?a ?r; (case a => k_is); (case r => exact ⟨_, rfl⟩)
    have g_MOST_DEEP : ∃ u, mg "MOST_DEEP" = some u ∧ L2.RelV (.int 20) u := by refine' Sh.con_mk KX G ?a ?r; (case a => k_is); (case r => exact ⟨_, rfl⟩)
    have g_MOST_OPEN : ∃ u, mg "MOST_OPEN" = some u ∧ L2.RelV (.int 20) u := by refine' Sh.con_mk KX G ?a ?r; (case a => k_is); (case r => exact ⟨_, rfl⟩)
    have d_is_listed : Sh.DefAt (L2.KOf KX) mg "is_listed" Sh.s_is_listed ["thing"] := by delta L2.KOf; refine' Sh.def_mk KX G ?a ?l ?c ?k ?b; (case a => k_is); (case l => k_is); (case c => k_is); (case k => k_is); (case b => exact fun _ _ _ _ _ _ us hl => match us, hl with | [_], _ => rfl)
    have d_is_signs : Sh.DefAt (L2.KOf KX) mg "is_signs" Sh.s_is_signs ["thing"] := by delta L2.KOf; refine' Sh.def_mk KX G ?a ?l ?c ?k ?b; (case a => k_is); (case l => k_is); (case c => k_is); (case k => k_is); (case b => exact fun _ _ _ _ _ _ us hl => match us, hl with | [_], _ => rfl)
    have d_check_signs : Sh.DefAt (L2.KOf KX) mg "check_signs" Sh.s_check_signs ["thing"] := by delta L2.KOf; refine' Sh.def_mk KX G ?a ?l ?c ?k ?b; (case a => k_is); (case l => k_is); (case c => k_is); (case k => k_is); (case b => exact fun _ _ _ _ _ _ us hl => match us, hl with | [_], _ => rfl)
    have d_split_up : Sh.DefAt (L2.KOf KX) mg "split_up" Sh.s_split_up ["signs", "text"] := by delta L2.KOf; refine' Sh.def_mk KX G ?a ?l ?c ?k ?b; (case a => k_is); (case l => k_is); (case c => k_is); (case k => k_is); (case b => exact fun _ _ _ _ _ _ us hl => match us, hl with | [_, _], _ => rfl)
    have d_folded : Sh.DefAt (L2.KOf KX) mg "folded" Sh.s_folded ["trees", "operators", "rank"] := by delta L2.KOf; refine' Sh.def_mk KX G ?a ?l ?c ?k ?b; (case a => k_is); (case l => k_is); (case c => k_is); (case k => k_is); (case b => exact fun _ _ _ _ _ _ us hl => match us, hl with | [_, _, _], _ => rfl)
    have d_tree_from : Sh.DefAt (L2.KOf KX) mg "tree_from" Sh.s_tree_from ["signs", "words"] := by delta L2.KOf; refine' Sh.def_mk KX G ?a ?l ?c ?k ?b; (case a => k_is); (case l => k_is); (case c => k_is); (case k => k_is); (case b => exact fun _ _ _ _ _ _ us hl => match us, hl with | [_, _], _ => rfl)
    have d_depth_of : Sh.DefAt (L2.KOf KX) mg "depth_of" Sh.s_depth_of ["tree"] := by delta L2.KOf; refine' Sh.def_mk KX G ?a ?l ?c ?k ?b; (case a => k_is); (case l => k_is); (case c => k_is); (case k => k_is); (case b => exact fun _ _ _ _ _ _ us hl => match us, hl with | [_], _ => rfl)
    have d_parse : Sh.DefAt (L2.KOf KX) mg "parse" Sh.s_parse ["signs", "text"] := by delta L2.KOf; refine' Sh.def_mk KX G ?a ?l ?c ?k ?b; (case a => k_is); (case l => k_is); (case c => k_is); (case k => k_is); (case b => exact fun _ _ _ _ _ _ us hl => match us, hl with | [_, _], _ => rfl)
    have d_checked_tree : Sh.DefAt (L2.KOf KX) mg "checked_tree" Sh.s_checked_tree ["signs", "thing", "left"] := by delta L2.KOf; refine' Sh.def_mk KX G ?a ?l ?c ?k ?b; (case a => k_is); (case l => k_is); (case c => k_is); (case k => k_is); (case b => exact fun _ _ _ _ _ _ us hl => match us, hl with | [_, _, _], _ => rfl)
    have d_rank_of : Sh.DefAt (L2.KOf KX) mg "rank_of" Sh.s_rank_of ["tree"] := by delta L2.KOf; refine' Sh.def_mk KX G ?a ?l ?c ?k ?b; (case a => k_is); (case l => k_is); (case c => k_is); (case k => k_is); (case b => exact fun _ _ _ _ _ _ us hl => match us, hl with | [_], _ => rfl)
    have d_wrapped : Sh.DefAt (L2.KOf KX) mg "wrapped" Sh.s_wrapped ["tree", "rank"] := by delta L2.KOf; refine' Sh.def_mk KX G ?a ?l ?c ?k ?b; (case a => k_is); (case l => k_is); (case c => k_is); (case k => k_is); (case b => exact fun _ _ _ _ _ _ us hl => match us, hl with | [_, _], _ => rfl)
    have d_written : Sh.DefAt (L2.KOf KX) mg "written" Sh.s_written ["tree"] := by delta L2.KOf; refine' Sh.def_mk KX G ?a ?l ?c ?k ?b; (case a => k_is); (case l => k_is); (case c => k_is); (case k => k_is); (case b => exact fun _ _ _ _ _ _ us hl => match us, hl with | [_], _ => rfl)
    have d_write : Sh.DefAt (L2.KOf KX) mg "write" Sh.s_write ["signs", "tree"] := by delta L2.KOf; refine' Sh.def_mk KX G ?a ?l ?c ?k ?b; (case a => k_is); (case l => k_is); (case c => k_is); (case k => k_is); (case b => exact fun _ _ _ _ _ _ us hl => match us, hl with | [_, _], _ => rfl)
    have d__law_source : Sh.DefAt (L2.KOf KX) mg "_law_source" Sh.s__law_source ["_law_script", "_law_place"] := by delta L2.KOf; refine' Sh.def_mk KX G ?a ?l ?c ?k ?b; (case a => k_is); (case l => k_is); (case c => k_is); (case k => k_is); (case b => exact fun _ _ _ _ _ _ us hl => match us, hl with | [_, _], _ => rfl)
    have d__law_pick : Sh.DefAt (L2.KOf KX) mg "_law_pick" Sh.s__law_pick ["_law_source_here", "_law_many"] := by delta L2.KOf; refine' Sh.def_mk KX G ?a ?l ?c ?k ?b; (case a => k_is); (case l => k_is); (case c => k_is); (case k => k_is); (case b => exact fun _ _ _ _ _ _ us hl => match us, hl with | [_, _], _ => rfl)
    have d__law_signs : Sh.DefAt (L2.KOf KX) mg "_law_signs" Sh.s__law_signs ["_law_source_here"] := by delta L2.KOf; refine' Sh.def_mk KX G ?a ?l ?c ?k ?b; (case a => k_is); (case l => k_is); (case c => k_is); (case k => k_is); (case b => exact fun _ _ _ _ _ _ us hl => match us, hl with | [_], _ => rfl)
    have d__law_tree : Sh.DefAt (L2.KOf KX) mg "_law_tree" Sh.s__law_tree ["_law_source_here", "_law_signs_here", "_law_depth"] := by delta L2.KOf; refine' Sh.def_mk KX G ?a ?l ?c ?k ?b; (case a => k_is); (case l => k_is); (case c => k_is); (case k => k_is); (case b => exact fun _ _ _ _ _ _ us hl => match us, hl with | [_, _, _], _ => rfl)
    have d__law_written : Sh.DefAt (L2.KOf KX) mg "_law_written" Sh.s__law_written ["_law_tree_here"] := by delta L2.KOf; refine' Sh.def_mk KX G ?a ?l ?c ?k ?b; (case a => k_is); (case l => k_is); (case c => k_is); (case k => k_is); (case b => exact fun _ _ _ _ _ _ us hl => match us, hl with | [_], _ => rfl)
    have d__law_first_bad : Sh.DefAt (L2.KOf KX) mg "_law_first_bad" Sh.s__law_first_bad ["_law_signs_here", "_law_text"] := by delta L2.KOf; refine' Sh.def_mk KX G ?a ?l ?c ?k ?b; (case a => k_is); (case l => k_is); (case c => k_is); (case k => k_is); (case b => exact fun _ _ _ _ _ _ us hl => match us, hl with | [_, _], _ => rfl)
    have d__law_idle : Sh.DefAt (L2.KOf KX) mg "_law_idle" Sh.s__law_idle ["_law_source_here", "_law_tree_here"] := by delta L2.KOf; refine' Sh.def_mk KX G ?a ?l ?c ?k ?b; (case a => k_is); (case l => k_is); (case c => k_is); (case k => k_is); (case b => exact fun _ _ _ _ _ _ us hl => match us, hl with | [_, _], _ => rfl)
    have d__law_tall : Sh.DefAt (L2.KOf KX) mg "_law_tall" Sh.s__law_tall ["_law_source_here", "_law_signs_here", "_law_depth"] := by delta L2.KOf; refine' Sh.def_mk KX G ?a ?l ?c ?k ?b; (case a => k_is); (case l => k_is); (case c => k_is); (case k => k_is); (case b => exact fun _ _ _ _ _ _ us hl => match us, hl with | [_, _, _], _ => rfl)
    have d__law_without : Sh.DefAt (L2.KOf KX) mg "_law_without" Sh.s__law_without ["_law_text", "_law_at"] := by delta L2.KOf; refine' Sh.def_mk KX G ?a ?l ?c ?k ?b; (case a => k_is); (case l => k_is); (case c => k_is); (case k => k_is); (case b => exact fun _ _ _ _ _ _ us hl => match us, hl with | [_, _], _ => rfl)
    have d__law_refused : Sh.DefAt (L2.KOf KX) mg "_law_refused" Sh.s__law_refused ["_law_signs_here", "_law_tree_here"] := by delta L2.KOf; refine' Sh.def_mk KX G ?a ?l ?c ?k ?b; (case a => k_is); (case l => k_is); (case c => k_is); (case k => k_is); (case b => exact fun _ _ _ _ _ _ us hl => match us, hl with | [_, _], _ => rfl)
    have T0 : Sh.Txt (L2.KOf KX) mg := ⟨b_len, b_range, b_max, b_isinstance, b_abs, b_int, b_str, b_tuple, b_list, b_repr, b_super, g_LETTERS, g_MOST_LONG, g_MOST_DEEP, g_MOST_OPEN, d_is_listed, d_is_signs, d_check_signs, d_split_up, d_folded, d_tree_from, d_depth_of, d_parse, d_checked_tree, d_rank_of, d_wrapped, d_written, d_write, d__law_source, d__law_pick, d__law_signs, d__law_tree, d__law_written, d__law_first_bad, d__law_idle, d__law_tall, d__law_without, d__law_refused⟩
    obtain ⟨C0, T⟩ : ∃ C0 : Addr, Sh.TxtC (L2.KOf KX) mg C0 := ⟨0, ⟨T0⟩⟩
    obtain ⟨XE, FE, DI, XM, FM, XT, FT, DT, XS, XB, BS, AT, RK, T⟩ : ∃ XE FE DI XM FM XT FT DT XS XB BS AT RK : Addr, Sh.TxtX (PySem.Challenge.rw_shrunkalike_k68_whole_written_and_read).prog (L2.KOf KX) mg C0 w XE FE DI XM FM XT FT DT XS XB BS AT RK := by
      delta L2.KOf at T ⊢; refine' Sh.all_exc KX G T ?aA ?lA ?zA ?vA ?aR ?lR ?kR ?oR ?h1 ?h2 ?h3 ?h4 ?h5 ?h6 ?h7 ?h8 ?r1 ?r2 ?r3 ?r4 ?r5 ?r6 ?r7 ?r8 ?n1 ?n2 ?n3 ?n4 ?n5 ?n6 ?n7 ?gB ?xB ?kB ?bB ?tB ?dB ?sB ?gaB ?ggB ?coB ?cgB ?ctB ?cmB ?gS ?dS ?tS ?sS ?op ?a_BadExpression ?xl_BadExpression ?vb_BadExpression ?sa_BadExpression ?ga_BadExpression ?gg_BadExpression ?ic_BadExpression ?ti_BadExpression ?kc_BadExpression ?ex_BadExpression ?ty_BadExpression ?hd_BadExpression ?l_WrongItem ?c_WrongItem ?cl1_WrongItem ?cl2_WrongItem ?fv1_WrongItem ?fl_WrongItem ?cD_WrongItem ?top ?su_BadExpression ?sp_BadExpression ?ve_BadExpression ?nf_BadExpression_place ?a_TooMany ?xl_TooMany ?vb_TooMany ?sa_TooMany ?ga_TooMany ?gg_TooMany ?ic_TooMany ?ti_TooMany ?kc_TooMany ?ex_TooMany ?ty_TooMany ?hd_TooMany ?l_TooMany ?c_TooMany ?cl1_TooMany ?cl2_TooMany ?fv1_TooMany ?fl_TooMany ?cD_TooMany ?su_TooMany ?sp_TooMany ?ve_TooMany ?nf_TooMany_word ?a_BadText ?xl_BadText ?vb_BadText ?sa_BadText ?ga_BadText ?gg_BadText ?ic_BadText ?ti_BadText ?kc_BadText ?ex_BadText ?ty_BadText ?hd_BadText ?l_WrongThing ?c_WrongThing ?cl1_WrongThing ?cl2_WrongThing ?fv1_WrongThing ?fl_WrongThing ?cD_WrongThing ?su_BadText ?sp_BadText ?ve_BadText ?nf_BadText_thing ?a_BadSigns ?xl_BadSigns ?vb_BadSigns ?sa_BadSigns ?ga_BadSigns ?gg_BadSigns ?ic_BadSigns ?ti_BadSigns ?kc_BadSigns ?ex_BadSigns ?ty_BadSigns ?hd_BadSigns ?su_BadSigns ?sp_BadSigns ?ve_BadSigns ?nf_BadSigns_thing ?h_TooMany_TooMany ?h_BadSigns_BadSigns
      (case aA => k_is)
      (case lA => k_is)
      (case zA => exact Nat.le_trans (m := 3) (by first | exact Nat.le_refl _ | decide) (by decide))
      (case vA => exact .cons ⟨_, rfl⟩ (.cons ⟨_, rfl⟩ (.cons ⟨_, rfl⟩ .nil)))
      (case aR => k_is)
      (case lR => k_is)
      (case kR => repeat (first | exact trivial | refine ⟨⟨_, _, rfl, rfl⟩, ?_⟩))
      (case oR => first | rfl | decide | decide +kernel)
      (case h1 => k_is)
      (case h2 => k_is)
      (case h3 => k_is)
      (case h4 => k_is)
      (case h5 => k_is)
      (case h6 => k_is)
      (case h7 => k_is)
      (case h8 => k_is)
      (case r1 => exact ⟨_, rfl⟩)
      (case r2 => exact ⟨_, rfl⟩)
      (case r3 => exact ⟨_, rfl⟩)
      (case r4 => exact ⟨_, rfl⟩)
      (case r5 => exact ⟨_, rfl⟩)
      (case r6 => exact ⟨_, rfl⟩)
      (case r7 => exact ⟨_, rfl⟩)
      (case r8 => exact ⟨_, rfl⟩)
      (case n1 => k_is)
      (case n2 => k_is)
      (case n3 => k_is)
      (case n4 => k_is)
      (case n5 => k_is)
      (case n6 => k_is)
      (case n7 => k_is)
      (case gB => k_is)
      (case xB => k_exc)
      (case kB => k_is)
      (case bB => k_is)
      (case tB => k_is)
      (case dB => k_is)
      (case sB => first | rfl | k_is)
      (case gaB => k_is)
      (case ggB => k_is)
      (case coB => k_is)
      (case cgB => k_is)
      (case ctB => k_is)
      (case cmB => k_is)
      (case gS => k_is)
      (case dS => k_is)
      (case tS => k_is)
      (case sS => first | rfl | k_is)
      (case op => k_is)
      (case a_BadExpression => k_is)
      (case xl_BadExpression => k_is)
      (case vb_BadExpression => first | rfl | decide +kernel)
      (case sa_BadExpression => k_is)
      (case ga_BadExpression => k_is)
      (case gg_BadExpression => k_is)
      (case ic_BadExpression => k_is)
      (case ti_BadExpression => k_is)
      (case kc_BadExpression => k_is)
      (case ex_BadExpression => k_is)
      (case ty_BadExpression => k_is)
      (case hd_BadExpression => k_is)
      (case l_WrongItem => k_is)
      (case c_WrongItem => k_is)
      (case cl1_WrongItem => k_is)
      (case cl2_WrongItem => k_is)
      (case fv1_WrongItem => rfl)
      (case fl_WrongItem => first | rfl | decide +kernel)
      (case cD_WrongItem => k_is)
      (case top => first | rfl | decide +kernel)
      (case su_BadExpression => k_is)
      (case sp_BadExpression => ks_is)
      (case ve_BadExpression => k_is)
      (case nf_BadExpression_place => k_is)
      (case a_TooMany => k_is)
      (case xl_TooMany => k_is)
      (case vb_TooMany => first | rfl | decide +kernel)
      (case sa_TooMany => k_is)
      (case ga_TooMany => k_is)
      (case gg_TooMany => k_is)
      (case ic_TooMany => k_is)
      (case ti_TooMany => k_is)
      (case kc_TooMany => k_is)
      (case ex_TooMany => k_is)
      (case ty_TooMany => k_is)
      (case hd_TooMany => k_is)
      (case l_TooMany => k_is)
      (case c_TooMany => k_is)
      (case cl1_TooMany => k_is)
      (case cl2_TooMany => k_is)
      (case fv1_TooMany => rfl)
      (case fl_TooMany => first | rfl | decide +kernel)
      (case cD_TooMany => k_is)
      (case su_TooMany => k_is)
      (case sp_TooMany => ks_is)
      (case ve_TooMany => k_is)
      (case nf_TooMany_word => k_is)
      (case a_BadText => k_is)
      (case xl_BadText => k_is)
      (case vb_BadText => first | rfl | decide +kernel)
      (case sa_BadText => k_is)
      (case ga_BadText => k_is)
      (case gg_BadText => k_is)
      (case ic_BadText => k_is)
      (case ti_BadText => k_is)
      (case kc_BadText => k_is)
      (case ex_BadText => k_is)
      (case ty_BadText => k_is)
      (case hd_BadText => k_is)
      (case l_WrongThing => k_is)
      (case c_WrongThing => k_is)
      (case cl1_WrongThing => k_is)
      (case cl2_WrongThing => k_is)
      (case fv1_WrongThing => rfl)
      (case fl_WrongThing => first | rfl | decide +kernel)
      (case cD_WrongThing => k_is)
      (case su_BadText => k_is)
      (case sp_BadText => ks_is)
      (case ve_BadText => k_is)
      (case nf_BadText_thing => k_is)
      (case a_BadSigns => k_is)
      (case xl_BadSigns => k_is)
      (case vb_BadSigns => first | rfl | decide +kernel)
      (case sa_BadSigns => k_is)
      (case ga_BadSigns => k_is)
      (case gg_BadSigns => k_is)
      (case ic_BadSigns => k_is)
      (case ti_BadSigns => k_is)
      (case kc_BadSigns => k_is)
      (case ex_BadSigns => k_is)
      (case ty_BadSigns => k_is)
      (case hd_BadSigns => k_is)
      (case su_BadSigns => k_is)
      (case sp_BadSigns => ks_is)
      (case ve_BadSigns => k_is)
      (case nf_BadSigns_thing => k_is)
      (case h_TooMany_TooMany => first | rfl | k_is)
      (case h_BadSigns_BadSigns => first | rfl | k_is)
    obtain ⟨fd, Fn, bi⟩ : ∃ fd : FuncData, L2.Fun (L2.KOf KX) "law" "law" Sh.s_law fa fd ∧ ∀ (s : Shared) (u : Value), BindsTo s fd ⟨[u], []⟩ [("_law_script", u)] := by
      delta L2.KOf; refine' Sh.law_mk KX G hmg ?a ?l ?c ?k ?b; (case a => k_is); (case l => k_is); (case c => k_is); (case k => k_is); (case b => exact fun _ _ _ _ _ _ s u => .of_eq rfl)
    exact ⟨fd, Fn, bi, fun s1 a zs base H cdv hl hb hr hS => Sh.law_body T fa cdv callerA [] s1 H _ hr rfl a zs hS hb hl⟩
#print axioms PySem.Challenge.cw_shrunkalike_k68_whole_written_and_read_holds
