import PyProof.Rows.All
import Wide.All
import OpenK.AllK
import Wide.FinOn
import HandS.ForMost
import HandS.Wide
import HandS.DictComp
import HandS.IsInst
import HandS.Evl
import HandS.TupLe
import HandS.ForExc
import HandS.RaiseMore
import HandS.ExcIs
import HandS.More
import HandS.Deep
import HandS.Codes
import HandS.StrMore
import HandS.Flow
import HandS.TupSets
import KE.RegKTryMore
import PySem.Challenge.RW_playproof_k01_texts_refused_at_their_fir
set_option Elab.async false
set_option linter.all false
set_option maxRecDepth 100000
set_option maxHeartbeats 4000000
/-! Own base: a def by its contract (Def), heaps but for one address (Off), the law's pool of numbers -/
namespace My
open PySem PySem.Spec PyProof.Rows L2
/-- a def of the top that keeps its promise, by the name that it is called by -/
structure Def (P : Program) (w : World) (K : PySem.W.Frag) (mg : Str → Option Value) (base : Heap) (k : Nat) (x : Str) (ps : List Str) (sp : Sp) : Prop where
  ex : ∃ (f : Addr) (fd : FuncData), FnOk P w K mg base CX0 k f fd ps sp ∧ mg x = some (.ref f) ∧ PySem.W.keepIn K (.ref f) = true ∧ Binds K fd ps [] ∧ ∃ oc od osl, K.lookup f = some ⟨oc, od, .func fd, osl⟩
/-- a def as it stands behind the top -/
structure Top (K : PySem.W.Frag) (mg : Str → Option Value) (x : Str) (st : Stmt) (ps : List Str) : Prop where
  ex : ∃ (f : Addr) (fd : FuncData), Fun K x x st f fd ∧ mg x = some (.ref f) ∧ Binds K fd ps []
section
variable {P : Program} {w : World} {K : PySem.W.Frag} {mg : Str → Option Value} {base : Heap} {x : Str} {st : Stmt} {ps N : List Str} {k : Nat} {sp : Sp}
theorem Top.def (T : Top K mg x st ps) (h : ∀ f fd, Fun K x x st f fd → FnOk P w K mg base CX0 k f fd ps sp) : Def P w K mg base k x ps sp := by
  obtain ⟨f, fd, F, m, b⟩ := T.ex
  obtain ⟨oc, od, kV, doc, pm, an, cdv, ct, osl, _, l, _⟩ := F.ex
  exact ⟨f, fd, h f fd F, m, F.kp, b, oc, od, osl, l⟩
theorem Def.mono {j : Nat} (D : Def P w K mg base j x ps sp) (h : j ≤ k) : Def P w K mg base k x ps sp := by
  obtain ⟨f, fd, F, m, kp, b, l⟩ := D.ex
  exact ⟨f, fd, F.mono h, m, kp, b, l⟩
theorem Def.imp {sp' : Sp} (D : Def P w K mg base k x ps sp) (h : ∀ vs H Q E, sp' vs H Q E → sp vs H Q E) : Def P w K mg base k x ps sp' := by
  obtain ⟨f, fd, F, m, kp, b, l⟩ := D.ex
  exact ⟨f, fd, F.imp h, m, kp, b, l⟩
theorem Def.at_ {f : Addr} {fd : FuncData} {oc : Value} {od : Option Addr} {osl : Array (Option Value)} (D : Def P w K mg base k x ps sp) (hm : mg x = some (.ref f)) (hl : K.lookup f = some ⟨oc, od, .func fd, osl⟩) : FnOk P w K mg base CX0 k f fd ps sp := by
  obtain ⟨f', fd', F, m, _, _, oc', od', osl', l⟩ := D.ex
  obtain rfl : f' = f := by
    rw [hm] at m
    injection m with e
    injection e with e
    exact e.symm
  rw [hl] at l
  injection l with e
  injection e with _ _ e _
  injection e with e
  subst e
  exact F
/-- a def of the top, by what the head's facts say of it -/
theorem top_mk {h : Heap} {f : Addr} {od an : Option Addr} {osl : Array (Option Value)} {oc kV doc pm cd ct : Value} (X : K.In h) (G : h.Ns mainGlobals mg) (a : PySem.W.nsIn K mainGlobals x = some (some (.ref f)))
    (l : K.lookup f = some ⟨oc, od, .func (PySem.W.fnOf x x (defArgs st) (defBody st) (defScope st) .none kV doc pm an cd ct), osl⟩) (c : PySem.W.codeIn K cd x = true) (kp : PySem.W.keepIn K (.ref f) = true)
    (hb : ∀ (kV doc pm : Value) (an : Option Addr) (cdv ct : Value) (us : List Value), us.length = ps.length → bindArgs (PySem.W.fnOf x x (defArgs st) (defBody st) (defScope st) .none kV doc pm an cdv ct) ⟨us, []⟩ = pure (ps.zip us)) : Top K mg x st ps :=
  have F := fun_mk (st := st) l c kp
  ⟨f, _, F, PySem.W.mg_of X G a, F.binds hb⟩
theorem rel_abs : ∀ {u : Value} {y : V}, absV u = some y → RelV y u := fun {u y} e => by
  cases u <;> cases e <;> first | rfl | exact ⟨_, rfl⟩
theorem vals_abs : ∀ {us : List Value} {ys : List V}, us.map absV = ys.map some → Vals ys us
  | [], [], _ => .nil
  | [], _ :: _, e => by cases e
  | _ :: _, [], e => by cases e
  | u :: us, y :: ys, e => by
    injection e with e1 e2
    exact .cons (rel_abs e1) (vals_abs e2)
/-- a tuple of the module -/
theorem tup_mk {a : Addr} {od : Option Addr} {its : Array Value} {n : Nat} {osl : Array (Option Value)} {ys : List V} (l : K.lookup a = some ⟨.type "tuple", od, .seq its n, osl⟩) (z : its.size ≤ 1000) (e : its.toList.map absV = ys.map some) (H : Hp) : SqT K H a ys :=
  .inr ⟨_, its, n, l, rfl, rfl, Nat.le_of_lt (small1000 z), vals_abs e⟩
/-- THE RULE for a def: as Fun.ok -/
theorem Top.ok (T : Top K mg x st ps) (S : FnScope N ps (defScope st)) (len : ∀ vs H Q E, sp vs H Q E → vs.length = ps.length)
    (hbody : ∀ (f : Addr) (cdv : Value) (A : Around) (outer : List Env) (s : Shared) (H : Hp) (vs : List V) (Q : VK) (E : XK), Room k (A.deeper (envOfC x (defScope st) s.heap.objs.size f cdv)) → sp vs H Q E →
      ∃ t, PSs (cxOf CX0 P w K mg base N x (defScope st) f cdv A outer s H E).nox (defBody st) t ∧ t { nx := fun _ H' => Q .non H', rt := Q } (start N vs) H) : Def P w K mg base (k + 1) x ps sp :=
  T.def fun f fd F => F.ok S len (hbody f)
end
section
variable {X : Cx} {x : Str} {p pos : Pos} {e : Expr} {es : List Expr} {t : TA} {k : Nat} {ps : List Str} {sp : Sp}
theorem pe_def (D : Def X.prog X.w X.K X.mg X.base k x ps sp) (hr : Room k X.A) (hg : Gl X x) (ha : PA X (e :: es) t) (hdb : (x == ("__debug__" : Str)) = false := by decide)
    (he : starEach (e :: es) X.env = (false, eval e X.env) :: starEach es X.env := by rfl) (hpl : (backTo pos (starEach es X.env)).any (·.1) = false := by rfl) : PE X (.Call (.Name x p) (e :: es) [] pos) (tCall sp [] E0 t) := by
  obtain ⟨f, fd, F, m, kp, b, _⟩ := D.ex
  exact pe_call F hr hg m kp b .nil pass0 ha hdb he hpl
theorem pe_def0 (D : Def X.prog X.w X.K X.mg X.base k x ps sp) (hr : Room k X.A) (hg : Gl X x) (hdb : (x == ("__debug__" : Str)) = false := by decide) : PE X (.Call (.Name x p) [] [] pos) (tCall sp [] E0 tNil) := by
  obtain ⟨f, fd, F, m, kp, b, _⟩ := D.ex
  exact pe_call0 F hr hg m kp b .nil pass0 hdb
end
/-! rules that name the written part, K told: they serve within a comprehension, too -/
section
variable {X : Cx}
theorem ixL (K : PySem.W.Frag) (h : X.K = K := by rfl) : IxR X (rIxL K) := by subst h; exact ix_list
theorem ixT (K : PySem.W.Frag) (h : X.K = K := by rfl) : IxR X (rIxT K) := by subst h; exact ix_tup
theorem ixQ (K : PySem.W.Frag) (h : X.K = K := by rfl) : IxR X (rIx K) := by subst h; exact ix_seq
theorem slL (K : PySem.W.Frag) (h : X.K = K := by rfl) : SlR X (rSlL K) := by subst h; exact sl_list
theorem slT (K : PySem.W.Frag) (h : X.K = K := by rfl) : SlR X (rSlT K) := by subst h; exact sl_tup
def rLen (K : PySem.W.Frag) : List V → Hp → VK → Prop := fun xs H Q => ∃ p ys, xs = [.ref p] ∧ (SqL K H p ys ∨ SqT K H p ys) ∧ Q (.int ys.length) H
theorem lenQ (K : PySem.W.Frag) (h : X.K = K := by rfl) : CallR X (.builtin "len") (rLen K) := by subst h; exact call_len_seq
def rLstOf (K : PySem.W.Frag) : List V → Hp → VK → Prop := fun xs H Q => ∃ p ys, xs = [.ref p] ∧ (SqL K H p ys ∨ SqT K H p ys) ∧ ∀ l, H l = none → Q (.ref l) (upd H l (.lst ys))
theorem lstQ (K : PySem.W.Frag) (h : X.K = K := by rfl) : CallR X (.type "list") (rLstOf K) := by subst h; exact call_list_of
def rTupOf (K : PySem.W.Frag) : List V → Hp → VK → Prop := fun xs H Q => ∃ p ys, xs = [.ref p] ∧ ((SqL K H p ys ∧ ∀ l, H l = none → Q (.ref l) (upd H l (.tup ys))) ∨ (SqT K H p ys ∧ Q (.ref p) H))
theorem tupQ (K : PySem.W.Frag) (h : X.K = K := by rfl) : CallR X (.type "tuple") (rTupOf K) := by subst h; exact call_tuple_of
theorem inQ (K : PySem.W.Frag) (h : X.K = K := by rfl) : OpR X (compareOp .In) (rIn K false) := by subst h; exact op_in_seq
theorem ninQ (K : PySem.W.Frag) (h : X.K = K := by rfl) : OpR X (compareOp .NotIn) (rIn K true) := by subst h; exact op_notIn_seq
theorem isiQ (K : PySem.W.Frag) (h : X.K = K := by rfl) : CallR X (.builtin "isinstance") (rIsi K) := by subst h; exact call_isi
theorem allQ (K : PySem.W.Frag) (hc : X.calm = true := by rfl) (h : X.K = K := by rfl) : CallR X (.builtin "all") (rAll K) := by subst h; exact cr_all hc
theorem anyQ (K : PySem.W.Frag) (hc : X.calm = true := by rfl) (h : X.K = K := by rfl) : CallR X (.builtin "any") (rAny K) := by subst h; exact cr_any hc
theorem eqQ (K : PySem.W.Frag) (hu : X.A.units + 64 < cLine) (h : X.K = K := by rfl) : OpR X (compareOp .Eq) (rEqD K) := by subst h; exact op_eqD hu
theorem neQ (K : PySem.W.Frag) (hu : X.A.units + 64 < cLine) (h : X.K = K := by rfl) : OpR X (compareOp .NotEq) (rNeD K) := by subst h; exact op_neD hu
end
/-- over a locked dict's keys -/
theorem for_keys {d : Addr} {o : Obj} {kvs : List (Key × V)} {g : TG} {tb : TS} {D : Ends} {σ : L2.St} {H : Hp} (Pv : Nat → L2.St → Hp → Prop) (h0 : Pv 0 σ H) (hl : ∀ i σ H, Pv i σ H → H d = some (.frz o (.dK kvs)))
    (hs : ∀ i k v σ H, kvs[i]? = some (k, v) → Pv i σ H → g (kV k) σ H fun σ2 H2 => tb { D with nx := Pv (i + 1), ct := Pv (i + 1), bk := D.nx } σ2 H2) (hd : ∀ σ H, Pv kvs.length σ H → D.nx σ H) :
    ∃ W : Nat → Nat → L2.St → Hp → Prop, (∃ m, W 0 m σ H) ∧ ∀ i m σ H, W i m σ H → ((Itk d o kvs).stop i H ∧ D.nx σ H) ∨ ((Itk d o kvs).go i H ∧ ∃ N : L2.St → Hp → Prop, (∀ σ' H', N σ' H' → ∃ m', m' < m ∧ W (i + 1) m' σ' H') ∧
      ∀ x H', (Itk d o kvs).yld i H x H' → g x σ H' fun σ2 H2 => tb { D with nx := N, ct := N, bk := D.nx } σ2 H2) := by
  refine ⟨fun i m σ H => m = kvs.length - i ∧ i ≤ kvs.length ∧ Pv i σ H, ⟨_, rfl, Nat.zero_le _, h0⟩, ?_⟩
  rintro i m σ H ⟨rfl, hi, p⟩
  by_cases lt : i < kvs.length
  · refine .inr ⟨⟨hl i σ H p, lt⟩, Pv (i + 1), fun σ' H' p' => ⟨_, by omega, rfl, lt, p'⟩, fun x H' y => ?_⟩
    obtain ⟨rfl, k, v, e, rfl⟩ := y
    exact hs i k v σ H' e p
  · have e : i = kvs.length := Nat.le_antisymm hi (Nat.le_of_not_lt lt)
    exact .inl ⟨⟨hl i σ H p, by omega⟩, hd σ H (e ▸ p)⟩
/-! ### heaps -/
/-- all but p is as it was -/
def Off (p : Addr) (H H' : Hp) : Prop := ∀ b, b ≠ p → H' b = H b
theorem Off.refl {p : Addr} (H : Hp) : Off p H H := fun _ _ => rfl
theorem Off.trans {p : Addr} {H H1 H2 : Hp} (a : Off p H H1) (b : Off p H1 H2) : Off p H H2 := fun c h => (b c h).trans (a c h)
theorem Off.upd {p : Addr} {H : Hp} {o : HO} : Off p H (L2.upd H p o) := fun _ h => upd_ne h
theorem Off.get {p : Addr} {H H' : Hp} (a : Off p H H') {b : Addr} {o : HO} (h : b ≠ p) (e : H b = some o) : H' b = some o := (a b h).trans e
theorem Off.tup {p : Addr} {H H' : Hp} (a : Off p H H') {b : Addr} {xs ys : List V} (hp : H p = some (.lst xs)) (e : H b = some (.tup ys)) : H' b = some (.tup ys) :=
  a.get (fun z => by subst z; rw [hp] at e; cases e) e
theorem sqL_off {K : PySem.W.Frag} {p a : Addr} {H H' : Hp} {xs : List V} (o : Off p H H') (n : a ≠ p) (h : SqL K H a xs) : SqL K H' a xs := by
  rcases h with (h | ⟨u, h⟩) | h
  · exact .inl (.inl (o.get n h))
  · exact .inl (.inr ⟨u, o.get n h⟩)
  · exact .inr h
theorem sqT_off {K : PySem.W.Frag} {p a : Addr} {H H' : Hp} {xs : List V} (o : Off p H H') (n : a ≠ p) (h : SqT K H a xs) : SqT K H' a xs := by
  rcases h with (h | ⟨u, h⟩) | h
  · exact .inl (.inl (o.get n h))
  · exact .inl (.inr ⟨u, o.get n h⟩)
  · exact .inr h
theorem sqL_upd {K : PySem.W.Frag} {p a : Addr} {H : Hp} {o : HO} {xs : List V} (n : a ≠ p) (h : SqL K H a xs) : SqL K (upd H p o) a xs := sqL_off Off.upd n h
theorem sqT_upd {K : PySem.W.Frag} {p a : Addr} {H : Hp} {o : HO} {xs : List V} (n : a ≠ p) (h : SqT K H a xs) : SqT K (upd H p o) a xs := sqT_off Off.upd n h
/-! ### the pool of numbers: [script, place, rest, fills] -/
def poolO (a : Addr) (i : Nat) (n f : Int) : HO := .lst [.ref a, .int i, .int n, .int f]
/-- the script: locked, or an object of the module -/
def Scr (K : PySem.W.Frag) (H : Hp) (a : Addr) (ns : List Int) : Prop :=
  (∃ u, H a = some (.frz u (.lst (ns.map V.int)))) ∨ ∀ H', SqL K H' a (ns.map V.int)
theorem Scr.sq {K : PySem.W.Frag} {H : Hp} {a : Addr} {ns : List Int} (h : Scr K H a ns) : SqL K H a (ns.map V.int) := by
  rcases h with ⟨u, h⟩ | h
  · exact .inl (.inr ⟨u, h⟩)
  · exact h H
theorem Scr.of {K : PySem.W.Frag} {H : Hp} {a : Addr} {ns : List Int} (ho : Only H) (h : SqL K H a (ns.map V.int)) : Scr K H a ns := by
  rcases h with (h | ⟨u, h⟩) | h
  · rcases ho a with e | ⟨o, xs, e⟩ <;> rw [h] at e <;> cases e
  · exact .inl ⟨u, h⟩
  · exact .inr fun _ => .inr h
/-- what may change: nothing that is locked -/
def Fz : Option HO → Prop
  | some (.frz _ _) => False
  | _ => True
theorem Scr.off {K : PySem.W.Frag} {H H' : Hp} {a q : Addr} {ns : List Int} (h : Scr K H a ns) (o : Off q H H') (n : Fz (H q)) : Scr K H' a ns := by
  rcases h with ⟨u, h⟩ | h
  · refine .inl ⟨u, o.get (fun z => ?_) h⟩
    subst z
    rw [h] at n
    exact n
  · exact .inr h
structure PoolAt (K : PySem.W.Frag) (H : Hp) (p a : Addr) : Prop where
  ex : ∃ (i : Nat) (n f : Int), H p = some (poolO a i n f)
  sc : ∃ ns : List Int, ns.length ≤ 63 ∧ Scr K H a ns
theorem PoolAt.off {K : PySem.W.Frag} {H H' : Hp} {p a q : Addr} (h : PoolAt K H p a) (o : Off q H H') (n : p ≠ q) (z : Fz (H q)) : PoolAt K H' p a := by
  obtain ⟨⟨i, y, f, e⟩, ⟨ns, l, s⟩⟩ := h
  exact ⟨⟨i, y, f, o.get n e⟩, ⟨ns, l, s.off o z⟩⟩
/-- a new object beside it -/
theorem PoolAt.new {K : PySem.W.Frag} {H : Hp} {p a q : Addr} {o : HO} (h : PoolAt K H p a) (n : H q = none) : PoolAt K (L2.upd H q o) p a := by
  obtain ⟨i, y, f, e⟩ := h.ex
  exact h.off Off.upd (ne_of_none e n) (by rw [n]; trivial)
theorem PoolAt.upd {K : PySem.W.Frag} {H : Hp} {p a : Addr} {i : Nat} {n f : Int} (h : PoolAt K H p a) : PoolAt K (L2.upd H p (poolO a i n f)) p a := by
  obtain ⟨⟨i', n', f', e⟩, ⟨ns, l, s⟩⟩ := h
  exact ⟨⟨i, n, f, upd_same⟩, ⟨ns, l, s.off Off.upd (by rw [e]; trivial)⟩⟩
/-! ### the promises of the law's own numbers -/
def spMixed : Sp := fun vs H Q _ => ∃ n p : Int, vs = [.int n, .int p] ∧ ∀ v : Int, Q (.int v) H
/-- a rest at a place of the script -/
def spRest (K : PySem.W.Frag) : Sp := fun vs H Q _ => ∃ (a : Addr) (ns : List Int) (i f : Int), vs = [.ref a, .int i, .int f] ∧ Scr K H a ns ∧ ns.length ≤ 63 ∧ ∀ v : Int, Q (.int v) H
def spPool (K : PySem.W.Frag) : Sp := fun vs H Q _ => ∃ (a : Addr) (ns : List Int), vs = [.ref a] ∧ Scr K H a ns ∧ ns.length ≤ 63 ∧ ∀ (p : Addr) (H' : Hp), H p = none → Off p H H' → PoolAt K H' p a → Q (.ref p) H'
def spNext (K : PySem.W.Frag) : Sp := fun vs H Q _ => ∃ p a : Addr, vs = [.ref p] ∧ PoolAt K H p a ∧ ∀ H', Off p H H' → PoolAt K H' p a → Q .non H'
/-- a number below the limit -/
def spDraw (K : PySem.W.Frag) : Sp := fun vs H Q _ => ∃ (p a : Addr) (lim : Int), vs = [.ref p, .int lim] ∧ PoolAt K H p a ∧ 0 < lim ∧ lim < 1073741824 ∧ ∀ (v : Int) (H' : Hp), 0 ≤ v → v < lim → Off p H H' → PoolAt K H' p a → Q (.int v) H'
/-- one of a list's items -/
def spPick (K : PySem.W.Frag) : Sp := fun vs H Q _ => ∃ (p a o : Addr) (xs : List V), vs = [.ref p, .ref o] ∧ PoolAt K H p a ∧ SqL K H o xs ∧ o ≠ p ∧ 0 < xs.length ∧ xs.length ≤ 100000 ∧ ∀ (x : V) (H' : Hp), x ∈ xs → Off p H H' → PoolAt K H' p a → Q x H'
/-- the item of a list at a place that % gives -/
theorem at_mod {α : Type} {xs : List α} {i : Int} (h : 0 < xs.length) : ∃ x, atI xs (i % (xs.length : Int)) = some x ∧ x ∈ xs := by
  have h0 : 0 ≤ i % (xs.length : Int) := Int.emod_nonneg _ (by omega)
  have h1 : i % (xs.length : Int) < (xs.length : Int) := Int.emod_lt_of_pos _ (by omega)
  obtain ⟨j, e⟩ := Int.eq_ofNat_of_zero_le h0
  have hj : j < xs.length := by omega
  rw [e]
  exact ⟨xs[j], atI_nat (List.getElem?_eq_getElem hj), List.getElem_mem hj⟩
theorem at_in {α : Type} {xs : List α} {i : Int} (h0 : 0 ≤ i) (h1 : i < (xs.length : Int)) : ∃ x, atI xs i = some x ∧ x ∈ xs := by
  obtain ⟨j, e⟩ := Int.eq_ofNat_of_zero_le h0
  have hj : j < xs.length := by omega
  rw [e]
  exact ⟨xs[j], atI_nat (List.getElem?_eq_getElem hj), List.getElem_mem hj⟩
theorem emod_abs {i m : Int} {b : Nat} (h : 0 < m) (hm : m ≤ 2 ^ b) : (i % m).natAbs < 2 ^ b := by
  have h0 := Int.emod_nonneg i (Int.ne_of_gt h)
  have h1 := Int.emod_lt_of_pos i h
  have h2 : i % m < ((2 ^ b : Nat) : Int) := Int.lt_of_lt_of_le h1 (by exact_mod_cast hm)
  omega
end My
set_option Elab.async false
set_option linter.all false
set_option maxRecDepth 100000
set_option maxHeartbeats 4000000
/-! Data that the laws compare; small tests; a comprehension over a range with a step; is True -/
namespace My
open PySem PySem.Spec PyProof.Rows L2
theorem ifS {x : Str} {A B : Prop} (h : A) : if decide (V.str x = V.str x) = true then A else B := by
  rw [decide_eq_true rfl]
  exact iteT h
theorem ifN {x y : Str} {A B : Prop} (n : x ≠ y) (h : B) : if decide (V.str x = V.str y) = true then A else B := by
  rw [decide_eq_false fun z => n (V.str.inj z)]
  exact iteF h
theorem ifB {c A B : Prop} [Decidable c] {b : Bool} (h : decide c = b) (k : if b = true then A else B) : if decide c = true then A else B := by
  rw [h]
  exact k
theorem ifnB {c A B : Prop} [Decidable c] {b : Bool} (h : decide c = b) (k : if b = true then B else A) : if (!decide c) = true then A else B := by
  rw [h]
  cases b
  · exact iteT k
  · exact iteF k
theorem ifD {c A B : Prop} [Decidable c] (h : c) (a : A) : if decide c = true then A else B := by
  rw [decide_eq_true h]
  exact iteT a
theorem ifND {c A B : Prop} [Decidable c] (h : ¬ c) (b : B) : if decide c = true then A else B := by
  rw [decide_eq_false h]
  exact iteF b
theorem ifnD {c A B : Prop} [Decidable c] (h : c) (b : B) : if (!decide c) = true then A else B := by
  rw [decide_eq_true h]
  exact iteF b
theorem ifnND {c A B : Prop} [Decidable c] (h : ¬ c) (a : A) : if (!decide c) = true then A else B := by
  rw [decide_eq_false h]
  exact iteT a
/-- any test: by its value -/
theorem ifV {t b : Bool} {A B : Prop} (h : t = b) (k : if b = true then A else B) : if t = true then A else B := by
  rw [h]
  exact k
theorem dec_i (i j : Int) : decide (V.int i = V.int j) = decide (i = j) := by
  by_cases e : i = j
  · subst e
    rw [decide_eq_true rfl, decide_eq_true rfl]
  · rw [decide_eq_false e, decide_eq_false fun z => e (V.int.inj z)]
theorem dec_b (i j : Bool) : decide (V.bl i = V.bl j) = decide (i = j) := by
  by_cases e : i = j
  · subst e
    rw [decide_eq_true rfl, decide_eq_true rfl]
  · rw [decide_eq_false e, decide_eq_false fun z => e (V.bl.inj z)]
theorem sqT_same {K : PySem.W.Frag} {H H' : Hp} {a : Addr} {xs : List V} (s : Same H H') (h : SqT K H a xs) : SqT K H' a xs := by
  rcases h with (h | ⟨u, h⟩) | h
  · exact .inl (.inl (s _ _ h))
  · exact .inl (.inr ⟨u, s _ _ h⟩)
  · exact .inr h
theorem Same.new {H : Hp} {p : Addr} {o : HO} (h : H p = none) : Same H (upd H p o) := fun b x e => by
  rw [upd_ne (ne_of_none e h)]
  exact e
/-- what H does not know may change -/
theorem same_mut {H H' : Hp} {d : Addr} {o : HO} (s : Same H H') (n : H d = none) : Same H (upd H' d o) := fun b x e => by
  rw [upd_ne (ne_of_none e n)]
  exact s b x e
theorem PoolAt.same {K : PySem.W.Frag} {H H' : Hp} {p a : Addr} (h : PoolAt K H p a) (s : Same H H') : PoolAt K H' p a := by
  obtain ⟨⟨i, n, f, e⟩, ns, l, sc⟩ := h
  refine ⟨⟨i, n, f, s _ _ e⟩, ns, l, ?_⟩
  rcases sc with ⟨u, h⟩ | h
  · exact .inl ⟨u, s _ _ h⟩
  · exact .inr h
theorem rd_lst {H : Hp} {q : Addr} {ys : List V} (h : H q = some (.lst ys)) : ∀ xs, ¬ Rd H q (.tup xs) := fun xs r => by
  rcases r with r | ⟨u, r⟩ <;> rw [h] at r <;> cases r
theorem rd_none {H : Hp} {q : Addr} (h : H q = none) : ∀ xs, ¬ Rd H q (.tup xs) := fun xs r => by
  rcases r with r | ⟨u, r⟩ <;> rw [h] at r <;> cases r
theorem sq_len {n : Nat} (h : n ≤ 1000000) : n < sizeLine := by
  rw [sizeLine_eq]
  omega
/-! ### a list of numbers, a list of bits -/
def bv (bs : List Nat) : List V := bs.map fun (n : Nat) => V.int (n : Int)
def bitI (b : Bool) : Int := if b then 1 else 0
def bbv (bs : List Bool) : List V := bs.map fun b => V.int (bitI b)
theorem bv_len (bs : List Nat) : (bv bs).length = bs.length := List.length_map _
theorem bbv_len (bs : List Bool) : (bbv bs).length = bs.length := List.length_map _
theorem bv_app (a b : List Nat) : bv (a ++ b) = bv a ++ bv b := List.map_append
theorem bbv_app (a b : List Bool) : bbv (a ++ b) = bbv a ++ bbv b := List.map_append
theorem bv_get {bs : List Nat} {i n : Nat} (h : bs[i]? = some n) : (bv bs)[i]? = some (.int n) := by
  unfold bv
  rw [List.getElem?_map, h]
  rfl
theorem bv_of {bs : List Nat} {i : Nat} {x : V} (h : (bv bs)[i]? = some x) : ∃ n : Nat, bs[i]? = some n ∧ x = .int n := by
  unfold bv at h
  rw [List.getElem?_map] at h
  cases e : bs[i]? with
  | none => rw [e] at h; cases h
  | some n =>
    rw [e] at h
    exact ⟨n, rfl, (Option.some.inj h).symm⟩
theorem bbv_get {bs : List Bool} {i : Nat} {b : Bool} (h : bs[i]? = some b) : (bbv bs)[i]? = some (.int (bitI b)) := by
  unfold bbv
  rw [List.getElem?_map, h]
  rfl
theorem bbv_of {bs : List Bool} {i : Nat} {x : V} (h : (bbv bs)[i]? = some x) : ∃ b : Bool, bs[i]? = some b ∧ x = .int (bitI b) := by
  unfold bbv at h
  rw [List.getElem?_map] at h
  cases e : bs[i]? with
  | none => rw [e] at h; cases h
  | some n =>
    rw [e] at h
    exact ⟨n, rfl, (Option.some.inj h).symm⟩
/-- slices -/
theorem cut_ge (xs : List V) (n : Nat) : cutV xs (some (n : Int)) none = xs.drop n := by
  unfold cutV
  rw [HT.sIx_nat, HT.sIx_none]
  by_cases h : n ≤ xs.length
  · rw [Nat.min_eq_left h, List.take_of_length_le (by rw [List.length_drop]; omega)]
  · rw [Nat.min_eq_right (by omega), List.drop_eq_nil_of_le (Nat.le_refl _), List.drop_eq_nil_of_le (by omega), List.take_nil]
theorem cut_lt (xs : List V) (n : Nat) : cutV xs none (some (n : Int)) = xs.take n := by
  unfold cutV
  rw [HT.sIx_nat, HT.sIx_none, List.drop_zero, Nat.sub_zero]
  by_cases h : n ≤ xs.length
  · rw [Nat.min_eq_left h]
  · rw [Nat.min_eq_right (by omega), List.take_of_length_le (Nat.le_refl _), List.take_of_length_le (by omega)]
theorem cut_mid (xs : List V) (n m : Nat) : cutV xs (some (n : Int)) (some (m : Int)) = (xs.drop n).take (m - n) := by
  unfold cutV
  rw [HT.sIx_nat, HT.sIx_nat]
  by_cases h : n ≤ xs.length
  · rw [Nat.min_eq_left h]
    by_cases h2 : m ≤ xs.length
    · rw [Nat.min_eq_left h2]
    · rw [Nat.min_eq_right (by omega), List.take_of_length_le (by rw [List.length_drop]; omega), List.take_of_length_le (by rw [List.length_drop]; omega)]
  · rw [Nat.min_eq_right (a := n) (by omega), List.drop_eq_nil_of_le (Nat.le_refl _), List.drop_eq_nil_of_le (by omega), List.take_nil, List.take_nil]
/-- from the end: xs[-n:], xs[:-n] -/
theorem cut_back (xs : List V) (n : Nat) (h : 0 < n) : cutV xs (some (-(n : Int))) none = xs.drop (xs.length - n) := by
  unfold cutV
  have e : HT.sIx xs.length 0 (some (-(n : Int))) = xs.length - n := by
    show (if (-(n : Int)) < 0 then ((-(n : Int)) + (xs.length : Int)).toNat else min (-(n : Int)).toNat xs.length) = _
    rw [if_pos (by omega)]
    omega
  rw [e, HT.sIx_none, List.take_of_length_le (by rw [List.length_drop]; omega)]
theorem cut_front (xs : List V) (n : Nat) (h : 0 < n) : cutV xs none (some (-(n : Int))) = xs.take (xs.length - n) := by
  unfold cutV
  have e : HT.sIx xs.length xs.length (some (-(n : Int))) = xs.length - n := by
    show (if (-(n : Int)) < 0 then ((-(n : Int)) + (xs.length : Int)).toNat else min (-(n : Int)).toNat xs.length) = _
    rw [if_pos (by omega)]
    omega
  rw [e, HT.sIx_none, List.drop_zero, Nat.sub_zero]
theorem bv_drop (bs : List Nat) (n : Nat) : (bv bs).drop n = bv (bs.drop n) := List.map_drop.symm
theorem bv_take (bs : List Nat) (n : Nat) : (bv bs).take n = bv (bs.take n) := List.map_take.symm
theorem bbv_drop (bs : List Bool) (n : Nat) : (bbv bs).drop n = bbv (bs.drop n) := List.map_drop.symm
theorem bbv_take (bs : List Bool) (n : Nat) : (bbv bs).take n = bbv (bs.take n) := List.map_take.symm
/-! ### data, by depth -/
def DW (K : PySem.W.Frag) (H : Hp) : Nat → V → PyData → Prop
  | 0, _, _ => False
  | n + 1, x, d => match d with
    | .none => x = .non
    | .bool b => x = .bl b
    | .int i => x = .int i
    | .str s => x = .str s
    | .list ds => ∃ a xs, x = .ref a ∧ SqL K H a xs ∧ xs.length = ds.length ∧ xs.length ≤ 1000000 ∧ ∀ (i : Nat) y e, xs[i]? = some y → ds[i]? = some e → DW K H n y e
    | .tuple ds => ∃ a xs, x = .ref a ∧ SqT K H a xs ∧ xs.length = ds.length ∧ xs.length ≤ 1000000 ∧ ∀ (i : Nat) y e, xs[i]? = some y → ds[i]? = some e → DW K H n y e
    | .dict _ => False
theorem DW.same {K : PySem.W.Frag} {H H' : Hp} (s : Same H H') : ∀ {n : Nat} {x : V} {d : PyData}, DW K H n x d → DW K H' n x d
  | 0, _, _, h => h
  | n + 1, x, d, h => by
    cases d with
    | none => exact h
    | bool b => exact h
    | int i => exact h
    | str z => exact h
    | dict _ => exact h
    | list ds =>
      obtain ⟨a, xs, e, l, n1, n2, k⟩ := h
      exact ⟨a, xs, e, s.seq l, n1, n2, fun i y e hy he => DW.same s (k i y e hy he)⟩
    | tuple ds =>
      obtain ⟨a, xs, e, l, n1, n2, k⟩ := h
      exact ⟨a, xs, e, sqT_same s l, n1, n2, fun i y e hy he => DW.same s (k i y e hy he)⟩
theorem DW.up {K : PySem.W.Frag} {H : Hp} : ∀ {n m : Nat} {x : V} {d : PyData}, n ≤ m → DW K H n x d → DW K H m x d
  | 0, _, _, _, _, h => h.elim
  | n + 1, 0, _, _, l, _ => by omega
  | n + 1, m + 1, x, d, l, h => by
    cases d with
    | none => exact h
    | bool b => exact h
    | int i => exact h
    | str z => exact h
    | dict _ => exact h
    | list ds =>
      obtain ⟨a, xs, e, l', n1, n2, k⟩ := h
      exact ⟨a, xs, e, l', n1, n2, fun i y e hy he => DW.up (by omega) (k i y e hy he)⟩
    | tuple ds =>
      obtain ⟨a, xs, e, l', n1, n2, k⟩ := h
      exact ⟨a, xs, e, l', n1, n2, fun i y e hy he => DW.up (by omega) (k i y e hy he)⟩
/-- a list of numbers as data -/
def nd (bs : List Nat) : PyData := .list (bs.map fun (n : Nat) => .int (n : Int))
theorem DW.nums {K : PySem.W.Frag} {H : Hp} {a : Addr} {bs : List Nat} (h : SqL K H a (bv bs)) (l : bs.length ≤ 1000000) (n : Nat) : DW K H (n + 2) (.ref a) (nd bs) :=
  ⟨a, bv bs, rfl, h, by rw [bv_len, List.length_map], by rw [bv_len]; exact l, fun i y e hy he => by
    obtain ⟨m, hm, rfl⟩ := bv_of hy
    rw [List.getElem?_map, hm] at he
    obtain rfl := Option.some.inj he
    rfl⟩
/-- what is walked item by item: two lists of the same length -/
theorem DW.items {K : PySem.W.Frag} {H : Hp} {n : Nat} : ∀ {xs : List V} {ds : List PyData}, Paired (DW K H n) xs ds → ∀ (i : Nat) y e, xs[i]? = some y → ds[i]? = some e → DW K H n y e := by
  intro xs ds h
  induction h with
  | nil => intro i y e hy; simp at hy
  | cons h t ih =>
    intro i y e hy he
    cases i with
    | zero =>
      obtain rfl := Option.some.inj hy
      obtain rfl := Option.some.inj he
      exact h
    | succ i => exact ih i y e hy he
theorem paired_len {α β : Type} {F : α → β → Prop} {xs : List α} {ds : List β} (h : Paired F xs ds) : xs.length = ds.length := by
  induction h with
  | nil => rfl
  | cons h t ih => rw [List.length_cons, List.length_cons, ih]
theorem DW.tup {K : PySem.W.Frag} {H : Hp} {n : Nat} {a : Addr} {xs : List V} {ds : List PyData} (h : SqT K H a xs) (l : xs.length ≤ 1000000) (p : Paired (DW K H n) xs ds) : DW K H (n + 1) (.ref a) (.tuple ds) :=
  ⟨a, xs, rfl, h, paired_len p, l, DW.items p⟩
theorem DW.lst {K : PySem.W.Frag} {H : Hp} {n : Nat} {a : Addr} {xs : List V} {ds : List PyData} (h : SqL K H a xs) (l : xs.length ≤ 1000000) (p : Paired (DW K H n) xs ds) : DW K H (n + 1) (.ref a) (.list ds) :=
  ⟨a, xs, rfl, h, paired_len p, l, DW.items p⟩
theorem tyx_list {K : PySem.W.Frag} {H : Hp} {a : Addr} {xs : List V} (h : SqL K H a xs) : TyX K H (.ref a) (.type "list") := by
  rcases h with (h | ⟨u, h⟩) | ⟨o, its, n, h, c, _⟩
  · exact .base (.lst h)
  · exact .base (.frz h)
  · exact .kList h c
theorem tyx_tuple {K : PySem.W.Frag} {H : Hp} {a : Addr} {xs : List V} (h : SqT K H a xs) : TyX K H (.ref a) (.type "tuple") := by
  rcases h with (h | ⟨u, h⟩) | ⟨o, its, n, h, c, _⟩
  · exact .base (.tup h)
  · exact .fTuple h
  · exact .kTuple h c
/-! ### lists of numbers by == -/
theorem dp_nums {K : PySem.W.Frag} {H : Hp} : ∀ bs : List Nat, DpAll K H (bv bs) (bs.map fun (n : Nat) => .int (n : Int))
  | [] => .nil
  | b :: bs => .cons (.int _) (dp_nums bs)
theorem dp_list {K : PySem.W.Frag} {H : Hp} {a : Addr} {bs : List Nat} (h : SqL K H a (bv bs)) : Dp K H (.ref a) (nd bs) := .lst h (dp_nums bs)
theorem lay_nums : ∀ bs : List Nat, PyData.canLayAll0 (bs.map fun (n : Nat) => .int (n : Int)) = true
  | [] => by simp only [List.map_nil, PyData.canLayAll0]
  | b :: bs => by
    simp only [List.map_cons, PyData.canLayAll0, PyData.canLay0, Bool.true_and]
    exact lay_nums bs
theorem deep_nums : ∀ bs : List Nat, PyData.depthAll (bs.map fun (n : Nat) => .int (n : Int)) = 0
  | [] => by simp only [List.map_nil, PyData.depthAll]
  | b :: bs => by
    simp only [List.map_cons, PyData.depthAll, PyData.depth]
    rw [deep_nums bs]
    rfl
theorem shaped_nums (bs : List Nat) : SeqAt.shaped (nd bs) = true := by
  unfold SeqAt.shaped nd
  simp only [PyData.canLay0, PyData.depth, lay_nums, deep_nums]
  rfl
theorem eqvAll_nums : ∀ as bs : List Nat, PyData.eqvAll (as.map fun (n : Nat) => .int (n : Int)) (bs.map fun (n : Nat) => .int (n : Int)) = decide (as = bs)
  | [], [] => by simp only [List.map_nil, PyData.eqvAll]; decide
  | [], b :: bs => by simp only [List.map_nil, List.map_cons, PyData.eqvAll]; exact (decide_eq_false (by simp)).symm
  | a :: as, [] => by simp only [List.map_nil, List.map_cons, PyData.eqvAll]; exact (decide_eq_false (by simp)).symm
  | a :: as, b :: bs => by
    simp only [List.map_cons, PyData.eqvAll, PyData.eqv]
    rw [eqvAll_nums as bs]
    by_cases e : a = b
    · subst e
      simp
    · have e2 : ((a : Int) == (b : Int)) = false := by
        rw [beq_eq_false_iff_ne]
        omega
      rw [e2, Bool.false_and]
      exact (decide_eq_false (by simp [e])).symm
theorem eqv_nums (as bs : List Nat) : PyData.eqv (nd as) (nd bs) = decide (as = bs) := by
  unfold nd
  simp only [PyData.eqv]
  exact eqvAll_nums as bs
/-! ### is True, is False, is None -/
section
variable {X : Cx}
def rIsC : R2 := fun x y H Q => ((∃ b, y = .bl b) ∨ y = .non) ∧ Q (.bl (decide (x = y))) H
theorem op_isC : OpR X (compareOp .Is) rIsC := by
  intro pins s σ H x y v u Q I rx ry h
  obtain ⟨⟨b, rfl⟩ | rfl, q⟩ := h
  · cases (show u = Value.bool b from ry)
    by_cases e : x = .bl b
    · subst e
      cases (show v = Value.bool b from rx)
      rw [decide_eq_true rfl] at q
      exact wpAny_is_self rfl (fin_bl I q rfl)
    · rw [decide_eq_false e] at q
      cases x with
      | non =>
        cases (show v = Value.none from rx)
        exact wpAny_is_other rfl (fun z => by cases z) (fin_bl I q rfl)
      | bl c =>
        cases (show v = Value.bool c from rx)
        exact wpAny_is_other rfl (fun z => e (by cases z; rfl)) (fin_bl I q rfl)
      | int i =>
        obtain ⟨t, rfl⟩ := (show ∃ t, v = Value.int i t from rx)
        exact wpAny_is_other rfl (fun z => by cases z) (fin_bl I q rfl)
      | str i =>
        obtain ⟨t, rfl⟩ := (show ∃ t, v = Value.str i t from rx)
        exact wpAny_is_other rfl (fun z => by cases z) (fin_bl I q rfl)
      | byt i =>
        obtain ⟨t, rfl⟩ := (show ∃ t, v = Value.bytes i t from rx)
        exact wpAny_is_other rfl (fun z => by cases z) (fin_bl I q rfl)
      | flt i =>
        obtain ⟨t, rfl⟩ := (show ∃ t, v = Value.float i t from rx)
        exact wpAny_is_other rfl (fun z => by cases z) (fin_bl I q rfl)
      | ref a =>
        cases (show v = Value.ref a from rx)
        exact wpAny_is_other rfl (fun z => by cases z) (fin_bl I q rfl)
      | ty n =>
        cases (show v = Value.type n from rx)
        exact wpAny_is_other rfl (fun z => by cases z) (fin_bl I q rfl)
  · exact op_isN pins s σ H x .non v u Q I rx ry ⟨rfl, q⟩
end
/-! ### [.. for x in range(i, j, c)] -/
theorem lc_rangeC {lo c : Int} {n : Nat} {g : TG} {tt : TT} {te : TE} {vs : List Nat} {σ : L2.St} {H1 : Hp} {D : Addr} {Qd : Hp → Prop} (Pv : Nat → Hp → Prop) (h0 : Pv 0 (upd H1 D (.lst [])))
    (hs : ∀ i H, i < n → Pv i H → g (.int (lo + (i : Nat) * c)) (wipe σ vs) H fun σ2 H2 => wipe σ2 vs = wipe σ vs ∧ tt σ2 H2 fun b H3 =>
      if b = true then te σ2 H3 fun y H4 => ∃ acc, H4 D = some (.lst acc) ∧ acc.length < sizeLine ∧ Pv (i + 1) (upd H4 D (.lst (acc ++ [y]))) else Pv (i + 1) H3) (hd : ∀ H, Pv n H → Qd H) :
    ∃ W : Nat → Nat → Hp → Prop, (∃ m, W 0 m (upd H1 D (.lst []))) ∧ ∀ i m H, W i m H →
      ((Itc lo c n).stop i H ∧ Qd H) ∨ ((Itc lo c n).go i H ∧ ∃ Nx : Hp → Prop, (∀ H', Nx H' → ∃ m', m' < m ∧ W (i + 1) m' H') ∧ ∀ x H', (Itc lo c n).yld i H x H' → g x (wipe σ vs) H' fun σ2 H2 => wipe σ2 vs = wipe σ vs ∧ tt σ2 H2 fun b H3 =>
        if b = true then te σ2 H3 fun y H4 => ∃ acc, H4 D = some (.lst acc) ∧ acc.length < sizeLine ∧ Nx (upd H4 D (.lst (acc ++ [y]))) else Nx H3) := by
  refine ⟨fun i m G => m = n - i ∧ i ≤ n ∧ Pv i G, ⟨n, rfl, Nat.zero_le _, h0⟩, ?_⟩
  rintro i m G ⟨rfl, hi, p⟩
  by_cases lt : i < n
  · refine .inr ⟨lt, Pv (i + 1), fun G' p' => ⟨n - (i + 1), by omega, rfl, lt, p'⟩, fun x G' y => ?_⟩
    obtain ⟨rfl, rfl⟩ := y
    exact hs i _ lt p
  · have e : i = n := Nat.le_antisymm hi (Nat.le_of_not_lt lt)
    exact .inl ⟨Nat.le_of_not_lt lt, hd G (e ▸ p)⟩
/-- a step below nought -/
theorem RgC.down {i j c : Int} {n : Nat} (h : RgC i j c n) : RgC i j c n := h
end My
set_option linter.all false
namespace My
open PySem
/-- the text by places -/
def topS (i : Nat) : Stmt := PySem.Challenge.pw_playproof_k01_texts_refused_at_their_fir.main.body.getD i (.Pass ⟨0, 0, 0, 0⟩)
end My
set_option linter.all false
/-! All but one object as it was; new ones may have come -/
namespace My
open PySem PySem.Spec PyProof.Rows L2
def But (p : Addr) (H H' : Hp) : Prop := ∀ b o, b ≠ p → H b = some o → H' b = some o
section
variable {p : Addr} {H H1 H2 H' : Hp} {K : PySem.W.Frag}
theorem But.refl (H : Hp) : But p H H := fun _ _ _ h => h
theorem But.trans (a : But p H H1) (b : But p H1 H2) : But p H H2 := fun c o n h => b c o n (a c o n h)
theorem Off.but (a : Off p H H') : But p H H' := fun c o n h => (a c n).trans h
theorem Same.but (a : Same H H') : But p H H' := fun c o _ h => a c o h
theorem But.get {b : Addr} {o : HO} (a : But p H H') (n : b ≠ p) (h : H b = some o) : H' b = some o := a b o n h
theorem But.mut {d : Addr} {o : HO} (a : But p H H') (n : H d = none) : But p H (upd H' d o) := fun c x nc e => by
  have : c ≠ d := ne_of_none e n
  exact (upd_ne this).trans (a c x nc e)
theorem But.seq {a : Addr} {xs : List V} (o : But p H H') (n : a ≠ p) (h : SqL K H a xs) : SqL K H' a xs := by
  rcases h with (h | ⟨u, h⟩) | h
  · exact .inl (.inl (o.get n h))
  · exact .inl (.inr ⟨u, o.get n h⟩)
  · exact .inr h
theorem But.tup {a : Addr} {xs : List V} (o : But p H H') (n : a ≠ p) (h : SqT K H a xs) : SqT K H' a xs := by
  rcases h with (h | ⟨u, h⟩) | h
  · exact .inl (.inl (o.get n h))
  · exact .inl (.inr ⟨u, o.get n h⟩)
  · exact .inr h
theorem But.free {l : Addr} {a : Addr} (o : But p H H') (e : PoolAt K H' p a) (h : H' l = none) : H l = none := by
  cases x : H l with
  | none => rfl
  | some y =>
    by_cases z : l = p
    · subst z
      obtain ⟨_, _, _, e⟩ := e.ex
      rw [h] at e
      cases e
    · rw [o l y z x] at h
      cases h
theorem PoolAt.ne {q a : Addr} (h : PoolAt K H p a) (n : H q = none) : q ≠ p := fun z => by
  obtain ⟨_, _, _, e⟩ := h.ex
  rw [z, e] at n
  cases n
/-- a list that another than the pool's holds -/
theorem PoolAt.put {q a : Addr} {xs ys : List V} (h : PoolAt K H p a) (n : q ≠ p) (e : H q = some (.lst xs)) : PoolAt K (L2.upd H q (.lst ys)) p a :=
  h.off Off.upd (Ne.symm n) (by rw [e]; trivial)
end
end My
set_option linter.all false
/-! Facts of an older heap in a newer one -/
namespace My
open PySem PySem.Spec PyProof.Rows L2
theorem new_of {H G : Hp} {p : Addr} {o : HO} (n : H p = none) (h : upd H p o = G) : Same H G := h ▸ Same.new n
theorem at_of {H G : Hp} {p : Addr} {o : HO} (h : upd H p o = G) : G p = some o := h ▸ upd_same
theorem same_get {H G : Hp} {b : Addr} {o : HO} (s : Same H G) (h : H b = some o) : G b = some o := s _ _ h
theorem off_get {p : Addr} {H G : Hp} {b : Addr} {o : HO} (s : Off p H G) (n : b ≠ p) (h : H b = some o) : G b = some o := s.get n h
theorem but_get {p : Addr} {H G : Hp} {b : Addr} {o : HO} (s : But p H G) (n : b ≠ p) (h : H b = some o) : G b = some o := s.get n h
theorem seq_at {K : PySem.W.Frag} {G : Hp} {b : Addr} {xs : List V} (h : G b = some (.lst xs)) : SqL K G b xs := SqL.of h
theorem tup_at {K : PySem.W.Frag} {G : Hp} {b : Addr} {xs : List V} (h : G b = some (.tup xs)) : SqT K G b xs := SqT.of h
theorem pool_same {K : PySem.W.Frag} {H G : Hp} {p a : Addr} (s : Same H G) (h : PoolAt K H p a) : PoolAt K G p a := h.same s
end My
set_option Elab.async false
set_option linter.all false
/-! for i, x in enumerate(a list) -/
namespace My
open PySem PySem.Spec PyProof.Rows L2
theorem for_enum {K : PySem.W.Frag} {a : Addr} {xs : List V} {g : TG} {tb : TS} {D : Ends} {σ : L2.St} {H : Hp} (Pv : Nat → L2.St → Hp → Prop) (h0 : Pv 0 σ H) (hl : ∀ i σ H, i ≤ xs.length → Pv i σ H → SqL K H a xs)
    (hs : ∀ i x σ H T, xs[i]? = some x → Pv i σ H → H T = none → g (.ref T) σ (upd H T (.tup [.int (i : Nat), x])) fun σ2 H2 => tb { D with nx := Pv (i + 1), ct := Pv (i + 1), bk := D.nx } σ2 H2) (hd : ∀ σ H, Pv xs.length σ H → D.nx σ H) :
    ∃ W : Nat → Nat → L2.St → Hp → Prop, (∃ m, W 0 m σ H) ∧ ∀ i m σ H, W i m σ H →
      ((Ite K a).stop i H ∧ D.nx σ H) ∨ ((Ite K a).go i H ∧ ∃ N : L2.St → Hp → Prop, (∀ σ' H', N σ' H' → ∃ m', m' < m ∧ W (i + 1) m' σ' H') ∧ ∀ x H', (Ite K a).yld i H x H' → g x σ H' fun σ2 H2 => tb { D with nx := N, ct := N, bk := D.nx } σ2 H2) := by
  refine ⟨fun i m σ H => m = xs.length - i ∧ i ≤ xs.length ∧ Pv i σ H, ⟨xs.length, by simp, Nat.zero_le _, h0⟩, ?_⟩
  rintro i m σ H ⟨rfl, hi, p⟩
  have q := hl i σ H hi p
  by_cases hlt : i < xs.length
  · refine .inr ⟨⟨xs, xs[i], q, by simp [hlt]⟩, Pv (i + 1), fun σ' H' p' => ⟨xs.length - (i + 1), by omega, rfl, hlt, p'⟩, fun v H' y => ?_⟩
    obtain ⟨T, x, rfl, hT, rfl, y⟩ := y
    exact hs i x σ H T (y xs q) p hT
  · have e : i = xs.length := by omega
    subst e
    exact .inl ⟨⟨xs, q, Nat.le_refl _⟩, hd σ H p⟩
/-- [.. for sign in a text] -/
theorem lc_str {x : Str} {g : TG} {tt : TT} {te : TE} {vs : List Nat} {σ : L2.St} {H1 : Hp} {D : Addr} {Qd : Hp → Prop} (Pv : Nat → Hp → Prop) (h0 : Pv 0 (upd H1 D (.lst [])))
    (hs : ∀ i c H, x.cps[i]? = some c → Pv i H → g (.str ⟨#[c]⟩) (wipe σ vs) H fun σ2 H2 => wipe σ2 vs = wipe σ vs ∧ tt σ2 H2 fun b H3 =>
      if b = true then te σ2 H3 fun y H4 => ∃ acc, H4 D = some (.lst acc) ∧ acc.length < sizeLine ∧ Pv (i + 1) (upd H4 D (.lst (acc ++ [y]))) else Pv (i + 1) H3) (hd : ∀ H, Pv x.cps.size H → Qd H) :
    ∃ W : Nat → Nat → Hp → Prop, (∃ m, W 0 m (upd H1 D (.lst []))) ∧ ∀ i m H, W i m H →
      ((Its x).stop i H ∧ Qd H) ∨ ((Its x).go i H ∧ ∃ Nx : Hp → Prop, (∀ H', Nx H' → ∃ m', m' < m ∧ W (i + 1) m' H') ∧ ∀ v H', (Its x).yld i H v H' → g v (wipe σ vs) H' fun σ2 H2 => wipe σ2 vs = wipe σ vs ∧ tt σ2 H2 fun b H3 =>
        if b = true then te σ2 H3 fun y H4 => ∃ acc, H4 D = some (.lst acc) ∧ acc.length < sizeLine ∧ Nx (upd H4 D (.lst (acc ++ [y]))) else Nx H3) := by
  refine ⟨fun i m G => m = x.cps.size - i ∧ i ≤ x.cps.size ∧ Pv i G, ⟨x.cps.size, rfl, Nat.zero_le _, h0⟩, ?_⟩
  rintro i m G ⟨rfl, hi, p⟩
  by_cases lt : i < x.cps.size
  · refine .inr ⟨lt, Pv (i + 1), fun G' p' => ⟨x.cps.size - (i + 1), by omega, rfl, lt, p'⟩, fun v G' y => ?_⟩
    obtain ⟨rfl, c, hc, rfl⟩ := y
    exact hs i c _ hc p
  · have e : i = x.cps.size := Nat.le_antisymm hi (Nat.le_of_not_lt lt)
    exact .inl ⟨Nat.le_of_not_lt lt, hd G (e ▸ p)⟩
end My
set_option linter.all false
/-! Classes of the program's own -/
namespace My
open PySem PySem.Spec PyProof.Rows L2
/-- a class of the top, with the names of its instances' fields -/
structure Kls (K : PySem.W.Frag) (mg : Str → Option Value) (x : Str) (C : Addr) (fs : List Str) : Prop where
  cl : Cls K C
  no : ∀ f ∈ fs, NoAttr K C f
  at_ : mg x = some (.ref C)
/-- a method as it stands -/
structure MTop (K : PySem.W.Frag) (C : Addr) (m q : Str) (st : Stmt) (ps : List Str) : Prop where
  ex : ∃ (f : Addr) (fd : FuncData), Fun K m q st f fd ∧ Meth K C m f ∧ Binds K fd ps []
/-- an __init__ as it stands -/
structure ITop (K : PySem.W.Frag) (C : Addr) (q : Str) (st : Stmt) (ps : List Str) : Prop where
  ex : ∃ (f : Addr) (fd : FuncData), Fun K "__init__" q st f fd ∧ Mk K C f ∧ Binds K fd ps []
structure Mth (P : Program) (w : World) (K : PySem.W.Frag) (mg : Str → Option Value) (base : Heap) (k : Nat) (C : Addr) (m : Str) (ps : List Str) (sp : Sp) : Prop where
  ex : ∃ (f : Addr) (fd : FuncData), FnOk P w K mg base CX0 k f fd ps sp ∧ Meth K C m f ∧ Binds K fd ps []
structure Ini (P : Program) (w : World) (K : PySem.W.Frag) (mg : Str → Option Value) (base : Heap) (k : Nat) (C : Addr) (ps : List Str) (sp : Sp) : Prop where
  ex : ∃ (f : Addr) (fd : FuncData), FnOk P w K mg base CX0 k f fd ps sp ∧ Mk K C f ∧ Binds K fd ps []
section
variable {P : Program} {w : World} {K : PySem.W.Frag} {mg : Str → Option Value} {base : Heap} {C : Addr} {m x q : Str} {st : Stmt} {ps N : List Str} {k : Nat} {sp : Sp}
theorem MTop.ok (T : MTop K C m q st ps) (S : FnScope N ps (defScope st)) (len : ∀ vs H Q E, sp vs H Q E → vs.length = ps.length)
    (hbody : ∀ (f : Addr) (cdv : Value) (A : Around) (outer : List Env) (s : Shared) (H : Hp) (vs : List V) (Q : VK) (E : XK), Room k (A.deeper (envOfC q (defScope st) s.heap.objs.size f cdv)) → sp vs H Q E →
      ∃ t, PSs (cxOf CX0 P w K mg base N q (defScope st) f cdv A outer s H E).nox (defBody st) t ∧ t { nx := fun _ H' => Q .non H', rt := Q } (start N vs) H) : Mth P w K mg base (k + 1) C m ps sp := by
  obtain ⟨f, fd, F, mm, b⟩ := T.ex
  exact ⟨f, fd, F.ok S len (hbody f), mm, b⟩
theorem ITop.ok (T : ITop K C q st ps) (S : FnScope N ps (defScope st)) (len : ∀ vs H Q E, sp vs H Q E → vs.length = ps.length)
    (hbody : ∀ (f : Addr) (cdv : Value) (A : Around) (outer : List Env) (s : Shared) (H : Hp) (vs : List V) (Q : VK) (E : XK), Room k (A.deeper (envOfC q (defScope st) s.heap.objs.size f cdv)) → sp vs H Q E →
      ∃ t, PSs (cxOf CX0 P w K mg base N q (defScope st) f cdv A outer s H E).nox (defBody st) t ∧ t { nx := fun _ H' => Q .non H', rt := Q } (start N vs) H) : Ini P w K mg base (k + 1) C ps sp := by
  obtain ⟨f, fd, F, mm, b⟩ := T.ex
  exact ⟨f, fd, F.ok S len (hbody f), mm, b⟩
theorem Mth.mono {j : Nat} (D : Mth P w K mg base j C m ps sp) (h : j ≤ k) : Mth P w K mg base k C m ps sp := by
  obtain ⟨f, fd, F, mm, b⟩ := D.ex
  exact ⟨f, fd, F.mono h, mm, b⟩
/-- a method by what the head's facts say of it -/
theorem mtop_mk {f : Addr} {od an : Option Addr} {osl : Array (Option Value)} {oc kV doc pm cd ct : Value} (a : PySem.W.findIn K (.ref C) m = some (some (.ref f))) (i : PySem.W.isFn K (.ref f) = true)
    (l : K.lookup f = some ⟨oc, od, .func (PySem.W.fnOf m q (defArgs st) (defBody st) (defScope st) .none kV doc pm an cd ct), osl⟩) (c : PySem.W.codeIn K cd q = true) (kp : PySem.W.keepIn K (.ref f) = true)
    (hb : ∀ (kV doc pm : Value) (an : Option Addr) (cdv ct : Value) (us : List Value), us.length = ps.length → bindArgs (PySem.W.fnOf m q (defArgs st) (defBody st) (defScope st) .none kV doc pm an cdv ct) ⟨us, []⟩ = pure (ps.zip us)) : MTop K C m q st ps :=
  have F := fun_mk (st := st) l c kp
  ⟨f, _, F, ⟨a, i, kp⟩, F.binds hb⟩
theorem itop_mk {f : Addr} {od an : Option Addr} {osl : Array (Option Value)} {oc kV doc pm cd ct : Value} (mk : PySem.W.makesIn K C = true) (kc : PySem.W.keepIn K (.ref C) = true) (a : PySem.W.findIn K (.ref C) "__init__" = some (some (.ref f))) (i : PySem.W.isFn K (.ref f) = true)
    (l : K.lookup f = some ⟨oc, od, .func (PySem.W.fnOf "__init__" q (defArgs st) (defBody st) (defScope st) .none kV doc pm an cd ct), osl⟩) (c : PySem.W.codeIn K cd q = true) (kp : PySem.W.keepIn K (.ref f) = true)
    (hb : ∀ (kV doc pm : Value) (an : Option Addr) (cdv ct : Value) (us : List Value), us.length = ps.length → bindArgs (PySem.W.fnOf "__init__" q (defArgs st) (defBody st) (defScope st) .none kV doc pm an cdv ct) ⟨us, []⟩ = pure (ps.zip us)) : ITop K C q st ps :=
  have F := fun_mk (st := st) l c kp
  ⟨f, _, F, ⟨mk, a, i, kc⟩, F.binds hb⟩
end
section
variable {X : Cx} {C : Addr} {x m : Str} {p pos apos : Pos} {o e : Expr} {es : List Expr} {ta : TE} {t : TA} {k : Nat} {ps fs : List Str} {sp : Sp}
theorem pe_mth {pl : Sem Bool} (D : Mth X.prog X.w X.K X.mg X.base k C m ps sp) (c : Kls X.K X.mg x C fs) (he : PE X o ta) (hr : Room k X.A) (ha : PA X (e :: es) t)
    (hst : starEach (e :: es) X.env = (false, eval e X.env) :: starEach es X.env := by rfl) (hpl : (backTo pos (starEach es X.env)).any (·.1) = false := by rfl)
    (ht : eval (.Call (.Attribute o m apos) (e :: es) [] pos) X.env = (do
      let ov ← eval o X.env
      standAt apos.atName
      let (f, first) ← holding [ov] (getMethod ov m pl)
      callWith pos f first (backTo pos (starEach (e :: es) X.env)) (backToKw pos (keywordEach [] X.env))) := by rfl) :
    PE X (.Call (.Attribute o m apos) (e :: es) [] pos) (tMeth C m sp [] E0 ta t) := by
  obtain ⟨f, fd, F, mm, b⟩ := D.ex
  exact pe_meth he c.cl mm F hr b .nil pass0 ha hst hpl ht
theorem pe_mth0 {pl : Sem Bool} (D : Mth X.prog X.w X.K X.mg X.base k C m ps sp) (c : Kls X.K X.mg x C fs) (he : PE X o ta) (hr : Room k X.A)
    (ht : eval (.Call (.Attribute o m apos) [] [] pos) X.env = (do
      let ov ← eval o X.env
      standAt apos.atName
      let (f, first) ← holding [ov] (getMethod ov m pl)
      callWith pos f first (backTo pos (starEach [] X.env)) (backToKw pos (keywordEach [] X.env))) := by rfl) :
    PE X (.Call (.Attribute o m apos) [] [] pos) (tMeth C m sp [] E0 ta tNil) := by
  obtain ⟨f, fd, F, mm, b⟩ := D.ex
  exact pe_meth0 he c.cl mm F hr b .nil pass0 ht
theorem pe_ini0 (D : Ini X.prog X.w X.K X.mg X.base k C ps sp) (c : Kls X.K X.mg x C fs) (hr : Room (k + 1) X.A) (hg : Gl X x)
    (hdb : (x == ("__debug__" : Str)) = false := by decide) : PE X (.Call (.Name x p) [] [] pos) (tMake C sp [] E0 tNil) := by
  obtain ⟨f, fd, F, M, b⟩ := D.ex
  exact pe_make0 M F hr hg c.at_ b .nil pass0 hdb
theorem pe_ini (D : Ini X.prog X.w X.K X.mg X.base k C ps sp) (c : Kls X.K X.mg x C fs) (hr : Room (k + 1) X.A) (hg : Gl X x) (ha : PA X (e :: es) t)
    (hdb : (x == ("__debug__" : Str)) = false := by decide) (he : starEach (e :: es) X.env = (false, eval e X.env) :: starEach es X.env := by rfl) (hpl : (backTo pos (starEach es X.env)).any (·.1) = false := by rfl) :
    PE X (.Call (.Name x p) (e :: es) [] pos) (tMake C sp [] E0 t) := by
  obtain ⟨f, fd, F, M, b⟩ := D.ex
  exact pe_make M F hr hg c.at_ b .nil pass0 ha hdb he hpl
end
/-! heaps in which one instance changes -/
section
variable {p C dx : Addr} {H H1 H' : Hp} {K : PySem.W.Frag} {fs : List (Str × V)}
/-- a new instance and its dict -/
theorem made_same {x dx : Addr} (nx : H x = none) (nd : H dx = none) (ne : dx ≠ x) : Same H (upd (upd H dx (.own x)) x (.ins C dx fs)) := fun b o e => by
  rw [upd_ne (ne_of_none e nx), upd_ne (ne_of_none e nd)]
  exact e
theorem But.tupI {a : Addr} {xs : List V} (b : But p H H') (e : H p = some (.ins C dx fs)) (h : SqT K H a xs) : SqT K H' a xs := by
  rcases h with (h | ⟨u, h⟩) | h
  · exact .inl (.inl (b.get (fun z => by rw [z, e] at h; cases h) h))
  · exact .inl (.inr ⟨u, b.get (fun z => by rw [z, e] at h; cases h) h⟩)
  · exact .inr h
theorem But.seqI {a : Addr} {xs : List V} (b : But p H H') (e : H p = some (.ins C dx fs)) (h : SqL K H a xs) : SqL K H' a xs := by
  rcases h with (h | ⟨u, h⟩) | h
  · exact .inl (.inl (b.get (fun z => by rw [z, e] at h; cases h) h))
  · exact .inl (.inr ⟨u, b.get (fun z => by rw [z, e] at h; cases h) h⟩)
  · exact .inr h
theorem But.lstI {a : Addr} {xs : List V} (b : But p H H') (e : H p = some (.ins C dx fs)) (h : H a = some (.lst xs)) : H' a = some (.lst xs) := b.get (fun z => by rw [z, e] at h; cases h) h
theorem putF_len (f : Str) (v : V) : ∀ fs : List (Str × V), (putF f v fs).length ≤ fs.length + 1
  | [] => Nat.le_refl _
  | (g, x) :: r => by
    unfold putF
    split
    · exact Nat.le_succ _
    · exact Nat.succ_le_succ (putF_len f v r)
theorem but_of {H G : Hp} {p : Addr} {o : HO} (h : upd H p o = G) : But p H G := h ▸ Off.upd.but
theorem But.keep (s : Same H1 H) (b : But p H H') (n : H1 p = none) : Same H1 H' := fun c o e => b c o (fun z => by rw [z, n] at e; cases e) (s c o e)
theorem But.free_of {l : Addr} {o : HO} (b : But p H H') (e : H' p = some o) (h : H' l = none) : H l = none := by
  cases x : H l with
  | none => rfl
  | some y =>
    by_cases z : l = p
    · subst z
      rw [h] at e
      cases e
    · rw [b l y z x] at h
      cases h
theorem PoolAt.butI {q a : Addr} (P : PoolAt K H q a) (b : But p H H') (e : H p = some (.ins C dx fs)) : PoolAt K H' q a := by
  obtain ⟨⟨i, y, f, h⟩, ⟨ns, l, s⟩⟩ := P
  refine ⟨⟨i, y, f, b _ _ (fun z => by rw [z, e] at h; cases h) h⟩, ⟨ns, l, ?_⟩⟩
  rcases s with ⟨u, s⟩ | s
  · exact .inl ⟨u, b _ _ (fun z => by rw [z, e] at s; cases s) s⟩
  · exact .inr s
end
end My
set_option Elab.async false
set_option linter.all false
set_option maxRecDepth 100000
set_option maxHeartbeats 4000000
/-! The law's own numbers: what the six small defs promise -/
namespace My
open PySem PySem.Spec PyProof.Rows L2
abbrev st_law_mixed : Stmt := topS 21
theorem sc_law_mixed : FnScope ["number", "place", "first", "second", "third"] ["number", "place"] (defScope st_law_mixed) := ⟨rfl, rfl, rfl, by decide +kernel, rfl, by decide +kernel, by decide +kernel⟩
abbrev st_law_rest : Stmt := topS 22
theorem sc_law_rest : FnScope ["script", "place", "fills", "number"] ["script", "place", "fills"] (defScope st_law_rest) := ⟨rfl, rfl, rfl, by decide +kernel, rfl, by decide +kernel, by decide +kernel⟩
abbrev st_law_pool : Stmt := topS 23
theorem sc_law_pool : FnScope ["script"] ["script"] (defScope st_law_pool) := ⟨rfl, rfl, rfl, by decide +kernel, rfl, by decide +kernel, by decide +kernel⟩
abbrev st_law_next : Stmt := topS 24
theorem sc_law_next : FnScope ["pool"] ["pool"] (defScope st_law_next) := ⟨rfl, rfl, rfl, by decide +kernel, rfl, by decide +kernel, by decide +kernel⟩
abbrev st_law_draw : Stmt := topS 25
theorem sc_law_draw : FnScope ["pool", "limit", "value"] ["pool", "limit"] (defScope st_law_draw) := ⟨rfl, rfl, rfl, by decide +kernel, rfl, by decide +kernel, by decide +kernel⟩
section
variable {P : Program} {w : World} {K : PySem.W.Frag} {mg : Str → Option Value} {base : Heap}
theorem ok_mixed (T : Top K mg "_law_mixed" st_law_mixed ["number", "place"]) (z_int : mg "int" = none) : Def P w K mg base 1 "_law_mixed" ["number", "place"] spMixed := by
  refine T.ok sc_law_mixed (fun vs H Q E h => ?_) (fun f cdv A outer s H vs Q E hr h => ?_)
  · obtain ⟨n, p, rfl, _⟩ := h
    rfl
  obtain ⟨n, p, rfl, q⟩ := h
  refine ⟨_, (pss_cons (ps_set (i := 2) sc_law_mixed.nd rfl (Or.inl rfl) (pe_op op_mod (pe_callTy call_int1 rfl z_int (by decide +kernel) (pa_cons (pe_op op_add (pe_op op_add (pe_op op_mul (pv 0) pe_int) (pe_op op_mul (pv 1) pe_int)) pe_int) pa_nil)) pe_int))
    (pss_cons (ps_set (i := 3) sc_law_mixed.nd rfl (Or.inl rfl) (pe_op op_mod (pe_callTy call_int1 rfl z_int (by decide +kernel) (pa_cons (pe_op op_add (pe_op op_add (pe_op op_mulW (pv 2) (pv 2)) (pe_op op_mul pe_int (pv 2))) (pv 1)) pa_nil)) pe_int))
    (pss_cons (ps_set (i := 4) sc_law_mixed.nd rfl (Or.inl rfl) (pe_op op_mod (pe_callTy call_int1 rfl z_int (by decide +kernel) (pa_cons (pe_op op_add (pe_op op_mulW (pv 3) (pv 3)) (pv 2)) pa_nil)) pe_int))
    (pss_one (ps_ret (pe_op op_add (pe_op op_mulW (pv 3) pe_int) (pv 4))))))), ?_⟩
  have g1 : ∀ i : Int, (i % 618970019642690137449562111).natAbs < 2 ^ 100 := fun i => emod_abs (by decide) (by decide)
  have g2 : ∀ i : Int, (i % 162259276829213363391578010288127).natAbs < 2 ^ 110 := fun i => emod_abs (by decide) (by decide)
  refine ⟨_, rfl, _, _, rfl, rfl, .inr ⟨by decide, by decide⟩, _, rfl, _, _, rfl, rfl, .inr ⟨by decide, by decide⟩, _, _, rfl, rfl, _, _, rfl, rfl, .inl ⟨_, rfl, ?_⟩⟩
  refine ⟨_, _, rfl, rfl, (by show (0:Int) < _; decide), ?_⟩
  refine ⟨_, rfl, _, rfl, _, _, rfl, rfl, wide_mul (g1 _) (g1 _) (by decide) (by decide) (by decide), ?_⟩
  refine ⟨_, rfl, _, _, rfl, rfl, .inl ⟨by decide, by decide⟩, _, _, rfl, rfl, _, rfl, _, _, rfl, rfl, .inl ⟨_, rfl, ?_⟩⟩
  refine ⟨_, _, rfl, rfl, (by show (0:Int) < _; decide), ?_⟩
  refine ⟨_, rfl, _, rfl, _, _, rfl, rfl, wide_mul (g2 _) (g2 _) (by decide) (by decide) (by decide), ?_⟩
  refine ⟨_, rfl, _, _, rfl, rfl, .inl ⟨_, rfl, ?_⟩⟩
  refine ⟨_, _, rfl, rfl, (by show (0:Int) < _; decide), ?_⟩
  refine ⟨_, rfl, _, _, rfl, rfl, wide_mul (b := 100) (g2 _) (by decide) (by decide) (by decide) (by decide), ?_⟩
  refine ⟨_, rfl, _, _, rfl, rfl, q _⟩
theorem ok_rest (T : Top K mg "_law_rest" st_law_rest ["script", "place", "fills"]) (D_law_mixed : Def P w K mg base 1 "_law_mixed" ["number", "place"] spMixed) (z_int : mg "int" = none) (z_len : mg "len" = none) :
    Def P w K mg base 2 "_law_rest" ["script", "place", "fills"] (spRest K) := by
  refine T.ok sc_law_rest (fun vs H Q E h => ?_) (fun f cdv A outer s H vs Q E hr h => ?_)
  · obtain ⟨a, ns, i, f, rfl, _⟩ := h
    rfl
  obtain ⟨a, ns, i, f, rfl, hC, hl, q⟩ := h
  have hS := hC.sq
  refine ⟨_, (pss_cons (ps_set (i := 3) sc_law_rest.nd rfl (Or.inl rfl) pe_int)
    (Evl.pss_cut (ps_if (pt_cmpR op_gt (pe_callB (lenQ K) rfl z_len (by decide +kernel) (pa_cons (pv 0) pa_nil)) pe_int (nomark _))
    (pss_one (ps_set (i := 3) sc_law_rest.nd rfl (Or.inl rfl) (pe_callTy call_int1 rfl z_int (by decide +kernel) (pa_cons (pe_ix (ixL K) (pv 0) (pe_op op_mod (pe_callTy call_int1 rfl z_int (by decide +kernel) (pa_cons (pv 1) pa_nil)) (pe_callB (lenQ K) rfl z_len (by decide +kernel) (pa_cons (pv 0) pa_nil))) (fun _ _ => rfl)) pa_nil))))
    pss_nil)
    (Evl.pss_cut (ps_if (pt_cmpR op_lt (pv 3) pe_int (nomark _))
    (pss_one (ps_set (i := 3) sc_law_rest.nd rfl (Or.inl rfl) (pe_op op_sub pe_int (pe_op op_mul pe_int (pv 3)))))
    pss_nil)
    (Evl.pss_cut (ps_if (PW.pt (pw_and (pt_cmpR op_eq (pv 2) pe_int (nomark _)) (pw_and (pt_cmpR op_lt (pv 1) (pe_callB (lenQ K) rfl z_len (by decide +kernel) (pa_cons (pv 0) pa_nil)) (nomark _)) (pw_and1 (pt_cmpR op_ge (pv 3) (pe_op op_pow pe_int pe_int) (nomark _))))))
    (pss_one (ps_ret (pe_op op_sub (pv 3) (pe_op op_pow pe_int pe_int))))
    pss_nil)
    (pss_one (ps_ret (pe_def D_law_mixed (hr.mono (by decide)) rfl (pa_cons (pe_op op_add (pv 3) (pe_op op_mul (pv 2) pe_int)) (pa_cons (pv 1) pa_nil))))))))), ?_⟩
  have el : (ns.map V.int).length = ns.length := List.length_map _
  -- number = 0; if len(script) > 0
  refine ⟨fun σ' H' => ∃ z : Int, σ' = [some (.ref a), some (.int i), some (.int f), some (.int z)] ∧ H' = H, ?_, ?_⟩
  · refine ⟨.ref a, rfl, a, _, rfl, .inl hS, _, _, rfl, rfl, _, rfl, ?_⟩
    refine ite2 (fun c => ?_) (fun c => ⟨0, rfl, rfl⟩)
    have h0 : 0 < (ns.map V.int).length := by
      have := of_decide_eq_true c
      omega
    obtain ⟨x, e, hx⟩ := at_mod (xs := ns.map V.int) (i := i) h0
    obtain ⟨z, _, rfl⟩ := List.mem_map.mp hx
    refine ⟨.ref a, rfl, _, rfl, .inl ⟨_, rfl, .ref a, rfl, a, _, rfl, .inl hS, _, _, rfl, rfl, by omega, a, _, _, V.int z, rfl, rfl, hS, e, .inl ⟨z, rfl, z, rfl, rfl⟩⟩⟩
  rintro σ' H' ⟨z, rfl, rfl⟩
  -- if number < 0
  refine ⟨fun σ' H1 => ∃ z : Int, σ' = [some (.ref a), some (.int i), some (.int f), some (.int z)] ∧ H1 = H', ?_, ?_⟩
  · refine ⟨_, rfl, _, _, rfl, rfl, _, rfl, ite2 (fun c => ?_) (fun c => ⟨z, rfl, rfl⟩)⟩
    refine ⟨_, rfl, _, _, rfl, rfl, .inl ⟨by decide, by decide⟩, _, _, rfl, rfl, _, rfl, rfl⟩
  rintro σ' H1 ⟨y, rfl, rfl⟩
  refine ⟨fun σ' H1' => ∃ z : Int, σ' = [some (.ref a), some (.int i), some (.int f), some (.int z)] ∧ H1' = H1, ?_, ?_⟩
  · refine ⟨_, rfl, rfl, _, rfl, ite2 (fun c => ?_) (fun c => iteF ⟨y, rfl, rfl⟩)⟩
    refine ⟨_, rfl, .ref a, rfl, a, _, rfl, .inl hS, _, _, rfl, rfl, _, rfl, ite2 (fun c => ?_) (fun c => iteF ⟨y, rfl, rfl⟩)⟩
    refine ⟨_, rfl, _, _, rfl, rfl, (by unfold CPow; decide), _, _, rfl, rfl, _, rfl, ite2 (fun c => ?_) (fun c => ⟨y, rfl, rfl⟩)⟩
    refine ⟨_, rfl, _, _, rfl, rfl, (by unfold CPow; decide), _, _, rfl, rfl, q _⟩
  rintro σ' H2 ⟨y', rfl, rfl⟩
  refine ⟨_, rfl, _, rfl, _, _, rfl, rfl, .inr ⟨by decide, by decide⟩, _, _, rfl, rfl, _, rfl, _, _, rfl, fun v => q v⟩
theorem ok_pool (T : Top K mg "_law_pool" st_law_pool ["script"]) (D_law_rest : Def P w K mg base 2 "_law_rest" ["script", "place", "fills"] (spRest K)) :
    Def P w K mg base 3 "_law_pool" ["script"] (spPool K) := by
  refine T.ok sc_law_pool (fun vs H Q E h => ?_) (fun f cdv A outer s H vs Q E hr h => ?_)
  · obtain ⟨a, ns, rfl, _⟩ := h
    rfl
  obtain ⟨a, ns, rfl, hS, hl, q⟩ := h
  refine ⟨_, (pss_one (ps_ret (pe_lst (pa_cons (pv 0) (pa_cons pe_int (pa_cons (pe_def D_law_rest (hr.mono (by decide)) rfl (pa_cons (pv 0) (pa_cons pe_int (pa_cons pe_int pa_nil)))) (pa_cons pe_int pa_nil))))))), ?_⟩
  refine ⟨_, rfl, _, rfl, a, ns, 0, 0, rfl, hS, hl, fun v => ⟨by show 4 ≤ sizeLine; decide, fun p hp => ?_⟩⟩
  exact q p _ hp Off.upd ⟨⟨0, v, 0, upd_same⟩, ⟨ns, hl, hS.off Off.upd (by rw [hp]; trivial)⟩⟩
theorem ok_next (T : Top K mg "_law_next" st_law_next ["pool"]) (D_law_rest : Def P w K mg base 2 "_law_rest" ["script", "place", "fills"] (spRest K)) :
    Def P w K mg base 3 "_law_next" ["pool"] (spNext K) := by
  refine T.ok sc_law_next (fun vs H Q E h => ?_) (fun f cdv A outer s H vs Q E hr h => ?_)
  · obtain ⟨p, a, rfl, _⟩ := h
    rfl
  obtain ⟨p, a, rfl, hP, q⟩ := h
  obtain ⟨⟨i, n, g, hp⟩, ⟨ns, hl, hS⟩⟩ := id hP
  refine ⟨_, (pss_cons (ps_asg (pe_op op_add (pe_ix (ixL K) (pv 0) pe_int (fun _ _ => rfl)) pe_int) (pg_sub (pv 0) pe_int set_list))
    (pss_cons (ps_asg (pe_def D_law_rest (hr.mono (by decide)) rfl (pa_cons (pe_ix (ixL K) (pv 0) pe_int (fun _ _ => rfl)) (pa_cons (pe_ix (ixL K) (pv 0) pe_int (fun _ _ => rfl)) (pa_cons pe_int pa_nil)))) (pg_sub (pv 0) pe_int set_list))
    (pss_one (ps_asg pe_int (pg_sub (pv 0) pe_int set_list))))), ?_⟩
  have up : ∀ {H' : Hp} {i' n' g' i2 n2 g2 : Int}, H' = upd H p (.lst [.ref a, .int i', .int n', .int g']) → upd H' p (.lst [.ref a, .int i2, .int n2, .int g2]) = upd H p (.lst [.ref a, .int i2, .int n2, .int g2]) := fun e => by rw [e, upd_upd]
  -- pool[1] = pool[1] + 1
  refine ⟨.ref p, rfl, _, _, _, _, rfl, rfl, SqL.of hp, atI_nat (j := 1) rfl, _, _, rfl, rfl, .ref p, rfl, p, _, 1, 1, rfl, rfl, hp, rfl, ?_⟩
  -- pool[2] = _law_rest(pool[0], pool[1], 0)
  refine ⟨.ref p, rfl, _, _, _, _, rfl, rfl, SqL.of upd_same, atI_nat (j := 0) rfl, .ref p, rfl, _, _, _, _, rfl, rfl, SqL.of upd_same, atI_nat (j := 1) rfl, a, ns, _, 0, rfl, hS.off Off.upd (by rw [hp]; trivial), hl, fun v => ?_⟩
  refine ⟨.ref p, rfl, p, _, 2, 2, rfl, rfl, upd_same, rfl, ?_⟩
  rw [upd_upd]
  refine ⟨.ref p, rfl, p, _, 3, 3, rfl, rfl, upd_same, rfl, ?_⟩
  rw [upd_upd]
  exact q _ Off.upd (hP.upd (i := i + 1) (n := v) (f := 0))
theorem ok_draw (T : Top K mg "_law_draw" st_law_draw ["pool", "limit"]) (D_law_rest : Def P w K mg base 2 "_law_rest" ["script", "place", "fills"] (spRest K)) (z_int : mg "int" = none) :
    Def P w K mg base 3 "_law_draw" ["pool", "limit"] (spDraw K) := by
  refine T.ok sc_law_draw (fun vs H Q E h => ?_) (fun f cdv A outer s H vs Q E hr h => ?_)
  · obtain ⟨p, a, l, rfl, _⟩ := h
    rfl
  obtain ⟨p, a, l, rfl, hP, h0, h1, q⟩ := h
  refine ⟨_, (Evl.pss_cut (ps_if (pt_cmpR op_le (pe_ix (ixL K) (pv 0) pe_int (fun _ _ => rfl)) pe_int (nomark _))
    (pss_cons (ps_asg (pe_op op_add (pe_ix (ixL K) (pv 0) pe_int (fun _ _ => rfl)) pe_int) (pg_sub (pv 0) pe_int set_list))
      (pss_one (ps_asg (pe_def D_law_rest (hr.mono (by decide)) rfl (pa_cons (pe_ix (ixL K) (pv 0) pe_int (fun _ _ => rfl)) (pa_cons (pe_ix (ixL K) (pv 0) pe_int (fun _ _ => rfl)) (pa_cons (pe_ix (ixL K) (pv 0) pe_int (fun _ _ => rfl)) pa_nil)))) (pg_sub (pv 0) pe_int set_list))))
    pss_nil)
    (pss_cons (ps_set (i := 2) sc_law_draw.nd rfl (Or.inl rfl) (pe_op op_mod (pe_callTy call_int1 rfl z_int (by decide +kernel) (pa_cons (pe_ix (ixL K) (pv 0) pe_int (fun _ _ => rfl)) pa_nil)) (pv 1)))
    (pss_cons (ps_asg (pe_op op_fdiv (pe_callTy call_int1 rfl z_int (by decide +kernel) (pa_cons (pe_ix (ixL K) (pv 0) pe_int (fun _ _ => rfl)) pa_nil)) (pv 1)) (pg_sub (pv 0) pe_int set_list))
    (pss_one (ps_ret (pv 2)))))), ?_⟩
  refine ⟨fun σ' H' => σ' = [some (.ref p), some (.int l), none] ∧ Off p H H' ∧ PoolAt K H' p a, ?_, ?_⟩
  · obtain ⟨⟨i, n, g, hp⟩, ⟨ns, hl, hS⟩⟩ := id hP
    refine ⟨.ref p, rfl, _, _, _, _, rfl, rfl, SqL.of hp, atI_nat (j := 2) rfl, _, _, rfl, rfl, _, rfl, ite2 (fun c => ?_) (fun c => ⟨rfl, Off.refl _, hP⟩)⟩
    refine ⟨.ref p, rfl, _, _, _, _, rfl, rfl, SqL.of hp, atI_nat (j := 3) rfl, _, _, rfl, rfl, .ref p, rfl, p, _, 3, 3, rfl, rfl, hp, rfl, ?_⟩
    refine ⟨.ref p, rfl, _, _, _, _, rfl, rfl, SqL.of upd_same, atI_nat (j := 0) rfl, .ref p, rfl, _, _, _, _, rfl, rfl, SqL.of upd_same, atI_nat (j := 1) rfl, .ref p, rfl, _, _, _, _, rfl, rfl, SqL.of upd_same, atI_nat (j := 3) rfl, a, ns, _, _, rfl, hS.off Off.upd (by rw [hp]; trivial), hl, fun v => ?_⟩
    refine ⟨.ref p, rfl, p, _, 2, 2, rfl, rfl, upd_same, rfl, ?_⟩
    rw [upd_upd]
    exact ⟨rfl, Off.upd, hP.upd (i := i)⟩
  rintro σ' H' ⟨rfl, o, hP'⟩
  obtain ⟨⟨i, n, g, hp⟩, ⟨ns, hl, hS⟩⟩ := id hP'
  refine ⟨.ref p, rfl, _, _, _, _, rfl, rfl, SqL.of hp, atI_nat (j := 2) rfl, .inl ⟨n, rfl, _, rfl, _, _, rfl, rfl, h0, ?_⟩⟩
  refine ⟨.ref p, rfl, _, _, _, _, rfl, rfl, SqL.of hp, atI_nat (j := 2) rfl, .inl ⟨n, rfl, _, rfl, _, _, rfl, rfl, ⟨h0, h1⟩, ?_⟩⟩
  refine ⟨.ref p, rfl, p, _, 2, 2, rfl, rfl, hp, rfl, ?_⟩
  exact ⟨_, rfl, q _ _ (Int.emod_nonneg _ (by omega)) (Int.emod_lt_of_pos _ h0) (o.trans Off.upd) (hP'.upd (i := i))⟩
end
end My
set_option Elab.async false
set_option linter.all false
set_option maxRecDepth 100000
set_option maxHeartbeats 4000000
namespace My
open PySem PySem.Spec PyProof.Rows L2
abbrev st_law_pick : Stmt := topS 26
theorem sc_law_pick : FnScope ["pool", "options"] ["pool", "options"] (defScope st_law_pick) := ⟨rfl, rfl, rfl, by decide +kernel, rfl, by decide +kernel, by decide +kernel⟩
section
variable {P : Program} {w : World} {K : PySem.W.Frag} {mg : Str → Option Value} {base : Heap}
theorem ok_pick (T : Top K mg "_law_pick" st_law_pick ["pool", "options"]) (D_law_draw : Def P w K mg base 3 "_law_draw" ["pool", "limit"] (spDraw K)) (z_len : mg "len" = none) :
    Def P w K mg base 4 "_law_pick" ["pool", "options"] (spPick K) := by
  refine T.ok sc_law_pick (fun vs H Q E h => ?_) (fun f cdv A outer s H vs Q E hr h => ?_)
  · obtain ⟨p, a, o, xs, rfl, _⟩ := h
    rfl
  obtain ⟨p, a, o, xs, rfl, hP, hS, ne, h0, h1, q⟩ := h
  refine ⟨_, (pss_one (ps_ret (pe_ix (ixL K) (pv 1) (pe_def D_law_draw (hr.mono (by decide)) rfl (pa_cons (pv 0) (pa_cons (pe_callB (lenQ K) rfl z_len (by decide +kernel) (pa_cons (pv 1) pa_nil)) pa_nil))) (fun _ _ => rfl)))), ?_⟩
  refine ⟨.ref o, rfl, .ref p, rfl, .ref o, rfl, o, xs, rfl, .inl hS, p, a, _, rfl, hP, by omega, by omega, fun v H' hv0 hv1 off hP' => ?_⟩
  obtain ⟨x, e, hx⟩ := at_in hv0 hv1
  exact ⟨o, xs, v, x, rfl, rfl, sqL_off off ne hS, e, q x H' hx off hP'⟩
end
end My
set_option linter.all false
/-! Defs that raise; an own exception class; bound methods handed on -/
namespace My
open PySem PySem.Spec PyProof.Rows L2
/-- an own exception class over ValueError, without __init__ -/
structure ExcC (K : PySem.W.Frag) (mg : Str → Option Value) (x : Str) (C : Addr) : Prop where
  ex : PySem.W.excIn K C [.type "ValueError", .type "Exception", .type "BaseException", .type "object"] "ValueError.__new__" = true
  at_ : mg x = some (.ref C)
  kp : PySem.W.keepIn K (.ref C) = true
  sb : PySem.W.subIn K (.ref C) (.type "BaseException") = some true
  ty : PySem.W.typeIn K (.ref C) = some (.type "type")
  em : PySem.W.exmOne K (.ref C) (.ref C) = some true
structure DefX (P : Program) (w : World) (K : PySem.W.Frag) (mg : Str → Option Value) (base : Heap) (k : Nat) (x : Str) (ps : List Str) (sp : Sp) : Prop where
  ex : ∃ (f : Addr) (fd : FuncData), FnOk P w K mg base (L2.CX P w) k f fd ps sp ∧ mg x = some (.ref f) ∧ PySem.W.keepIn K (.ref f) = true ∧ Binds K fd ps []
structure MthX (P : Program) (w : World) (K : PySem.W.Frag) (mg : Str → Option Value) (base : Heap) (k : Nat) (C : Addr) (m : Str) (ps : List Str) (sp : Sp) : Prop where
  ex : ∃ (f : Addr) (fd : FuncData), FnOk P w K mg base (L2.CX P w) k f fd ps sp ∧ Meth K C m f ∧ Binds K fd ps []
section
variable {P : Program} {w : World} {K : PySem.W.Frag} {mg : Str → Option Value} {base : Heap} {C : Addr} {m x q : Str} {st : Stmt} {ps N : List Str} {k : Nat} {sp : Sp}
theorem Top.okX (T : Top K mg x st ps) (S : FnScope N ps (defScope st)) (len : ∀ vs H Q E, sp vs H Q E → vs.length = ps.length)
    (hbody : ∀ (f : Addr) (cdv : Value) (A : Around) (outer : List Env) (s : Shared) (H : Hp) (vs : List V) (Q : VK) (E : XK), Room k (A.deeper (envOfC x (defScope st) s.heap.objs.size f cdv)) → sp vs H Q E →
      ∃ t, PSs (cxOf (L2.CX P w) P w K mg base N x (defScope st) f cdv A outer s H E) (defBody st) t ∧ t { nx := fun _ H' => Q .non H', rt := Q } (start N vs) H) : DefX P w K mg base (k + 1) x ps sp := by
  obtain ⟨f, fd, F, mm, b⟩ := T.ex
  exact ⟨f, fd, F.okX S len (hbody f), mm, F.kp, b⟩
theorem MTop.okX (T : MTop K C m q st ps) (S : FnScope N ps (defScope st)) (len : ∀ vs H Q E, sp vs H Q E → vs.length = ps.length)
    (hbody : ∀ (f : Addr) (cdv : Value) (A : Around) (outer : List Env) (s : Shared) (H : Hp) (vs : List V) (Q : VK) (E : XK), Room k (A.deeper (envOfC q (defScope st) s.heap.objs.size f cdv)) → sp vs H Q E →
      ∃ t, PSs (cxOf (L2.CX P w) P w K mg base N q (defScope st) f cdv A outer s H E) (defBody st) t ∧ t { nx := fun _ H' => Q .non H', rt := Q } (start N vs) H) : MthX P w K mg base (k + 1) C m ps sp := by
  obtain ⟨f, fd, F, mm, b⟩ := T.ex
  exact ⟨f, fd, F.okX S len (hbody f), mm, b⟩
theorem DefX.mono {j : Nat} (D : DefX P w K mg base j x ps sp) (h : j ≤ k) : DefX P w K mg base k x ps sp := by
  obtain ⟨f, fd, F, m, kp, b⟩ := D.ex
  exact ⟨f, fd, F.mono h, m, kp, b⟩
theorem MthX.mono {j : Nat} (D : MthX P w K mg base j C m ps sp) (h : j ≤ k) : MthX P w K mg base k C m ps sp := by
  obtain ⟨f, fd, F, mm, b⟩ := D.ex
  exact ⟨f, fd, F.mono h, mm, b⟩
end
section
variable {X : Cx} {C : Addr} {x m : Str} {p pos apos : Pos} {o e : Expr} {es : List Expr} {ta : TE} {t : TA} {k : Nat} {ps fs : List Str} {sp : Sp} {E : XK}
/-- what is let out of the body is let out of the call -/
theorem passX (tk : Takes X (fun cls d _ H => E cls d H)) : Passes (L2.CX X.prog X.w) X E := passes_call tk fun _ _ _ _ h => h
theorem pe_defX (D : DefX X.prog X.w X.K X.mg X.base k x ps sp) (hr : Room k X.A) (hg : Gl X x) (hx : Passes (L2.CX X.prog X.w) X E) (ha : PA X (e :: es) t) (hdb : (x == ("__debug__" : Str)) = false := by decide)
    (he : starEach (e :: es) X.env = (false, eval e X.env) :: starEach es X.env := by rfl) (hpl : (backTo pos (starEach es X.env)).any (·.1) = false := by rfl) : PE X (.Call (.Name x p) (e :: es) [] pos) (tCall sp [] E t) := by
  obtain ⟨f, fd, F, mm, kp, b⟩ := D.ex
  exact pe_call F hr hg mm kp b .nil hx ha hdb he hpl
/-- within a try -/
theorem pe_defS {W : WX} (D : DefX X.prog X.w X.K X.mg X.base k x ps sp) (hr : Room k X.A) (hg : Gl X x) (tk : Takes X W) (ha : PA X (e :: es) t) (hdb : (x == ("__debug__" : Str)) = false := by decide)
    (he : starEach (e :: es) X.env = (false, eval e X.env) :: starEach es X.env := by rfl) (hpl : (backTo pos (starEach es X.env)).any (·.1) = false := by rfl) : PE X (.Call (.Name x p) (e :: es) [] pos) (tCallS sp (WE W) t) := by
  obtain ⟨f, fd, F, mm, kp, b⟩ := D.ex
  exact pe_callS F hr hg mm kp b (fun σ => passAt tk σ) ha hdb he hpl
theorem pe_mthX {pl : Sem Bool} (D : MthX X.prog X.w X.K X.mg X.base k C m ps sp) (c : Kls X.K X.mg x C fs) (he : PE X o ta) (hr : Room k X.A) (hx : Passes (L2.CX X.prog X.w) X E) (ha : PA X (e :: es) t)
    (hst : starEach (e :: es) X.env = (false, eval e X.env) :: starEach es X.env := by rfl) (hpl : (backTo pos (starEach es X.env)).any (·.1) = false := by rfl)
    (ht : eval (.Call (.Attribute o m apos) (e :: es) [] pos) X.env = (do
      let ov ← eval o X.env
      standAt apos.atName
      let (f, first) ← holding [ov] (getMethod ov m pl)
      callWith pos f first (backTo pos (starEach (e :: es) X.env)) (backToKw pos (keywordEach [] X.env))) := by rfl) :
    PE X (.Call (.Attribute o m apos) (e :: es) [] pos) (tMeth C m sp [] E ta t) := by
  obtain ⟨f, fd, F, mm, b⟩ := D.ex
  exact pe_meth he c.cl mm F hr b .nil hx ha hst hpl ht
theorem pe_mthX0 {pl : Sem Bool} (D : MthX X.prog X.w X.K X.mg X.base k C m ps sp) (c : Kls X.K X.mg x C fs) (he : PE X o ta) (hr : Room k X.A) (hx : Passes (L2.CX X.prog X.w) X E)
    (ht : eval (.Call (.Attribute o m apos) [] [] pos) X.env = (do
      let ov ← eval o X.env
      standAt apos.atName
      let (f, first) ← holding [ov] (getMethod ov m pl)
      callWith pos f first (backTo pos (starEach [] X.env)) (backToKw pos (keywordEach [] X.env))) := by rfl) :
    PE X (.Call (.Attribute o m apos) [] [] pos) (tMeth C m sp [] E ta tNil) := by
  obtain ⟨f, fd, F, mm, b⟩ := D.ex
  exact pe_meth0 he c.cl mm F hr b .nil hx ht
/-- o.m as a value -/
def tBound (C : Addr) (m : Str) (g : Addr) (ta : TE) : TE := fun σ H Q => ta σ H fun x H1 => ∃ a dx fs, x = .ref a ∧ H1 a = some (.ins C dx fs) ∧ fs.lookup m = none ∧ ∀ q, H1 q = none → Q (.ref q) (upd H1 q (.met g a))
theorem pe_bound {g : Addr} (b : BMeth X.K C m g) (c : Kls X.K X.mg x C fs) (he : PE X o ta) (hb : attributeBase o m X.env (eval o X.env) = eval o X.env := by rfl) : PE X (.Attribute o m pos) (tBound C m g ta) := by
  refine ⟨fun pins s σ H Q I h => ?_⟩
  refine attr_of hb (thn (he.run pins s σ H _ I h) fun u s1 ⟨x, H1, I1, rx, a, dx, fs, ex, ea, l, q⟩ => ?_)
  subst ex
  exact op_getbound I1 ea c.cl b l rx q
/-- a def that may be behind a bound method -/
structure HeldM (P : Program) (w : World) (K : PySem.W.Frag) (mg : Str → Option Value) (base : Heap) (k : Nat) (g : Addr) (sp : Sp) : Prop where
  ex : ∃ (fd : FuncData) (ps : List Str), FnOk P w K mg base (L2.CX P w) k g fd ps sp ∧ PySem.W.fnIn K g = true ∧ Binds K fd ps []
/-- a call of the bound method that the i-th slot holds -/
def tCallM0 (i : Nat) (S : Addr → Option Sp) (E : XK) : TE := fun σ H Q => ∃ q g a sp, σ[i]? = some (some (.ref q)) ∧ H q = some (.met g a) ∧ S g = some sp ∧ sp [.ref a] H Q E
theorem pe_callM0 {S : Addr → Option Sp} {i : Nat} (B : ∀ g sp, S g = some sp → HeldM X.prog X.w X.K X.mg X.base k g sp) (hr : Room k X.A) (hN : X.N[i]? = some x) (hv : Vis X.env.scope x) (hx : Passes (L2.CX X.prog X.w) X E)
    (hdb : (x == ("__debug__" : Str)) = false := by decide) (hcd : (x == ("__classdict__" : Str)) = false := by decide) : PE X (.Call (.Name x p) [] [] pos) (tCallM0 i S E) := by
  refine ⟨fun pins s σ H Q I h => ?_⟩
  obtain ⟨q, g, a, sp, hs, hq, hS, h⟩ := h
  obtain ⟨fd, ps, F, hf, hb⟩ := (B g sp hS).ex
  refine wpAny_Call_Name_kw (thn ((pe_var (pos := p) hN hv hdb hcd).run pins s σ H (fun v H1 => v = .ref q ∧ H1 = H) I ⟨.ref q, hs, rfl, rfl⟩) fun u s1 ⟨v, H1, I1, r1, q1⟩ => ?_)
  obtain ⟨rfl, rfl⟩ := q1
  cases r1
  refine PySem.W.callWith_M0 (met_P I1 hq) hf ?_
  refine wpAny_call (call_met (us := []) I1 hq ?_)
  exact run_fnR (us := [.ref a]) (vs := [.ref a]) (FnOk.raw F hb .nil) hr hx I1 (.cons rfl .nil) h
end
/-! x in (a tuple of data) -/
section
variable {X : Cx}
def rInTD (K : PySem.W.Frag) : R2 := fun x y H Q => ∃ d ds, Dp K H x d ∧ Dp K H y (.tuple ds) ∧ SeqAt.shaped d = true ∧ SeqAt.shaped (.tuple ds) = true ∧ Q (.bl (ds.any fun z => PyData.eqv z d)) H
theorem op_inTD (hu : X.A.units + 65 < cLine) : OpR X (compareOp .In) (rInTD X.K) := by
  intro pins s σ H x y v u Q I rx ry h
  obtain ⟨d, ds, hd, he, sd, se, q⟩ := h
  obtain ⟨as, r1⟩ := Dp.reads I d x v hd rx
  obtain ⟨bs, r2⟩ := Dp.reads I (.tuple ds) y u he ry
  exact SeqAt.in_tuple_reads r2 r1 (SeqAt.canLay_of_shaped se) (SeqAt.canLay_of_shaped sd) (room_in_shaped sd hu) ⟨.bl _, H, I, rfl, q⟩
theorem inTDQ (K : PySem.W.Frag) (hu : X.A.units + 65 < cLine) (h : X.K = K := by rfl) : OpR X (compareOp .In) (rInTD K) := by subst h; exact op_inTD hu
end
end My
set_option linter.all false
/-! Words of lines, in plain Lean: texts are lists of sgs -/
namespace Wd
def isLow (c : Nat) : Bool := decide (97 ≤ c) && decide (c ≤ 122)
def isUp (c : Nat) : Bool := decide (65 ≤ c) && decide (c ≤ 90)
def isDig (c : Nat) : Bool := decide (48 ≤ c) && decide (c ≤ 57)
def isAl (c : Nat) : Bool := isLow c || (isUp c || isDig c)
inductive Kd where
  | num
  | name
  | var
  | sign
  | fin
  deriving DecidableEq
abbrev Word := Kd × List Nat
def runSort (r : List Nat) : Option Kd :=
  if r.all isDig then (if r.length < 3 ∧ (r = [48] ∨ r.head? ≠ some 48) then some .num else none)
  else if 12 < r.length ∨ (r.drop 1).any isUp = true then none
  else if isLow (r.headD 0) then some .name
  else if isUp (r.headD 0) then some .var else none
def sgs : List (List Nat) := [[33, 61], [46, 46], [40], [41], [44], [61], [60], [43], [45]]
def signAt (l : List Nat) : Option (List Nat) := sgs.find? fun s => decide (l.take s.length = s)
/-- an entry: its sort, its text, as far as they are told -/
abbrev Ent := Option Kd × Option (List Nat)
def raw : Nat → List Nat → List Ent
  | 0, _ => []
  | _ + 1, [] => []
  | m + 1, c :: l => if c = 32 then raw m l else
      let r := (c :: l).takeWhile isAl
      if r ≠ [] then (runSort r, some r) :: raw m ((c :: l).drop r.length) else
      match signAt (c :: l) with
      | some s => (some .sign, some s) :: raw m ((c :: l).drop s.length)
      | none => (none, none) :: raw m l
def whole : List Ent → Option (List Word)
  | [] => some []
  | (some k, some t) :: es => (whole es).map ((k, t) :: ·)
  | _ :: _ => none
def words (l : List Nat) : Option (List Word) := whole (raw l.length l)
/-- blank, or a remark -/
def stripL (l : List Nat) : List Nat := (l.dropWhile (· == 32))
def stripped (l : List Nat) : List Nat := (stripL (stripL l).reverse).reverse
def nothing (l : List Nat) : Bool := decide (stripped l = []) || decide ((stripped l).take 2 = [45, 45])
theorem signAt_pos {l s : List Nat} (h : signAt l = some s) : 0 < s.length ∧ s.length ≤ 2 ∧ l.take s.length = s := by
  unfold signAt at h
  have hm := List.mem_of_find?_eq_some h
  have hp := List.find?_some h
  have hp := of_decide_eq_true hp
  simp only [sgs, List.mem_cons, List.not_mem_nil, or_false] at hm
  rcases hm with rfl | rfl | rfl | rfl | rfl | rfl | rfl | rfl | rfl <;> exact ⟨by decide, by decide, hp⟩
/-- enough is enough -/
theorem raw_more : ∀ (m n : Nat) (l : List Nat), l.length ≤ m → l.length ≤ n → raw m l = raw n l
  | 0, n, l, hm, hn => by
    have : l = [] := List.eq_nil_of_length_eq_zero (by omega)
    subst this
    cases n <;> rfl
  | m + 1, 0, l, hm, hn => by
    have : l = [] := List.eq_nil_of_length_eq_zero (by omega)
    subst this
    rfl
  | m + 1, n + 1, [], hm, hn => rfl
  | m + 1, n + 1, c :: l, hm, hn => by
    have lm : l.length ≤ m := by simpa using hm
    have ln : l.length ≤ n := by simpa using hn
    have step : ∀ k : Nat, 0 < k → raw m ((c :: l).drop k) = raw n ((c :: l).drop k) := fun k hk => by
      have : ((c :: l).drop k).length ≤ l.length := by rw [List.length_drop, List.length_cons]; omega
      exact raw_more m n _ (by omega) (by omega)
    simp only [raw]
    split
    · exact raw_more m n l lm ln
    · split
      · rename_i h
        rw [step _ (List.length_pos_iff.mpr h)]
      · split
        · rename_i s hs
          rw [step _ (signAt_pos hs).1]
        · rw [raw_more m n l lm ln]
/-- what stands before is read first: one step -/
def rst (l : List Nat) : List Ent := raw l.length l
theorem rst_nil : rst [] = [] := rfl
theorem rst_cons (c : Nat) (l : List Nat) : rst (c :: l) = if c = 32 then rst l else
      let r := (c :: l).takeWhile isAl
      if r ≠ [] then (runSort r, some r) :: rst ((c :: l).drop r.length) else
      match signAt (c :: l) with
      | some s => (some .sign, some s) :: rst ((c :: l).drop s.length)
      | none => (none, none) :: rst l := by
  have step : ∀ k : Nat, 0 < k → raw l.length ((c :: l).drop k) = rst ((c :: l).drop k) := fun k hk => by
    refine raw_more _ _ _ ?_ (Nat.le_refl _)
    rw [List.length_drop, List.length_cons]
    omega
  show raw (l.length + 1) (c :: l) = _
  simp only [raw]
  split
  · rfl
  · split
    · rename_i h
      rw [step _ (List.length_pos_iff.mpr h)]
    · split
      · rename_i s hs
        rw [step _ (signAt_pos hs).1]
      · rfl
end Wd
set_option linter.all false
/-! Texts as lists of signs -/
namespace My
open PySem PySem.Spec PyProof.Rows L2
abbrev tx (l : List Nat) : Str := ⟨l.toArray⟩
theorem tx_len (l : List Nat) : (tx l).length = l.length := by simp [tx, Str.length]
theorem tx_size (l : List Nat) : (tx l).cps.size = l.length := by simp [tx]
theorem tx_list (l : List Nat) : (tx l).cps.toList = l := by simp [tx]
theorem tx_get {l : List Nat} {i c : Nat} (h : (tx l).cps[i]? = some c) : l[i]? = some c := by simpa [tx] using h
theorem tx_inj {a b : List Nat} (h : tx a = tx b) : a = b := by
  have := congrArg (fun x : Str => x.cps.toList) h
  simpa [tx] using this
theorem tx_cat (a b : List Nat) : tx a ++ tx b = tx (a ++ b) := SX.S_cat a b
theorem tx_eq (a b : List Nat) : decide (V.str (tx a) = V.str (tx b)) = decide (a = b) := by
  by_cases h : a = b
  · rw [h, decide_eq_true rfl, decide_eq_true rfl]
  · rw [decide_eq_false h, decide_eq_false fun z => h (tx_inj (V.str.inj z))]
theorem tx_at {l : List Nat} {i c : Nat} (h : l[i]? = some c) : atI (tx l).cps.toList ((i : Nat) : Int) = some c := by
  rw [tx_list]
  exact atI_nat h
/-- slices of texts -/
theorem cutS_mid (l : List Nat) (n m : Nat) : cutS (tx l) (some (n : Int)) (some (m : Int)) = tx ((l.drop n).take (m - n)) := by
  unfold cutS
  rw [HT.sIx_nat, HT.sIx_nat, tx_list, tx_len]
  congr 2
  by_cases h : n ≤ l.length
  · rw [Nat.min_eq_left h]
    by_cases h2 : m ≤ l.length
    · rw [Nat.min_eq_left h2]
    · rw [Nat.min_eq_right (by omega), List.take_of_length_le (by rw [List.length_drop]; omega), List.take_of_length_le (by rw [List.length_drop]; omega)]
  · rw [Nat.min_eq_right (a := n) (by omega), List.drop_eq_nil_of_le (Nat.le_refl _), List.drop_eq_nil_of_le (by omega), List.take_nil, List.take_nil]
theorem cutS_ge (l : List Nat) (n : Nat) : cutS (tx l) (some (n : Int)) none = tx (l.drop n) := by
  unfold cutS
  rw [HT.sIx_nat, HT.sIx_none, tx_list, tx_len]
  congr 2
  by_cases h : n ≤ l.length
  · rw [Nat.min_eq_left h, List.take_of_length_le (by rw [List.length_drop]; omega)]
  · rw [Nat.min_eq_right (by omega), List.drop_eq_nil_of_le (Nat.le_refl _), List.drop_eq_nil_of_le (by omega), List.take_nil]
theorem cutS_lt (l : List Nat) (n : Nat) : cutS (tx l) none (some (n : Int)) = tx (l.take n) := by
  unfold cutS
  rw [HT.sIx_nat, HT.sIx_none, tx_list, tx_len, List.drop_zero, Nat.sub_zero]
  congr 2
  by_cases h : n ≤ l.length
  · rw [Nat.min_eq_left h]
  · rw [Nat.min_eq_right (by omega), List.take_of_length_le (Nat.le_refl _), List.take_of_length_le (by omega)]
theorem take_while_len {p : Nat → Bool} : ∀ l : List Nat, l.drop (l.takeWhile p).length = l.dropWhile p
  | [] => rfl
  | a :: l => by
    by_cases h : p a
    · rw [List.takeWhile_cons_of_pos h, List.dropWhile_cons_of_pos h, List.length_cons, List.drop_succ_cons, take_while_len l]
    · rw [List.takeWhile_cons_of_neg h, List.dropWhile_cons_of_neg h]
      rfl
theorem strip_tx (l : List Nat) : Txt.stripChars (tx l) (tx [32]) = tx (Wd.stripped l) := by
  have hp : (tx [32]).cps.contains = fun c => c == 32 := by
    funext c
    simp [tx]
    by_cases h : c = 32
    · simp [h]
    · simp [h, Ne.symm h]
  have e : PySem.stripped (fun c => c == 32) true true (tx l) = tx (Wd.stripped l) := by
    unfold PySem.stripped PySem.stripLo PySem.stripHi
    rw [if_pos rfl, if_pos rfl, tx_list, tx_len]
    unfold Builtin.Str.strSub Wd.stripped Wd.stripL
    congr 1
    apply Array.toList_inj.mp
    rw [Array.toList_extract]
    rw [take_while_len]
    have e2 : ((l.dropWhile fun c => c == 32).reverse.dropWhile fun c => c == 32).reverse = (l.dropWhile fun c => c == 32).take ((l.dropWhile fun c => c == 32).length - ((l.dropWhile fun c => c == 32).reverse.takeWhile fun c => c == 32).length) := by
      rw [← take_while_len, List.reverse_drop, List.reverse_reverse, List.length_reverse]
    rw [e2, ← take_while_len, List.length_drop]
    simp only [tx, List.extract_eq_drop_take]
    congr 1
    omega
  unfold Txt.stripChars Txt.stripBy
  rw [hp]
  by_cases s : PySem.stripSame (fun c => c == 32) true true (tx l) = true
  · rw [if_pos s]
    rw [← e]
    unfold PySem.stripSame at s
    rw [Bool.and_eq_true, beq_iff_eq, beq_iff_eq] at s
    unfold PySem.stripped
    rw [s.2, s.1]
    unfold Builtin.Str.strSub
    simp [tx, Str.length]
  · rw [if_neg s]
    exact e
end My
set_option Elab.async false
set_option linter.all false
set_option maxRecDepth 100000
set_option maxHeartbeats 4000000
/-! Words of lines -/
namespace Wd
open PySem
def LOWER : Str := Str.ofString "abcdefghijklmnopqrstuvwxyz"
def UPPER : Str := Str.ofString "ABCDEFGHIJKLMNOPQRSTUVWXYZ"
def DIGITS : Str := Str.ofString "0123456789"
end Wd
namespace My
open PySem PySem.Spec PyProof.Rows L2 Wd
local macro_rules
  | `(tactic| nofun) => `(tactic| (apply tup_at; nofun))
local macro_rules
  | `(tactic| nofun) => `(tactic| (apply seq_at; nofun))
local macro_rules
  | `(tactic| nofun) => `(tactic| (apply pool_same; assumption; nofun))
local macro_rules
  | `(tactic| nofun) => `(tactic| (apply but_get; assumption; assumption; nofun))
local macro_rules
  | `(tactic| nofun) => `(tactic| (apply off_get; assumption; assumption; nofun))
local macro_rules
  | `(tactic| nofun) => `(tactic| (apply same_get; assumption; nofun))
local macro_rules
  | `(tactic| nofun) => `(tactic| assumption)
abbrev st_run_sort : Stmt := topS 9
theorem sc_run_sort : FnScope ["run", "sign"] ["run"] (defScope st_run_sort) := ⟨rfl, rfl, rfl, by decide +kernel, rfl, by decide +kernel, by decide +kernel⟩
abbrev st_end_of_run : Stmt := topS 10
theorem sc_end_of_run : FnScope ["line", "at", "end"] ["line", "at"] (defScope st_end_of_run) := ⟨rfl, rfl, rfl, by decide +kernel, rfl, by decide +kernel, by decide +kernel⟩
abbrev st_sign_at : Stmt := topS 11
theorem sc_sign_at : FnScope ["line", "at", "sign"] ["line", "at"] (defScope st_sign_at) := ⟨rfl, rfl, rfl, by decide +kernel, rfl, by decide +kernel, by decide +kernel⟩
abbrev st_words_of : Stmt := topS 12
theorem sc_words_of : FnScope ["line", "found", "at", "end", "sign", "sort", "_"] ["line"] (defScope st_words_of) := ⟨rfl, rfl, rfl, by decide +kernel, rfl, by decide +kernel, by decide +kernel⟩
abbrev st_says_nothing : Stmt := topS 13
theorem sc_says_nothing : FnScope ["line", "told"] ["line"] (defScope st_says_nothing) := ⟨rfl, rfl, rfl, by decide +kernel, rfl, by decide +kernel, by decide +kernel⟩
def kdS : Kd → Str
  | .num => "number"
  | .name => "name"
  | .var => "var"
  | .sign => "sign"
  | .fin => "end"
def kV : Option Kd → V
  | none => .non
  | some k => .str (kdS k)
def tV : Option (List Nat) → V
  | none => .non
  | some t => .str (tx t)
theorem in_range (n k c : Nat) : decide (c ∈ (List.range n).map (k + ·)) = (decide (k ≤ c) && decide (c ≤ k + n - 1) && decide (0 < n)) := by
  rw [Bool.eq_iff_iff]
  simp only [decide_eq_true_eq, Bool.and_eq_true, List.mem_map, List.mem_range]
  constructor
  · rintro ⟨a, h, rfl⟩
    omega
  · rintro ⟨⟨h1, h2⟩, h3⟩
    exact ⟨c - k, by omega, by omega⟩
theorem in_low (c : Nat) : decide (c ∈ LOWER.cps.toList) = isLow c := by
  rw [show LOWER.cps.toList = (List.range 26).map (97 + ·) by decide +kernel, in_range]
  simp [isLow]
theorem in_up (c : Nat) : decide (c ∈ UPPER.cps.toList) = isUp c := by
  rw [show UPPER.cps.toList = (List.range 26).map (65 + ·) by decide +kernel, in_range]
  simp [isUp]
theorem in_dig (c : Nat) : decide (c ∈ DIGITS.cps.toList) = isDig c := by
  rw [show DIGITS.cps.toList = (List.range 10).map (48 + ·) by decide +kernel, in_range]
  simp [isDig]
theorem in_al (c : Nat) : decide (c ∈ (LOWER ++ UPPER ++ DIGITS).cps.toList) = isAl c := by
  have e : (LOWER ++ UPPER ++ DIGITS).cps.toList = LOWER.cps.toList ++ (UPPER.cps.toList ++ DIGITS.cps.toList) := by decide +kernel
  rw [e, isAl, ← in_low, ← in_up, ← in_dig]
  simp only [List.mem_append, Bool.decide_or]
theorem take_while_at {p : Nat → Bool} : ∀ {l : List Nat} {i c : Nat}, l[i]? = some c → i ≤ (l.takeWhile p).length → (i < (l.takeWhile p).length ↔ p c = true)
  | a :: l, 0, c, h, _ => by
    obtain rfl : a = c := Option.some.inj h
    by_cases e : p a = true
    · rw [List.takeWhile_cons_of_pos e, List.length_cons]
      exact ⟨fun _ => e, fun _ => Nat.succ_pos _⟩
    · rw [List.takeWhile_cons_of_neg e]
      exact ⟨fun z => absurd z (Nat.lt_irrefl 0), fun z => absurd z e⟩
  | a :: l, i + 1, c, h, hi => by
    by_cases e : p a = true
    · rw [List.takeWhile_cons_of_pos e, List.length_cons] at hi ⊢
      have ih := take_while_at (p := p) (l := l) (i := i) (c := c) h (by omega)
      rw [← ih]
      omega
    · rw [List.takeWhile_cons_of_neg e] at hi
      exact absurd hi (Nat.not_succ_le_zero _)
theorem find_at {α : Type} {p : α → Bool} : ∀ {xs : List α} {i : Nat} {x : α}, xs[i]? = some x → (∀ s ∈ xs.take i, ¬ p s = true) → p x = true → xs.find? p = some x
  | a :: xs, 0, x, h, _, hp => by
    obtain rfl : a = x := Option.some.inj h
    rw [List.find?_cons_of_pos hp]
  | a :: xs, i + 1, x, h, no, hp => by
    rw [List.find?_cons_of_neg (no a (List.mem_cons_self ..))]
    exact find_at (xs := xs) (i := i) h (fun s hs => no s (List.mem_cons_of_mem _ hs)) hp
def spRunSort : Sp := fun vs H Q _ => ∃ r : List Nat, vs = [.str (tx r)] ∧ r ≠ [] ∧ r.length ≤ 100000 ∧ ∀ H', Same H H' → Q (kV (runSort r)) H'
def spEndOfRun : Sp := fun vs H Q _ => ∃ (l : List Nat) (at_ : Nat), vs = [.str (tx l), .int (at_ : Nat)] ∧ at_ ≤ l.length ∧ l.length ≤ 100000 ∧ ∀ H', Same H H' → Q (.int (at_ + ((l.drop at_).takeWhile isAl).length : Nat)) H'
def spSignAt : Sp := fun vs H Q _ => ∃ (l : List Nat) (at_ : Nat), vs = [.str (tx l), .int (at_ : Nat)] ∧ l.length ≤ 100000 ∧ ∀ H', Same H H' → Q (tV (signAt (l.drop at_))) H'
section
variable {P : Program} {w : World} {K : PySem.W.Frag} {mg : Str → Option Value} {base : Heap} {C aS aK : Addr}
structure MWords (mg : Str → Option Value) : Prop where
  low : ∃ t, mg "LOWER" = some (.str LOWER t)
  up : ∃ t, mg "UPPER" = some (.str UPPER t)
  dig : ∃ t, mg "DIGITS" = some (.str DIGITS t)
theorem ok_run_sort (T : Top K mg "run_sort" st_run_sort ["run"]) (M : MWords mg) (z_all : mg "all" = none) (z_any : mg "any" = none) (z_len : mg "len" = none) : Def P w K mg base 1 "run_sort" ["run"] spRunSort := by
  obtain ⟨_, m_LOWER⟩ := M.low
  obtain ⟨_, m_UPPER⟩ := M.up
  obtain ⟨_, m_DIGITS⟩ := M.dig
  refine T.ok sc_run_sort (fun vs H Q E h => ?_) (fun f cdv A outer s H vs Q E hr h => ?_)
  · obtain ⟨r, rfl, _⟩ := h
    rfl
  obtain ⟨r, rfl, hne, hl, q⟩ := h
  refine ⟨_, (pss_cons (ps_if (pt_val (pe_callB (allQ K) rfl z_all (by decide +kernel) (pa_cons (pe_lc (own := [("sign", 1)]) (g := gName 1) (tt := tYes) rfl sc_run_sort.nd (pi_str (pv 0)) (blkOk_by (own := [("sign", 1)]) (N := ["run", "sign"]) (sc := defScope st_run_sort) (by decide +kernel)) (fun _ _ _ _ _ => (pg_name (i := 1) sc_run_sort.nd rfl (Or.inl rfl))) (fun _ _ _ _ _ => pts_nil) (fun _ _ _ _ _ => (pe_cmpR op_in_sign (pv 1) (pe_glob (v := .str Wd.DIGITS) rfl m_DIGITS ⟨_, rfl⟩) rfl))) pa_nil)))
    (pss_one (ps_ret (pe_ifExp (PW.pt (pw_and (pt_cmpR op_lt (pe_callB call_len_str rfl z_len (by decide +kernel) (pa_cons (pv 0) pa_nil)) pe_int (nomark _)) (pw_and1 (PW.pt (pw_or (pt_cmpR op_eq (pv 0) pe_str (nomark _)) (pw_or1 (pt_cmpR op_ne (pe_ix ix_str (pv 0) pe_int (fun _ _ => rfl)) pe_str (nomark _)))))))) pe_str pe_non)))
    pss_nil)
    (pss_cons (ps_if (PW.pt (pw_or (pt_cmpR op_gt (pe_callB call_len_str rfl z_len (by decide +kernel) (pa_cons (pv 0) pa_nil)) pe_int (nomark _)) (pw_or1 (pt_val (pe_callB (anyQ K) rfl z_any (by decide +kernel) (pa_cons (pe_lc (own := [("sign", 1)]) (g := gName 1) (tt := tYes) rfl sc_run_sort.nd (pi_str (pe_slice sl_str (pv 0) (po_some pe_int) po_none)) (blkOk_by (own := [("sign", 1)]) (N := ["run", "sign"]) (sc := defScope st_run_sort) (by decide +kernel)) (fun _ _ _ _ _ => (pg_name (i := 1) sc_run_sort.nd rfl (Or.inl rfl))) (fun _ _ _ _ _ => pts_nil) (fun _ _ _ _ _ => (pe_cmpR op_in_sign (pv 1) (pe_glob (v := .str Wd.UPPER) rfl m_UPPER ⟨_, rfl⟩) rfl))) pa_nil))))))
    (pss_one (ps_ret pe_non))
    pss_nil)
    (pss_cons (ps_if (pt_cmpR op_in_sign (pe_ix ix_str (pv 0) pe_int (fun _ _ => rfl)) (pe_glob (v := .str Wd.LOWER) rfl m_LOWER ⟨_, rfl⟩) rfl)
    (pss_one (ps_ret pe_str))
    pss_nil)
    (pss_one (ps_ret (pe_ifExp (pt_cmpR op_in_sign (pe_ix ix_str (pv 0) pe_int (fun _ _ => rfl)) (pe_glob (v := .str Wd.UPPER) rfl m_UPPER ⟨_, rfl⟩) rfl) pe_str pe_non)))))), ?_⟩
  have big : ∀ {n : Nat}, n ≤ 900000 → n ≤ sizeLine := fun h => Nat.le_trans h (by decide)
  have lz : (tx r).length ≤ sizeLine := big (by rw [tx_len]; omega)
  obtain ⟨c0, r', er⟩ : ∃ c0 r', r = c0 :: r' := by
    cases r with
    | nil => exact absurd rfl hne
    | cons a b => exact ⟨a, b, rfl⟩
  have hc0 : atI (tx r).cps.toList 0 = some c0 := tx_at (i := 0) (by rw [er]; rfl)
  refine ⟨_, rfl, _, rfl, fun D nD => lc_str (fun i G => Same H G ∧ G D = some (.lst (((r.take i).map isDig).map V.bl))) ⟨Same.new nD, upd_same⟩ ?_ ?_⟩
  · rintro i c G hc ⟨sg, ed⟩
    have hc := tx_get hc
    have ilt := (List.getElem?_eq_some_iff.mp hc).1
    refine ⟨rfl, ?_⟩
    dsimp only [tYes]
    refine iteT ⟨_, rfl, c, _, rfl, rfl, ?_⟩
    refine ⟨_, ed, by rw [List.length_map, List.length_map, List.length_take]; exact sq_len (by omega), same_mut sg nD, ?_⟩
    rw [upd_same, List.take_add_one, hc, in_dig, List.map_append, List.map_append]
    rfl
  rintro G ⟨sg, ed⟩
  rw [tx_size, List.take_length] at ed
  refine ⟨D, _, rfl, SqL.of ed, _, rfl, ?_⟩
  rw [show (r.map isDig).all id = r.all isDig by rw [List.all_map]; rfl]
  by_cases hd : r.all isDig = true
  · rw [hd]
    refine iteT ?_
    have rs : runSort r = if r.length < 3 ∧ (r = [48] ∨ r.head? ≠ some 48) then some .num else none := by unfold runSort; rw [if_pos hd]
    refine ⟨_, rfl, _, rfl, lz, _, _, rfl, rfl, _, rfl, ?_⟩
    by_cases l3 : r.length < 3
    case neg =>
      refine ifND (by rw [tx_len]; omega) (iteF ?_)
      have := q G sg
      rw [rs, if_neg (fun z => l3 z.1)] at this
      exact this
    refine ifD (by rw [tx_len]; omega) ⟨_, rfl, rfl, _, rfl, ?_⟩
    rw [show (Str.ofString "0") = tx [48] by decide +kernel, tx_eq]
    by_cases e0 : r = [48]
    · refine ifD e0 (iteT ?_)
      have := q G sg
      rw [rs, if_pos ⟨l3, .inl e0⟩] at this
      exact this
    refine ifND e0 ⟨_, rfl, _, _, _, rfl, rfl, lz, hc0, rfl, _, rfl, ?_⟩
    rw [show (⟨#[c0]⟩ : Str) = tx [c0] from rfl, tx_eq]
    by_cases h48 : c0 = 48
    · refine ifnD (by rw [h48]) ?_
      have := q G sg
      rw [rs, if_neg (fun z => by rcases z.2 with z | z; exact e0 z; exact z (by rw [er, h48]; rfl))] at this
      exact this
    · refine ifnND (fun z => h48 (by injection z)) ?_
      have := q G sg
      rw [rs, if_pos ⟨l3, .inr (fun z => h48 (by rw [er] at z; exact Option.some.inj z))⟩] at this
      exact this
  refine ifV (b := false) (Bool.eq_false_iff.mpr hd) (iteF ?_)
  have rs : runSort r = if 12 < r.length ∨ (r.drop 1).any isUp = true then none else if isLow c0 then some .name else if isUp c0 then some .var else none := by
    unfold runSort
    rw [if_neg hd, er]
    rfl
  refine ⟨_, rfl, _, rfl, lz, _, _, rfl, rfl, _, rfl, ?_⟩
  by_cases l12 : 12 < r.length
  · refine ifD (by rw [tx_len]; omega) (iteT ?_)
    have := q G sg
    rw [rs, if_pos (.inl l12)] at this
    exact this
  refine ifND (by rw [tx_len]; omega) ?_
  refine ⟨_, rfl, _, rfl, _, rfl, lz, _, rfl, fun D2 nD2 => ?_⟩
  rw [show cutS (tx r) (some 1) none = tx (r.drop 1) from cutS_ge r 1]
  refine lc_str (fun i G' => Same G G' ∧ G' D2 = some (.lst ((((r.drop 1).take i).map isUp).map V.bl))) ⟨Same.new nD2, upd_same⟩ ?_ ?_
  · rintro i c G' hc ⟨s2, ed2⟩
    have hc := tx_get hc
    have ilt := (List.getElem?_eq_some_iff.mp hc).1
    refine ⟨rfl, ?_⟩
    dsimp only [tYes]
    refine iteT ⟨_, rfl, c, _, rfl, rfl, ?_⟩
    refine ⟨_, ed2, by rw [List.length_map, List.length_map, List.length_take, List.length_drop]; exact sq_len (by omega), same_mut s2 nD2, ?_⟩
    rw [upd_same, List.take_add_one, hc, in_up, List.map_append, List.map_append]
    rfl
  rintro G2 ⟨s2, ed2⟩
  rw [tx_size, List.take_length] at ed2
  have s02 := sg.trans s2
  refine ⟨D2, _, rfl, SqL.of ed2, _, rfl, ?_⟩
  rw [show ((r.drop 1).map isUp).any id = (r.drop 1).any isUp by rw [List.any_map]; rfl]
  by_cases hu : (r.drop 1).any isUp = true
  · refine ifV (b := true) hu (iteT ?_)
    have := q G2 s02
    rw [rs, if_pos (.inr hu)] at this
    exact this
  refine ifV (b := false) (Bool.eq_false_iff.mpr hu) (iteF ?_)
  have rs2 : runSort r = if isLow c0 then some .name else if isUp c0 then some .var else none := by
    rw [rs, if_neg (fun z => by rcases z with z | z; exact l12 z; exact hu z)]
  refine ⟨_, rfl, _, _, _, rfl, rfl, lz, hc0, c0, _, rfl, rfl, _, rfl, ?_⟩
  rw [in_low]
  by_cases h1 : isLow c0 = true
  · refine ifV (b := true) h1 (iteT ?_)
    have := q G2 s02
    rw [rs2, if_pos h1] at this
    exact this
  refine ifV (b := false) (Bool.eq_false_iff.mpr h1) (iteF ?_)
  refine ⟨_, rfl, _, _, _, rfl, rfl, lz, hc0, c0, _, rfl, rfl, _, rfl, ?_⟩
  rw [in_up]
  by_cases h2 : isUp c0 = true
  · refine ifV (b := true) h2 (iteT ?_)
    have := q G2 s02
    rw [rs2, if_neg h1, if_pos h2] at this
    exact this
  refine ifV (b := false) (Bool.eq_false_iff.mpr h2) (iteF ?_)
  have := q G2 s02
  rw [rs2, if_neg h1, if_neg h2] at this
  exact this
theorem ok_end_of_run (T : Top K mg "end_of_run" st_end_of_run ["line", "at"]) (M : MWords mg) (z_len : mg "len" = none) : Def P w K mg base 1 "end_of_run" ["line", "at"] spEndOfRun := by
  obtain ⟨_, m_LOWER⟩ := M.low
  obtain ⟨_, m_UPPER⟩ := M.up
  obtain ⟨_, m_DIGITS⟩ := M.dig
  refine T.ok sc_end_of_run (fun vs H Q E h => ?_) (fun f cdv A outer s H vs Q E hr h => ?_)
  · obtain ⟨l, at_, rfl, _⟩ := h
    rfl
  obtain ⟨l, at_, rfl, hat, hl, q⟩ := h
  refine ⟨_, (pss_cons (ps_set (i := 2) sc_end_of_run.nd rfl (Or.inl rfl) (pv 1))
    (pss_cons (ps_while PassesOwn.never (PW.pt (pw_and (pt_cmpR op_lt (pv 2) (pe_callB call_len_str rfl z_len (by decide +kernel) (pa_cons (pv 0) pa_nil)) (nomark _)) (pw_and1 (pt_cmpR op_in_sign (pe_ix ix_str (pv 0) (pv 2) (fun _ _ => rfl)) (pe_op op_add_str (pe_op op_add_str (pe_glob (v := .str Wd.LOWER) rfl m_LOWER ⟨_, rfl⟩) (pe_glob (v := .str Wd.UPPER) rfl m_UPPER ⟨_, rfl⟩)) (pe_glob (v := .str Wd.DIGITS) rfl m_DIGITS ⟨_, rfl⟩)) rfl))))
    (pss_one (ps_set (i := 2) sc_end_of_run.nd rfl (Or.inl rfl) (pe_op op_add (pv 2) pe_int))))
    (pss_one (ps_ret (pv 2))))), ?_⟩
  have big : ∀ {n : Nat}, n ≤ 900000 → n ≤ sizeLine := fun h => Nat.le_trans h (by decide)
  have lz : (tx l).length ≤ sizeLine := big (by rw [tx_len]; omega)
  obtain ⟨W, hW⟩ : ∃ W, W = (l.drop at_).takeWhile isAl := ⟨_, rfl⟩
  have lW : at_ + W.length ≤ l.length := by
    have := (List.takeWhile_prefix (p := isAl) (l := l.drop at_)).length_le
    rw [← hW, List.length_drop] at this
    omega
  rw [← hW] at q
  refine ⟨_, rfl, ?_⟩
  refine ⟨fun m σ G => ∃ k, k ≤ W.length ∧ m = W.length - k ∧ σ = [some (.str (tx l)), some (.int (at_ : Nat)), some (.int (at_ + k : Nat))] ∧ G = H, ⟨_, 0, Nat.zero_le _, rfl, rfl, rfl⟩, ?_⟩
  rintro m σ G ⟨k, hk, rfl, rfl, hG⟩
  subst hG
  refine ⟨_, rfl, _, rfl, _, rfl, lz, _, _, rfl, rfl, _, rfl, ?_⟩
  by_cases lt : at_ + k < l.length
  case neg =>
    refine ifND (by rw [tx_len]; omega) (iteF ?_)
    have e : k = W.length := by omega
    subst e
    exact ⟨_, rfl, q _ (Same.refl _)⟩
  obtain ⟨c, hc⟩ : ∃ c, l[at_ + k]? = some c := ⟨_, List.getElem?_eq_getElem lt⟩
  refine ifD (by rw [tx_len]; omega) ⟨_, rfl, _, rfl, _, _, _, rfl, rfl, lz, tx_at hc, _, _, rfl, rfl, by decide +kernel, _, _, rfl, rfl, by decide +kernel, c, _, rfl, rfl, _, rfl, ?_⟩
  rw [in_al]
  have tw := take_while_at (p := isAl) (l := l.drop at_) (i := k) (c := c) (by rw [List.getElem?_drop]; exact hc) (by rw [← hW]; exact hk)
  rw [← hW] at tw
  by_cases ha : isAl c = true
  · refine ifV (b := true) ha (iteT ⟨fun σ' G' => ∃ m', m' < W.length - k ∧ _, fun σ' G' w => w, ?_⟩)
    have := tw.mpr ha
    refine ⟨_, rfl, _, _, rfl, rfl, W.length - (k + 1), by omega, k + 1, by omega, rfl, ?_, rfl⟩
    rw [show ((at_ + (k + 1) : Nat) : Int) = ((at_ + k : Nat) : Int) + 1 by omega]
    rfl
  · refine ifV (b := false) (Bool.eq_false_iff.mpr ha) (iteF ?_)
    have e : k = W.length := by
      apply Decidable.byContradiction
      intro z
      exact ha (tw.mp (by omega))
    subst e
    exact ⟨_, rfl, q _ (Same.refl _)⟩
theorem ok_sign_at (T : Top K mg "sign_at" st_sign_at ["line", "at"]) (m_SIGNS : mg "SIGNS" = some (.ref aS)) (t_SIGNS : ∀ H, SqT K H aS (sgs.map fun s => V.str (tx s))) (z_len : mg "len" = none) : Def P w K mg base 1 "sign_at" ["line", "at"] spSignAt := by
  refine T.ok sc_sign_at (fun vs H Q E h => ?_) (fun f cdv A outer s H vs Q E hr h => ?_)
  · obtain ⟨l, at_, rfl, _⟩ := h
    rfl
  obtain ⟨l, at_, rfl, hl, q⟩ := h
  refine ⟨_, (pss_cons (ps_for PassesOwn.never rfl (pi_tup (pe_glob (v := .ref aS) rfl m_SIGNS rfl)) (pg_name (i := 2) sc_sign_at.nd rfl (Or.inl rfl))
    (pss_one (ps_if (pt_cmpR op_eq (pe_slice sl_str (pv 0) (po_some (pv 1)) (po_some (pe_op op_add (pv 1) (pe_callB call_len_str rfl z_len (by decide +kernel) (pa_cons (pv 2) pa_nil))))) (pv 2) (nomark _))
      (pss_one (ps_ret (pv 2)))
      pss_nil)))
    (pss_one (ps_ret pe_non))), ?_⟩
  have big : ∀ {n : Nat}, n ≤ 900000 → n ≤ sizeLine := fun h => Nat.le_trans h (by decide)
  have lz : (tx l).length ≤ sizeLine := big (by rw [tx_len]; omega)
  refine ⟨aS, rfl, ⟨_, t_SIGNS _⟩, for_tup (K := K) (a := aS) (xs := sgs.map fun s => V.str (tx s)) (fun i σ G => ∃ x2, σ = [some (.str (tx l)), some (.int (at_ : Nat)), x2] ∧ H = G ∧ ∀ s ∈ sgs.take i, ¬ (l.drop at_).take s.length = s) ⟨none, rfl, rfl, fun s hs => by cases hs⟩ (fun _ _ _ _ _ => t_SIGNS _) ?_ ?_⟩
  · rintro i y σ G hy ⟨x2, rfl, rfl, no⟩
    obtain ⟨sg, hsg, rfl⟩ : ∃ sg, sgs[i]? = some sg ∧ V.str (tx sg) = y := by
      rw [List.getElem?_map] at hy
      cases k : sgs[i]? with
      | none => rw [k] at hy; cases hy
      | some z => rw [k] at hy; exact ⟨z, rfl, Option.some.inj hy⟩
    have hmem := List.mem_of_getElem? hsg
    have lsg : sg.length ≤ 2 := by
      have : ∀ s ∈ sgs, s.length ≤ 2 := by decide
      exact this sg hmem
    refine ⟨_, rfl, _, rfl, _, rfl, _, rfl, _, rfl, tx sg, rfl, big (by rw [tx_len]; omega), _, _, rfl, rfl, _, rfl, _, rfl, lz, ?_⟩
    rw [show ((at_ : Nat) : Int) + ((tx sg).length : Int) = ((at_ + sg.length : Nat) : Int) by rw [tx_len]; omega, cutS_mid, Nat.add_sub_cancel_left]
    refine ⟨_, rfl, rfl, _, rfl, ?_⟩
    rw [tx_eq]
    by_cases h : (l.drop at_).take sg.length = sg
    · refine ifD h ⟨_, rfl, ?_⟩
      have := q H (Same.refl _)
      rw [show signAt (l.drop at_) = some sg from find_at hsg (fun s hs z => no s hs (of_decide_eq_true z)) (decide_eq_true h)] at this
      exact this
    · refine ifND h ⟨_, rfl, rfl, fun s hs => ?_⟩
      rw [List.take_add_one, hsg] at hs
      rcases List.mem_append.mp hs with hs | hs
      · exact no s hs
      · rw [List.mem_singleton.mp hs]
        exact h
  rintro σ G ⟨x2, rfl, rfl, no⟩
  rw [List.length_map, List.take_length] at no
  have := q H (Same.refl _)
  rw [show signAt (l.drop at_) = none from List.find?_eq_none.mpr fun s hs z => no s hs (of_decide_eq_true z)] at this
  exact this
end
end My
set_option Elab.async false
set_option linter.all false
set_option maxRecDepth 100000
set_option maxHeartbeats 4000000
/-! Words of a line -/
namespace My
open PySem PySem.Spec PyProof.Rows L2 Wd
local macro_rules
  | `(tactic| nofun) => `(tactic| (apply tup_at; nofun))
local macro_rules
  | `(tactic| nofun) => `(tactic| (apply seq_at; nofun))
local macro_rules
  | `(tactic| nofun) => `(tactic| (apply pool_same; assumption; nofun))
local macro_rules
  | `(tactic| nofun) => `(tactic| (apply but_get; assumption; assumption; nofun))
local macro_rules
  | `(tactic| nofun) => `(tactic| (apply off_get; assumption; assumption; nofun))
local macro_rules
  | `(tactic| nofun) => `(tactic| (apply same_get; assumption; nofun))
local macro_rules
  | `(tactic| nofun) => `(tactic| assumption)
/-- pairs stand in a list -/
def PairsAt {α : Type} (f : α → List V) (G : Hp) (xs : List V) (es : List α) : Prop := xs.length = es.length ∧ ∀ (i : Nat) y e, xs[i]? = some y → es[i]? = some e → ∃ t : Addr, y = .ref t ∧ G t = some (.tup (f e))
section
variable {α : Type} {f : α → List V} {G G' : Hp} {xs : List V} {es : List α}
theorem PairsAt.same (h : PairsAt f G xs es) (s : Same G G') : PairsAt f G' xs es := ⟨h.1, fun i y e hy he => by
  obtain ⟨t, h1, h2⟩ := h.2 i y e hy he
  exact ⟨t, h1, s _ _ h2⟩⟩
theorem PairsAt.list {l : Addr} {us us' : List V} (w : PairsAt f G xs es) (h : G l = some (.lst us)) : PairsAt f (upd G l (.lst us')) xs es := ⟨w.1, fun i y e hy he => by
  obtain ⟨t, h1, h2⟩ := w.2 i y e hy he
  exact ⟨t, h1, (upd_ne (fun q => by rw [q, h] at h2; cases h2)).trans h2⟩⟩
theorem PairsAt.snoc {t : Addr} {e : α} (h : PairsAt f G xs es) (ht : G t = some (.tup (f e))) : PairsAt f G (xs ++ [.ref t]) (es ++ [e]) := by
  have l := h.1
  refine ⟨by rw [List.length_append, List.length_append, h.1]; rfl, fun i y d hy hd => ?_⟩
  by_cases lt : i < xs.length
  · rw [List.getElem?_append_left lt] at hy
    rw [List.getElem?_append_left (by omega)] at hd
    exact h.2 i y d hy hd
  · rw [List.getElem?_append_right (by omega)] at hy
    rw [List.getElem?_append_right (by omega), show i - es.length = i - xs.length by omega] at hd
    cases k : i - xs.length with
    | zero =>
      rw [k] at hy hd
      obtain rfl := Option.some.inj hy
      obtain rfl := Option.some.inj hd
      exact ⟨t, rfl, ht⟩
    | succ k' => rw [k] at hy; cases hy
theorem PairsAt.nil : PairsAt f G [] [] := ⟨rfl, fun i y e hy _ => by cases hy⟩
end
def entV (e : Ent) : List V := [kV e.1, tV e.2]
def wordV (w : Word) : List V := [.str (kdS w.1), .str (tx w.2)]
def WordsAt (G : Hp) (p : Addr) (ws : List Word) : Prop := ∃ xs, G p = some (.lst xs) ∧ PairsAt wordV G xs ws
def spWordsOf : Sp := fun vs H Q _ => ∃ l : List Nat, vs = [.str (tx l)] ∧ l.length ≤ 100000 ∧ (words l = none → ∀ H', Same H H' → Q .non H') ∧ (∀ ws, words l = some ws → ∀ p H', Same H H' → H p = none → WordsAt H' p ws → Q (.ref p) H')
def spNothing : Sp := fun vs H Q _ => ∃ l : List Nat, vs = [.str (tx l)] ∧ l.length ≤ 100000 ∧ ∀ H', Same H H' → Q (.bl (nothing l)) H'
theorem raw_len : ∀ (m : Nat) (l : List Nat), (raw m l).length ≤ m
  | 0, _ => Nat.le_refl _
  | m + 1, [] => Nat.zero_le _
  | m + 1, c :: l => by
    simp only [raw]
    split
    · exact Nat.le_succ_of_le (raw_len m l)
    · split
      · rw [List.length_cons]
        exact Nat.succ_le_succ (raw_len m _)
      · split
        · rw [List.length_cons]
          exact Nat.succ_le_succ (raw_len m _)
        · rw [List.length_cons]
          exact Nat.succ_le_succ (raw_len m _)
theorem whole_none : ∀ {es : List Ent}, (∃ e ∈ es, e.1 = none) → whole es = none
  | (some k, some t) :: es, h => by
    obtain ⟨e, he, z⟩ := h
    rcases List.mem_cons.mp he with rfl | he
    · cases z
    · rw [whole, whole_none ⟨e, he, z⟩]
      rfl
  | (some k, none) :: es, h => rfl
  | (none, t) :: es, h => rfl
theorem whole_some : ∀ {es : List Ent}, (∀ e ∈ es, e.1 ≠ none) → (∀ e ∈ es, e.1 ≠ none → e.2 ≠ none) → ∃ ws, whole es = some ws ∧ ws.length = es.length ∧ ∀ (i : Nat) e w, es[i]? = some e → ws[i]? = some w → e = (some w.1, some w.2)
  | [], _, _ => ⟨[], rfl, rfl, fun i e w h => by cases h⟩
  | (some k, some t) :: es, h, g => by
    obtain ⟨ws, h1, h2, h3⟩ := whole_some (es := es) (fun e he => h e (List.mem_cons_of_mem _ he)) (fun e he => g e (List.mem_cons_of_mem _ he))
    refine ⟨(k, t) :: ws, by rw [whole, h1]; rfl, by rw [List.length_cons, List.length_cons, h2], fun i e w he hw => ?_⟩
    cases i with
    | zero =>
      obtain rfl := Option.some.inj he
      obtain rfl := Option.some.inj hw
      rfl
    | succ i => exact h3 i e w he hw
  | (some k, none) :: es, h, g => absurd rfl (g (some k, none) (List.mem_cons_self ..) (fun z => by cases z))
  | (none, t) :: es, h, g => absurd rfl (h (none, t) (List.mem_cons_self ..))
theorem raw_told : ∀ (m : Nat) (l : List Nat), ∀ e ∈ raw m l, e.1 ≠ none → e.2 ≠ none
  | 0, _, e, he, _ => by cases he
  | m + 1, [], e, he, _ => by cases he
  | m + 1, c :: l, e, he, k => by
    simp only [raw] at he
    split at he
    · exact raw_told m l e he k
    · split at he
      · rcases List.mem_cons.mp he with rfl | he
        · exact fun z => by cases z
        · exact raw_told m _ e he k
      · split at he
        · rcases List.mem_cons.mp he with rfl | he
          · exact fun z => by cases z
          · exact raw_told m _ e he k
        · rcases List.mem_cons.mp he with rfl | he
          · exact absurd rfl k
          · exact raw_told m _ e he k
section
variable {P : Program} {w : World} {K : PySem.W.Frag} {mg : Str → Option Value} {base : Heap} {C aS aK : Addr}
theorem ok_words_of (T : Top K mg "words_of" st_words_of ["line"]) (D_end_of_run : Def P w K mg base 1 "end_of_run" ["line", "at"] spEndOfRun) (D_run_sort : Def P w K mg base 1 "run_sort" ["run"] spRunSort) (D_sign_at : Def P w K mg base 1 "sign_at" ["line", "at"] spSignAt) (z_len : mg "len" = none) (z_any : mg "any" = none) : Def P w K mg base 2 "words_of" ["line"] spWordsOf := by
  refine T.ok sc_words_of (fun vs H Q E h => ?_) (fun f cdv A outer s H vs Q E hr h => ?_)
  · obtain ⟨l, rfl, _⟩ := h
    rfl
  obtain ⟨l, rfl, hl, q0, q1⟩ := h
  refine ⟨_, (pss_cons (ps_set (i := 1) sc_words_of.nd rfl (Or.inl rfl) (pe_lst pa_nil))
    (pss_cons (ps_set (i := 2) sc_words_of.nd rfl (Or.inl rfl) pe_int)
    (pss_cons (ps_while PassesOwn.never (pt_cmpR op_lt (pv 2) (pe_callB call_len_str rfl z_len (by decide +kernel) (pa_cons (pv 0) pa_nil)) (nomark _))
    (pss_cons (ps_set (i := 3) sc_words_of.nd rfl (Or.inl rfl) (pe_def D_end_of_run (hr.mono (by decide)) rfl (pa_cons (pv 0) (pa_cons (pv 2) pa_nil))))
      (Evl.pss_cut (ps_if (pt_cmpR op_eq (pe_ix ix_str (pv 0) (pv 2) (fun _ _ => rfl)) pe_str (nomark _))
      (pss_one (ps_set (i := 3) sc_words_of.nd rfl (Or.inl rfl) (pe_op op_add (pv 2) pe_int)))
      (pss_one (ps_if (pt_cmpR op_gt (pv 3) (pv 2) (nomark _))
        (pss_one (ps_expr (pe_bm PySem.F.plainAttrs_list PySem.F.slot_list_append PySem.F.type_list_append mt_append (pv 1) (pa_cons (pe_tup (pa_cons (pe_def D_run_sort (hr.mono (by decide)) rfl (pa_cons (pe_slice sl_str (pv 0) (po_some (pv 2)) (po_some (pv 3))) pa_nil)) (pa_cons (pe_slice sl_str (pv 0) (po_some (pv 2)) (po_some (pv 3))) pa_nil))) pa_nil))))
        (pss_cons (ps_set (i := 4) sc_words_of.nd rfl (Or.inl rfl) (pe_def D_sign_at (hr.mono (by decide)) rfl (pa_cons (pv 0) (pa_cons (pv 2) pa_nil))))
          (pss_cons (ps_expr (pe_bm PySem.F.plainAttrs_list PySem.F.slot_list_append PySem.F.type_list_append mt_append (pv 1) (pa_cons (pe_tup (pa_cons (pe_ifExp (pt_cmpR op_isN (pv 4) pe_non (nomark _)) pe_non pe_str) (pa_cons (pv 4) pa_nil))) pa_nil)))
          (pss_one (ps_set (i := 3) sc_words_of.nd rfl (Or.inl rfl) (pe_op op_add (pv 2) (pe_ifExp (pt_cmpR op_isN (pv 4) pe_non (nomark _)) pe_int (pe_callB call_len_str rfl z_len (by decide +kernel) (pa_cons (pv 4) pa_nil)))))))))))
      (pss_one (ps_set (i := 2) sc_words_of.nd rfl (Or.inl rfl) (pv 3))))))
    (pss_one (ps_ret (pe_ifExp (pt_val (pe_callB (anyQ K) rfl z_any (by decide +kernel) (pa_cons (pe_lc (own := [("sort", 5), ("_", 6)]) (g := gTup K 2 (gCons (gName 5) (gCons (gName 6) gNil))) (tt := tYes) rfl sc_words_of.nd (pi_list (pv 1)) (blkOk_by (own := [("sort", 5), ("_", 6)]) (N := ["line", "found", "at", "end", "sign", "sort", "_"]) (sc := defScope st_words_of) (by decide +kernel)) (fun _ _ _ _ _ => (pg_tup rfl (pgs_cons (pg_name (i := 5) sc_words_of.nd rfl (Or.inl rfl)) (pgs_cons (pg_name (i := 6) sc_words_of.nd rfl (Or.inl rfl)) pgs_nil)))) (fun _ _ _ _ _ => pts_nil) (fun _ _ _ _ _ => (pe_cmpR op_isN (pv 5) pe_non (nomark _)))) pa_nil))) pe_non (pv 1))))))), ?_⟩
  have big : ∀ {n : Nat}, n ≤ 900000 → n ≤ sizeLine := fun h => Nat.le_trans h (by decide)
  have lz : (tx l).length ≤ sizeLine := big (by rw [tx_len]; omega)
  refine ⟨Nat.zero_le _, fun fo nfo => ?_⟩
  refine ⟨fun m σ G => ∃ (at_ : Nat) (x3 x4 : Option V) (xs : List V) (es : List Ent), at_ ≤ l.length ∧ σ = [some (.str (tx l)), some (.ref fo), some (.int (at_ : Nat)), x3, x4, none, none] ∧ Same H G ∧ G fo = some (.lst xs) ∧ PairsAt entV G xs es ∧ es ++ rst (l.drop at_) = rst l ∧ m = l.length - at_, ⟨_, 0, none, none, [], [], Nat.zero_le _, rfl, Same.new nfo, upd_same, PairsAt.nil, rfl, rfl⟩, ?_⟩
  rintro m σ G ⟨at_, x3, x4, xs, es, hat, rfl, sg, ef, hx, he, rfl⟩
  have les : es.length ≤ l.length := by
    have := congrArg List.length he
    rw [List.length_append] at this
    have := raw_len l.length l
    unfold rst at *
    omega
  refine ⟨_, rfl, _, rfl, _, rfl, lz, _, _, rfl, rfl, _, rfl, ?_⟩
  by_cases lt : at_ < l.length
  case neg =>
    refine ifND (by rw [tx_len]; omega) ?_
    rw [List.drop_eq_nil_of_le (by omega), rst_nil, List.append_nil] at he
    have hxl := hx.1
    have kn : ∀ k : Option Kd, decide (kV k = V.non) = decide (k = none) := fun k => by cases k <;> rfl
    refine ⟨.ref fo, rfl, fo, rfl, ⟨_, SqL.of ef⟩, fun D nD => lc_list (K := K) (a := fo) (xs := xs) (fun i G' => Same G G' ∧ G' D = some (.lst (((es.take i).map fun e => decide (e.1 = none)).map V.bl))) ⟨Same.new nD, upd_same⟩ ?_ ?_ ?_⟩
    · rintro i G' _ ⟨s2, _⟩
      exact SqL.of (s2 _ _ ef)
    · rintro i y G' hy ⟨s2, ed⟩
      have ilt := (List.getElem?_eq_some_iff.mp hy).1
      obtain ⟨e, hee⟩ : ∃ e, es[i]? = some e := ⟨_, List.getElem?_eq_getElem (by omega)⟩
      obtain ⟨t, rfl, et⟩ := hx.2 i y e hy hee
      refine ⟨t, _, rfl, SqT.of (s2 _ _ et), rfl, _, _, rfl, _, _, rfl, rfl, rfl, ?_⟩
      dsimp only [tYes]
      refine iteT ⟨_, rfl, rfl, _, ed, by rw [List.length_map, List.length_map, List.length_take]; exact sq_len (by omega), same_mut s2 nD, ?_⟩
      rw [upd_same, List.take_add_one, hee, kn, List.map_append, List.map_append]
      rfl
    rintro G2 ⟨s2, ed⟩
    rw [hxl, List.take_length] at ed
    have s02 := sg.trans s2
    refine ⟨D, _, rfl, SqL.of ed, _, rfl, ?_⟩
    rw [show (es.map fun e => decide (e.1 = none)).any id = es.any fun e => decide (e.1 = none) by rw [List.any_map]; rfl]
    by_cases bad : ∃ e ∈ es, e.1 = none
    · refine ifV (b := true) (List.any_eq_true.mpr (by obtain ⟨e, h1, h2⟩ := bad; exact ⟨e, h1, decide_eq_true h2⟩)) (iteT (q0 ?_ G2 s02))
      unfold words
      rw [show raw l.length l = es from he.symm]
      exact whole_none bad
    · refine ifV (b := false) (Bool.eq_false_iff.mpr (fun z => by obtain ⟨e, h1, h2⟩ := List.any_eq_true.mp z; exact bad ⟨e, h1, of_decide_eq_true h2⟩)) (iteF ?_)
      have he' : raw l.length l = es := he.symm
      obtain ⟨ws, h1, h2, h3⟩ := whole_some (es := es) (fun e hm z => bad ⟨e, hm, z⟩) (fun e hm => raw_told l.length l e (he' ▸ hm))
      refine ⟨_, rfl, q1 ws (by unfold words; rw [he']; exact h1) fo G2 s02 nfo ⟨xs, s2 _ _ ef, by rw [h2]; exact hxl, fun i y w hy hw => ?_⟩⟩
      have iw := (List.getElem?_eq_some_iff.mp hw).1
      obtain ⟨e, hee⟩ : ∃ e, es[i]? = some e := ⟨_, List.getElem?_eq_getElem (by omega)⟩
      obtain ⟨t, rfl, et⟩ := hx.2 i y e hy hee
      rw [h3 i e w hee hw] at et
      exact ⟨t, rfl, s2 _ _ et⟩
  refine ifD (by rw [tx_len]; omega) ⟨fun σ' G' => ∃ m', m' < l.length - at_ ∧ _, fun σ' G' w => w, ?_⟩
  refine ⟨_, rfl, _, rfl, l, at_, rfl, hat, hl, fun G1 s1 => ?_⟩
  obtain ⟨c, hc⟩ : ∃ c, l[at_]? = some c := ⟨_, List.getElem?_eq_getElem lt⟩
  have ed : l.drop at_ = c :: l.drop (at_ + 1) := by
    obtain ⟨_, e⟩ := List.getElem?_eq_some_iff.mp hc
    rw [List.drop_eq_getElem_cons lt, e]
  have hr0 := rst_cons c (l.drop (at_ + 1))
  rw [← ed] at hr0
  obtain ⟨R, hR⟩ : ∃ R, R = (l.drop at_).takeWhile isAl := ⟨_, rfl⟩
  have pR : R = (l.drop at_).take R.length := by
    obtain ⟨t, ht⟩ := List.takeWhile_prefix (p := isAl) (l := l.drop at_)
    rw [← hR] at ht
    rw [← ht, List.take_left' rfl]
  have lR : at_ + R.length ≤ l.length := by
    have := congrArg List.length pR
    rw [List.length_take, List.length_drop] at this
    omega
  rw [← hR] at hr0 ⊢
  have ef1 := s1 _ _ ef
  have hx1 := hx.same s1
  have sg1 := sg.trans s1
  have hxl := hx.1
  refine ⟨fun σ' G' => ∃ (e : Nat) (x4 : Option V) (xs : List V) (es : List Ent), at_ < e ∧ e ≤ l.length ∧ σ' = [some (.str (tx l)), some (.ref fo), some (.int (at_ : Nat)), some (.int (e : Nat)), x4, none, none] ∧ Same H G' ∧ G' fo = some (.lst xs) ∧ PairsAt entV G' xs es ∧ es ++ rst (l.drop e) = rst l, ?_, ?_⟩
  · refine ⟨_, rfl, _, rfl, _, _, _, rfl, rfl, lz, tx_at hc, rfl, _, rfl, ?_⟩
    rw [show (⟨#[c]⟩ : Str) = tx [c] from rfl, show (Str.ofString " ") = tx [32] by decide +kernel, tx_eq]
    by_cases sp : c = 32
    · refine ifD (by rw [sp]) ⟨_, rfl, _, _, rfl, rfl, at_ + 1, x4, xs, es, by omega, by omega, ?_, sg1, ef1, hx1, ?_⟩
      · rw [show ((at_ + 1 : Nat) : Int) = ((at_ : Nat) : Int) + 1 by omega]
        rfl
      · rw [if_pos sp] at hr0
        rw [← hr0]
        exact he
    refine ifND (fun z => sp (by injection z)) ?_
    rw [if_neg sp] at hr0
    refine ⟨_, rfl, _, rfl, _, _, rfl, rfl, _, rfl, ?_⟩
    by_cases ne : R = []
    case neg =>
      have pos : 0 < R.length := List.length_pos_iff.mpr ne
      have hr1 : rst (l.drop at_) = (runSort R, some R) :: rst ((l.drop at_).drop R.length) := hr0.trans (if_pos ne)
      have cutR : cutS (tx l) (some ((at_ : Nat) : Int)) (some ((at_ + R.length : Nat) : Int)) = tx R := by
        rw [cutS_mid, Nat.add_sub_cancel_left, ← pR]
      refine ifD (by omega) ⟨.ref fo, rfl, .inl ⟨rfl, _, SqL.of ef1⟩, _, rfl, _, rfl, _, rfl, _, rfl, _, rfl, _, rfl, lz, ?_⟩
      rw [cutR]
      refine ⟨R, rfl, ne, by omega, fun G2 s2 => ⟨_, rfl, _, rfl, _, rfl, _, rfl, _, rfl, _, rfl, lz, ?_⟩⟩
      rw [cutR]
      refine ⟨(by show 2 ≤ sizeLine; decide), fun t n3 => ?_⟩
      generalize hN3 : L2.upd G2 t _ = G3
      have s3 := new_of n3 hN3
      have e3 := at_of hN3
      try dsimp only at e3
      clear hN3
      refine ⟨fo, xs, .ref t, rfl, rfl, s3 _ _ (s2 _ _ ef1), by rw [hxl]; exact sq_len (by omega), ?_⟩
      refine ⟨at_ + R.length, x4, xs ++ [.ref t], es ++ [(runSort R, some R)], by omega, by omega, rfl, same_mut (sg1.trans (s2.trans s3)) nfo, upd_same, (((hx1.same s2).same s3).snoc e3).list (s3 _ _ (s2 _ _ ef1)), ?_⟩
      rw [List.append_assoc, ← he, hr1, List.drop_drop]
      rfl
    subst ne
    refine ifND (by simp) ?_
    have hr1 : rst (l.drop at_) = match signAt (l.drop at_) with
      | some s => (some .sign, some s) :: rst ((l.drop at_).drop s.length)
      | none => (none, none) :: rst (l.drop (at_ + 1)) := hr0
    refine ⟨_, rfl, _, rfl, l, at_, rfl, hl, fun G2 s2 => ?_⟩
    cases hs : signAt (l.drop at_) with
    | none =>
      rw [hs] at hr1
      refine ⟨.ref fo, rfl, .inl ⟨rfl, _, SqL.of (s2 _ _ ef1)⟩, _, rfl, rfl, _, rfl, iteT ⟨_, rfl, (by show 2 ≤ sizeLine; decide), fun t n3 => ?_⟩⟩
      generalize hN3 : L2.upd G2 t _ = G3
      have s3 := new_of n3 hN3
      have e3 := at_of hN3
      try dsimp only at e3
      clear hN3
      refine ⟨fo, xs, .ref t, rfl, rfl, s3 _ _ (s2 _ _ ef1), by rw [hxl]; exact sq_len (by omega), ?_⟩
      refine ⟨_, rfl, _, rfl, rfl, _, rfl, iteT ⟨_, _, rfl, rfl, ?_⟩⟩
      refine ⟨at_ + 1, some (tV none), xs ++ [.ref t], es ++ [(none, none)], by omega, by omega, ?_, same_mut (sg1.trans (s2.trans s3)) nfo, upd_same, (((hx1.same s2).same s3).snoc e3).list (s3 _ _ (s2 _ _ ef1)), ?_⟩
      · rw [show ((at_ + 1 : Nat) : Int) = ((at_ : Nat) : Int) + 1 by omega]
        rfl
      · rw [List.append_assoc, ← he, hr1]
        rfl
    | some sg0 =>
      rw [hs] at hr1
      obtain ⟨p1, p2, p3⟩ := signAt_pos hs
      have l1 : at_ + sg0.length ≤ l.length := by
        have := congrArg List.length p3
        rw [List.length_take, List.length_drop] at this
        omega
      refine ⟨.ref fo, rfl, .inl ⟨rfl, _, SqL.of (s2 _ _ ef1)⟩, _, rfl, rfl, _, rfl, iteF ⟨_, rfl, (by show 2 ≤ sizeLine; decide), fun t n3 => ?_⟩⟩
      generalize hN3 : L2.upd G2 t _ = G3
      have s3 := new_of n3 hN3
      have e3 := at_of hN3
      try dsimp only at e3
      clear hN3
      refine ⟨fo, xs, .ref t, rfl, rfl, s3 _ _ (s2 _ _ ef1), by rw [hxl]; exact sq_len (by omega), ?_⟩
      refine ⟨_, rfl, _, rfl, rfl, _, rfl, iteF ⟨_, rfl, tx sg0, rfl, big (by rw [tx_len]; omega), _, _, rfl, rfl, ?_⟩⟩
      refine ⟨at_ + sg0.length, some (tV (some sg0)), xs ++ [.ref t], es ++ [(some .sign, some sg0)], by omega, l1, ?_, same_mut (sg1.trans (s2.trans s3)) nfo, upd_same, (((hx1.same s2).same s3).snoc e3).list (s3 _ _ (s2 _ _ ef1)), ?_⟩
      · rw [show ((at_ + sg0.length : Nat) : Int) = ((at_ : Nat) : Int) + ((tx sg0).length : Int) by rw [tx_len]; omega]
        rfl
      · rw [List.append_assoc, ← he, hr1]
        dsimp only
        rw [List.drop_drop]
        rfl
  rintro σ' G2 ⟨e, x4', xs', es', he1, he2, rfl, sg2, ef2, hx2, hes⟩
  exact ⟨_, rfl, l.length - e, by omega, e, _, x4', xs', es', he2, rfl, sg2, ef2, hx2, hes, rfl⟩
theorem ok_nothing (T : Top K mg "says_nothing" st_says_nothing ["line"]) : Def P w K mg base 1 "says_nothing" ["line"] spNothing := by
  refine T.ok sc_says_nothing (fun vs H Q E h => ?_) (fun f cdv A outer s H vs Q E hr h => ?_)
  · obtain ⟨l, rfl, _⟩ := h
    rfl
  obtain ⟨l, rfl, hl, q⟩ := h
  refine ⟨_, (pss_cons (ps_set (i := 1) sc_says_nothing.nd rfl (Or.inl rfl) (pe_bm PySem.F.plainAttrs_str PySem.F.slot_str_strip PySem.F.type_str_strip mt_stripChars (pv 0) (pa_cons pe_str pa_nil)))
    (pss_one (ps_ret (pe_or (pe_cmpR op_eq (pv 1) pe_str (nomark _)) (pe_one (pe_cmpR op_eq (pe_slice sl_str (pv 1) po_none (po_some pe_int)) pe_str (nomark _))))))), ?_⟩
  have big : ∀ {n : Nat}, n ≤ 900000 → n ≤ sizeLine := fun h => Nat.le_trans h (by decide)
  have lz : (tx l).length ≤ sizeLine := big (by rw [tx_len]; omega)
  refine ⟨_, rfl, rfl, tx l, _, rfl, rfl, lz, ?_⟩
  rw [show (Str.ofString " ") = tx [32] by decide +kernel, strip_tx]
  have ls : (Wd.stripped l).length ≤ l.length := by
    unfold Wd.stripped Wd.stripL
    rw [List.length_reverse]
    refine Nat.le_trans (List.dropWhile_suffix _).length_le ?_
    rw [List.length_reverse]
    exact (List.dropWhile_suffix _).length_le
  refine ⟨_, rfl, rfl, ?_⟩
  rw [show (Str.ofString "") = tx [] by decide +kernel, tx_eq]
  unfold nothing at q
  generalize Wd.stripped l = Z at *
  refine ⟨_, rfl, ?_⟩
  by_cases e : Z = []
  · refine ifD e ?_
    have := q H (Same.refl _)
    rw [decide_eq_true e, Bool.true_or] at this
    exact this
  · refine ifND e ⟨_, rfl, _, rfl, _, rfl, big (by rw [tx_len]; omega), rfl, ?_⟩
    rw [show cutS (tx Z) none (some 2) = tx (Z.take 2) from cutS_lt Z 2, show (Str.ofString "--") = tx [45, 45] by decide +kernel, tx_eq]
    have := q H (Same.refl _)
    rw [decide_eq_false e, Bool.false_or] at this
    exact this
end
end My
set_option linter.all false
/-! Statements of words, in plain Lean -/
namespace Wd
/-- a tree: of tuples, texts and whole numbers -/
inductive Tr where
  | int (i : Int)
  | str (l : List Nat)
  | tup (l : List Tr)
def s_lpar : List Nat := [40]
def s_rpar : List Nat := [41]
def s_comma : List Nat := [44]
def s_eq : List Nat := [61]
def s_neq : List Nat := [33, 61]
def s_lt : List Nat := [60]
def s_plus : List Nat := [43]
def s_minus : List Nat := [45]
def s_dots : List Nat := [46, 46]
def s_game : List Nat := [103, 97, 109, 101]
def s_kind : List Nat := [107, 105, 110, 100]
def s_fact : List Nat := [102, 97, 99, 116]
def s_view : List Nat := [118, 105, 101, 119]
def s_move : List Nat := [109, 111, 118, 101]
def s_begin : List Nat := [98, 101, 103, 105, 110]
def s_if : List Nat := [105, 102]
def s_not : List Nat := [110, 111, 116]
def s_mover : List Nat := [109, 111, 118, 101, 114]
def s_is : List Nat := [105, 115]
def s_adds : List Nat := [97, 100, 100, 115]
def s_drops : List Nat := [100, 114, 111, 112, 115]
def s_wins : List Nat := [119, 105, 110, 115]
def s_drawn : List Nat := [100, 114, 97, 119, 110]
def s_var : List Nat := [118, 97, 114]
def s_yes : List Nat := [121, 101, 115]
def s_no : List Nat := [110, 111]
def s_same : List Nat := [115, 97, 109, 101]
def s_other : List Nat := [111, 116, 104, 101, 114]
def s_less : List Nat := [108, 101, 115, 115]
def s_sum : List Nat := [115, 117, 109]
def s_range : List Nat := [114, 97, 110, 103, 101]
def s_names : List Nat := [110, 97, 109, 101, 115]
def s_rule : List Nat := [114, 117, 108, 101]
def keys : List (List Nat) := [s_game, s_kind, s_fact, s_view, s_move, s_begin, s_if, s_not, s_mover, s_is, s_adds, s_drops, s_wins, s_drawn]
def peek (ws : List Word) (i : Nat) : Word := ws.getD i (.fin, [])
def sees (ws : List Word) (i : Nat) (t : List Nat) : Bool := (decide ((peek ws i).1 = .sign) || decide ((peek ws i).1 = .name)) && decide ((peek ws i).2 = t)
def take (ws : List Word) (t : List Nat) (i : Nat) : Option (Unit × Nat) := if sees ws i t then some ((), i + 1) else none
def name (ws : List Word) (i : Nat) : Option (Tr × Nat) := if (peek ws i).1 = .name ∧ (peek ws i).2 ∉ keys then some (.str (peek ws i).2, i + 1) else none
def val (l : List Nat) : Nat := l.foldl (fun a c => a * 10 + (c - 48)) 0
def number (ws : List Word) (i : Nat) : Option (Int × Nat) := if (peek ws i).1 = .num then some ((val (peek ws i).2 : Nat), i + 1) else none
def term (ws : List Word) (i : Nat) : Option (Tr × Nat) :=
  if (peek ws i).1 = .num then (number ws i).map fun r => (.tup [.str s_is, .int r.1], r.2)
  else if (peek ws i).1 = .var then some (.tup [.str s_var, .str (peek ws i).2], i + 1)
  else (name ws i).map fun r => (.tup [.str s_is, r.1], r.2)
/-- further ones behind commas -/
def more (ws : List Word) (one : Nat → Option (Tr × Nat)) : Nat → Nat → List Tr → Option (List Tr × Nat)
  | 0, _, _ => none
  | f + 1, i, acc => if sees ws i s_comma then (match one (i + 1) with
      | none => none
      | some (t, j) => more ws one f j (acc ++ [t])) else some (acc, i)
def listed (ws : List Word) (one : Nat → Option (Tr × Nat)) (i : Nat) : Option (Tr × Nat) :=
  if sees ws i s_lpar then (match one (i + 1) with
    | none => none
    | some (t, j) => match more ws one (ws.length + 1) j [t] with
      | none => none
      | some (l, k) => if sees ws k s_rpar then (if 4 < l.length then none else some (.tup l, k + 1)) else none)
  else some (.tup [], i)
def atom (ws : List Word) (i : Nat) : Option (Tr × Nat) := match name ws i with
  | none => none
  | some (n, j) => match listed ws (term ws) j with
    | none => none
    | some (l, k) => some (.tup [n, l], k)
def prs : List (List Nat × List Nat) := [(s_eq, s_same), (s_neq, s_other), (s_lt, s_less)]
def compared (ws : List Word) (i : Nat) : Option (Tr × Nat) := match term ws i with
  | none => none
  | some (a, j) =>
    match prs.find? fun s => sees ws j s.1 with
    | some s => (term ws (j + 1)).map fun r => (.tup [.str s.2, a, r.1], r.2)
    | none =>
    if sees ws j s_is then (match term ws (j + 1) with
      | none => none
      | some (b, k) => if sees ws k s_plus then (number ws (k + 1)).map fun r => (.tup [.str s_sum, a, b, .int r.1], r.2)
        else if sees ws k s_minus then (number ws (k + 1)).map fun r => (.tup [.str s_sum, a, b, .int (-r.1)], r.2) else none)
    else none
def literal (ws : List Word) (i : Nat) : Option (Tr × Nat) :=
  if sees ws i s_not then (atom ws (i + 1)).map fun r => (.tup [.str s_no, r.1], r.2)
  else if sees ws i s_mover then (if sees ws (i + 1) s_lpar then (match term ws (i + 2) with
      | none => none
      | some (t, j) => if sees ws j s_rpar then some (.tup [.str s_mover, t], j + 1) else none) else none)
  else if (peek ws i).1 = .name ∧ (peek ws (i + 1)).2 ∉ [s_eq, s_neq, s_lt, s_is] then (atom ws i).map fun r => (.tup [.str s_yes, r.1], r.2)
  else compared ws i
def body (ws : List Word) (i : Nat) : Option (Tr × Nat) :=
  if sees ws i s_if then (match literal ws (i + 1) with
    | none => none
    | some (t, j) => (more ws (literal ws) (ws.length + 1) j [t]).map fun r => (.tup r.1, r.2))
  else some (.tup [], i)
def moreNames (ws : List Word) : Nat → Nat → List Tr → Option (List Tr × Nat)
  | 0, _, _ => none
  | f + 1, i, acc => if i < ws.length then (match name ws i with
      | none => none
      | some (n, j) => moreNames ws f j (acc ++ [n])) else some (acc, i)
def constants (ws : List Word) (i : Nat) : Option (Tr × Nat) :=
  if (peek ws i).1 = .num then (match number ws i with
    | none => none
    | some (a, j) => if sees ws j s_dots then (number ws (j + 1)).map fun r => (.tup [.str s_range, .int a, .int r.1], r.2) else none)
  else match name ws i with
    | none => none
    | some (n, j) => (moreNames ws (ws.length + 1) j [n]).map fun r => (.tup [.str s_names, .tup r.1], r.2)
/-- what begins with a key word: none: it raises; some none: there is none -/
def toldBy (ws : List Word) (i : Nat) : Option (Option Tr × Nat) :=
  if sees ws i s_game then (name ws (i + 1)).map fun r => (some (.tup [.str s_game, r.1]), r.2)
  else if sees ws i s_kind then (match name ws (i + 1) with
    | none => none
    | some (n, j) => if sees ws j s_eq then (constants ws (j + 1)).map fun r => (some (.tup [.str s_kind, n, r.1]), r.2) else none)
  else match [s_fact, s_view, s_move].find? fun w => sees ws i w with
  | some w => (match name ws (i + 1) with
    | none => none
    | some (n, j) => (listed ws (name ws) j).map fun r => (some (.tup [.str w, n, r.1]), r.2))
  | none =>
  if sees ws i s_begin then (atom ws (i + 1)).map fun r => (some (.tup [.str s_begin, r.1]), r.2)
  else if sees ws i s_wins then (match term ws (i + 1) with
    | none => none
    | some (t, j) => (body ws j).map fun r => (some (.tup [.str s_wins, t, r.1]), r.2))
  else if sees ws i s_drawn then (body ws (i + 1)).map fun r => (some (.tup [.str s_drawn, r.1]), r.2)
  else some (none, i)
def ruleBy (ws : List Word) (i : Nat) : Option (Tr × Nat) := match atom ws i with
  | none => none
  | some (h, j) => match [s_adds, s_drops].find? fun w => sees ws j w with
    | some w => (match atom ws (j + 1) with
      | none => none
      | some (a, k) => (body ws k).map fun r => (.tup [.str w, h, a, r.1], r.2))
    | none => (body ws j).map fun r => (.tup [.str s_rule, h, r.1], r.2)
def statement (ws : List Word) : Option Tr := match toldBy ws 0 with
  | none => none
  | some (some t, j) => if j < ws.length then none else some t
  | some (none, j) => match ruleBy ws j with
    | none => none
    | some (t, k) => if k < ws.length then none else some t
/-- a line -/
inductive Line where
  | nothing
  | sign
  | form
  | told (t : Tr)
def line (l : List Nat) : Line := if nothing l then .nothing else match words l with
  | none => .sign
  | some ws => match statement ws with
    | none => .form
    | some t => .told t
def isGame : Tr → Bool
  | .tup (.str w :: _) => decide (w = s_game)
  | _ => false
inductive Out where
  | wrong (n : Nat) (why : List Nat)
  | tree (t : List Tr)
def s_sign : List Nat := [115, 105, 103, 110]
def s_form : List Nat := [102, 111, 114, 109]
def readL : Nat → List Tr → List (List Nat) → Out
  | _, acc, [] => match acc with | [] => .wrong 1 s_game | a :: b => .tree (a :: b)
  | n, acc, l :: ls => match line l with
    | .nothing => readL (n + 1) acc ls
    | .sign => .wrong (n + 1) s_sign
    | .form => .wrong (n + 1) s_form
    | .told t => if isGame t == !acc.isEmpty then .wrong (n + 1) s_game else readL (n + 1) (acc ++ [t]) ls
end Wd
set_option Elab.async false
set_option linter.all false
set_option maxRecDepth 100000
set_option maxHeartbeats 4000000
/-! The cursor -/
namespace My
open PySem PySem.Spec PyProof.Rows L2 Wd
local macro_rules
  | `(tactic| nofun) => `(tactic| (apply tup_at; nofun))
local macro_rules
  | `(tactic| nofun) => `(tactic| (apply seq_at; nofun))
local macro_rules
  | `(tactic| nofun) => `(tactic| (apply pool_same; assumption; nofun))
local macro_rules
  | `(tactic| nofun) => `(tactic| (apply but_get; assumption; assumption; nofun))
local macro_rules
  | `(tactic| nofun) => `(tactic| (apply off_get; assumption; assumption; nofun))
local macro_rules
  | `(tactic| nofun) => `(tactic| (apply same_get; assumption; nofun))
local macro_rules
  | `(tactic| nofun) => `(tactic| assumption)
abbrev st_Cursor___init__ : Stmt := inClass (topS 15) 0
theorem sc_Cursor___init__ : FnScope ["self", "words"] ["self", "words"] (defScope st_Cursor___init__) := ⟨rfl, rfl, rfl, by decide +kernel, rfl, by decide +kernel, by decide +kernel⟩
abbrev st_Cursor_peek : Stmt := inClass (topS 15) 1
theorem sc_Cursor_peek : FnScope ["self", "further", "place"] ["self", "further"] (defScope st_Cursor_peek) := ⟨rfl, rfl, rfl, by decide +kernel, rfl, by decide +kernel, by decide +kernel⟩
abbrev st_Cursor_sees : Stmt := inClass (topS 15) 2
theorem sc_Cursor_sees : FnScope ["self", "text"] ["self", "text"] (defScope st_Cursor_sees) := ⟨rfl, rfl, rfl, by decide +kernel, rfl, by decide +kernel, by decide +kernel⟩
abbrev st_Cursor_take : Stmt := inClass (topS 15) 3
theorem sc_Cursor_take : FnScope ["self", "text"] ["self", "text"] (defScope st_Cursor_take) := ⟨rfl, rfl, rfl, by decide +kernel, rfl, by decide +kernel, by decide +kernel⟩
abbrev st_Cursor_name : Stmt := inClass (topS 15) 4
theorem sc_Cursor_name : FnScope ["self", "sort", "text"] ["self"] (defScope st_Cursor_name) := ⟨rfl, rfl, rfl, by decide +kernel, rfl, by decide +kernel, by decide +kernel⟩
abbrev st_Cursor_number : Stmt := inClass (topS 15) 5
theorem sc_Cursor_number : FnScope ["self", "sort", "text"] ["self"] (defScope st_Cursor_number) := ⟨rfl, rfl, rfl, by decide +kernel, rfl, by decide +kernel, by decide +kernel⟩
abbrev st_Cursor_term : Stmt := inClass (topS 15) 6
theorem sc_Cursor_term : FnScope ["self", "sort", "text"] ["self"] (defScope st_Cursor_term) := ⟨rfl, rfl, rfl, by decide +kernel, rfl, by decide +kernel, by decide +kernel⟩
mutual
/-- a tree stands in memory -/
def TW (H : Hp) : V → Tr → Prop
  | x, .int i => x = .int i
  | x, .str l => x = .str (tx l)
  | x, .tup ts => ∃ a xs, x = .ref a ∧ H a = some (.tup xs) ∧ TWs H xs ts
def TWs (H : Hp) : List V → List Tr → Prop
  | [], [] => True
  | x :: xs, t :: ts => TW H x t ∧ TWs H xs ts
  | _, _ => False
end
mutual
theorem TW.mono {H H' : Hp} (s : ∀ a xs, H a = some (.tup xs) → H' a = some (.tup xs)) : ∀ (t : Tr) {x : V}, TW H x t → TW H' x t
  | .int i, _, h => h
  | .str l, _, h => h
  | .tup ts, x, h => by
    obtain ⟨a, xs, e, q, k⟩ := h
    exact ⟨a, xs, e, s _ _ q, TWs.mono s ts k⟩
theorem TWs.mono {H H' : Hp} (s : ∀ a xs, H a = some (.tup xs) → H' a = some (.tup xs)) : ∀ (ts : List Tr) {xs : List V}, TWs H xs ts → TWs H' xs ts
  | [], [], _ => trivial
  | [], _ :: _, h => h.elim
  | t :: ts, [], h => h.elim
  | t :: ts, x :: xs, h => ⟨TW.mono s t h.1, TWs.mono s ts h.2⟩
end
theorem TW.same {H H' : Hp} {x : V} {t : Tr} (h : TW H x t) (s : Same H H') : TW H' x t := h.mono (fun a xs e => s _ _ e) t
theorem TWs.same {H H' : Hp} {xs : List V} {ts : List Tr} (h : TWs H xs ts) (s : Same H H') : TWs H' xs ts := TWs.mono (fun a xs e => s _ _ e) ts h
theorem TW.butI {H H' : Hp} {p C dx : Addr} {fs : List (Str × V)} {x : V} {t : Tr} (h : TW H x t) (b : But p H H') (e : H p = some (.ins C dx fs)) : TW H' x t := TW.mono (fun a xs q => b.get (fun z => by rw [z, e] at q; cases q) q) t h
theorem TWs.butI {H H' : Hp} {p C dx : Addr} {fs : List (Str × V)} {xs : List V} {ts : List Tr} (h : TWs H xs ts) (b : But p H H') (e : H p = some (.ins C dx fs)) : TWs H' xs ts := TWs.mono (fun a xs q => b.get (fun z => by rw [z, e] at q; cases q) q) ts h
theorem TWs.list {H : Hp} {l : Addr} {us us' : List V} {xs : List V} {ts : List Tr} (h : TWs H xs ts) (e : H l = some (.lst us)) : TWs (upd H l (.lst us')) xs ts := TWs.mono (fun a xs q => (upd_ne (fun z => by rw [z, e] at q; cases q)).trans q) ts h
theorem TWs.snoc {H : Hp} {x : V} {t : Tr} (hx : TW H x t) : ∀ {xs : List V} {ts : List Tr}, TWs H xs ts → TWs H (xs ++ [x]) (ts ++ [t])
  | [], [], _ => ⟨hx, trivial⟩
  | [], _ :: _, h => h.elim
  | _ :: _, [], h => h.elim
  | y :: xs, u :: ts, h => ⟨h.1, TWs.snoc hx h.2⟩
theorem TWs.len {H : Hp} : ∀ {xs : List V} {ts : List Tr}, TWs H xs ts → xs.length = ts.length
  | [], [], _ => rfl
  | [], _ :: _, h => h.elim
  | _ :: _, [], h => h.elim
  | y :: xs, u :: ts, h => by rw [List.length_cons, List.length_cons, TWs.len h.2]
/-! ### the cursor's fields -/
def cuF (w a : V) : List (Str × V) := [("words", w), ("at", a)]
theorem cu_words (w a : V) : (cuF w a).lookup ("words" : Str) = some w := by
  simp only [cuF, List.lookup, show (("words" : Str) == "words") = true by decide +kernel]
theorem cu_at (w a : V) : (cuF w a).lookup ("at" : Str) = some a := by
  simp only [cuF, List.lookup, show (("at" : Str) == "words") = false by decide +kernel, show (("at" : Str) == "at") = true by decide +kernel]
theorem cu_no {m : Str} (w a : V) (h1 : (m == ("words" : Str)) = false) (h2 : (m == ("at" : Str)) = false) : (cuF w a).lookup m = none := by
  simp only [cuF, List.lookup, h1, h2]
theorem cu_put (w a x : V) : putF "at" x (cuF w a) = cuF w x := by
  simp only [cuF, putF, if_neg (show ¬ ("words" : Str) = "at" by decide +kernel), if_true]
theorem cu_all (w a : V) : putF "at" a (putF "words" w []) = cuF w a := by
  simp only [cuF, putF, if_neg (show ¬ ("words" : Str) = "at" by decide +kernel)]
abbrev cus : List Str := ["words", "at"]
structure WOk (w : Word) : Prop where
  num : w.1 = .num → w.2.all isDig = true ∧ w.2 ≠ [] ∧ w.2.length < 3
  low : ∀ c ∈ w.2, c < 128
structure CurAt (C : Addr) (H : Hp) (p wa : Addr) (ws : List Word) (i : Nat) : Prop where
  ex : ∃ dx, H p = some (.ins C dx (cuF (.ref wa) (.int (i : Nat)))) ∧ WordsAt H wa ws
  ok : ∀ w ∈ ws, WOk w
/-! ### words as data -/
def wordD (k : Str) (t : List Nat) : PyData := .tuple [.str k, .str (tx t)]
theorem ok_tx {t : List Nat} (h : ∀ c ∈ t, c < 128) : PyData.strOk (tx t) = true := by
  unfold PyData.strOk
  simp only [tx, Array.all_eq_true]
  intro i hi
  have h2 : t.toArray[i] ∈ t := by simp
  have := h _ h2
  rw [decide_eq_true_eq]
  exact Nat.lt_trans this (by decide)
theorem ok_kd (k : Kd) : PyData.strOk (kdS k) = true := by cases k <;> decide +kernel
theorem word_shaped {k : Str} {t : List Nat} (hk : PyData.strOk k = true) (ht : ∀ c ∈ t, c < 128) : SeqAt.shaped (wordD k t) = true := by
  unfold SeqAt.shaped wordD
  simp only [PyData.canLay0, PyData.canLayAll0, PyData.depth, PyData.depthAll, hk, ok_tx ht]
  simp
theorem words_shaped {k k' : Str} {t : List Nat} (hk : PyData.strOk k = true) (hk' : PyData.strOk k' = true) (ht : ∀ c ∈ t, c < 128) : SeqAt.shaped (.tuple [wordD k t, wordD k' t]) = true := by
  unfold SeqAt.shaped wordD
  simp only [PyData.canLay0, PyData.canLayAll0, PyData.depth, PyData.depthAll, hk, hk', ok_tx ht]
  simp
theorem word_eqv (k k' : Str) (t t' : List Nat) : PyData.eqv (wordD k t) (wordD k' t') = (k == k' && decide (t = t')) := by
  unfold wordD
  simp only [PyData.eqv, PyData.eqvAll, Bool.and_true]
  congr 1
  rw [Bool.eq_iff_iff, beq_iff_eq, decide_eq_true_eq]
  exact ⟨tx_inj, fun h => by rw [h]⟩
theorem WordsAt.same {H H' : Hp} {p : Addr} {ws : List Word} (h : WordsAt H p ws) (s : Same H H') : WordsAt H' p ws := by
  obtain ⟨xs, e, k⟩ := h
  exact ⟨xs, s _ _ e, k.same s⟩
theorem WordsAt.butI {H H' : Hp} {p q C dx : Addr} {fs : List (Str × V)} {ws : List Word} (h : WordsAt H q ws) (b : But p H H') (e : H p = some (.ins C dx fs)) : WordsAt H' q ws := by
  obtain ⟨xs, e1, k⟩ := h
  exact ⟨xs, b.lstI e e1, k.1, fun i y d hy hd => by
    obtain ⟨t, h1, h2⟩ := k.2 i y d hy hd
    exact ⟨t, h1, b.get (fun z => by rw [z, e] at h2; cases h2) h2⟩⟩
theorem CurAt.same {C : Addr} {H H' : Hp} {p wa : Addr} {ws : List Word} {i : Nat} (c : CurAt C H p wa ws i) (s : Same H H') : CurAt C H' p wa ws i := by
  obtain ⟨dx, e, w⟩ := c.ex
  exact ⟨⟨dx, s _ _ e, w.same s⟩, c.ok⟩
theorem peek_ok {ws : List Word} (h : ∀ w ∈ ws, WOk w) (i : Nat) : WOk (peek ws i) := by
  unfold peek
  rw [List.getD_eq_getElem?_getD]
  cases e : ws[i]? with
  | none => exact ⟨(fun z => by cases z), fun c hc => by cases hc⟩
  | some w => exact h w (List.mem_of_getElem? e)
/-- a method that takes words: what it tells, or it raises -/
def spParse {α : Type} (C CE : Addr) (args : List V) (parse : List Word → Nat → Option (α × Nat)) (rel : Hp → V → α → Prop) : Sp := fun vs H Q E => ∃ (p wa : Addr) (ws : List Word) (i : Nat), vs = .ref p :: args ∧ CurAt C H p wa ws i ∧ ws.length ≤ 100000 ∧
  (parse ws i = none → ∀ H', But p H H' → E (.ref CE) none H') ∧ (∀ a j, parse ws i = some (a, j) → ∀ x H', But p H H' → CurAt C H' p wa ws j → rel H' x a → Q x H')
def spCInit (C : Addr) : Sp := fun vs H Q _ => ∃ (p dx wa : Addr) (ws : List Word), vs = [.ref p, .ref wa] ∧ H p = some (.ins C dx []) ∧ WordsAt H wa ws ∧ (∀ w ∈ ws, WOk w) ∧ ∀ H', But p H H' → CurAt C H' p wa ws 0 → Q .non H'
def spPeek (C : Addr) : Sp := fun vs H Q _ => ∃ (p wa : Addr) (ws : List Word) (i k : Nat), vs = [.ref p, .int (k : Nat)] ∧ CurAt C H p wa ws i ∧ ∀ t H', Same H H' → H' t = some (.tup (wordV (peek ws (i + k)))) → Q (.ref t) H'
def spSees (C : Addr) : Sp := fun vs H Q _ => ∃ (p wa : Addr) (ws : List Word) (i : Nat) (t : List Nat), vs = [.ref p, .str (tx t)] ∧ (∀ c ∈ t, c < 128) ∧ CurAt C H p wa ws i ∧ ∀ H', Same H H' → Q (.bl (sees ws i t)) H'
def spTake (C CE : Addr) : Sp := fun vs H Q E => ∃ t : List Nat, (∀ c ∈ t, c < 128) ∧ spParse C CE [.str (tx t)] (fun ws i => Wd.take ws t i) (fun _ x _ => x = .non) vs H Q E
section
variable {P : Program} {w : World} {K : PySem.W.Frag} {mg : Str → Option Value} {base : Heap} {C CE aK : Addr}
theorem ok_cinit (T : ITop K C "Cursor.__init__" st_Cursor___init__ ["self", "words"]) (K_Cursor : Kls K mg "Cursor" C cus) : Ini P w K mg base 1 C ["self", "words"] (spCInit C) := by
  refine T.ok sc_Cursor___init__ (fun vs H Q E h => ?_) (fun f cdv A outer s H vs Q E hr h => ?_)
  · obtain ⟨p, dx, wa, ws, rfl, _⟩ := h
    rfl
  obtain ⟨p, dx, wa, ws, rfl, hp, hw, hok, q⟩ := h
  refine ⟨_, (pss_cons (ps_fld (pv 0) (pv 1) rfl)
    (pss_one (ps_fld (pv 0) pe_int rfl))), ?_⟩
  have nW := K_Cursor.no "words" (by simp)
  have nA := K_Cursor.no "at" (by simp)
  refine ⟨_, rfl, .ref p, rfl, p, C, dx, _, rfl, hp, K_Cursor.cl, nW, (by show 0 < 1000; decide), ?_⟩
  generalize hN1 : L2.upd H p _ = G1
  have b1 := but_of hN1
  have e1 := at_of hN1
  try dsimp only at e1
  clear hN1
  refine ⟨.ref p, rfl, p, C, dx, _, rfl, e1, K_Cursor.cl, nA, (by show 1 < 1000; decide), ?_⟩
  generalize hN2 : L2.upd G1 p _ = G2
  have b2 := but_of hN2
  have e2 := at_of hN2
  try dsimp only at e2
  clear hN2
  rw [cu_all] at e2
  exact q G2 (b1.trans b2) ⟨⟨dx, e2, hw.butI (b1.trans b2) hp⟩, hok⟩
theorem ok_peek (T : MTop K C "peek" "Cursor.peek" st_Cursor_peek ["self", "further"]) (K_Cursor : Kls K mg "Cursor" C cus) (z_len : mg "len" = none) : Mth P w K mg base 1 C "peek" ["self", "further"] (spPeek C) := by
  refine T.ok sc_Cursor_peek (fun vs H Q E h => ?_) (fun f cdv A outer s H vs Q E hr h => ?_)
  · obtain ⟨p, wa, ws, i, k, rfl, _⟩ := h
    rfl
  obtain ⟨p, wa, ws, i, k, rfl, cur, q⟩ := h
  refine ⟨_, (pss_cons (ps_set (i := 2) sc_Cursor_peek.nd rfl (Or.inl rfl) (pe_op op_add (pe_fld (pv 0) rfl) (pv 1)))
    (pss_one (ps_ret (pe_ifExp (pt_cmpR op_lt (pv 2) (pe_callB (lenQ K) rfl z_len (by decide +kernel) (pa_cons (pe_fld (pv 0) rfl) pa_nil)) (nomark _)) (pe_ix (ixL K) (pe_fld (pv 0) rfl) (pv 2) (fun _ _ => rfl)) (pe_tup (pa_cons pe_str (pa_cons pe_str pa_nil))))))), ?_⟩
  have nW := K_Cursor.no "words" (by simp)
  have nA := K_Cursor.no "at" (by simp)
  obtain ⟨dx, hp, xs, hw, pa⟩ := cur.ex
  have lx := pa.1
  refine ⟨.ref p, rfl, p, C, dx, _, _, rfl, hp, K_Cursor.cl, nA, cu_at _ _, _, rfl, _, _, rfl, rfl, ?_⟩
  dsimp only
  rw [show ((i : Nat) : Int) + ((k : Nat) : Int) = ((i + k : Nat) : Int) by omega]
  refine ⟨_, rfl, .ref p, rfl, p, C, dx, _, _, rfl, hp, K_Cursor.cl, nW, cu_words _ _, wa, _, rfl, .inl (SqL.of hw), _, _, rfl, rfl, _, rfl, ?_⟩
  by_cases lt : i + k < ws.length
  · obtain ⟨x, hx⟩ : ∃ x, xs[i + k]? = some x := ⟨_, List.getElem?_eq_getElem (by omega)⟩
    have hws : ws[i + k]? = some (peek ws (i + k)) := by
      unfold peek
      rw [List.getD_eq_getElem?_getD, List.getElem?_eq_getElem lt]
      rfl
    obtain ⟨t, rfl, ht⟩ := pa.2 _ _ _ hx hws
    refine ifD (by omega) ⟨.ref p, rfl, p, C, dx, _, _, rfl, hp, K_Cursor.cl, nW, cu_words _ _, _, rfl, wa, _, _, _, rfl, rfl, SqL.of hw, atI_nat hx, ?_⟩
    exact q t H (Same.refl _) ht
  · refine ifND (by omega) ⟨(by show 2 ≤ sizeLine; decide), fun t n1 => ?_⟩
    generalize hN1 : L2.upd H t _ = G1
    have s1 := new_of n1 hN1
    have e1 := at_of hN1
    try dsimp only at e1
    clear hN1
    refine q t G1 s1 ?_
    rw [e1, show peek ws (i + k) = (.fin, []) by unfold peek; rw [List.getD_eq_getElem?_getD, List.getElem?_eq_none (by omega)]; rfl]
    show some (HO.tup [V.str (Str.ofString "end"), V.str (Str.ofString "")]) = some (HO.tup [V.str (kdS .fin), V.str (tx [])])
    rw [show (Str.ofString "") = tx [] by decide +kernel]
    rfl
theorem ok_sees (T : MTop K C "sees" "Cursor.sees" st_Cursor_sees ["self", "text"]) (K_Cursor : Kls K mg "Cursor" C cus) (D_Cursor_peek : Mth P w K mg base 1 C "peek" ["self", "further"] (spPeek C)) : Mth P w K mg base 2 C "sees" ["self", "text"] (spSees C) := by
  refine T.ok sc_Cursor_sees (fun vs H Q E h => ?_) (fun f cdv A outer s H vs Q E hr h => ?_)
  · obtain ⟨p, wa, ws, i, t, rfl, _⟩ := h
    rfl
  obtain ⟨p, wa, ws, i, t, rfl, lt, cur, q⟩ := h
  have hu65 : (A.deeper (envOfC "Cursor.sees" (defScope st_Cursor_sees) s.heap.objs.size f cdv)).units + 65 < cLine := by have := hr.un; omega
  refine ⟨_, (pss_one (ps_ret (pe_cmpR (inTDQ K hu65) (pe_mth D_Cursor_peek K_Cursor (pv 0) (hr.mono (by decide)) (pa_cons pe_int pa_nil)) (pe_tup (pa_cons (pe_tup (pa_cons pe_str (pa_cons (pv 1) pa_nil))) (pa_cons (pe_tup (pa_cons pe_str (pa_cons (pv 1) pa_nil))) pa_nil))) (by with_unfolding_all rfl)))), ?_⟩
  obtain ⟨dx, hp, hw⟩ := cur.ex
  have wok := peek_ok cur.ok i
  refine ⟨.ref p, rfl, p, dx, _, rfl, hp, cu_no _ _ (by decide +kernel) (by decide +kernel), p, wa, ws, i, 0, rfl, cur, fun tp G1 s1 e1 => ?_⟩
  refine ⟨_, rfl, (by show 2 ≤ sizeLine; decide), fun t1 n2 => ?_⟩
  generalize hN2 : L2.upd G1 t1 _ = G2
  have s2 := new_of n2 hN2
  have e2 := at_of hN2
  try dsimp only at e2
  clear hN2
  refine ⟨_, rfl, (by show 2 ≤ sizeLine; decide), fun t2 n3 => ?_⟩
  generalize hN3 : L2.upd G2 t2 _ = G3
  have s3 := new_of n3 hN3
  have e3 := at_of hN3
  try dsimp only at e3
  clear hN3
  refine ⟨(by show 2 ≤ sizeLine; decide), fun t3 n4 => ?_⟩
  generalize hN4 : L2.upd G3 t3 _ = G4
  have s4 := new_of n4 hN4
  have e4 := at_of hN4
  try dsimp only at e4
  clear hN4
  rw [Nat.add_zero] at e1
  have e14 : G4 tp = some (.tup (wordV (peek ws i))) := by nofun
  have e24 : G4 t1 = some (.tup [.str (Str.ofString "sign"), .str (tx t)]) := by nofun
  have e34 : G4 t2 = some (.tup [.str (Str.ofString "name"), .str (tx t)]) := by nofun
  refine ⟨wordD (kdS (peek ws i).1) (peek ws i).2, [wordD (Str.ofString "sign") t, wordD (Str.ofString "name") t], .tup (SqT.of e14) (.cons (.str _) (.cons (.str _) .nil)),
    .tup (SqT.of e4) (.cons (.tup (SqT.of e24) (.cons (.str _) (.cons (.str _) .nil))) (.cons (.tup (SqT.of e34) (.cons (.str _) (.cons (.str _) .nil))) .nil)), word_shaped (ok_kd _) wok.low, words_shaped (by decide +kernel) (by decide +kernel) lt, ?_⟩
  have fin : ([wordD (Str.ofString "sign") t, wordD (Str.ofString "name") t].any fun z => PyData.eqv z (wordD (kdS (peek ws i).1) (peek ws i).2)) = sees ws i t := by
    unfold sees
    simp only [List.any_cons, List.any_nil, word_eqv, Bool.or_false]
    have k1 : (Str.ofString "sign" == kdS (peek ws i).1) = decide ((peek ws i).1 = .sign) := by cases (peek ws i).1 <;> decide +kernel
    have k2 : (Str.ofString "name" == kdS (peek ws i).1) = decide ((peek ws i).1 = .name) := by cases (peek ws i).1 <;> decide +kernel
    rw [k1, k2, ← Bool.and_or_distrib_right]
    congr 1
    rw [Bool.eq_iff_iff, decide_eq_true_eq, decide_eq_true_eq]
    exact ⟨Eq.symm, Eq.symm⟩
  rw [fin]
  exact q G4 (s1.trans (s2.trans (s3.trans s4)))
theorem ok_take (T : MTop K C "take" "Cursor.take" st_Cursor_take ["self", "text"]) (K_Cursor : Kls K mg "Cursor" C cus) (X_NotSo : ExcC K mg "NotSo" CE) (D_Cursor_sees : Mth P w K mg base 2 C "sees" ["self", "text"] (spSees C)) : MthX P w K mg base 3 C "take" ["self", "text"] (spTake C CE) := by
  refine T.okX sc_Cursor_take (fun vs H Q E h => ?_) (fun f cdv A outer s H vs Q E hr h => ?_)
  · obtain ⟨t, _, p, wa, ws, i, rfl, _⟩ := h
    rfl
  obtain ⟨t, lt, p, wa, ws, i, rfl, cur, hl, qn, qs⟩ := h
  refine ⟨_, (pss_cons (ps_if (pt_not (pt_val (pe_mth D_Cursor_sees K_Cursor (pv 0) (hr.mono (by decide)) (pa_cons (pv 1) pa_nil))))
    (pss_one (ps_raise rfl (takes_of rfl rfl rfl rfl) (SkE.pmk_own1 PySem.F.excBase_ValueError X_NotSo.ex X_NotSo.at_ X_NotSo.kp (raises_own X_NotSo.sb X_NotSo.ty) rfl (pv 1))))
    pss_nil)
    (pss_one (ps_fld (pv 0) (pe_op op_add (pe_fld (pv 0) rfl) pe_int) rfl))), ?_⟩
  have nA := K_Cursor.no "at" (by simp)
  obtain ⟨dx, hp, hw⟩ := cur.ex
  refine ⟨.ref p, rfl, p, dx, _, rfl, hp, cu_no _ _ (by decide +kernel) (by decide +kernel), _, rfl, p, wa, ws, i, t, rfl, lt, cur, fun G1 s1 => ⟨_, rfl, ?_⟩⟩
  by_cases se : sees ws i t = true
  case neg =>
    refine ifV (b := true) (by rw [Bool.eq_false_iff.mpr se]; rfl) ⟨_, rfl, qn ?_ G1 (Same.but s1)⟩
    unfold Wd.take
    exact if_neg se
  refine ifV (b := false) (by rw [se]; rfl) ?_
  refine ⟨.ref p, rfl, p, C, dx, _, _, rfl, s1 _ _ hp, K_Cursor.cl, nA, cu_at _ _, _, _, rfl, rfl, .ref p, rfl, p, C, dx, _, rfl, s1 _ _ hp, K_Cursor.cl, nA, (by show 2 < 1000; decide), ?_⟩
  generalize hN2 : L2.upd G1 p _ = G2
  have b2 := but_of hN2
  have e2 := at_of hN2
  try dsimp only at e2
  clear hN2
  rw [cu_put, show ((i : Nat) : Int) + 1 = ((i + 1 : Nat) : Int) by omega] at e2
  have bb : But p H G2 := (Same.but s1).trans b2
  have cur2 : CurAt C G2 p wa ws (i + 1) := ⟨⟨dx, e2, hw.butI bb hp⟩, cur.ok⟩
  exact qs () (i + 1) (by unfold Wd.take; exact if_pos se) .non G2 bb cur2 rfl
theorem kd_eq (a b : Kd) : decide (V.str (kdS a) = V.str (kdS b)) = decide (a = b) := by cases a <;> cases b <;> decide +kernel
theorem eqV_tx (a b : List Nat) : eqV (V.str (tx a)) (V.str (tx b)) = decide (a = b) := by
  have : eqV (V.str (tx a)) (V.str (tx b)) = (tx a == tx b) := rfl
  rw [this, Bool.eq_iff_iff, beq_iff_eq, decide_eq_true_eq]
  exact ⟨tx_inj, fun h => by rw [h]⟩
theorem inV_tx (t : List Nat) (l : List (List Nat)) : inV (V.str (tx t)) (l.map fun s => V.str (tx s)) = decide (t ∈ l) := by
  rw [Bool.eq_iff_iff, decide_eq_true_eq]
  unfold inV
  rw [List.any_map, List.any_eq_true]
  constructor
  · rintro ⟨s, hs, e⟩
    have e : eqV (V.str (tx s)) (V.str (tx t)) = true := e
    rw [eqV_tx, decide_eq_true_eq] at e
    rw [← e]
    exact hs
  · intro h
    refine ⟨t, h, ?_⟩
    show eqV (V.str (tx t)) (V.str (tx t)) = true
    rw [eqV_tx, decide_eq_true_eq]
theorem flat_tx (l : List (List Nat)) : (l.map fun s => V.str (tx s)).all flatV = true := by
  rw [List.all_map, List.all_eq_true]
  intro s _
  rfl
theorem ok_name (T : MTop K C "name" "Cursor.name" st_Cursor_name ["self"]) (K_Cursor : Kls K mg "Cursor" C cus) (X_NotSo : ExcC K mg "NotSo" CE) (m_KEYS : mg "KEY_WORDS" = some (.ref aK)) (t_KEYS : ∀ H, SqT K H aK (keys.map fun s => V.str (tx s))) (D_Cursor_peek : Mth P w K mg base 1 C "peek" ["self", "further"] (spPeek C)) : MthX P w K mg base 2 C "name" ["self"] (spParse C CE [] name TW) := by
  refine T.okX sc_Cursor_name (fun vs H Q E h => ?_) (fun f cdv A outer s H vs Q E hr h => ?_)
  · obtain ⟨p, wa, ws, i, rfl, _⟩ := h
    rfl
  obtain ⟨p, wa, ws, i, rfl, cur, hl, qn, qs⟩ := h
  refine ⟨_, (pss_cons (ps_asg (pe_mth D_Cursor_peek K_Cursor (pv 0) (hr.mono (by decide)) (pa_cons pe_int pa_nil)) (pg_tup rfl (pgs_cons (pg_name (i := 1) sc_Cursor_name.nd rfl (Or.inl rfl)) (pgs_cons (pg_name (i := 2) sc_Cursor_name.nd rfl (Or.inl rfl)) pgs_nil))))
    (pss_cons (ps_if (PW.pt (pw_or (pt_cmpR op_ne (pv 1) pe_str (nomark _)) (pw_or1 (pt_cmpR (inQ K) (pv 2) (pe_glob (v := .ref aK) rfl m_KEYS rfl) (by with_unfolding_all rfl)))))
    (pss_one (ps_raise rfl (takes_of rfl rfl rfl rfl) (SkE.pmk_own1 PySem.F.excBase_ValueError X_NotSo.ex X_NotSo.at_ X_NotSo.kp (raises_own X_NotSo.sb X_NotSo.ty) rfl (pv 2))))
    pss_nil)
    (pss_cons (ps_fld (pv 0) (pe_op op_add (pe_fld (pv 0) rfl) pe_int) rfl)
    (pss_one (ps_ret (pv 2)))))), ?_⟩
  have nA := K_Cursor.no "at" (by simp)
  obtain ⟨dx, hp, hw⟩ := cur.ex
  refine ⟨.ref p, rfl, p, dx, _, rfl, hp, cu_no _ _ (by decide +kernel) (by decide +kernel), p, wa, ws, i, 0, rfl, cur, fun tp G1 s1 e1 => ⟨tp, _, rfl, SqT.of e1, rfl, _, _, rfl, _, _, rfl, rfl, ?_⟩⟩
  rw [Nat.add_zero]
  refine ⟨_, rfl, rfl, _, rfl, ?_⟩
  rw [show (V.str (Str.ofString "name")) = V.str (kdS .name) from rfl, kd_eq]
  by_cases kn : (peek ws i).1 = .name
  case neg =>
    refine ifnND kn (iteT ⟨_, rfl, qn ?_ G1 (Same.but s1)⟩)
    unfold name
    exact if_neg fun z => kn z.1
  refine ifnD kn ⟨_, rfl, aK, _, rfl, .inr (t_KEYS _), rfl, flat_tx _, _, rfl, ?_⟩
  rw [inV_tx]
  by_cases ik : (peek ws i).2 ∈ keys
  · refine ifV (b := true) (decide_eq_true ik) ⟨_, rfl, qn ?_ G1 (Same.but s1)⟩
    unfold name
    exact if_neg fun z => z.2 ik
  refine ifV (b := false) (decide_eq_false ik) ?_
  refine ⟨.ref p, rfl, p, C, dx, _, _, rfl, s1 _ _ hp, K_Cursor.cl, nA, cu_at _ _, _, _, rfl, rfl, .ref p, rfl, p, C, dx, _, rfl, s1 _ _ hp, K_Cursor.cl, nA, (by show 2 < 1000; decide), ?_⟩
  generalize hN2 : L2.upd G1 p _ = G2
  have b2 := but_of hN2
  have e2 := at_of hN2
  try dsimp only at e2
  clear hN2
  rw [cu_put, show ((i : Nat) : Int) + 1 = ((i + 1 : Nat) : Int) by omega] at e2
  have bb : But p H G2 := (Same.but s1).trans b2
  have cur2 : CurAt C G2 p wa ws (i + 1) := ⟨⟨dx, e2, hw.butI bb hp⟩, cur.ok⟩
  exact ⟨_, rfl, qs (.str (peek ws i).2) (i + 1) (by unfold name; exact if_pos ⟨kn, ik⟩) _ G2 bb cur2 rfl⟩
theorem ok_number (T : MTop K C "number" "Cursor.number" st_Cursor_number ["self"]) (K_Cursor : Kls K mg "Cursor" C cus) (X_NotSo : ExcC K mg "NotSo" CE) (z_int : mg "int" = none) (D_Cursor_peek : Mth P w K mg base 1 C "peek" ["self", "further"] (spPeek C)) : MthX P w K mg base 2 C "number" ["self"] (spParse C CE [] number fun _ x a => x = .int a) := by
  refine T.okX sc_Cursor_number (fun vs H Q E h => ?_) (fun f cdv A outer s H vs Q E hr h => ?_)
  · obtain ⟨p, wa, ws, i, rfl, _⟩ := h
    rfl
  obtain ⟨p, wa, ws, i, rfl, cur, hl, qn, qs⟩ := h
  refine ⟨_, (pss_cons (ps_asg (pe_mth D_Cursor_peek K_Cursor (pv 0) (hr.mono (by decide)) (pa_cons pe_int pa_nil)) (pg_tup rfl (pgs_cons (pg_name (i := 1) sc_Cursor_number.nd rfl (Or.inl rfl)) (pgs_cons (pg_name (i := 2) sc_Cursor_number.nd rfl (Or.inl rfl)) pgs_nil))))
    (pss_cons (ps_if (pt_cmpR op_ne (pv 1) pe_str (nomark _))
    (pss_one (ps_raise rfl (takes_of rfl rfl rfl rfl) (SkE.pmk_own1 PySem.F.excBase_ValueError X_NotSo.ex X_NotSo.at_ X_NotSo.kp (raises_own X_NotSo.sb X_NotSo.ty) rfl (pv 2))))
    pss_nil)
    (pss_cons (ps_fld (pv 0) (pe_op op_add (pe_fld (pv 0) rfl) pe_int) rfl)
    (pss_one (ps_ret (pe_callTy call_int_str rfl z_int (by decide +kernel) (pa_cons (pv 2) pa_nil))))))), ?_⟩
  have nA := K_Cursor.no "at" (by simp)
  obtain ⟨dx, hp, hw⟩ := cur.ex
  refine ⟨.ref p, rfl, p, dx, _, rfl, hp, cu_no _ _ (by decide +kernel) (by decide +kernel), p, wa, ws, i, 0, rfl, cur, fun tp G1 s1 e1 => ⟨tp, _, rfl, SqT.of e1, rfl, _, _, rfl, _, _, rfl, rfl, ?_⟩⟩
  rw [Nat.add_zero]
  refine ⟨_, rfl, rfl, _, rfl, ?_⟩
  rw [show (V.str (Str.ofString "number")) = V.str (kdS .num) from rfl, kd_eq]
  by_cases kn : (peek ws i).1 = .num
  case neg =>
    refine ifnND kn ⟨_, rfl, qn ?_ G1 (Same.but s1)⟩
    unfold number
    exact if_neg kn
  refine ifnD kn ?_
  have wk := (peek_ok cur.ok i).num kn
  refine ⟨.ref p, rfl, p, C, dx, _, _, rfl, s1 _ _ hp, K_Cursor.cl, nA, cu_at _ _, _, _, rfl, rfl, .ref p, rfl, p, C, dx, _, rfl, s1 _ _ hp, K_Cursor.cl, nA, (by show 2 < 1000; decide), ?_⟩
  generalize hN2 : L2.upd G1 p _ = G2
  have b2 := but_of hN2
  have e2 := at_of hN2
  try dsimp only at e2
  clear hN2
  rw [cu_put, show ((i : Nat) : Int) + 1 = ((i + 1 : Nat) : Int) by omega] at e2
  have bb : But p H G2 := (Same.but s1).trans b2
  have cur2 : CurAt C G2 p wa ws (i + 1) := ⟨⟨dx, e2, hw.butI bb hp⟩, cur.ok⟩
  exact ⟨_, rfl, tx (peek ws i).2, _, rfl, SX.int_S wk.1 wk.2.1 (by omega), by rw [tx_len]; omega, qs _ (i + 1) (by unfold number; exact if_pos kn) _ G2 bb cur2 rfl⟩
theorem ok_term (T : MTop K C "term" "Cursor.term" st_Cursor_term ["self"]) (K_Cursor : Kls K mg "Cursor" C cus) (D_Cursor_peek : Mth P w K mg base 1 C "peek" ["self", "further"] (spPeek C)) (D_Cursor_name : MthX P w K mg base 2 C "name" ["self"] (spParse C CE [] name TW)) (D_Cursor_number : MthX P w K mg base 2 C "number" ["self"] (spParse C CE [] number fun _ x a => x = .int a)) : MthX P w K mg base 3 C "term" ["self"] (spParse C CE [] term TW) := by
  refine T.okX sc_Cursor_term (fun vs H Q E h => ?_) (fun f cdv A outer s H vs Q E hr h => ?_)
  · obtain ⟨p, wa, ws, i, rfl, _⟩ := h
    rfl
  obtain ⟨p, wa, ws, i, rfl, cur, hl, qn, qs⟩ := h
  refine ⟨_, (pss_cons (ps_asg (pe_mth D_Cursor_peek K_Cursor (pv 0) (hr.mono (by decide)) (pa_cons pe_int pa_nil)) (pg_tup rfl (pgs_cons (pg_name (i := 1) sc_Cursor_term.nd rfl (Or.inl rfl)) (pgs_cons (pg_name (i := 2) sc_Cursor_term.nd rfl (Or.inl rfl)) pgs_nil))))
    (pss_cons (ps_if (pt_cmpR op_eq (pv 1) pe_str (nomark _))
    (pss_one (ps_ret (pe_tup (pa_cons pe_str (pa_cons (pe_mthX0 D_Cursor_number K_Cursor (pv 0) (hr.mono (by decide)) (passX (takes_of rfl rfl rfl rfl))) pa_nil)))))
    pss_nil)
    (pss_cons (ps_if (pt_cmpR op_eq (pv 1) pe_str (nomark _))
    (pss_cons (ps_fld (pv 0) (pe_op op_add (pe_fld (pv 0) rfl) pe_int) rfl)
      (pss_one (ps_ret (pe_tup (pa_cons pe_str (pa_cons (pv 2) pa_nil))))))
    pss_nil)
    (pss_one (ps_ret (pe_tup (pa_cons pe_str (pa_cons (pe_mthX0 D_Cursor_name K_Cursor (pv 0) (hr.mono (by decide)) (passX (takes_of rfl rfl rfl rfl))) pa_nil)))))))), ?_⟩
  have nA := K_Cursor.no "at" (by simp)
  obtain ⟨dx, hp, hw⟩ := cur.ex
  refine ⟨.ref p, rfl, p, dx, _, rfl, hp, cu_no _ _ (by decide +kernel) (by decide +kernel), p, wa, ws, i, 0, rfl, cur, fun tp G1 s1 e1 => ⟨tp, _, rfl, SqT.of e1, rfl, _, _, rfl, _, _, rfl, rfl, ?_⟩⟩
  rw [Nat.add_zero]
  refine ⟨_, rfl, rfl, _, rfl, ?_⟩
  rw [show (V.str (Str.ofString "number")) = V.str (kdS .num) from rfl, kd_eq]
  have cur1 := cur.same s1
  by_cases kn : (peek ws i).1 = .num
  · refine ifD kn ⟨.ref p, rfl, p, dx, _, rfl, s1 _ _ hp, cu_no _ _ (by decide +kernel) (by decide +kernel), p, wa, ws, i, rfl, cur1, hl, fun z => ?_, fun a j z x G2 b2 cur2 hx => ?_⟩
    · unfold number at z
      rw [if_pos kn] at z
      cases z
    · subst hx
      refine ⟨(by show 2 ≤ sizeLine; decide), fun t n3 => ?_⟩
      generalize hN3 : L2.upd G2 t _ = G3
      have s3 := new_of n3 hN3
      have e3 := at_of hN3
      try dsimp only at e3
      clear hN3
      refine qs (.tup [.str s_is, .int a]) j (by unfold term; rw [if_pos kn, z]; rfl) _ G3 ((Same.but s1).trans (b2.trans (Same.but s3))) (cur2.same s3) ⟨t, _, rfl, e3, ?_⟩
      exact ⟨show V.str (Str.ofString "is") = V.str (tx s_is) by rw [show Str.ofString "is" = tx s_is by decide +kernel], rfl, trivial⟩
  refine ifND kn ⟨_, rfl, rfl, _, rfl, ?_⟩
  rw [show (V.str (Str.ofString "var")) = V.str (kdS .var) from rfl, kd_eq]
  by_cases kv : (peek ws i).1 = .var
  · refine ifD kv ?_
    refine ⟨.ref p, rfl, p, C, dx, _, _, rfl, s1 _ _ hp, K_Cursor.cl, nA, cu_at _ _, _, _, rfl, rfl, .ref p, rfl, p, C, dx, _, rfl, s1 _ _ hp, K_Cursor.cl, nA, (by show 2 < 1000; decide), ?_⟩
    generalize hN2 : L2.upd G1 p _ = G2
    have b2 := but_of hN2
    have e2 := at_of hN2
    try dsimp only at e2
    clear hN2
    rw [cu_put, show ((i : Nat) : Int) + 1 = ((i + 1 : Nat) : Int) by omega] at e2
    have bb : But p H G2 := (Same.but s1).trans b2
    have cur2 : CurAt C G2 p wa ws (i + 1) := ⟨⟨dx, e2, hw.butI bb hp⟩, cur.ok⟩
    refine ⟨_, rfl, (by show 2 ≤ sizeLine; decide), fun t n3 => ?_⟩
    generalize hN3 : L2.upd G2 t _ = G3
    have s3 := new_of n3 hN3
    have e3 := at_of hN3
    try dsimp only at e3
    clear hN3
    refine qs (.tup [.str s_var, .str (peek ws i).2]) (i + 1) (by unfold term; rw [if_neg kn, if_pos kv]) _ G3 (bb.trans (Same.but s3)) (cur2.same s3) ⟨t, _, rfl, e3, ?_⟩
    exact ⟨show V.str (Str.ofString "var") = V.str (tx s_var) by rw [show Str.ofString "var" = tx s_var by decide +kernel], rfl, trivial⟩
  refine ifND kv ⟨.ref p, rfl, p, dx, _, rfl, s1 _ _ hp, cu_no _ _ (by decide +kernel) (by decide +kernel), p, wa, ws, i, rfl, cur1, hl, fun z G2 b2 => ?_, fun a j z x G2 b2 cur2 hx => ?_⟩
  · refine qn ?_ G2 ((Same.but s1).trans b2)
    unfold term
    rw [if_neg kn, if_neg kv, z]
    rfl
  · refine ⟨(by show 2 ≤ sizeLine; decide), fun t n3 => ?_⟩
    generalize hN3 : L2.upd G2 t _ = G3
    have s3 := new_of n3 hN3
    have e3 := at_of hN3
    try dsimp only at e3
    clear hN3
    refine qs (.tup [.str s_is, a]) j (by unfold term; rw [if_neg kn, if_neg kv, z]; rfl) _ G3 ((Same.but s1).trans (b2.trans (Same.but s3))) (cur2.same s3) ⟨t, _, rfl, e3, ?_⟩
    exact ⟨show V.str (Str.ofString "is") = V.str (tx s_is) by rw [show Str.ofString "is" = tx s_is by decide +kernel], hx.same s3, trivial⟩
end
end My
set_option Elab.async false
set_option linter.all false
set_option maxRecDepth 100000
set_option maxHeartbeats 4000000
/-! The cursor, further -/
namespace My
open PySem PySem.Spec PyProof.Rows L2 Wd
local macro_rules
  | `(tactic| nofun) => `(tactic| (apply tup_at; nofun))
local macro_rules
  | `(tactic| nofun) => `(tactic| (apply seq_at; nofun))
local macro_rules
  | `(tactic| nofun) => `(tactic| (apply pool_same; assumption; nofun))
local macro_rules
  | `(tactic| nofun) => `(tactic| (apply but_get; assumption; assumption; nofun))
local macro_rules
  | `(tactic| nofun) => `(tactic| (apply off_get; assumption; assumption; nofun))
local macro_rules
  | `(tactic| nofun) => `(tactic| (apply same_get; assumption; nofun))
local macro_rules
  | `(tactic| nofun) => `(tactic| assumption)
abbrev st_Cursor_listed : Stmt := inClass (topS 15) 7
theorem sc_Cursor_listed : FnScope ["self", "one", "found"] ["self", "one"] (defScope st_Cursor_listed) := ⟨rfl, rfl, rfl, by decide +kernel, rfl, by decide +kernel, by decide +kernel⟩
abbrev st_Cursor_atom : Stmt := inClass (topS 15) 8
theorem sc_Cursor_atom : FnScope ["self", "name"] ["self"] (defScope st_Cursor_atom) := ⟨rfl, rfl, rfl, by decide +kernel, rfl, by decide +kernel, by decide +kernel⟩
abbrev st_Cursor_compared : Stmt := inClass (topS 15) 9
theorem sc_Cursor_compared : FnScope ["self", "one", "sign", "word", "other"] ["self"] (defScope st_Cursor_compared) := ⟨rfl, rfl, rfl, by decide +kernel, rfl, by decide +kernel, by decide +kernel⟩
abbrev st_Cursor_literal : Stmt := inClass (topS 15) 10
theorem sc_Cursor_literal : FnScope ["self", "term"] ["self"] (defScope st_Cursor_literal) := ⟨rfl, rfl, rfl, by decide +kernel, rfl, by decide +kernel, by decide +kernel⟩
abbrev st_Cursor_body : Stmt := inClass (topS 15) 11
theorem sc_Cursor_body : FnScope ["self", "found"] ["self"] (defScope st_Cursor_body) := ⟨rfl, rfl, rfl, by decide +kernel, rfl, by decide +kernel, by decide +kernel⟩
abbrev st_Cursor_constants : Stmt := inClass (topS 15) 12
theorem sc_Cursor_constants : FnScope ["self", "first", "found"] ["self"] (defScope st_Cursor_constants) := ⟨rfl, rfl, rfl, by decide +kernel, rfl, by decide +kernel, by decide +kernel⟩
/-! ### readings of calls -/
section
variable {C CE p wa : Addr} {ws : List Word} {i : Nat} {σ : L2.St} {H : Hp} {Q : VK} {E : XK}
theorem rd_sees {s : Str} (h0 : σ[0]? = some (some (.ref p))) (cur : CurAt C H p wa ws i) (t : List Nat) (e : s = tx t) (ht : ∀ c ∈ t, c < 128) (k : ∀ H', Same H H' → Q (.bl (sees ws i t)) H') : tMeth C "sees" (spSees C) [] E0 (tVar 0) (tCons (tC (.str s)) tNil) σ H Q := by
  obtain ⟨dx, hp, hw⟩ := cur.ex
  subst e
  exact ⟨.ref p, h0, p, dx, _, rfl, hp, cu_no _ _ (by decide +kernel) (by decide +kernel), p, wa, ws, i, t, rfl, ht, cur, k⟩
theorem rd_seesV {k : Nat} (h0 : σ[0]? = some (some (.ref p))) (cur : CurAt C H p wa ws i) (t : List Nat) (h1 : σ[k]? = some (some (.str (tx t)))) (ht : ∀ c ∈ t, c < 128) (q : ∀ H', Same H H' → Q (.bl (sees ws i t)) H') : tMeth C "sees" (spSees C) [] E0 (tVar 0) (tCons (tVar k) tNil) σ H Q := by
  obtain ⟨dx, hp, hw⟩ := cur.ex
  exact ⟨.ref p, h0, p, dx, _, rfl, hp, cu_no _ _ (by decide +kernel) (by decide +kernel), _, h1, p, wa, ws, i, t, rfl, ht, cur, q⟩
theorem rd_take1V {k : Nat} (h0 : σ[0]? = some (some (.ref p))) (cur : CurAt C H p wa ws i) (hl : ws.length ≤ 100000) (t : List Nat) (h1 : σ[k]? = some (some (.str (tx t)))) (ht : ∀ c ∈ t, c < 128) (g : sees ws i t = true) (q : ∀ H', But p H H' → CurAt C H' p wa ws (i + 1) → Q .non H') : tMeth C "take" (spTake C CE) [] E (tVar 0) (tCons (tVar k) tNil) σ H Q := by
  obtain ⟨dx, hp, hw⟩ := cur.ex
  refine ⟨.ref p, h0, p, dx, _, rfl, hp, cu_no _ _ (by decide +kernel) (by decide +kernel), _, h1, t, ht, p, wa, ws, i, rfl, cur, hl, fun z => ?_, fun a j z x H' b c hx => ?_⟩
  · have z : Wd.take ws t i = _ := z
    unfold Wd.take at z
    rw [if_pos g] at z
    cases z
  · have z : Wd.take ws t i = _ := z
    unfold Wd.take at z
    rw [if_pos g] at z
    cases z
    subst hx
    exact q H' b c
theorem rd_take {s : Str} (h0 : σ[0]? = some (some (.ref p))) (cur : CurAt C H p wa ws i) (hl : ws.length ≤ 100000) (t : List Nat) (e : s = tx t) (ht : ∀ c ∈ t, c < 128) (kn : sees ws i t = false → ∀ H', But p H H' → E (.ref CE) none H') (k : sees ws i t = true → ∀ H', But p H H' → CurAt C H' p wa ws (i + 1) → Q .non H') : tMeth C "take" (spTake C CE) [] E (tVar 0) (tCons (tC (.str s)) tNil) σ H Q := by
  obtain ⟨dx, hp, hw⟩ := cur.ex
  subst e
  refine ⟨.ref p, h0, p, dx, _, rfl, hp, cu_no _ _ (by decide +kernel) (by decide +kernel), t, ht, p, wa, ws, i, rfl, cur, hl, fun z => ?_, fun a j z x H' b c hx => ?_⟩
  · have z : Wd.take ws t i = _ := z
    unfold Wd.take at z
    by_cases g : sees ws i t = true
    · rw [if_pos g] at z; cases z
    · exact kn (Bool.eq_false_iff.mpr g)
  · have z : Wd.take ws t i = _ := z
    unfold Wd.take at z
    by_cases g : sees ws i t = true
    · rw [if_pos g] at z
      cases z
      subst hx
      exact k g H' b c
    · rw [if_neg g] at z; cases z
/-- a sign that was seen is taken -/
theorem rd_take1 {s : Str} (h0 : σ[0]? = some (some (.ref p))) (cur : CurAt C H p wa ws i) (hl : ws.length ≤ 100000) (t : List Nat) (e : s = tx t) (ht : ∀ c ∈ t, c < 128) (g : sees ws i t = true) (k : ∀ H', But p H H' → CurAt C H' p wa ws (i + 1) → Q .non H') : tMeth C "take" (spTake C CE) [] E (tVar 0) (tCons (tC (.str s)) tNil) σ H Q :=
  rd_take h0 cur hl t e ht (fun z => by rw [g] at z; cases z) fun _ => k
theorem rd_parse {α : Type} {m : Str} {parse : List Word → Nat → Option (α × Nat)} {rel : Hp → V → α → Prop} (h0 : σ[0]? = some (some (.ref p))) (cur : CurAt C H p wa ws i) (hl : ws.length ≤ 100000) (h1 : (m == ("words" : Str)) = false) (h2 : (m == ("at" : Str)) = false)
    (kn : parse ws i = none → ∀ H', But p H H' → E (.ref CE) none H') (k : ∀ a j, parse ws i = some (a, j) → ∀ x H', But p H H' → CurAt C H' p wa ws j → rel H' x a → Q x H') : tMeth C m (spParse C CE [] parse rel) [] E (tVar 0) tNil σ H Q := by
  obtain ⟨dx, hp, hw⟩ := cur.ex
  exact ⟨.ref p, h0, p, dx, _, rfl, hp, cu_no _ _ h1 h2, p, wa, ws, i, rfl, cur, hl, kn, k⟩
theorem rd_peek {k : Nat} (h0 : σ[0]? = some (some (.ref p))) (cur : CurAt C H p wa ws i) (q : ∀ t H', Same H H' → H' t = some (.tup (wordV (peek ws (i + k)))) → Q (.ref t) H') : tMeth C "peek" (spPeek C) [] E0 (tVar 0) (tCons (tC (.int (k : Nat))) tNil) σ H Q := by
  obtain ⟨dx, hp, hw⟩ := cur.ex
  exact ⟨.ref p, h0, p, dx, _, rfl, hp, cu_no _ _ (by decide +kernel) (by decide +kernel), p, wa, ws, i, k, rfl, cur, q⟩
end
theorem CurAt.tw {C p wa : Addr} {ws : List Word} {i : Nat} {H H' : Hp} {x : V} {t : Tr} (c : CurAt C H p wa ws i) (h : TW H x t) (b : But p H H') : TW H' x t := by
  obtain ⟨dx, hp, hw⟩ := c.ex
  exact h.butI b hp
theorem CurAt.tws {C p wa : Addr} {ws : List Word} {i : Nat} {H H' : Hp} {xs : List V} {ts : List Tr} (c : CurAt C H p wa ws i) (h : TWs H xs ts) (b : But p H H') : TWs H' xs ts := by
  obtain ⟨dx, hp, hw⟩ := c.ex
  exact h.butI b hp
theorem CurAt.lst {C p wa a : Addr} {ws : List Word} {i : Nat} {H H' : Hp} {xs : List V} (c : CurAt C H p wa ws i) (h : H a = some (.lst xs)) (b : But p H H') : H' a = some (.lst xs) := by
  obtain ⟨dx, hp, hw⟩ := c.ex
  exact b.lstI hp h
theorem CurAt.new {C p wa a : Addr} {ws : List Word} {i : Nat} {H : Hp} (c : CurAt C H p wa ws i) (h : H a = none) : a ≠ p := by
  obtain ⟨dx, hp, hw⟩ := c.ex
  intro z
  rw [z, hp] at h
  cases h
theorem CurAt.newW {C p wa a : Addr} {ws : List Word} {i : Nat} {H : Hp} (c : CurAt C H p wa ws i) (h : H a = none) : a ≠ wa := by
  obtain ⟨dx, hp, zs, hz, pz⟩ := c.ex
  intro z
  rw [z, hz] at h
  cases h
theorem CurAt.met {C p wa q g x : Addr} {ws : List Word} {i : Nat} {H H' : Hp} (c : CurAt C H p wa ws i) (h : H q = some (.met g x)) (b : But p H H') : H' q = some (.met g x) := by
  obtain ⟨dx, hp, _⟩ := c.ex
  exact b.get (fun z => by rw [z, hp] at h; cases h) h
/-- a list that is not among the cursor's -/
theorem CurAt.put {C p wa a : Addr} {ws : List Word} {i : Nat} {H : Hp} {xs ys : List V} (c : CurAt C H p wa ws i) (n : a ≠ wa) (h : H a = some (.lst xs)) : CurAt C (upd H a (.lst ys)) p wa ws i := by
  obtain ⟨dx, hp, zs, hz, pz⟩ := c.ex
  exact ⟨⟨dx, (upd_ne (fun z => by rw [← z, hp] at h; cases h)).trans hp, zs, (upd_ne (Ne.symm n)).trans hz, pz.list h⟩, c.ok⟩
theorem But.mut_ {p l : Addr} {H H' : Hp} {o : HO} (b : But p H H') (n : H l = none) : But p H (upd H' l o) := b.mut n
theorem sees_lt {ws : List Word} {i : Nat} {t : List Nat} (h : sees ws i t = true) : i < ws.length := by
  apply Decidable.byContradiction
  intro z
  unfold sees peek at h
  rw [List.getD_eq_getElem?_getD, List.getElem?_eq_none (by omega)] at h
  simp at h
def Mono (one : List Word → Nat → Option (Tr × Nat)) : Prop := ∀ ws i a j, one ws i = some (a, j) → i ≤ j
theorem name_mono : Mono name := fun ws i a j h => by
  unfold name at h
  split at h
  · cases h; omega
  · cases h
theorem term_mono : Mono term := fun ws i a j h => by
  unfold term at h
  split at h
  · rename_i k
    unfold number at h
    rw [if_pos k] at h
    cases h; omega
  · split at h
    · cases h; omega
    · cases e : name ws i with
      | none => rw [e] at h; cases h
      | some r =>
        rw [e] at h
        have := name_mono ws i r.1 r.2 e
        cases h
        exact this
def spListed (C CE : Addr) (S : Addr → Option Sp) : Sp := fun vs H Q E => ∃ (p wa q g : Addr) (one : List Word → Nat → Option (Tr × Nat)) (ws : List Word) (i : Nat), vs = [.ref p, .ref q] ∧ H q = some (.met g p) ∧ S g = some (spParse C CE [] one TW) ∧ Mono one ∧ CurAt C H p wa ws i ∧ ws.length ≤ 100000 ∧
  (listed ws (one ws) i = none → ∀ H', But p H H' → E (.ref CE) none H') ∧ (∀ a j, listed ws (one ws) i = some (a, j) → ∀ x H', But p H H' → CurAt C H' p wa ws j → TW H' x a → Q x H')
theorem rd_listed {C CE p wa g : Addr} {ws : List Word} {i : Nat} {σ : L2.St} {H : Hp} {Q : VK} {E : XK} {S : Addr → Option Sp} {m : Str} {one : List Word → Nat → Option (Tr × Nat)} (h0 : σ[0]? = some (some (.ref p))) (cur : CurAt C H p wa ws i) (hl : ws.length ≤ 100000) (hS : S g = some (spParse C CE [] one TW)) (mono : Mono one) (h1 : (m == ("words" : Str)) = false) (h2 : (m == ("at" : Str)) = false)
    (kn : listed ws (one ws) i = none → ∀ H', But p H H' → E (.ref CE) none H') (k : ∀ a j, listed ws (one ws) i = some (a, j) → ∀ x H', But p H H' → CurAt C H' p wa ws j → TW H' x a → Q x H') : tMeth C "listed" (spListed C CE S) [] E (tVar 0) (tCons (tBound C m g (tVar 0)) tNil) σ H Q := by
  obtain ⟨dx, hp, hw⟩ := cur.ex
  refine ⟨.ref p, h0, p, dx, _, rfl, hp, cu_no _ _ (by decide +kernel) (by decide +kernel), .ref p, h0, p, dx, _, rfl, hp, cu_no _ _ h1 h2, fun q nq => ?_⟩
  have s : Same H (upd H q (.met g p)) := Same.new nq
  exact ⟨p, wa, q, g, one, ws, i, rfl, upd_same, hS, mono, cur.same s, hl, fun z H' b => kn z H' ((Same.but s).trans b), fun a j z x H' b c hx => k a j z x H' ((Same.but s).trans b) c hx⟩
section
variable {P : Program} {w : World} {K : PySem.W.Frag} {mg : Str → Option Value} {base : Heap} {C CE aK : Addr} {S : Addr → Option Sp}
theorem ok_listed (T : MTop K C "listed" "Cursor.listed" st_Cursor_listed ["self", "one"]) (K_Cursor : Kls K mg "Cursor" C cus) (X_NotSo : ExcC K mg "NotSo" CE) (z_len : mg "len" = none) (z_tuple : mg "tuple" = none) (B : ∀ g sp, S g = some sp → HeldM P w K mg base 3 g sp) (D_Cursor_sees : Mth P w K mg base 2 C "sees" ["self", "text"] (spSees C)) (D_Cursor_take : MthX P w K mg base 3 C "take" ["self", "text"] (spTake C CE)) : MthX P w K mg base 4 C "listed" ["self", "one"] (spListed C CE S) := by
  refine T.okX sc_Cursor_listed (fun vs H Q E h => ?_) (fun f cdv A outer s H vs Q E hr h => ?_)
  · obtain ⟨p, wa, q, g, one, ws, i, rfl, _⟩ := h
    rfl
  obtain ⟨p, wa, q, g, one, ws, i, rfl, hq, hS, mono, cur, hl, qn, qs⟩ := h
  refine ⟨_, (pss_cons (ps_if (pt_not (pt_val (pe_mth D_Cursor_sees K_Cursor (pv 0) (hr.mono (by decide)) (pa_cons pe_str pa_nil))))
    (pss_one (ps_ret (pe_tup pa_nil)))
    pss_nil)
    (pss_cons (ps_expr (pe_mthX D_Cursor_take K_Cursor (pv 0) (hr.mono (by decide)) (passX (takes_of rfl rfl rfl rfl)) (pa_cons pe_str pa_nil)))
    (pss_cons (ps_set (i := 2) sc_Cursor_listed.nd rfl (Or.inl rfl) (pe_lst (pa_cons (pe_callM0 (i := 1) (S := S) B (hr.mono (by decide)) rfl (by first | exact Or.inl rfl | exact Or.inr (Or.inl rfl) | exact Or.inr (Or.inr rfl)) (passX (takes_of rfl rfl rfl rfl))) pa_nil)))
    (pss_cons (ps_while (passes_of rfl) (pt_val (pe_mth D_Cursor_sees K_Cursor (pv 0) (hr.mono (by decide)) (pa_cons pe_str pa_nil)))
    (pss_cons (ps_expr (pe_mthX D_Cursor_take K_Cursor (pv 0) (hr.mono (by decide)) (passX (takes_of rfl rfl rfl rfl)) (pa_cons pe_str pa_nil)))
      (pss_one (ps_expr (pe_bm PySem.F.plainAttrs_list PySem.F.slot_list_append PySem.F.type_list_append mt_append (pv 2) (pa_cons (pe_callM0 (i := 1) (S := S) B (hr.mono (by decide)) rfl (by first | exact Or.inl rfl | exact Or.inr (Or.inl rfl) | exact Or.inr (Or.inr rfl)) (passX (takes_of rfl rfl rfl rfl))) pa_nil))))))
    (pss_cons (ps_expr (pe_mthX D_Cursor_take K_Cursor (pv 0) (hr.mono (by decide)) (passX (takes_of rfl rfl rfl rfl)) (pa_cons pe_str pa_nil)))
    (pss_cons (ps_if (pt_cmpR op_gt (pe_callB (lenQ K) rfl z_len (by decide +kernel) (pa_cons (pv 2) pa_nil)) pe_int (nomark _))
    (pss_one (ps_raise rfl (takes_of rfl rfl rfl rfl) (SkE.pmk_own1 PySem.F.excBase_ValueError X_NotSo.ex X_NotSo.at_ X_NotSo.kp (raises_own X_NotSo.sb X_NotSo.ty) rfl pe_str)))
    pss_nil)
    (pss_one (ps_ret (pe_callTy (tupQ K) rfl z_tuple (by decide +kernel) (pa_cons (pv 2) pa_nil)))))))))), ?_⟩
  refine rd_sees rfl cur s_lpar (by decide +kernel) (by decide) fun G1 s1 => ⟨_, rfl, ?_⟩
  have c1 := cur.same s1
  by_cases g1 : sees ws i s_lpar = true
  case neg =>
    refine ifV (b := true) (by rw [Bool.eq_false_iff.mpr g1]; rfl) ⟨Nat.zero_le _, fun t n2 => ?_⟩
    generalize hN2 : L2.upd G1 t _ = G2
    have s2 := new_of n2 hN2
    have e2 := at_of hN2
    try dsimp only at e2
    clear hN2
    exact qs (.tup []) i (by unfold listed; exact if_neg g1) _ G2 (Same.but (s1.trans s2)) (c1.same s2) ⟨t, [], rfl, e2, trivial⟩
  refine ifV (b := false) (by rw [g1]; rfl) ?_
  refine rd_take1 rfl c1 hl s_lpar (by decide +kernel) (by decide) g1 fun G2 b2 c2 => ?_
  have m1 := s1 _ _ hq
  have m2 := c1.met m1 b2
  have b02 : But p H G2 := (Same.but s1).trans b2
  have lst : listed ws (one ws) i = (match one ws (i + 1) with
    | none => none
    | some (t, j) => match more ws (one ws) (ws.length + 1) j [t] with
      | none => none
      | some (l, k) => if sees ws k s_rpar then (if 4 < l.length then none else some (.tup l, k + 1)) else none) := by
    unfold listed
    exact if_pos g1
  refine ⟨q, g, p, _, rfl, m2, hS, p, wa, ws, i + 1, rfl, c2, hl, fun z H' b => qn (by rw [lst, z]) H' (b02.trans b), fun t0 j0 z0 x G3 b3 c3 hx => ?_⟩
  have b03 := b02.trans b3
  have m3 := c2.met m2 b3
  refine ⟨(by show 1 ≤ sizeLine; decide), fun fo n4 => ?_⟩
  generalize hN4 : L2.upd G3 fo _ = G4
  have s4 := new_of n4 hN4
  have e4 := at_of hN4
  try dsimp only at e4
  clear hN4
  have c4 := c3.same s4
  have b04 := b03.trans (Same.but s4)
  have m4 := s4 _ _ m3
  have nfw := c3.newW n4
  have nfp := c3.new n4
  have nfq : q ≠ fo := ne_of_none m3 n4
  have nfH : H fo = none := by
    obtain ⟨_, e, _⟩ := c3.ex
    exact b03.free_of e n4
  rw [z0] at lst
  refine ⟨fun m σ G => ∃ (j f : Nat) (acc : List Tr) (xs : List V), m = ws.length - j ∧ σ = [some (.ref p), some (.ref q), some (.ref fo)] ∧ But p H G ∧ CurAt C G p wa ws j ∧ G q = some (.met g p) ∧ G fo = some (.lst xs) ∧ TWs G xs acc ∧ 1 ≤ f ∧ ws.length < f + j ∧ acc.length + f ≤ ws.length + 2 ∧ more ws (one ws) f j acc = more ws (one ws) (ws.length + 1) j0 [t0], ⟨_, j0, ws.length + 1, [t0], [x], rfl, rfl, b04, c4, m4, e4, ⟨hx.same s4, trivial⟩, by omega, by omega, (by show 1 + _ ≤ _; omega), rfl⟩, ?_⟩
  rintro m σ G ⟨j, f, acc, xs, rfl, rfl, bG, cG, mG, eG, hxs, hf1, hf, lacc, hmore⟩
  refine rd_sees rfl cG s_comma (by decide +kernel) (by decide) fun G5 s5 => ⟨_, rfl, ?_⟩
  have c5 := cG.same s5
  have b5 := bG.trans (Same.but s5)
  have lxs := hxs.len
  obtain ⟨f', rfl⟩ : ∃ f', f = f' + 1 := ⟨f - 1, by omega⟩
  by_cases g2 : sees ws j s_comma = true
  · have jl := sees_lt g2
    refine ifV (b := true) g2 (iteT ⟨fun σ' G' => ∃ m', m' < ws.length - j ∧ _, fun σ' G' w => w, ?_⟩)
    refine rd_take1 rfl c5 hl s_comma (by decide +kernel) (by decide) g2 fun G6 b6 c6 => ?_
    have m5 := s5 _ _ mG
    have e5 := s5 _ _ eG
    have m6 := c5.met m5 b6
    have e6 := c5.lst e5 b6
    have x6 := c5.tws (hxs.same s5) b6
    have b06 := b5.trans b6
    have step : more ws (one ws) (f' + 1) j acc = (match one ws (j + 1) with
      | none => none
      | some (t, k) => more ws (one ws) f' k (acc ++ [t])) := by
      rw [more]
      exact if_pos g2
    rw [step] at hmore
    refine ⟨.ref fo, rfl, .inl ⟨rfl, _, SqL.of e6⟩, q, g, p, _, rfl, m6, hS, p, wa, ws, j + 1, rfl, c6, hl, fun z H' b => ?_, fun t1 j1 z1 x1 G7 b7 c7 hx1 => ?_⟩
    · rw [z] at hmore
      have hmore : none = more ws (one ws) (ws.length + 1) j0 [t0] := hmore
      refine qn ?_ H' (b06.trans b)
      rw [lst]
      dsimp only
      rw [← hmore]
    have m7 := c6.met m6 b7
    have e7 := c6.lst e6 b7
    have x7 := c6.tws x6 b7
    have j1l := mono ws (j + 1) t1 j1 z1
    rw [z1] at hmore
    refine ⟨fo, xs, x1, rfl, rfl, e7, by rw [lxs]; exact sq_len (by omega), ws.length - j1, by omega, j1, f', acc ++ [t1], xs ++ [x1], rfl, rfl, (b06.trans b7).mut nfH, c7.put nfw e7, (upd_ne nfq).trans m7, upd_same, (TWs.snoc hx1 x7).list e7, by omega, by omega, by rw [List.length_append]; show _ + 1 + _ ≤ _; omega, hmore⟩
  refine ifV (b := false) (Bool.eq_false_iff.mpr g2) (iteF ?_)
  have fin : more ws (one ws) (f' + 1) j acc = some (acc, j) := by
    rw [more]
    exact if_neg g2
  rw [fin] at hmore
  dsimp only at lst
  rw [← hmore] at lst
  have lst : listed ws (one ws) i = if sees ws j s_rpar then (if 4 < acc.length then none else some (.tup acc, j + 1)) else none := lst
  refine rd_take rfl c5 hl s_rpar (by decide +kernel) (by decide) (fun z H' b => ?_) (fun z G6 b6 c6 => ?_)
  · refine qn ?_ H' (b5.trans b)
    rw [lst, z]
    rfl
  rw [z] at lst
  have lst : listed ws (one ws) i = if 4 < acc.length then none else some (.tup acc, j + 1) := lst
  have e6 := c5.lst (s5 _ _ eG) b6
  have x6 := c5.tws (hxs.same s5) b6
  refine ⟨.ref fo, rfl, fo, _, rfl, .inl (SqL.of e6), _, _, rfl, rfl, _, rfl, ?_⟩
  by_cases four : 4 < acc.length
  · refine ifD (by rw [lxs]; omega) (qn ?_ G6 (b5.trans b6))
    rw [lst]
    exact if_pos four
  · refine ifND (by rw [lxs]; omega) ⟨.ref fo, rfl, fo, _, rfl, .inl ⟨SqL.of e6, fun t n7 => ?_⟩⟩
    generalize hN7 : L2.upd G6 t _ = G7
    have s7 := new_of n7 hN7
    have e7 := at_of hN7
    try dsimp only at e7
    clear hN7
    refine qs (.tup acc) (j + 1) (by rw [lst]; exact if_neg four) _ G7 ((b5.trans b6).trans (Same.but s7)) (c6.same s7) ⟨t, xs, rfl, e7, x6.same s7⟩
end
end My
set_option Elab.async false
set_option linter.all false
set_option maxRecDepth 100000
set_option maxHeartbeats 4000000
/-! The cursor, to the end -/
namespace My
open PySem PySem.Spec PyProof.Rows L2 Wd
local macro_rules
  | `(tactic| nofun) => `(tactic| (apply tup_at; nofun))
local macro_rules
  | `(tactic| nofun) => `(tactic| (apply seq_at; nofun))
local macro_rules
  | `(tactic| nofun) => `(tactic| (apply pool_same; assumption; nofun))
local macro_rules
  | `(tactic| nofun) => `(tactic| (apply but_get; assumption; assumption; nofun))
local macro_rules
  | `(tactic| nofun) => `(tactic| (apply off_get; assumption; assumption; nofun))
local macro_rules
  | `(tactic| nofun) => `(tactic| (apply same_get; assumption; nofun))
local macro_rules
  | `(tactic| nofun) => `(tactic| assumption)
theorem listed_mono (ws : List Word) (one : List Word → Nat → Option (Tr × Nat)) (mo : Mono one) : ∀ i a j, listed ws (one ws) i = some (a, j) → i ≤ j := by
  have mm : ∀ (f i : Nat) (acc : List Tr) (l : List Tr) (j : Nat), more ws (one ws) f i acc = some (l, j) → i ≤ j := by
    intro f
    induction f with
    | zero => intro i acc l j h; cases h
    | succ f ih =>
      intro i acc l j h
      rw [more] at h
      split at h
      · cases e : one ws (i + 1) with
        | none => rw [e] at h; cases h
        | some r =>
          rw [e] at h
          have h1 := mo ws (i + 1) r.1 r.2 e
          have h2 := ih r.2 (acc ++ [r.1]) l j h
          omega
      · cases h
        omega
  intro i a j h
  unfold listed at h
  split at h
  · cases e : one ws (i + 1) with
    | none => rw [e] at h; cases h
    | some r =>
      rw [e] at h
      have h1 := mo ws (i + 1) r.1 r.2 e
      dsimp only at h
      cases e2 : more ws (one ws) (ws.length + 1) r.2 [r.1] with
      | none => rw [e2] at h; cases h
      | some r2 =>
        rw [e2] at h
        have h2 := mm _ _ _ r2.1 r2.2 e2
        dsimp only at h
        split at h
        · split at h
          · cases h
          · cases h
            omega
        · cases h
  · cases h
    omega
theorem atom_mono : Mono atom := fun ws i a j h => by
  unfold atom at h
  cases e : name ws i with
  | none => rw [e] at h; cases h
  | some r =>
    rw [e] at h
    have h1 := name_mono ws i r.1 r.2 e
    dsimp only at h
    cases e2 : listed ws (term ws) r.2 with
    | none => rw [e2] at h; cases h
    | some r2 =>
      rw [e2] at h
      have h2 := listed_mono ws term term_mono _ r2.1 r2.2 e2
      cases h
      omega
section
variable {P : Program} {w : World} {K : PySem.W.Frag} {mg : Str → Option Value} {base : Heap} {C CE aK gT gN : Addr} {S : Addr → Option Sp}
theorem ok_atom (T : MTop K C "atom" "Cursor.atom" st_Cursor_atom ["self"]) (K_Cursor : Kls K mg "Cursor" C cus) (B_term : BMeth K C "term" gT) (hS : S gT = some (spParse C CE [] term TW)) (D_Cursor_name : MthX P w K mg base 2 C "name" ["self"] (spParse C CE [] name TW)) (D_Cursor_listed : MthX P w K mg base 4 C "listed" ["self", "one"] (spListed C CE S)) : MthX P w K mg base 5 C "atom" ["self"] (spParse C CE [] atom TW) := by
  refine T.okX sc_Cursor_atom (fun vs H Q E h => ?_) (fun f cdv A outer s H vs Q E hr h => ?_)
  · obtain ⟨p, wa, ws, i, rfl, _⟩ := h
    rfl
  obtain ⟨p, wa, ws, i, rfl, cur, hl, qn, qs⟩ := h
  refine ⟨_, (pss_cons (ps_set (i := 1) sc_Cursor_atom.nd rfl (Or.inl rfl) (pe_mthX0 D_Cursor_name K_Cursor (pv 0) (hr.mono (by decide)) (passX (takes_of rfl rfl rfl rfl))))
    (pss_one (ps_ret (pe_tup (pa_cons (pv 1) (pa_cons (pe_mthX D_Cursor_listed K_Cursor (pv 0) (hr.mono (by decide)) (passX (takes_of rfl rfl rfl rfl)) (pa_cons (pe_bound B_term K_Cursor (pv 0)) pa_nil)) pa_nil)))))), ?_⟩
  refine rd_parse rfl cur hl (by decide +kernel) (by decide +kernel) (fun z H' b => qn (by unfold atom; rw [z]) H' b) (fun n j z x G1 b1 c1 hx => ?_)
  refine ⟨_, rfl, rd_listed rfl c1 hl hS term_mono (by decide +kernel) (by decide +kernel) (fun z2 H' b => qn (by unfold atom; rw [z]; dsimp only; rw [z2]) H' (b1.trans b)) (fun l k z2 y G2 b2 c2 hy => ?_)⟩
  refine ⟨(by show 2 ≤ sizeLine; decide), fun t n3 => ?_⟩
  generalize hN3 : L2.upd G2 t _ = G3
  have s3 := new_of n3 hN3
  have e3 := at_of hN3
  try dsimp only at e3
  clear hN3
  exact qs (.tup [n, l]) k (by unfold atom; rw [z]; dsimp only; rw [z2]) _ G3 ((b1.trans b2).trans (Same.but s3)) (c2.same s3) ⟨t, _, rfl, e3, (c1.tw hx b2).same s3, hy.same s3, trivial⟩
theorem twS {H : Hp} {s : Str} {l : List Nat} (e : s = tx l) : TW H (.str s) (.str l) := congrArg V.str e
theorem find_prs {f : List Nat × List Nat → Bool} {i : Nat} {s : List Nat × List Nat} (h : prs[i]? = some s) (no : ∀ x ∈ prs.take i, f x = false) (hs : f s = true) : prs.find? f = some s := find_at h (fun x hx z => by rw [no x hx] at z; cases z) hs
theorem ok_compared (T : MTop K C "compared" "Cursor.compared" st_Cursor_compared ["self"]) (K_Cursor : Kls K mg "Cursor" C cus) (D_Cursor_term : MthX P w K mg base 3 C "term" ["self"] (spParse C CE [] term TW)) (D_Cursor_number : MthX P w K mg base 2 C "number" ["self"] (spParse C CE [] number fun _ x a => x = .int a)) (D_Cursor_sees : Mth P w K mg base 2 C "sees" ["self", "text"] (spSees C)) (D_Cursor_take : MthX P w K mg base 3 C "take" ["self", "text"] (spTake C CE)) : MthX P w K mg base 4 C "compared" ["self"] (spParse C CE [] compared TW) := by
  refine T.okX sc_Cursor_compared (fun vs H Q E h => ?_) (fun f cdv A outer s H vs Q E hr h => ?_)
  · obtain ⟨p, wa, ws, i, rfl, _⟩ := h
    rfl
  obtain ⟨p, wa, ws, i, rfl, cur, hl, qn, qs⟩ := h
  refine ⟨_, (pss_cons (ps_set (i := 1) sc_Cursor_compared.nd rfl (Or.inl rfl) (pe_mthX0 D_Cursor_term K_Cursor (pv 0) (hr.mono (by decide)) (passX (takes_of rfl rfl rfl rfl))))
    (pss_cons (ps_for (passes_of rfl) rfl (pi_tup (pe_tup (pa_cons (pe_tup (pa_cons pe_str (pa_cons pe_str pa_nil))) (pa_cons (pe_tup (pa_cons pe_str (pa_cons pe_str pa_nil))) (pa_cons (pe_tup (pa_cons pe_str (pa_cons pe_str pa_nil))) pa_nil))))) (pg_tup rfl (pgs_cons (pg_name (i := 2) sc_Cursor_compared.nd rfl (Or.inl rfl)) (pgs_cons (pg_name (i := 3) sc_Cursor_compared.nd rfl (Or.inl rfl)) pgs_nil)))
    (pss_one (ps_if (pt_val (pe_mth D_Cursor_sees K_Cursor (pv 0) (hr.mono (by decide)) (pa_cons (pv 2) pa_nil)))
      (pss_cons (ps_expr (pe_mthX D_Cursor_take K_Cursor (pv 0) (hr.mono (by decide)) (passX (takes_of rfl rfl rfl rfl)) (pa_cons (pv 2) pa_nil)))
        (pss_one (ps_ret (pe_tup (pa_cons (pv 3) (pa_cons (pv 1) (pa_cons (pe_mthX0 D_Cursor_term K_Cursor (pv 0) (hr.mono (by decide)) (passX (takes_of rfl rfl rfl rfl))) pa_nil)))))))
      pss_nil)))
    (pss_cons (ps_expr (pe_mthX D_Cursor_take K_Cursor (pv 0) (hr.mono (by decide)) (passX (takes_of rfl rfl rfl rfl)) (pa_cons pe_str pa_nil)))
    (pss_cons (ps_set (i := 4) sc_Cursor_compared.nd rfl (Or.inl rfl) (pe_mthX0 D_Cursor_term K_Cursor (pv 0) (hr.mono (by decide)) (passX (takes_of rfl rfl rfl rfl))))
    (pss_cons (ps_if (pt_val (pe_mth D_Cursor_sees K_Cursor (pv 0) (hr.mono (by decide)) (pa_cons pe_str pa_nil)))
    (pss_cons (ps_expr (pe_mthX D_Cursor_take K_Cursor (pv 0) (hr.mono (by decide)) (passX (takes_of rfl rfl rfl rfl)) (pa_cons pe_str pa_nil)))
      (pss_one (ps_ret (pe_tup (pa_cons pe_str (pa_cons (pv 1) (pa_cons (pv 4) (pa_cons (pe_mthX0 D_Cursor_number K_Cursor (pv 0) (hr.mono (by decide)) (passX (takes_of rfl rfl rfl rfl))) pa_nil))))))))
    pss_nil)
    (pss_cons (ps_expr (pe_mthX D_Cursor_take K_Cursor (pv 0) (hr.mono (by decide)) (passX (takes_of rfl rfl rfl rfl)) (pa_cons pe_str pa_nil)))
    (pss_one (ps_ret (pe_tup (pa_cons pe_str (pa_cons (pv 1) (pa_cons (pv 4) (pa_cons (pe_un un_neg (pe_mthX0 D_Cursor_number K_Cursor (pv 0) (hr.mono (by decide)) (passX (takes_of rfl rfl rfl rfl)))) pa_nil))))))))))))), ?_⟩
  refine rd_parse rfl cur hl (by decide +kernel) (by decide +kernel) (fun z H' b => qn (by unfold compared; rw [z]) H' b) (fun a j z x G1 b1 c1 hx => ?_)
  have cmp : compared ws i = (match prs.find? fun s => sees ws j s.1 with
    | some s => (term ws (j + 1)).map fun r => (.tup [.str s.2, a, r.1], r.2)
    | none =>
      if sees ws j s_is then (match term ws (j + 1) with
        | none => none
        | some (b, k) => if sees ws k s_plus then (number ws (k + 1)).map fun r => (.tup [.str s_sum, a, b, .int r.1], r.2)
          else if sees ws k s_minus then (number ws (k + 1)).map fun r => (.tup [.str s_sum, a, b, .int (-r.1)], r.2) else none)
      else none) := by
    unfold compared
    rw [z]
    try rfl
  refine ⟨(by show 2 ≤ sizeLine; decide), fun t1 n2 => ?_⟩
  generalize hN2 : L2.upd G1 t1 _ = G2
  have s2 := new_of n2 hN2
  have e2 := at_of hN2
  try dsimp only at e2
  clear hN2
  refine ⟨(by show 2 ≤ sizeLine; decide), fun t2 n3 => ?_⟩
  generalize hN3 : L2.upd G2 t2 _ = G3
  have s3 := new_of n3 hN3
  have e3 := at_of hN3
  try dsimp only at e3
  clear hN3
  refine ⟨(by show 2 ≤ sizeLine; decide), fun t3 n4 => ?_⟩
  generalize hN4 : L2.upd G3 t3 _ = G4
  have s4 := new_of n4 hN4
  have e4 := at_of hN4
  try dsimp only at e4
  clear hN4
  refine ⟨(by show 3 ≤ sizeLine; decide), fun t4 n5 => ?_⟩
  generalize hN5 : L2.upd G4 t4 _ = G5
  have s5 := new_of n5 hN5
  have e5 := at_of hN5
  try dsimp only at e5
  clear hN5
  have pairs : ∀ (i : Nat) (y : V), ([.ref t1, .ref t2, .ref t3] : List V)[i]? = some y → ∃ s t, prs[i]? = some s ∧ y = .ref t ∧ G5 t = some (.tup [.str (tx s.1), .str (tx s.2)]) ∧ ∀ c ∈ s.1, c < 128 := fun i y hy => by
    match i, hy with
    | 0, hy =>
      obtain rfl := Option.some.inj hy
      refine ⟨_, t1, rfl, rfl, ?_, by decide⟩
      have : G5 t1 = some (.tup [.str (Str.ofString "="), .str (Str.ofString "same")]) := by nofun
      rw [this, show Str.ofString "=" = tx s_eq by decide +kernel, show Str.ofString "same" = tx s_same by decide +kernel]
    | 1, hy =>
      obtain rfl := Option.some.inj hy
      refine ⟨_, t2, rfl, rfl, ?_, by decide⟩
      have : G5 t2 = some (.tup [.str (Str.ofString "!="), .str (Str.ofString "other")]) := by nofun
      rw [this, show Str.ofString "!=" = tx s_neq by decide +kernel, show Str.ofString "other" = tx s_other by decide +kernel]
    | 2, hy =>
      obtain rfl := Option.some.inj hy
      refine ⟨_, t3, rfl, rfl, ?_, by decide⟩
      have : G5 t3 = some (.tup [.str (Str.ofString "<"), .str (Str.ofString "less")]) := by nofun
      rw [this, show Str.ofString "<" = tx s_lt by decide +kernel, show Str.ofString "less" = tx s_less by decide +kernel]
    | n + 3, hy => cases hy
  have s15 := s2.trans (s3.trans (s4.trans s5))
  have c5 := c1.same s15
  have hx5 := hx.same s15
  have b5 := b1.trans (Same.but s15)
  clear s2 s3 s4 s15 e2 e3 e4
  refine ⟨t4, rfl, ⟨_, SqT.of e5⟩, for_tup (K := K) (a := t4) (xs := [.ref t1, .ref t2, .ref t3]) (fun i σ G => ∃ x2 x3, σ = [some (.ref p), some x, x2, x3, none] ∧ Same G5 G ∧ ∀ s ∈ prs.take i, sees ws j s.1 = false) ⟨none, none, rfl, Same.refl _, fun s hs => by cases hs⟩ (fun _ _ _ _ ⟨_, _, _, s, _⟩ => SqT.of (s _ _ e5)) ?_ ?_⟩
  · rintro i' y σ G hy ⟨x2, x3, rfl, sg, no⟩
    obtain ⟨s, t, hs, rfl, et, low⟩ := pairs i' y hy
    refine ⟨t, _, rfl, SqT.of (sg _ _ et), rfl, _, _, rfl, _, _, rfl, rfl, ?_⟩
    refine rd_seesV rfl (c5.same sg) s.1 rfl low fun G6 s6 => ⟨_, rfl, ?_⟩
    have sg6 := sg.trans s6
    by_cases g : sees ws j s.1 = true
    case neg =>
      refine ifV (b := false) (Bool.eq_false_iff.mpr g) ⟨_, _, rfl, sg6, fun u hu => ?_⟩
      rw [List.take_add_one, hs] at hu
      rcases List.mem_append.mp hu with hu | hu
      · exact no u hu
      · rw [List.mem_singleton.mp hu]
        exact Bool.eq_false_iff.mpr g
    rw [find_prs hs no g] at cmp
    dsimp only at cmp
    refine ifV (b := true) g (rd_take1V rfl (c5.same sg6) hl s.1 rfl low g fun G7 b7 c7 => ?_)
    refine ⟨_, rfl, _, rfl, rd_parse rfl c7 hl (by decide +kernel) (by decide +kernel) (fun z2 H' b => qn (by rw [cmp, z2]; rfl) H' (((b5.trans (Same.but sg6)).trans b7).trans b)) (fun b k z2 y2 G8 b8 c8 hy2 => ?_)⟩
    refine ⟨(by show 3 ≤ sizeLine; decide), fun t5 n9 => ?_⟩
    generalize hN9 : L2.upd G8 t5 _ = G9
    have s9 := new_of n9 hN9
    have e9 := at_of hN9
    try dsimp only at e9
    clear hN9
    refine qs (.tup [.str s.2, a, b]) k (by rw [cmp, z2]; rfl) _ G9 ((((b5.trans (Same.but sg6)).trans b7).trans b8).trans (Same.but s9)) (c8.same s9) ⟨t5, _, rfl, e9, twS rfl, ?_, hy2.same s9, trivial⟩
    exact (c7.tw ((c5.same sg6).tw (hx5.same sg6) b7) b8).same s9
  rintro σ G ⟨x2, x3, rfl, sg, no⟩
  have nof : prs.find? (fun s => sees ws j s.1) = none := List.find?_eq_none.mpr fun s hs => by rw [no s hs]; exact Bool.false_ne_true
  rw [nof] at cmp
  dsimp only at cmp
  refine rd_take rfl (c5.same sg) hl s_is (by decide +kernel) (by decide) (fun g H' b => qn (by rw [cmp, if_neg (by rw [g]; exact Bool.false_ne_true)]) H' ((b5.trans (Same.but sg)).trans b)) fun g G6 b6 c6 => ?_
  rw [if_pos g] at cmp
  have hx6 := (c5.same sg).tw (hx5.same sg) b6
  have b06 := (b5.trans (Same.but sg)).trans b6
  refine rd_parse rfl c6 hl (by decide +kernel) (by decide +kernel) (fun z2 H' b => qn (by rw [cmp, z2]) H' (b06.trans b)) (fun b k z2 y2 G7 b7 c7 hy2 => ?_)
  rw [z2] at cmp
  dsimp only at cmp
  have hx7 := c6.tw hx6 b7
  have b07 := b06.trans b7
  refine rd_sees rfl c7 s_plus (by decide +kernel) (by decide) fun G8 s8 => ⟨_, rfl, ?_⟩
  have c8 := c7.same s8
  have b08 := b07.trans (Same.but s8)
  by_cases gp : sees ws k s_plus = true
  · rw [if_pos gp] at cmp
    refine ifV (b := true) gp (rd_take1 rfl c8 hl s_plus (by decide +kernel) (by decide) gp fun G9 b9 c9 => ?_)
    refine ⟨_, rfl, _, rfl, rd_parse rfl c9 hl (by decide +kernel) (by decide +kernel) (fun z3 H' b => qn (by rw [cmp, z3]; rfl) H' ((b08.trans b9).trans b)) (fun n l z3 y3 G10 b10 c10 hy3 => ?_)⟩
    refine ⟨(by show 4 ≤ sizeLine; decide), fun t5 n11 => ?_⟩
    generalize hN11 : L2.upd G10 t5 _ = G11
    have s11 := new_of n11 hN11
    have e11 := at_of hN11
    try dsimp only at e11
    clear hN11
    refine qs (.tup [.str s_sum, a, b, .int n]) l (by rw [cmp, z3]; rfl) _ G11 (((b08.trans b9).trans b10).trans (Same.but s11)) (c10.same s11) ⟨t5, _, rfl, e11, twS (by decide +kernel), ?_, ?_, hy3, trivial⟩
    · exact (c9.tw (c8.tw (hx7.same s8) b9) b10).same s11
    · exact (c9.tw (c8.tw (hy2.same s8) b9) b10).same s11
  rw [if_neg gp] at cmp
  refine ifV (b := false) (Bool.eq_false_iff.mpr gp) (rd_take rfl c8 hl s_minus (by decide +kernel) (by decide) (fun g H' b => qn (by rw [cmp, if_neg (by rw [g]; exact Bool.false_ne_true)]) H' (b08.trans b)) fun g G9 b9 c9 => ?_)
  rw [if_pos g] at cmp
  refine ⟨_, rfl, _, rfl, rd_parse rfl c9 hl (by decide +kernel) (by decide +kernel) (fun z3 H' b => qn (by rw [cmp, z3]; rfl) H' ((b08.trans b9).trans b)) (fun n l z3 y3 G10 b10 c10 hy3 => ?_)⟩
  subst hy3
  refine ⟨_, rfl, (by show 4 ≤ sizeLine; decide), fun t5 n11 => ?_⟩
  generalize hN11 : L2.upd G10 t5 _ = G11
  have s11 := new_of n11 hN11
  have e11 := at_of hN11
  try dsimp only at e11
  clear hN11
  refine qs (.tup [.str s_sum, a, b, .int (-n)]) l (by rw [cmp, z3]; rfl) _ G11 (((b08.trans b9).trans b10).trans (Same.but s11)) (c10.same s11) ⟨t5, _, rfl, e11, twS (by decide +kernel), ?_, ?_, rfl, trivial⟩
  · exact (c9.tw (c8.tw (hx7.same s8) b9) b10).same s11
  · exact (c9.tw (c8.tw (hy2.same s8) b9) b10).same s11
theorem ok_literal (T : MTop K C "literal" "Cursor.literal" st_Cursor_literal ["self"]) (K_Cursor : Kls K mg "Cursor" C cus) (D_Cursor_term : MthX P w K mg base 3 C "term" ["self"] (spParse C CE [] term TW)) (D_Cursor_peek : Mth P w K mg base 1 C "peek" ["self", "further"] (spPeek C)) (D_Cursor_atom : MthX P w K mg base 5 C "atom" ["self"] (spParse C CE [] atom TW)) (D_Cursor_compared : MthX P w K mg base 4 C "compared" ["self"] (spParse C CE [] compared TW)) (D_Cursor_sees : Mth P w K mg base 2 C "sees" ["self", "text"] (spSees C)) (D_Cursor_take : MthX P w K mg base 3 C "take" ["self", "text"] (spTake C CE)) : MthX P w K mg base 6 C "literal" ["self"] (spParse C CE [] literal TW) := by
  refine T.okX sc_Cursor_literal (fun vs H Q E h => ?_) (fun f cdv A outer s H vs Q E hr h => ?_)
  · obtain ⟨p, wa, ws, i, rfl, _⟩ := h
    rfl
  obtain ⟨p, wa, ws, i, rfl, cur, hl, qn, qs⟩ := h
  refine ⟨_, (pss_cons (ps_if (pt_val (pe_mth D_Cursor_sees K_Cursor (pv 0) (hr.mono (by decide)) (pa_cons pe_str pa_nil)))
    (pss_cons (ps_expr (pe_mthX D_Cursor_take K_Cursor (pv 0) (hr.mono (by decide)) (passX (takes_of rfl rfl rfl rfl)) (pa_cons pe_str pa_nil)))
      (pss_one (ps_ret (pe_tup (pa_cons pe_str (pa_cons (pe_mthX0 D_Cursor_atom K_Cursor (pv 0) (hr.mono (by decide)) (passX (takes_of rfl rfl rfl rfl))) pa_nil))))))
    pss_nil)
    (pss_cons (ps_if (pt_val (pe_mth D_Cursor_sees K_Cursor (pv 0) (hr.mono (by decide)) (pa_cons pe_str pa_nil)))
    (pss_cons (ps_expr (pe_mthX D_Cursor_take K_Cursor (pv 0) (hr.mono (by decide)) (passX (takes_of rfl rfl rfl rfl)) (pa_cons pe_str pa_nil)))
      (pss_cons (ps_expr (pe_mthX D_Cursor_take K_Cursor (pv 0) (hr.mono (by decide)) (passX (takes_of rfl rfl rfl rfl)) (pa_cons pe_str pa_nil)))
      (pss_cons (ps_set (i := 1) sc_Cursor_literal.nd rfl (Or.inl rfl) (pe_mthX0 D_Cursor_term K_Cursor (pv 0) (hr.mono (by decide)) (passX (takes_of rfl rfl rfl rfl))))
      (pss_cons (ps_expr (pe_mthX D_Cursor_take K_Cursor (pv 0) (hr.mono (by decide)) (passX (takes_of rfl rfl rfl rfl)) (pa_cons pe_str pa_nil)))
      (pss_one (ps_ret (pe_tup (pa_cons pe_str (pa_cons (pv 1) pa_nil)))))))))
    pss_nil)
    (pss_cons (ps_if (PW.pt (pw_and (pt_cmpR op_eq (pe_ix (ixT K) (pe_mth D_Cursor_peek K_Cursor (pv 0) (hr.mono (by decide)) (pa_cons pe_int pa_nil)) pe_int (fun _ _ => rfl)) pe_str (nomark _)) (pw_and1 (pt_cmpR (ninQ K) (pe_ix (ixT K) (pe_mth D_Cursor_peek K_Cursor (pv 0) (hr.mono (by decide)) (pa_cons pe_int pa_nil)) pe_int (fun _ _ => rfl)) (pe_tup (pa_cons pe_str (pa_cons pe_str (pa_cons pe_str (pa_cons pe_str pa_nil))))) (by with_unfolding_all rfl)))))
    (pss_one (ps_ret (pe_tup (pa_cons pe_str (pa_cons (pe_mthX0 D_Cursor_atom K_Cursor (pv 0) (hr.mono (by decide)) (passX (takes_of rfl rfl rfl rfl))) pa_nil)))))
    pss_nil)
    (pss_one (ps_ret (pe_mthX0 D_Cursor_compared K_Cursor (pv 0) (hr.mono (by decide)) (passX (takes_of rfl rfl rfl rfl)))))))), ?_⟩
  refine rd_sees rfl cur s_not (by decide +kernel) (by decide) fun G1 s1 => ⟨_, rfl, ?_⟩
  have c1 := cur.same s1
  by_cases g1 : sees ws i s_not = true
  · have lit : literal ws i = (atom ws (i + 1)).map fun r => (.tup [.str s_no, r.1], r.2) := by unfold literal; exact if_pos g1
    refine ifV (b := true) g1 (rd_take1 rfl c1 hl s_not (by decide +kernel) (by decide) g1 fun G2 b2 c2 => ?_)
    have b02 := (Same.but s1).trans b2
    refine rd_parse rfl c2 hl (by decide +kernel) (by decide +kernel) (fun z H' b => qn (by rw [lit, z]; rfl) H' (b02.trans b)) (fun a j z x G3 b3 c3 hx => ?_)
    refine ⟨(by show 2 ≤ sizeLine; decide), fun t n4 => ?_⟩
    generalize hN4 : L2.upd G3 t _ = G4
    have s4 := new_of n4 hN4
    have e4 := at_of hN4
    try dsimp only at e4
    clear hN4
    exact qs (.tup [.str s_no, a]) j (by rw [lit, z]; rfl) _ G4 ((b02.trans b3).trans (Same.but s4)) (c3.same s4) ⟨t, _, rfl, e4, twS (by decide +kernel), hx.same s4, trivial⟩
  refine ifV (b := false) (Bool.eq_false_iff.mpr g1) (rd_sees rfl c1 s_mover (by decide +kernel) (by decide) fun G2 s2 => ⟨_, rfl, ?_⟩)
  have c2 := c1.same s2
  have b02 : But p H G2 := Same.but (s1.trans s2)
  by_cases g2 : sees ws i s_mover = true
  · have lit : literal ws i = if sees ws (i + 1) s_lpar then (match term ws (i + 2) with
      | none => none
      | some (t, j) => if sees ws j s_rpar then some (.tup [.str s_mover, t], j + 1) else none) else none := by unfold literal; rw [if_neg g1]; exact if_pos g2
    refine ifV (b := true) g2 (rd_take1 rfl c2 hl s_mover (by decide +kernel) (by decide) g2 fun G3 b3 c3 => ?_)
    refine rd_take rfl c3 hl s_lpar (by decide +kernel) (by decide) (fun g H' b => qn (by rw [lit, if_neg (by rw [g]; exact Bool.false_ne_true)]) H' ((b02.trans b3).trans b)) fun g G4 b4 c4 => ?_
    rw [if_pos g] at lit
    have b04 := (b02.trans b3).trans b4
    refine rd_parse rfl c4 hl (by decide +kernel) (by decide +kernel) (fun z H' b => qn (by rw [lit, z]) H' (b04.trans b)) (fun a j z x G5 b5 c5 hx => ?_)
    rw [z] at lit
    dsimp only at lit
    refine rd_take rfl c5 hl s_rpar (by decide +kernel) (by decide) (fun g H' b => qn (by rw [lit, if_neg (by rw [g]; exact Bool.false_ne_true)]) H' ((b04.trans b5).trans b)) fun g G6 b6 c6 => ?_
    rw [if_pos g] at lit
    refine ⟨_, rfl, (by show 2 ≤ sizeLine; decide), fun t n7 => ?_⟩
    generalize hN7 : L2.upd G6 t _ = G7
    have s7 := new_of n7 hN7
    have e7 := at_of hN7
    try dsimp only at e7
    clear hN7
    exact qs (.tup [.str s_mover, a]) (j + 1) lit _ G7 (((b04.trans b5).trans b6).trans (Same.but s7)) (c6.same s7) ⟨t, _, rfl, e7, twS (by decide +kernel), (c5.tw hx b6).same s7, trivial⟩
  have lit : literal ws i = if (peek ws i).1 = .name ∧ (peek ws (i + 1)).2 ∉ [s_eq, s_neq, s_lt, s_is] then (atom ws i).map fun r => (.tup [.str s_yes, r.1], r.2) else compared ws i := by
    unfold literal
    rw [if_neg g1, if_neg g2]
  refine ifV (b := false) (Bool.eq_false_iff.mpr g2) (rd_peek (k := 0) rfl c2 fun t3 G3 s3 e3 => ⟨t3, _, _, _, rfl, rfl, SqT.of e3, rfl, rfl, _, rfl, ?_⟩)
  have c3 := c2.same s3
  have b03 := b02.trans (Same.but s3)
  rw [Nat.add_zero, show (V.str (Str.ofString "name")) = V.str (kdS .name) from rfl, kd_eq]
  by_cases kn : (peek ws i).1 = .name
  case neg =>
    rw [if_neg (fun z => kn z.1)] at lit
    refine ifND kn (iteF ?_)
    exact rd_parse rfl c3 hl (by decide +kernel) (by decide +kernel) (fun z H' b => qn (by rw [lit, z]) H' (b03.trans b)) (fun a j z x G5 b5 c5 hx => qs a j (by rw [lit, z]) x G5 (b03.trans b5) c5 hx)
  refine ifD kn (rd_peek (k := 1) rfl c3 fun t4 G4 s4 e4 => ⟨t4, _, _, _, rfl, rfl, SqT.of e4, rfl, (by show 4 ≤ sizeLine; decide), fun t5 n5 => ?_⟩)
  generalize hN5 : L2.upd G4 t5 _ = G5
  have s5 := new_of n5 hN5
  have e5 := at_of hN5
  try dsimp only at e5
  clear hN5
  have e5 : G5 t5 = some (.tup ([s_eq, s_neq, s_lt, s_is].map fun s => V.str (tx s))) := by
    rw [e5, show Str.ofString "=" = tx s_eq by decide +kernel, show Str.ofString "!=" = tx s_neq by decide +kernel, show Str.ofString "<" = tx s_lt by decide +kernel, show Str.ofString "is" = tx s_is by decide +kernel]
    rfl
  have c5 := c3.same (s4.trans s5)
  have b05 := b03.trans (Same.but (s4.trans s5))
  refine ⟨t5, _, rfl, .inr (SqT.of e5), rfl, flat_tx _, _, rfl, ?_⟩
  rw [if_pos rfl, inV_tx]
  by_cases nm : (peek ws (i + 1)).2 ∈ [s_eq, s_neq, s_lt, s_is]
  · rw [if_neg (fun z => z.2 nm)] at lit
    refine ifV (b := false) (by rw [decide_eq_true nm]; rfl) ?_
    exact rd_parse rfl c5 hl (by decide +kernel) (by decide +kernel) (fun z H' b => qn (by rw [lit, z]) H' (b05.trans b)) (fun a j z x G6 b6 c6 hx => qs a j (by rw [lit, z]) x G6 (b05.trans b6) c6 hx)
  · rw [if_pos ⟨kn, nm⟩] at lit
    refine ifV (b := true) (by rw [decide_eq_false nm]; rfl) ?_
    refine rd_parse rfl c5 hl (by decide +kernel) (by decide +kernel) (fun z H' b => qn (by rw [lit, z]; rfl) H' (b05.trans b)) (fun a j z x G6 b6 c6 hx => ?_)
    refine ⟨(by show 2 ≤ sizeLine; decide), fun t n7 => ?_⟩
    generalize hN7 : L2.upd G6 t _ = G7
    have s7 := new_of n7 hN7
    have e7 := at_of hN7
    try dsimp only at e7
    clear hN7
    exact qs (.tup [.str s_yes, a]) j (by rw [lit, z]; rfl) _ G7 ((b05.trans b6).trans (Same.but s7)) (c6.same s7) ⟨t, _, rfl, e7, twS (by decide +kernel), hx.same s7, trivial⟩
end
end My
set_option Elab.async false
set_option linter.all false
set_option maxRecDepth 100000
set_option maxHeartbeats 4000000
/-! Statements -/
namespace My
open PySem PySem.Spec PyProof.Rows L2 Wd
local macro_rules
  | `(tactic| nofun) => `(tactic| (apply tup_at; nofun))
local macro_rules
  | `(tactic| nofun) => `(tactic| (apply seq_at; nofun))
local macro_rules
  | `(tactic| nofun) => `(tactic| (apply pool_same; assumption; nofun))
local macro_rules
  | `(tactic| nofun) => `(tactic| (apply but_get; assumption; assumption; nofun))
local macro_rules
  | `(tactic| nofun) => `(tactic| (apply off_get; assumption; assumption; nofun))
local macro_rules
  | `(tactic| nofun) => `(tactic| (apply same_get; assumption; nofun))
local macro_rules
  | `(tactic| nofun) => `(tactic| assumption)
abbrev st_told_by : Stmt := topS 16
theorem sc_told_by : FnScope ["cursor", "name", "word", "term"] ["cursor"] (defScope st_told_by) := ⟨rfl, rfl, rfl, by decide +kernel, rfl, by decide +kernel, by decide +kernel⟩
abbrev st_rule_by : Stmt := topS 17
theorem sc_rule_by : FnScope ["cursor", "head", "word", "fact"] ["cursor"] (defScope st_rule_by) := ⟨rfl, rfl, rfl, by decide +kernel, rfl, by decide +kernel, by decide +kernel⟩
abbrev st_statement_of : Stmt := topS 18
theorem sc_statement_of : FnScope ["words", "cursor", "told"] ["words"] (defScope st_statement_of) := ⟨rfl, rfl, rfl, by decide +kernel, rfl, by decide +kernel, by decide +kernel⟩
theorem map_some {α β : Type} {o : Option α} {f : α → β} {r : β} (h : o.map f = some r) : ∃ a, o = some a ∧ f a = r := by
  cases o with
  | none => cases h
  | some a => exact ⟨a, rfl, Option.some.inj h⟩
theorem number_mono (ws : List Word) (i : Nat) (a : Int) (j : Nat) (h : number ws i = some (a, j)) : i ≤ j := by
  unfold number at h
  split at h
  · cases h; omega
  · cases h
theorem compared_mono : Mono compared := fun ws i a j h => by
  unfold compared at h
  cases e : term ws i with
  | none => rw [e] at h; cases h
  | some r =>
    have h1 := term_mono ws i r.1 r.2 e
    rw [e] at h
    dsimp only at h
    split at h
    · obtain ⟨b, hb, eb⟩ := map_some h
      have := term_mono ws _ b.1 b.2 hb
      cases eb
      omega
    · split at h
      · cases e2 : term ws (r.2 + 1) with
        | none => rw [e2] at h; cases h
        | some r2 =>
          have h2 := term_mono ws _ r2.1 r2.2 e2
          rw [e2] at h
          dsimp only at h
          split at h
          · obtain ⟨b, hb, eb⟩ := map_some h
            have := number_mono ws _ b.1 b.2 hb
            cases eb
            omega
          · split at h
            · obtain ⟨b, hb, eb⟩ := map_some h
              have := number_mono ws _ b.1 b.2 hb
              cases eb
              omega
            · cases h
      · cases h
theorem literal_mono : Mono literal := fun ws i a j h => by
  unfold literal at h
  split at h
  · obtain ⟨b, hb, eb⟩ := map_some h
    have := atom_mono ws _ b.1 b.2 hb
    cases eb
    omega
  · split at h
    · split at h
      · cases e : term ws (i + 2) with
        | none => rw [e] at h; cases h
        | some r =>
          have h1 := term_mono ws _ r.1 r.2 e
          rw [e] at h
          dsimp only at h
          split at h
          · cases h; omega
          · cases h
      · cases h
    · split at h
      · obtain ⟨b, hb, eb⟩ := map_some h
        have := atom_mono ws _ b.1 b.2 hb
        cases eb
        omega
      · exact compared_mono ws i a j h
section
variable {P : Program} {w : World} {K : PySem.W.Frag} {mg : Str → Option Value} {base : Heap} {C CE aK gT gN : Addr} {S : Addr → Option Sp}
theorem ok_body (T : MTop K C "body" "Cursor.body" st_Cursor_body ["self"]) (K_Cursor : Kls K mg "Cursor" C cus) (z_tuple : mg "tuple" = none) (D_Cursor_literal : MthX P w K mg base 6 C "literal" ["self"] (spParse C CE [] literal TW)) (D_Cursor_sees : Mth P w K mg base 2 C "sees" ["self", "text"] (spSees C)) (D_Cursor_take : MthX P w K mg base 3 C "take" ["self", "text"] (spTake C CE)) : MthX P w K mg base 7 C "body" ["self"] (spParse C CE [] body TW) := by
  refine T.okX sc_Cursor_body (fun vs H Q E h => ?_) (fun f cdv A outer s H vs Q E hr h => ?_)
  · obtain ⟨p, wa, ws, i, rfl, _⟩ := h
    rfl
  obtain ⟨p, wa, ws, i, rfl, cur, hl, qn, qs⟩ := h
  refine ⟨_, (pss_cons (ps_if (pt_not (pt_val (pe_mth D_Cursor_sees K_Cursor (pv 0) (hr.mono (by decide)) (pa_cons pe_str pa_nil))))
    (pss_one (ps_ret (pe_tup pa_nil)))
    pss_nil)
    (pss_cons (ps_expr (pe_mthX D_Cursor_take K_Cursor (pv 0) (hr.mono (by decide)) (passX (takes_of rfl rfl rfl rfl)) (pa_cons pe_str pa_nil)))
    (pss_cons (ps_set (i := 1) sc_Cursor_body.nd rfl (Or.inl rfl) (pe_lst (pa_cons (pe_mthX0 D_Cursor_literal K_Cursor (pv 0) (hr.mono (by decide)) (passX (takes_of rfl rfl rfl rfl))) pa_nil)))
    (pss_cons (ps_while (passes_of rfl) (pt_val (pe_mth D_Cursor_sees K_Cursor (pv 0) (hr.mono (by decide)) (pa_cons pe_str pa_nil)))
    (pss_cons (ps_expr (pe_mthX D_Cursor_take K_Cursor (pv 0) (hr.mono (by decide)) (passX (takes_of rfl rfl rfl rfl)) (pa_cons pe_str pa_nil)))
      (pss_one (ps_expr (pe_bm PySem.F.plainAttrs_list PySem.F.slot_list_append PySem.F.type_list_append mt_append (pv 1) (pa_cons (pe_mthX0 D_Cursor_literal K_Cursor (pv 0) (hr.mono (by decide)) (passX (takes_of rfl rfl rfl rfl))) pa_nil))))))
    (pss_one (ps_ret (pe_callTy (tupQ K) rfl z_tuple (by decide +kernel) (pa_cons (pv 1) pa_nil)))))))), ?_⟩
  refine rd_sees rfl cur s_if (by decide +kernel) (by decide) fun G1 s1 => ⟨_, rfl, ?_⟩
  have c1 := cur.same s1
  by_cases g1 : sees ws i s_if = true
  case neg =>
    refine ifV (b := true) (by rw [Bool.eq_false_iff.mpr g1]; rfl) ⟨Nat.zero_le _, fun t n2 => ?_⟩
    generalize hN2 : L2.upd G1 t _ = G2
    have s2 := new_of n2 hN2
    have e2 := at_of hN2
    try dsimp only at e2
    clear hN2
    exact qs (.tup []) i (by unfold body; exact if_neg g1) _ G2 (Same.but (s1.trans s2)) (c1.same s2) ⟨t, [], rfl, e2, trivial⟩
  refine ifV (b := false) (by rw [g1]; rfl) ?_
  refine rd_take1 rfl c1 hl s_if (by decide +kernel) (by decide) g1 fun G2 b2 c2 => ?_
  have b02 : But p H G2 := (Same.but s1).trans b2
  have lst : body ws i = (match literal ws (i + 1) with
    | none => none
    | some (t, j) => (more ws (literal ws) (ws.length + 1) j [t]).map fun r => (.tup r.1, r.2)) := by
    unfold body
    exact if_pos g1
  refine rd_parse rfl c2 hl (by decide +kernel) (by decide +kernel) (fun z H' b => qn (by rw [lst, z]) H' (b02.trans b)) (fun t0 j0 z0 x G3 b3 c3 hx => ?_)
  have b03 := b02.trans b3
  refine ⟨(by show 1 ≤ sizeLine; decide), fun fo n4 => ?_⟩
  generalize hN4 : L2.upd G3 fo _ = G4
  have s4 := new_of n4 hN4
  have e4 := at_of hN4
  try dsimp only at e4
  clear hN4
  have c4 := c3.same s4
  have b04 := b03.trans (Same.but s4)
  have nfw := c3.newW n4
  have nfp := c3.new n4
  have nfH : H fo = none := by
    obtain ⟨_, e, _⟩ := c3.ex
    exact b03.free_of e n4
  rw [z0] at lst
  refine ⟨fun m σ G => ∃ (j f : Nat) (acc : List Tr) (xs : List V), m = ws.length - j ∧ σ = [some (.ref p), some (.ref fo)] ∧ But p H G ∧ CurAt C G p wa ws j ∧ G fo = some (.lst xs) ∧ TWs G xs acc ∧ 1 ≤ f ∧ ws.length < f + j ∧ acc.length + f ≤ ws.length + 2 ∧ more ws (literal ws) f j acc = more ws (literal ws) (ws.length + 1) j0 [t0], ⟨_, j0, ws.length + 1, [t0], [x], rfl, rfl, b04, c4, e4, ⟨hx.same s4, trivial⟩, by omega, by omega, (by show 1 + _ ≤ _; omega), rfl⟩, ?_⟩
  rintro m σ G ⟨j, f, acc, xs, rfl, rfl, bG, cG, eG, hxs, hf1, hf, lacc, hmore⟩
  refine rd_sees rfl cG s_comma (by decide +kernel) (by decide) fun G5 s5 => ⟨_, rfl, ?_⟩
  have c5 := cG.same s5
  have b5 := bG.trans (Same.but s5)
  have lxs := hxs.len
  obtain ⟨f', rfl⟩ : ∃ f', f = f' + 1 := ⟨f - 1, by omega⟩
  by_cases g2 : sees ws j s_comma = true
  · have jl := sees_lt g2
    refine ifV (b := true) g2 (iteT ⟨fun σ' G' => ∃ m', m' < ws.length - j ∧ _, fun σ' G' w => w, ?_⟩)
    refine rd_take1 rfl c5 hl s_comma (by decide +kernel) (by decide) g2 fun G6 b6 c6 => ?_
    have e5 := s5 _ _ eG
    have e6 := c5.lst e5 b6
    have x6 := c5.tws (hxs.same s5) b6
    have b06 := b5.trans b6
    have step : more ws (literal ws) (f' + 1) j acc = (match literal ws (j + 1) with
      | none => none
      | some (t, k) => more ws (literal ws) f' k (acc ++ [t])) := by
      rw [more]
      exact if_pos g2
    rw [step] at hmore
    refine ⟨.ref fo, rfl, .inl ⟨rfl, _, SqL.of e6⟩, rd_parse rfl c6 hl (by decide +kernel) (by decide +kernel) (fun z H' b => ?_) (fun t1 j1 z1 x1 G7 b7 c7 hx1 => ?_)⟩
    · rw [z] at hmore
      have hmore : none = more ws (literal ws) (ws.length + 1) j0 [t0] := hmore
      refine qn ?_ H' (b06.trans b)
      rw [lst]
      dsimp only
      rw [← hmore]
      rfl
    have e7 := c6.lst e6 b7
    have x7 := c6.tws x6 b7
    have j1l := literal_mono ws (j + 1) t1 j1 z1
    rw [z1] at hmore
    refine ⟨fo, xs, x1, rfl, rfl, e7, by rw [lxs]; exact sq_len (by omega), ws.length - j1, by omega, j1, f', acc ++ [t1], xs ++ [x1], rfl, rfl, (b06.trans b7).mut nfH, c7.put nfw e7, upd_same, (TWs.snoc hx1 x7).list e7, by omega, by omega, by rw [List.length_append]; show _ + 1 + _ ≤ _; omega, hmore⟩
  refine ifV (b := false) (Bool.eq_false_iff.mpr g2) (iteF ?_)
  have fin : more ws (literal ws) (f' + 1) j acc = some (acc, j) := by
    rw [more]
    exact if_neg g2
  rw [fin] at hmore
  dsimp only at lst
  rw [← hmore] at lst
  refine ⟨.ref fo, rfl, fo, _, rfl, .inl ⟨SqL.of (s5 _ _ eG), fun t n7 => ?_⟩⟩
  generalize hN7 : L2.upd G5 t _ = G7
  have s7 := new_of n7 hN7
  have e7 := at_of hN7
  try dsimp only at e7
  clear hN7
  exact qs (.tup acc) j lst _ G7 (b5.trans (Same.but s7)) (c5.same s7) ⟨t, xs, rfl, e7, (hxs.same s5).same s7⟩
theorem ok_constants (T : MTop K C "constants" "Cursor.constants" st_Cursor_constants ["self"]) (K_Cursor : Kls K mg "Cursor" C cus) (z_tuple : mg "tuple" = none) (z_len : mg "len" = none) (D_Cursor_peek : Mth P w K mg base 1 C "peek" ["self", "further"] (spPeek C)) (D_Cursor_name : MthX P w K mg base 2 C "name" ["self"] (spParse C CE [] name TW)) (D_Cursor_number : MthX P w K mg base 2 C "number" ["self"] (spParse C CE [] number fun _ x a => x = .int a)) (D_Cursor_take : MthX P w K mg base 3 C "take" ["self", "text"] (spTake C CE)) : MthX P w K mg base 4 C "constants" ["self"] (spParse C CE [] constants TW) := by
  refine T.okX sc_Cursor_constants (fun vs H Q E h => ?_) (fun f cdv A outer s H vs Q E hr h => ?_)
  · obtain ⟨p, wa, ws, i, rfl, _⟩ := h
    rfl
  obtain ⟨p, wa, ws, i, rfl, cur, hl, qn, qs⟩ := h
  refine ⟨_, (pss_cons (ps_if (pt_cmpR op_eq (pe_ix (ixT K) (pe_mth D_Cursor_peek K_Cursor (pv 0) (hr.mono (by decide)) (pa_cons pe_int pa_nil)) pe_int (fun _ _ => rfl)) pe_str (nomark _))
    (pss_cons (ps_set (i := 1) sc_Cursor_constants.nd rfl (Or.inl rfl) (pe_mthX0 D_Cursor_number K_Cursor (pv 0) (hr.mono (by decide)) (passX (takes_of rfl rfl rfl rfl))))
      (pss_cons (ps_expr (pe_mthX D_Cursor_take K_Cursor (pv 0) (hr.mono (by decide)) (passX (takes_of rfl rfl rfl rfl)) (pa_cons pe_str pa_nil)))
      (pss_one (ps_ret (pe_tup (pa_cons pe_str (pa_cons (pv 1) (pa_cons (pe_mthX0 D_Cursor_number K_Cursor (pv 0) (hr.mono (by decide)) (passX (takes_of rfl rfl rfl rfl))) pa_nil))))))))
    pss_nil)
    (pss_cons (ps_set (i := 2) sc_Cursor_constants.nd rfl (Or.inl rfl) (pe_lst (pa_cons (pe_mthX0 D_Cursor_name K_Cursor (pv 0) (hr.mono (by decide)) (passX (takes_of rfl rfl rfl rfl))) pa_nil)))
    (pss_cons (ps_while (passes_of rfl) (pt_cmpR op_lt (pe_fld (pv 0) rfl) (pe_callB (lenQ K) rfl z_len (by decide +kernel) (pa_cons (pe_fld (pv 0) rfl) pa_nil)) (nomark _))
    (pss_one (ps_expr (pe_bm PySem.F.plainAttrs_list PySem.F.slot_list_append PySem.F.type_list_append mt_append (pv 2) (pa_cons (pe_mthX0 D_Cursor_name K_Cursor (pv 0) (hr.mono (by decide)) (passX (takes_of rfl rfl rfl rfl))) pa_nil)))))
    (pss_one (ps_ret (pe_tup (pa_cons pe_str (pa_cons (pe_callTy (tupQ K) rfl z_tuple (by decide +kernel) (pa_cons (pv 2) pa_nil)) pa_nil)))))))), ?_⟩
  refine rd_peek (k := 0) rfl cur fun t3 G1 s1 e3 => ⟨t3, _, _, _, rfl, rfl, SqT.of e3, rfl, rfl, _, rfl, ?_⟩
  have c1 := cur.same s1
  have b01 : But p H G1 := Same.but s1
  rw [Nat.add_zero, show (V.str (Str.ofString "number")) = V.str (kdS .num) from rfl, kd_eq]
  have nA := K_Cursor.no "at" (by simp)
  have nW := K_Cursor.no "words" (by simp)
  by_cases kn : (peek ws i).1 = .num
  · have lit : constants ws i = (match number ws i with
      | none => none
      | some (a, j) => if sees ws j s_dots then (number ws (j + 1)).map fun r => (.tup [.str s_range, .int a, .int r.1], r.2) else none) := by unfold constants; exact if_pos kn
    refine ifD kn (rd_parse rfl c1 hl (by decide +kernel) (by decide +kernel) (fun z H' b => qn (by rw [lit, z]) H' (b01.trans b)) (fun a j z x G2 b2 c2 hx => ?_))
    rw [z] at lit
    dsimp only at lit
    subst hx
    refine rd_take rfl c2 hl s_dots (by decide +kernel) (by decide) (fun g H' b => qn (by rw [lit, if_neg (by rw [g]; exact Bool.false_ne_true)]) H' ((b01.trans b2).trans b)) fun g G3 b3 c3 => ?_
    rw [if_pos g] at lit
    have b03 := (b01.trans b2).trans b3
    refine ⟨_, rfl, rd_parse rfl c3 hl (by decide +kernel) (by decide +kernel) (fun z2 H' b => qn (by rw [lit, z2]; rfl) H' (b03.trans b)) (fun a2 k z2 y G4 b4 c4 hy => ?_)⟩
    subst hy
    refine ⟨(by show 3 ≤ sizeLine; decide), fun t n5 => ?_⟩
    generalize hN5 : L2.upd G4 t _ = G5
    have s5 := new_of n5 hN5
    have e5 := at_of hN5
    try dsimp only at e5
    clear hN5
    exact qs (.tup [.str s_range, .int a, .int a2]) k (by rw [lit, z2]; rfl) _ G5 ((b03.trans b4).trans (Same.but s5)) (c4.same s5) ⟨t, _, rfl, e5, twS (by decide +kernel), rfl, rfl, trivial⟩
  have lit : constants ws i = (match name ws i with
      | none => none
      | some (n, j) => (moreNames ws (ws.length + 1) j [n]).map fun r => (.tup [.str s_names, .tup r.1], r.2)) := by unfold constants; exact if_neg kn
  refine ifND kn (rd_parse rfl c1 hl (by decide +kernel) (by decide +kernel) (fun z H' b => qn (by rw [lit, z]) H' (b01.trans b)) (fun t0 j0 z0 x G3 b3 c3 hx => ?_))
  have b03 := b01.trans b3
  refine ⟨(by show 1 ≤ sizeLine; decide), fun fo n4 => ?_⟩
  generalize hN4 : L2.upd G3 fo _ = G4
  have s4 := new_of n4 hN4
  have e4 := at_of hN4
  try dsimp only at e4
  clear hN4
  have c4 := c3.same s4
  have b04 := b03.trans (Same.but s4)
  have nfw := c3.newW n4
  have nfp := c3.new n4
  have nfH : H fo = none := by
    obtain ⟨_, e, _⟩ := c3.ex
    exact b03.free_of e n4
  rw [z0] at lit
  dsimp only at lit
  refine ⟨fun m σ G => ∃ (j f : Nat) (acc : List Tr) (xs : List V), m = ws.length - j ∧ σ = [some (.ref p), none, some (.ref fo)] ∧ But p H G ∧ CurAt C G p wa ws j ∧ G fo = some (.lst xs) ∧ TWs G xs acc ∧ 1 ≤ f ∧ ws.length < f + j ∧ acc.length + f ≤ ws.length + 2 ∧ moreNames ws f j acc = moreNames ws (ws.length + 1) j0 [t0], ⟨_, j0, ws.length + 1, [t0], [x], rfl, rfl, b04, c4, e4, ⟨hx.same s4, trivial⟩, by omega, by omega, (by show 1 + _ ≤ _; omega), rfl⟩, ?_⟩
  rintro m σ G ⟨j, f, acc, xs, rfl, rfl, bG, cG, eG, hxs, hf1, hf, lacc, hmore⟩
  obtain ⟨dx, hp, zs, hz, pz⟩ := cG.ex
  have lz := pz.1
  have lxs := hxs.len
  refine ⟨.ref p, rfl, p, C, dx, _, _, rfl, hp, K_Cursor.cl, nA, cu_at _ _, .ref p, rfl, p, C, dx, _, _, rfl, hp, K_Cursor.cl, nW, cu_words _ _, wa, _, rfl, .inl (SqL.of hz), _, _, rfl, rfl, _, rfl, ?_⟩
  obtain ⟨f', rfl⟩ : ∃ f', f = f' + 1 := ⟨f - 1, by omega⟩
  by_cases jl : j < ws.length
  · refine ifD (by omega) ⟨fun σ' G' => ∃ m', m' < ws.length - j ∧ _, fun σ' G' w => w, ?_⟩
    have step : moreNames ws (f' + 1) j acc = (match name ws j with
      | none => none
      | some (t, k) => moreNames ws f' k (acc ++ [t])) := by
      rw [moreNames]
      exact if_pos jl
    rw [step] at hmore
    refine ⟨.ref fo, rfl, .inl ⟨rfl, _, SqL.of eG⟩, rd_parse rfl cG hl (by decide +kernel) (by decide +kernel) (fun z H' b => ?_) (fun t1 j1 z1 x1 G7 b7 c7 hx1 => ?_)⟩
    · rw [z] at hmore
      have hmore : none = moreNames ws (ws.length + 1) j0 [t0] := hmore
      refine qn ?_ H' (bG.trans b)
      rw [lit, ← hmore]
      rfl
    have e7 := cG.lst eG b7
    have x7 := cG.tws hxs b7
    have j1l : j1 = j + 1 := by
      unfold name at z1
      split at z1
      · cases z1; rfl
      · cases z1
    rw [z1] at hmore
    refine ⟨fo, xs, x1, rfl, rfl, e7, by rw [lxs]; exact sq_len (by omega), ws.length - j1, by omega, j1, f', acc ++ [t1], xs ++ [x1], rfl, rfl, (bG.trans b7).mut nfH, c7.put nfw e7, upd_same, (TWs.snoc hx1 x7).list e7, by omega, by omega, by rw [List.length_append]; show _ + 1 + _ ≤ _; omega, hmore⟩
  refine ifND (by omega) ?_
  have fin : moreNames ws (f' + 1) j acc = some (acc, j) := by
    rw [moreNames]
    exact if_neg jl
  rw [fin] at hmore
  rw [← hmore] at lit
  refine ⟨.ref fo, rfl, fo, _, rfl, .inl ⟨SqL.of eG, fun t n7 => ?_⟩⟩
  generalize hN7 : L2.upd G t _ = G7
  have s7 := new_of n7 hN7
  have e7 := at_of hN7
  try dsimp only at e7
  clear hN7
  refine ⟨(by show 2 ≤ sizeLine; decide), fun t2 n8 => ?_⟩
  generalize hN8 : L2.upd G7 t2 _ = G8
  have s8 := new_of n8 hN8
  have e8 := at_of hN8
  try dsimp only at e8
  clear hN8
  exact qs (.tup [.str s_names, .tup acc]) j lit _ G8 (bG.trans (Same.but (s7.trans s8))) (cG.same (s7.trans s8)) ⟨t2, _, rfl, e8, twS (by decide +kernel), ⟨t, xs, rfl, s8 _ _ e7, (hxs.same s7).same s8⟩, trivial⟩
theorem ok_told_by (T : Top K mg "told_by" st_told_by ["cursor"]) (K_Cursor : Kls K mg "Cursor" C cus) (B_name : BMeth K C "name" gN) (hS : S gN = some (spParse C CE [] name TW)) (D_Cursor_name : MthX P w K mg base 2 C "name" ["self"] (spParse C CE [] name TW)) (D_Cursor_term : MthX P w K mg base 3 C "term" ["self"] (spParse C CE [] term TW)) (D_Cursor_listed : MthX P w K mg base 4 C "listed" ["self", "one"] (spListed C CE S)) (D_Cursor_atom : MthX P w K mg base 5 C "atom" ["self"] (spParse C CE [] atom TW)) (D_Cursor_body : MthX P w K mg base 7 C "body" ["self"] (spParse C CE [] body TW)) (D_Cursor_constants : MthX P w K mg base 4 C "constants" ["self"] (spParse C CE [] constants TW)) (D_Cursor_sees : Mth P w K mg base 2 C "sees" ["self", "text"] (spSees C)) (D_Cursor_take : MthX P w K mg base 3 C "take" ["self", "text"] (spTake C CE)) : DefX P w K mg base 8 "told_by" ["cursor"] (spParse C CE [] toldBy fun H x o => match o with | none => x = .non | some t => TW H x t) := by
  refine T.okX sc_told_by (fun vs H Q E h => ?_) (fun f cdv A outer s H vs Q E hr h => ?_)
  · obtain ⟨p, wa, ws, i, rfl, _⟩ := h
    rfl
  obtain ⟨p, wa, ws, i, rfl, cur, hl, qn, qs⟩ := h
  refine ⟨_, (pss_cons (ps_if (pt_val (pe_mth D_Cursor_sees K_Cursor (pv 0) (hr.mono (by decide)) (pa_cons pe_str pa_nil)))
    (pss_cons (ps_expr (pe_mthX D_Cursor_take K_Cursor (pv 0) (hr.mono (by decide)) (passX (takes_of rfl rfl rfl rfl)) (pa_cons pe_str pa_nil)))
      (pss_one (ps_ret (pe_tup (pa_cons pe_str (pa_cons (pe_mthX0 D_Cursor_name K_Cursor (pv 0) (hr.mono (by decide)) (passX (takes_of rfl rfl rfl rfl))) pa_nil))))))
    pss_nil)
    (pss_cons (ps_if (pt_val (pe_mth D_Cursor_sees K_Cursor (pv 0) (hr.mono (by decide)) (pa_cons pe_str pa_nil)))
    (pss_cons (ps_expr (pe_mthX D_Cursor_take K_Cursor (pv 0) (hr.mono (by decide)) (passX (takes_of rfl rfl rfl rfl)) (pa_cons pe_str pa_nil)))
      (pss_cons (ps_set (i := 1) sc_told_by.nd rfl (Or.inl rfl) (pe_mthX0 D_Cursor_name K_Cursor (pv 0) (hr.mono (by decide)) (passX (takes_of rfl rfl rfl rfl))))
      (pss_cons (ps_expr (pe_mthX D_Cursor_take K_Cursor (pv 0) (hr.mono (by decide)) (passX (takes_of rfl rfl rfl rfl)) (pa_cons pe_str pa_nil)))
      (pss_one (ps_ret (pe_tup (pa_cons pe_str (pa_cons (pv 1) (pa_cons (pe_mthX0 D_Cursor_constants K_Cursor (pv 0) (hr.mono (by decide)) (passX (takes_of rfl rfl rfl rfl))) pa_nil)))))))))
    pss_nil)
    (pss_cons (ps_for (passes_of rfl) rfl (pi_tup (pe_tup (pa_cons pe_str (pa_cons pe_str (pa_cons pe_str pa_nil))))) (pg_name (i := 2) sc_told_by.nd rfl (Or.inl rfl))
    (pss_one (ps_if (pt_val (pe_mth D_Cursor_sees K_Cursor (pv 0) (hr.mono (by decide)) (pa_cons (pv 2) pa_nil)))
      (pss_cons (ps_expr (pe_mthX D_Cursor_take K_Cursor (pv 0) (hr.mono (by decide)) (passX (takes_of rfl rfl rfl rfl)) (pa_cons (pv 2) pa_nil)))
        (pss_cons (ps_set (i := 1) sc_told_by.nd rfl (Or.inl rfl) (pe_mthX0 D_Cursor_name K_Cursor (pv 0) (hr.mono (by decide)) (passX (takes_of rfl rfl rfl rfl))))
        (pss_one (ps_ret (pe_tup (pa_cons (pv 2) (pa_cons (pv 1) (pa_cons (pe_mthX D_Cursor_listed K_Cursor (pv 0) (hr.mono (by decide)) (passX (takes_of rfl rfl rfl rfl)) (pa_cons (pe_bound B_name K_Cursor (pv 0)) pa_nil)) pa_nil))))))))
      pss_nil)))
    (pss_cons (ps_if (pt_val (pe_mth D_Cursor_sees K_Cursor (pv 0) (hr.mono (by decide)) (pa_cons pe_str pa_nil)))
    (pss_cons (ps_expr (pe_mthX D_Cursor_take K_Cursor (pv 0) (hr.mono (by decide)) (passX (takes_of rfl rfl rfl rfl)) (pa_cons pe_str pa_nil)))
      (pss_one (ps_ret (pe_tup (pa_cons pe_str (pa_cons (pe_mthX0 D_Cursor_atom K_Cursor (pv 0) (hr.mono (by decide)) (passX (takes_of rfl rfl rfl rfl))) pa_nil))))))
    pss_nil)
    (pss_cons (ps_if (pt_val (pe_mth D_Cursor_sees K_Cursor (pv 0) (hr.mono (by decide)) (pa_cons pe_str pa_nil)))
    (pss_cons (ps_expr (pe_mthX D_Cursor_take K_Cursor (pv 0) (hr.mono (by decide)) (passX (takes_of rfl rfl rfl rfl)) (pa_cons pe_str pa_nil)))
      (pss_cons (ps_set (i := 3) sc_told_by.nd rfl (Or.inl rfl) (pe_mthX0 D_Cursor_term K_Cursor (pv 0) (hr.mono (by decide)) (passX (takes_of rfl rfl rfl rfl))))
      (pss_one (ps_ret (pe_tup (pa_cons pe_str (pa_cons (pv 3) (pa_cons (pe_mthX0 D_Cursor_body K_Cursor (pv 0) (hr.mono (by decide)) (passX (takes_of rfl rfl rfl rfl))) pa_nil))))))))
    pss_nil)
    (pss_cons (ps_if (pt_val (pe_mth D_Cursor_sees K_Cursor (pv 0) (hr.mono (by decide)) (pa_cons pe_str pa_nil)))
    (pss_cons (ps_expr (pe_mthX D_Cursor_take K_Cursor (pv 0) (hr.mono (by decide)) (passX (takes_of rfl rfl rfl rfl)) (pa_cons pe_str pa_nil)))
      (pss_one (ps_ret (pe_tup (pa_cons pe_str (pa_cons (pe_mthX0 D_Cursor_body K_Cursor (pv 0) (hr.mono (by decide)) (passX (takes_of rfl rfl rfl rfl))) pa_nil))))))
    pss_nil)
    (pss_one (ps_ret pe_non)))))))), ?_⟩
  refine rd_sees rfl cur s_game (by decide +kernel) (by decide) fun G1 s1 => ⟨_, rfl, ?_⟩
  have c1 := cur.same s1
  have b01 : But p H G1 := Same.but s1
  by_cases g1 : sees ws i s_game = true
  · have lit : toldBy ws i = (name ws (i + 1)).map fun r => (some (.tup [.str s_game, r.1]), r.2) := by unfold toldBy; exact if_pos g1
    refine ifV (b := true) g1 (rd_take1 rfl c1 hl s_game (by decide +kernel) (by decide) g1 fun G2 b2 c2 => ?_)
    refine rd_parse rfl c2 hl (by decide +kernel) (by decide +kernel) (fun z H' b => qn (by rw [lit, z]; rfl) H' ((b01.trans b2).trans b)) (fun a j z x G3 b3 c3 hx => ?_)
    refine ⟨(by show 2 ≤ sizeLine; decide), fun t n4 => ?_⟩
    generalize hN4 : L2.upd G3 t _ = G4
    have s4 := new_of n4 hN4
    have e4 := at_of hN4
    try dsimp only at e4
    clear hN4
    exact qs (some (.tup [.str s_game, a])) j (by rw [lit, z]; rfl) _ G4 (((b01.trans b2).trans b3).trans (Same.but s4)) (c3.same s4) ⟨t, _, rfl, e4, twS (by decide +kernel), hx.same s4, trivial⟩
  refine ifV (b := false) (Bool.eq_false_iff.mpr g1) (rd_sees rfl c1 s_kind (by decide +kernel) (by decide) fun G2 s2 => ⟨_, rfl, ?_⟩)
  have c2 := c1.same s2
  have b02 := b01.trans (Same.but s2)
  clear c1 b01 s1 s2
  by_cases g2 : sees ws i s_kind = true
  · have lit : toldBy ws i = (match name ws (i + 1) with
      | none => none
      | some (n, j) => if sees ws j s_eq then (constants ws (j + 1)).map fun r => (some (.tup [.str s_kind, n, r.1]), r.2) else none) := by unfold toldBy; rw [if_neg g1]; exact if_pos g2
    refine ifV (b := true) g2 (rd_take1 rfl c2 hl s_kind (by decide +kernel) (by decide) g2 fun G3 b3 c3 => ?_)
    refine rd_parse rfl c3 hl (by decide +kernel) (by decide +kernel) (fun z H' b => qn (by rw [lit, z]) H' ((b02.trans b3).trans b)) (fun a j z x G4 b4 c4 hx => ?_)
    rw [z] at lit
    dsimp only at lit
    have b04 := (b02.trans b3).trans b4
    refine rd_take rfl c4 hl s_eq (by decide +kernel) (by decide) (fun g H' b => qn (by rw [lit, if_neg (by rw [g]; exact Bool.false_ne_true)]) H' (b04.trans b)) fun g G5 b5 c5 => ?_
    rw [if_pos g] at lit
    refine ⟨_, rfl, rd_parse rfl c5 hl (by decide +kernel) (by decide +kernel) (fun z2 H' b => qn (by rw [lit, z2]; rfl) H' ((b04.trans b5).trans b)) (fun v k z2 y G6 b6 c6 hy => ?_)⟩
    refine ⟨(by show 3 ≤ sizeLine; decide), fun t n7 => ?_⟩
    generalize hN7 : L2.upd G6 t _ = G7
    have s7 := new_of n7 hN7
    have e7 := at_of hN7
    try dsimp only at e7
    clear hN7
    exact qs (some (.tup [.str s_kind, a, v])) k (by rw [lit, z2]; rfl) _ G7 (((b04.trans b5).trans b6).trans (Same.but s7)) (c6.same s7) ⟨t, _, rfl, e7, twS (by decide +kernel), (c5.tw (c4.tw hx b5) b6).same s7, hy.same s7, trivial⟩
  refine ifV (b := false) (Bool.eq_false_iff.mpr g2) ⟨(by show 3 ≤ sizeLine; decide), fun t4 n3 => ?_⟩
  generalize hN3 : L2.upd G2 t4 _ = G3
  have s3 := new_of n3 hN3
  have e3 := at_of hN3
  try dsimp only at e3
  clear hN3
  have e3 : G3 t4 = some (.tup ([s_fact, s_view, s_move].map fun s => V.str (tx s))) := by
    rw [e3, show Str.ofString "fact" = tx s_fact by decide +kernel, show Str.ofString "view" = tx s_view by decide +kernel, show Str.ofString "move" = tx s_move by decide +kernel]
    rfl
  have c3 := c2.same s3
  have b03 := b02.trans (Same.but s3)
  clear c2 b02 s3
  have lit : toldBy ws i = (match [s_fact, s_view, s_move].find? fun w => sees ws i w with
  | some w => (match name ws (i + 1) with
    | none => none
    | some (n, j) => (listed ws (name ws) j).map fun r => (some (.tup [.str w, n, r.1]), r.2))
  | none =>
  if sees ws i s_begin then (atom ws (i + 1)).map fun r => (some (.tup [.str s_begin, r.1]), r.2)
  else if sees ws i s_wins then (match term ws (i + 1) with
    | none => none
    | some (t, j) => (body ws j).map fun r => (some (.tup [.str s_wins, t, r.1]), r.2))
  else if sees ws i s_drawn then (body ws (i + 1)).map fun r => (some (.tup [.str s_drawn, r.1]), r.2)
  else some (none, i)) := by unfold toldBy; rw [if_neg g1, if_neg g2]; try rfl
  refine ⟨t4, rfl, ⟨_, SqT.of e3⟩, for_tup (K := K) (a := t4) (xs := [s_fact, s_view, s_move].map fun s => V.str (tx s)) (fun n σ G => ∃ x2, σ = [some (.ref p), none, x2, none] ∧ Same G3 G ∧ ∀ s ∈ [s_fact, s_view, s_move].take n, sees ws i s = false) ⟨none, rfl, Same.refl _, fun s hs => by cases hs⟩ (fun _ _ _ _ ⟨_, _, s, _⟩ => SqT.of (s _ _ e3)) ?_ ?_⟩
  · rintro n y σ G hy ⟨x2, rfl, sg, no⟩
    obtain ⟨s, hs, rfl⟩ : ∃ s, [s_fact, s_view, s_move][n]? = some s ∧ V.str (tx s) = y := by
      rw [List.getElem?_map] at hy
      cases k : [s_fact, s_view, s_move][n]? with
      | none => rw [k] at hy; cases hy
      | some z => rw [k] at hy; exact ⟨z, rfl, Option.some.inj hy⟩
    have low : ∀ c ∈ s, c < 128 := by
      have : ∀ s ∈ [s_fact, s_view, s_move], ∀ c ∈ s, c < 128 := by decide
      exact this s (List.mem_of_getElem? hs)
    refine rd_seesV rfl (c3.same sg) s rfl low fun G6 s6 => ⟨_, rfl, ?_⟩
    have sg6 := sg.trans s6
    by_cases g : sees ws i s = true
    case neg =>
      refine ifV (b := false) (Bool.eq_false_iff.mpr g) ⟨_, rfl, sg6, fun u hu => ?_⟩
      rw [List.take_add_one, hs] at hu
      rcases List.mem_append.mp hu with hu | hu
      · exact no u hu
      · rw [List.mem_singleton.mp hu]
        exact Bool.eq_false_iff.mpr g
    rw [find_at hs (fun x hx z => by rw [no x hx] at z; cases z) g] at lit
    dsimp only at lit
    refine ifV (b := true) g (rd_take1V rfl (c3.same sg6) hl s rfl low g fun G7 b7 c7 => ?_)
    have b07 := (b03.trans (Same.but sg6)).trans b7
    refine rd_parse rfl c7 hl (by decide +kernel) (by decide +kernel) (fun z H' b => qn (by rw [lit, z]) H' (b07.trans b)) (fun a j z x G8 b8 c8 hx => ?_)
    rw [z] at lit
    dsimp only at lit
    refine ⟨_, rfl, _, rfl, rd_listed rfl c8 hl hS name_mono (by decide +kernel) (by decide +kernel) (fun z2 H' b => qn (by rw [lit, z2]; rfl) H' ((b07.trans b8).trans b)) (fun v k z2 y G9 b9 c9 hy => ?_)⟩
    refine ⟨(by show 3 ≤ sizeLine; decide), fun t n10 => ?_⟩
    generalize hN10 : L2.upd G9 t _ = G10
    have s10 := new_of n10 hN10
    have e10 := at_of hN10
    try dsimp only at e10
    clear hN10
    exact qs (some (.tup [.str s, a, v])) k (by rw [lit, z2]; rfl) _ G10 (((b07.trans b8).trans b9).trans (Same.but s10)) (c9.same s10) ⟨t, _, rfl, e10, twS rfl, (c8.tw hx b9).same s10, hy.same s10, trivial⟩
  rintro σ G4 ⟨x2, rfl, sg, no⟩
  have nof : [s_fact, s_view, s_move].find? (fun s => sees ws i s) = none := List.find?_eq_none.mpr fun s hs => by rw [no s hs]; exact Bool.false_ne_true
  rw [nof] at lit
  dsimp only at lit
  have c4 := c3.same sg
  have b04 := b03.trans (Same.but sg)
  clear c3 b03 sg
  refine rd_sees rfl c4 s_begin (by decide +kernel) (by decide) fun G5 s5 => ⟨_, rfl, ?_⟩
  have c5 := c4.same s5
  have b05 := b04.trans (Same.but s5)
  clear c4 b04 s5
  by_cases g3 : sees ws i s_begin = true
  · rw [if_pos g3] at lit
    refine ifV (b := true) g3 (rd_take1 rfl c5 hl s_begin (by decide +kernel) (by decide) g3 fun G6 b6 c6 => ?_)
    refine rd_parse rfl c6 hl (by decide +kernel) (by decide +kernel) (fun z H' b => qn (by rw [lit, z]; rfl) H' ((b05.trans b6).trans b)) (fun a j z x G7 b7 c7 hx => ?_)
    refine ⟨(by show 2 ≤ sizeLine; decide), fun t n8 => ?_⟩
    generalize hN8 : L2.upd G7 t _ = G8
    have s8 := new_of n8 hN8
    have e8 := at_of hN8
    try dsimp only at e8
    clear hN8
    exact qs (some (.tup [.str s_begin, a])) j (by rw [lit, z]; rfl) _ G8 (((b05.trans b6).trans b7).trans (Same.but s8)) (c7.same s8) ⟨t, _, rfl, e8, twS (by decide +kernel), hx.same s8, trivial⟩
  rw [if_neg g3] at lit
  refine ifV (b := false) (Bool.eq_false_iff.mpr g3) (rd_sees rfl c5 s_wins (by decide +kernel) (by decide) fun G6 s6 => ⟨_, rfl, ?_⟩)
  have c6 := c5.same s6
  have b06 := b05.trans (Same.but s6)
  clear c5 b05 s6
  by_cases g4 : sees ws i s_wins = true
  · rw [if_pos g4] at lit
    refine ifV (b := true) g4 (rd_take1 rfl c6 hl s_wins (by decide +kernel) (by decide) g4 fun G7 b7 c7 => ?_)
    have b07 := b06.trans b7
    refine rd_parse rfl c7 hl (by decide +kernel) (by decide +kernel) (fun z H' b => qn (by rw [lit, z]) H' (b07.trans b)) (fun a j z x G8 b8 c8 hx => ?_)
    rw [z] at lit
    dsimp only at lit
    refine ⟨_, rfl, rd_parse rfl c8 hl (by decide +kernel) (by decide +kernel) (fun z2 H' b => qn (by rw [lit, z2]; rfl) H' ((b07.trans b8).trans b)) (fun v k z2 y G9 b9 c9 hy => ?_)⟩
    refine ⟨(by show 3 ≤ sizeLine; decide), fun t n10 => ?_⟩
    generalize hN10 : L2.upd G9 t _ = G10
    have s10 := new_of n10 hN10
    have e10 := at_of hN10
    try dsimp only at e10
    clear hN10
    exact qs (some (.tup [.str s_wins, a, v])) k (by rw [lit, z2]; rfl) _ G10 (((b07.trans b8).trans b9).trans (Same.but s10)) (c9.same s10) ⟨t, _, rfl, e10, twS (by decide +kernel), (c8.tw hx b9).same s10, hy.same s10, trivial⟩
  rw [if_neg g4] at lit
  refine ifV (b := false) (Bool.eq_false_iff.mpr g4) (rd_sees rfl c6 s_drawn (by decide +kernel) (by decide) fun G7 s7 => ⟨_, rfl, ?_⟩)
  have c7 := c6.same s7
  have b07 := b06.trans (Same.but s7)
  clear c6 b06 s7
  by_cases g5 : sees ws i s_drawn = true
  · rw [if_pos g5] at lit
    refine ifV (b := true) g5 (rd_take1 rfl c7 hl s_drawn (by decide +kernel) (by decide) g5 fun G8 b8 c8 => ?_)
    refine rd_parse rfl c8 hl (by decide +kernel) (by decide +kernel) (fun z H' b => qn (by rw [lit, z]; rfl) H' ((b07.trans b8).trans b)) (fun a j z x G9 b9 c9 hx => ?_)
    refine ⟨(by show 2 ≤ sizeLine; decide), fun t n10 => ?_⟩
    generalize hN10 : L2.upd G9 t _ = G10
    have s10 := new_of n10 hN10
    have e10 := at_of hN10
    try dsimp only at e10
    clear hN10
    exact qs (some (.tup [.str s_drawn, a])) j (by rw [lit, z]; rfl) _ G10 (((b07.trans b8).trans b9).trans (Same.but s10)) (c9.same s10) ⟨t, _, rfl, e10, twS (by decide +kernel), hx.same s10, trivial⟩
  rw [if_neg g5] at lit
  refine ifV (b := false) (Bool.eq_false_iff.mpr g5) ?_
  exact qs none i lit _ G7 b07 c7 rfl
end
end My
set_option Elab.async false
set_option linter.all false
set_option maxRecDepth 100000
set_option maxHeartbeats 4000000
/-! Texts read -/
namespace My
open PySem PySem.Spec PyProof.Rows L2 Wd
local macro_rules
  | `(tactic| nofun) => `(tactic| (apply tup_at; nofun))
local macro_rules
  | `(tactic| nofun) => `(tactic| (apply seq_at; nofun))
local macro_rules
  | `(tactic| nofun) => `(tactic| (apply pool_same; assumption; nofun))
local macro_rules
  | `(tactic| nofun) => `(tactic| (apply but_get; assumption; assumption; nofun))
local macro_rules
  | `(tactic| nofun) => `(tactic| (apply off_get; assumption; assumption; nofun))
local macro_rules
  | `(tactic| nofun) => `(tactic| (apply same_get; assumption; nofun))
local macro_rules
  | `(tactic| nofun) => `(tactic| assumption)
abbrev st_read : Stmt := topS 19
theorem sc_read : FnScope ["text", "tree", "at", "line", "words", "told"] ["text"] (defScope st_read) := ⟨rfl, rfl, rfl, by decide +kernel, rfl, by decide +kernel, by decide +kernel⟩
def spStatement (C CE : Addr) : Sp := fun vs H Q E => ∃ (wa : Addr) (ws : List Word), vs = [.ref wa] ∧ WordsAt H wa ws ∧ (∀ w ∈ ws, WOk w) ∧ ws.length ≤ 100000 ∧
  (statement ws = none → ∀ H', Same H H' → E (.ref CE) none H') ∧ (∀ t, statement ws = some t → ∀ x H', Same H H' → TW H' x t → Q x H')
def linesOf (l : List Nat) : List (List Nat) := TL.spl [10] 0 [] l
def spRead : Sp := fun vs H Q _ => ∃ l : List Nat, vs = [.str (tx l)] ∧ l.length ≤ 100000 ∧ (match readL 0 [] (linesOf l) with
  | .wrong n why => ∀ t H', Same H H' → H' t = some (.tup [.str "wrong", .int (n : Nat), .str (tx why)]) → Q (.ref t) H'
  | .tree ts => ∀ t t2 xs H', Same H H' → H' t = some (.tup [.str "tree", .ref t2]) → H' t2 = some (.tup xs) → TWs H' xs ts → Q (.ref t) H')
theorem spl_len : ∀ (l acc : List Nat), (TL.spl [10] 0 acc l).length ≤ l.length + 1 ∧ ∀ x ∈ TL.spl [10] 0 acc l, x.length ≤ acc.length + l.length
  | [], acc => by
    rw [TL.spl_nil]
    refine ⟨Nat.le_refl _, fun x hx => ?_⟩
    rw [List.mem_singleton.mp hx]
    omega
  | c :: r, acc => by
    by_cases h : TL.pre [10] (c :: r) = true
    · rw [TL.spl_hit h]
      obtain ⟨h1, h2⟩ := spl_len r []
      refine ⟨by rw [List.length_cons, List.length_cons]; exact Nat.succ_le_succ h1, fun x hx => ?_⟩
      rcases List.mem_cons.mp hx with rfl | hx
      · omega
      · have := h2 x hx
        rw [List.length_cons]
        simp at this
        omega
    · have e : TL.spl [10] 0 acc (c :: r) = TL.spl [10] 0 (acc ++ [c]) r := by
        show (if TL.pre [10] (c :: r) = true then _ else _) = _
        rw [if_neg h]
      obtain ⟨h1, h2⟩ := spl_len r (acc ++ [c])
      rw [e]
      refine ⟨by rw [List.length_cons]; omega, fun x hx => ?_⟩
      have := h2 x hx
      rw [List.length_append] at this
      rw [List.length_cons]
      simp at this
      omega
theorem sort_num {r : List Nat} (h : runSort r = some .num) : r.all isDig = true ∧ r.length < 3 := by
  unfold runSort at h
  split at h
  · rename_i k
    split at h
    · rename_i k2
      exact ⟨k, k2.1⟩
    · cases h
  · split at h
    · cases h
    · split at h
      · cases h
      · split at h <;> cases h
theorem al_lt {c : Nat} (h : isAl c = true) : c < 128 := by
  unfold isAl isLow isUp isDig at h
  simp at h
  omega
theorem raw_ok : ∀ (m : Nat) (l : List Nat), ∀ e ∈ raw m l, ∀ k t, e = (some k, some t) → WOk (k, t)
  | 0, _, e, he, _, _, _ => by cases he
  | m + 1, [], e, he, _, _, _ => by cases he
  | m + 1, c :: l, e, he, k, t, eq => by
    simp only [raw] at he
    split at he
    · exact raw_ok m l e he k t eq
    · split at he
      · rename_i ne
        rcases List.mem_cons.mp he with rfl | he
        · injection eq with e1 e2
          injection e2 with e2
          subst e2
          refine ⟨fun z => ?_, fun x hx => ?_⟩
          · have z : k = .num := z
            rw [z] at e1
            exact ⟨(sort_num e1).1, ne, (sort_num e1).2⟩
          · exact al_lt (List.all_eq_true.mp List.all_takeWhile x hx)
        · exact raw_ok m _ e he k t eq
      · split at he
        · rename_i sg hs
          rcases List.mem_cons.mp he with rfl | he
          · injection eq with e1 e2
            injection e2 with e2
            injection e1 with e1
            subst e2
            subst e1
            refine ⟨fun z => (by cases z), fun x hx => ?_⟩
            unfold signAt at hs
            have hm := List.mem_of_find?_eq_some hs
            have : ∀ s ∈ sgs, ∀ c ∈ s, c < 128 := by decide
            exact this _ hm x hx
          · exact raw_ok m _ e he k t eq
        · rcases List.mem_cons.mp he with rfl | he
          · cases eq
          · exact raw_ok m _ e he k t eq
theorem whole_mem : ∀ {es : List Ent} {ws : List Word}, whole es = some ws → ws.length = es.length ∧ ∀ w ∈ ws, (some w.1, some w.2) ∈ es
  | [], ws, h => by
    cases h
    exact ⟨rfl, fun w hw => by cases hw⟩
  | (some k, some t) :: es, ws, h => by
    rw [whole] at h
    obtain ⟨a, ha, rfl⟩ := map_some h
    obtain ⟨h1, h2⟩ := whole_mem ha
    refine ⟨by rw [List.length_cons, List.length_cons, h1], fun w hw => ?_⟩
    rcases List.mem_cons.mp hw with rfl | hw
    · exact List.mem_cons_self ..
    · exact List.mem_cons_of_mem _ (h2 w hw)
  | (some k, none) :: es, ws, h => by cases h
  | (none, t) :: es, ws, h => by cases h
theorem words_ok {l : List Nat} {ws : List Word} (h : words l = some ws) : ws.length ≤ l.length ∧ ∀ w ∈ ws, WOk w := by
  unfold words at h
  obtain ⟨h1, h2⟩ := whole_mem h
  exact ⟨by rw [h1]; exact raw_len _ _, fun w hw => raw_ok _ _ _ (h2 w hw) _ _ rfl⟩
theorem told_head {ws : List Word} {t : Tr} (h : statement ws = some t) : ∃ w ts, t = .tup (.str w :: ts) := by
  unfold statement at h
  cases e : toldBy ws 0 with
  | none => rw [e] at h; cases h
  | some r =>
    obtain ⟨o, j⟩ := r
    rw [e] at h
    cases o with
    | some u =>
      have h : (if j < ws.length then none else some u) = some t := h
      split at h
      · cases h
      · cases h
        unfold toldBy at e
        split at e
        · obtain ⟨a, _, ea⟩ := map_some e
          cases ea; exact ⟨_, _, rfl⟩
        · split at e
          · cases e2 : name ws (0 + 1) with
            | none => rw [e2] at e; cases e
            | some r2 =>
              rw [e2] at e
              dsimp only at e
              split at e
              · obtain ⟨a, _, ea⟩ := map_some e
                cases ea; exact ⟨_, _, rfl⟩
              · cases e
          · split at e
            · cases e2 : name ws (0 + 1) with
              | none => rw [e2] at e; cases e
              | some r2 =>
                rw [e2] at e
                obtain ⟨a, _, ea⟩ := map_some e
                cases ea; exact ⟨_, _, rfl⟩
            · split at e
              · obtain ⟨a, _, ea⟩ := map_some e
                cases ea; exact ⟨_, _, rfl⟩
              · split at e
                · cases e2 : term ws (0 + 1) with
                  | none => rw [e2] at e; cases e
                  | some r2 =>
                    rw [e2] at e
                    obtain ⟨a, _, ea⟩ := map_some e
                    cases ea; exact ⟨_, _, rfl⟩
                · split at e
                  · obtain ⟨a, _, ea⟩ := map_some e
                    cases ea; exact ⟨_, _, rfl⟩
                  · cases e
    | none =>
      dsimp only at h
      cases e2 : ruleBy ws j with
      | none => rw [e2] at h; cases h
      | some r2 =>
        obtain ⟨u, k⟩ := r2
        rw [e2] at h
        have h : (if k < ws.length then none else some u) = some t := h
        split at h
        · cases h
        · cases h
          unfold ruleBy at e2
          cases e3 : atom ws j with
          | none => rw [e3] at e2; cases e2
          | some r3 =>
            rw [e3] at e2
            dsimp only at e2
            split at e2
            · cases e4 : atom ws (r3.2 + 1) with
              | none => rw [e4] at e2; cases e2
              | some r4 =>
                rw [e4] at e2
                obtain ⟨a, _, ea⟩ := map_some e2
                cases ea; exact ⟨_, _, rfl⟩
            · obtain ⟨a, _, ea⟩ := map_some e2
              cases ea; exact ⟨_, _, rfl⟩
section
variable {P : Program} {w : World} {K : PySem.W.Frag} {mg : Str → Option Value} {base : Heap} {C CE aK gT gN : Addr} {S : Addr → Option Sp}
theorem ok_rule_by (T : Top K mg "rule_by" st_rule_by ["cursor"]) (K_Cursor : Kls K mg "Cursor" C cus) (D_Cursor_atom : MthX P w K mg base 5 C "atom" ["self"] (spParse C CE [] atom TW)) (D_Cursor_body : MthX P w K mg base 7 C "body" ["self"] (spParse C CE [] body TW)) (D_Cursor_sees : Mth P w K mg base 2 C "sees" ["self", "text"] (spSees C)) (D_Cursor_take : MthX P w K mg base 3 C "take" ["self", "text"] (spTake C CE)) : DefX P w K mg base 8 "rule_by" ["cursor"] (spParse C CE [] ruleBy TW) := by
  refine T.okX sc_rule_by (fun vs H Q E h => ?_) (fun f cdv A outer s H vs Q E hr h => ?_)
  · obtain ⟨p, wa, ws, i, rfl, _⟩ := h
    rfl
  obtain ⟨p, wa, ws, i, rfl, cur, hl, qn, qs⟩ := h
  refine ⟨_, (pss_cons (ps_set (i := 1) sc_rule_by.nd rfl (Or.inl rfl) (pe_mthX0 D_Cursor_atom K_Cursor (pv 0) (hr.mono (by decide)) (passX (takes_of rfl rfl rfl rfl))))
    (pss_cons (ps_for (passes_of rfl) rfl (pi_tup (pe_tup (pa_cons pe_str (pa_cons pe_str pa_nil)))) (pg_name (i := 2) sc_rule_by.nd rfl (Or.inl rfl))
    (pss_one (ps_if (pt_val (pe_mth D_Cursor_sees K_Cursor (pv 0) (hr.mono (by decide)) (pa_cons (pv 2) pa_nil)))
      (pss_cons (ps_expr (pe_mthX D_Cursor_take K_Cursor (pv 0) (hr.mono (by decide)) (passX (takes_of rfl rfl rfl rfl)) (pa_cons (pv 2) pa_nil)))
        (pss_cons (ps_set (i := 3) sc_rule_by.nd rfl (Or.inl rfl) (pe_mthX0 D_Cursor_atom K_Cursor (pv 0) (hr.mono (by decide)) (passX (takes_of rfl rfl rfl rfl))))
        (pss_one (ps_ret (pe_tup (pa_cons (pv 2) (pa_cons (pv 1) (pa_cons (pv 3) (pa_cons (pe_mthX0 D_Cursor_body K_Cursor (pv 0) (hr.mono (by decide)) (passX (takes_of rfl rfl rfl rfl))) pa_nil)))))))))
      pss_nil)))
    (pss_one (ps_ret (pe_tup (pa_cons pe_str (pa_cons (pv 1) (pa_cons (pe_mthX0 D_Cursor_body K_Cursor (pv 0) (hr.mono (by decide)) (passX (takes_of rfl rfl rfl rfl))) pa_nil)))))))), ?_⟩
  refine rd_parse rfl cur hl (by decide +kernel) (by decide +kernel) (fun z H' b => qn (by unfold ruleBy; rw [z]) H' b) (fun a j z x G1 b1 c1 hx => ?_)
  have lit : ruleBy ws i = (match [s_adds, s_drops].find? fun w => sees ws j w with
    | some w => (match atom ws (j + 1) with
      | none => none
      | some (b, k) => (body ws k).map fun r => (.tup [.str w, a, b, r.1], r.2))
    | none => (body ws j).map fun r => (.tup [.str s_rule, a, r.1], r.2)) := by unfold ruleBy; rw [z]; try rfl
  refine ⟨(by show 2 ≤ sizeLine; decide), fun t4 n3 => ?_⟩
  generalize hN3 : L2.upd G1 t4 _ = G3
  have s3 := new_of n3 hN3
  have e3 := at_of hN3
  try dsimp only at e3
  clear hN3
  have e3 : G3 t4 = some (.tup ([s_adds, s_drops].map fun s => V.str (tx s))) := by
    rw [e3, show Str.ofString "adds" = tx s_adds by decide +kernel, show Str.ofString "drops" = tx s_drops by decide +kernel]
    rfl
  have c3 := c1.same s3
  have b03 := b1.trans (Same.but s3)
  have hx3 := hx.same s3
  clear c1 b1 s3
  refine ⟨t4, rfl, ⟨_, SqT.of e3⟩, for_tup (K := K) (a := t4) (xs := [s_adds, s_drops].map fun s => V.str (tx s)) (fun n σ G => ∃ x2, σ = [some (.ref p), some x, x2, none] ∧ Same G3 G ∧ ∀ s ∈ [s_adds, s_drops].take n, sees ws j s = false) ⟨none, rfl, Same.refl _, fun s hs => by cases hs⟩ (fun _ _ _ _ ⟨_, _, s, _⟩ => SqT.of (s _ _ e3)) ?_ ?_⟩
  · rintro n y σ G hy ⟨x2, rfl, sg, no⟩
    obtain ⟨s, hs, rfl⟩ : ∃ s, [s_adds, s_drops][n]? = some s ∧ V.str (tx s) = y := by
      rw [List.getElem?_map] at hy
      cases k : [s_adds, s_drops][n]? with
      | none => rw [k] at hy; cases hy
      | some z => rw [k] at hy; exact ⟨z, rfl, Option.some.inj hy⟩
    have low : ∀ c ∈ s, c < 128 := by
      have : ∀ s ∈ [s_adds, s_drops], ∀ c ∈ s, c < 128 := by decide
      exact this s (List.mem_of_getElem? hs)
    refine rd_seesV rfl (c3.same sg) s rfl low fun G6 s6 => ⟨_, rfl, ?_⟩
    have sg6 := sg.trans s6
    by_cases g : sees ws j s = true
    case neg =>
      refine ifV (b := false) (Bool.eq_false_iff.mpr g) ⟨_, rfl, sg6, fun u hu => ?_⟩
      rw [List.take_add_one, hs] at hu
      rcases List.mem_append.mp hu with hu | hu
      · exact no u hu
      · rw [List.mem_singleton.mp hu]
        exact Bool.eq_false_iff.mpr g
    rw [find_at hs (fun x hx z => by rw [no x hx] at z; cases z) g] at lit
    dsimp only at lit
    refine ifV (b := true) g (rd_take1V rfl (c3.same sg6) hl s rfl low g fun G7 b7 c7 => ?_)
    have hx7 := (c3.same sg6).tw (hx3.same sg6) b7
    have b07 := (b03.trans (Same.but sg6)).trans b7
    refine rd_parse rfl c7 hl (by decide +kernel) (by decide +kernel) (fun z H' b => qn (by rw [lit, z]) H' (b07.trans b)) (fun b k z2 y G8 b8 c8 hy => ?_)
    rw [z2] at lit
    dsimp only at lit
    have hx8 := c7.tw hx7 b8
    refine ⟨_, rfl, _, rfl, _, rfl, rd_parse rfl c8 hl (by decide +kernel) (by decide +kernel) (fun z2 H' b => qn (by rw [lit, z2]; rfl) H' ((b07.trans b8).trans b)) (fun v l z3 u G9 b9 c9 hu => ?_)⟩
    refine ⟨(by show 4 ≤ sizeLine; decide), fun t n10 => ?_⟩
    generalize hN10 : L2.upd G9 t _ = G10
    have s10 := new_of n10 hN10
    have e10 := at_of hN10
    try dsimp only at e10
    clear hN10
    exact qs (.tup [.str s, a, b, v]) l (by rw [lit, z3]; rfl) _ G10 (((b07.trans b8).trans b9).trans (Same.but s10)) (c9.same s10) ⟨t, _, rfl, e10, twS rfl, (c8.tw hx8 b9).same s10, (c8.tw hy b9).same s10, hu.same s10, trivial⟩
  rintro σ G4 ⟨x2, rfl, sg, no⟩
  have nof : [s_adds, s_drops].find? (fun s => sees ws j s) = none := List.find?_eq_none.mpr fun s hs => by rw [no s hs]; exact Bool.false_ne_true
  rw [nof] at lit
  dsimp only at lit
  have c4 := c3.same sg
  have b04 := b03.trans (Same.but sg)
  refine ⟨_, rfl, rd_parse rfl c4 hl (by decide +kernel) (by decide +kernel) (fun z2 H' b => qn (by rw [lit, z2]; rfl) H' (b04.trans b)) (fun v l z3 u G9 b9 c9 hu => ?_)⟩
  refine ⟨(by show 3 ≤ sizeLine; decide), fun t n10 => ?_⟩
  generalize hN10 : L2.upd G9 t _ = G10
  have s10 := new_of n10 hN10
  have e10 := at_of hN10
  try dsimp only at e10
  clear hN10
  exact qs (.tup [.str s_rule, a, v]) l (by rw [lit, z3]; rfl) _ G10 ((b04.trans b9).trans (Same.but s10)) (c9.same s10) ⟨t, _, rfl, e10, twS (by decide +kernel), (c4.tw (hx3.same sg) b9).same s10, hu.same s10, trivial⟩
theorem ok_statement (T : Top K mg "statement_of" st_statement_of ["words"]) (K_Cursor : Kls K mg "Cursor" C cus) (X_NotSo : ExcC K mg "NotSo" CE) (z_len : mg "len" = none) (D_Cursor___init__ : Ini P w K mg base 1 C ["self", "words"] (spCInit C)) (D_told_by : DefX P w K mg base 8 "told_by" ["cursor"] (spParse C CE [] toldBy fun H x o => match o with | none => x = .non | some t => TW H x t)) (D_rule_by : DefX P w K mg base 8 "rule_by" ["cursor"] (spParse C CE [] ruleBy TW)) : DefX P w K mg base 9 "statement_of" ["words"] (spStatement C CE) := by
  refine T.okX sc_statement_of (fun vs H Q E h => ?_) (fun f cdv A outer s H vs Q E hr h => ?_)
  · obtain ⟨wa, ws, rfl, _⟩ := h
    rfl
  obtain ⟨wa, ws, rfl, hw, hok, hl, qn, qs⟩ := h
  refine ⟨_, (pss_cons (ps_set (i := 1) sc_statement_of.nd rfl (Or.inl rfl) (pe_ini D_Cursor___init__ K_Cursor (hr.mono (by decide)) rfl (pa_cons (pv 0) pa_nil)))
    (pss_cons (ps_set (i := 2) sc_statement_of.nd rfl (Or.inl rfl) (pe_defX D_told_by (hr.mono (by decide)) rfl (passX (takes_of rfl rfl rfl rfl)) (pa_cons (pv 1) pa_nil)))
    (Evl.pss_cut (ps_if (pt_cmpR op_isN (pv 2) pe_non (nomark _))
    (pss_one (ps_set (i := 2) sc_statement_of.nd rfl (Or.inl rfl) (pe_defX D_rule_by (hr.mono (by decide)) rfl (passX (takes_of rfl rfl rfl rfl)) (pa_cons (pv 1) pa_nil))))
    pss_nil)
    (pss_cons (ps_if (pt_cmpR op_lt (pe_fld (pv 1) rfl) (pe_callB (lenQ K) rfl z_len (by decide +kernel) (pa_cons (pv 0) pa_nil)) (nomark _))
    (pss_one (ps_raise rfl (takes_of rfl rfl rfl rfl) (SkE.pmk_own1 PySem.F.excBase_ValueError X_NotSo.ex X_NotSo.at_ X_NotSo.kp (raises_own X_NotSo.sb X_NotSo.ty) rfl (pe_ix (ixT K) (pe_ix (ixL K) (pv 0) (pe_fld (pv 1) rfl) (fun _ _ => rfl)) pe_int (fun _ _ => rfl)))))
    pss_nil)
    (pss_one (ps_ret (pv 2))))))), ?_⟩
  have nA := K_Cursor.no "at" (by simp)
  refine ⟨_, rfl, fun p dx0 np ndx ndp => ⟨p, dx0, wa, ws, rfl, upd_same, hw.same (made_same np ndx ndp), hok, fun G1 b1 c1 => ⟨rfl, ?_⟩⟩⟩
  have s1 : Same H G1 := b1.keep (made_same np ndx ndp) np
  refine ⟨_, rfl, p, wa, ws, 0, rfl, c1, hl, fun z H' b => qn (by unfold statement; rw [z]) H' (b.keep s1 np), fun o j z x G2 b2 c2 hx => ?_⟩
  have s2 := b2.keep s1 np
  refine ⟨fun σ' G' => ∃ (t : Tr) (j : Nat) (x : V), σ' = [some (.ref wa), some (.ref p), some x] ∧ Same H G' ∧ CurAt C G' p wa ws j ∧ TW G' x t ∧ statement ws = if j < ws.length then none else some t, ?_, ?_⟩
  · refine ⟨_, rfl, rfl, _, rfl, ?_⟩
    cases o with
    | some t =>
      have nx : x ≠ V.non := fun e => by
        subst e
        cases t with
        | int i => cases hx
        | str l => cases hx
        | tup ts => obtain ⟨_, _, e, _⟩ := hx; cases e
      exact ifND nx ⟨t, j, x, rfl, s2, c2, hx, by unfold statement; rw [z]⟩
    | none =>
      have hx : x = V.non := hx
      refine ifD hx ⟨_, rfl, p, wa, ws, j, rfl, c2, hl, fun z2 H' b => qn (by unfold statement; rw [z]; dsimp only; rw [z2]) H' (b.keep s2 np), fun t k z2 y G3 b3 c3 hy => ?_⟩
      exact ⟨t, k, y, rfl, b3.keep s2 np, c3, hy, by unfold statement; rw [z]; dsimp only; rw [z2]⟩
  rintro σ' G3 ⟨t, j, x, rfl, s3, c3, hx, st⟩
  obtain ⟨dx, hp, zs, hz, pz⟩ := c3.ex
  have lz := pz.1
  refine ⟨.ref p, rfl, p, C, dx, _, _, rfl, hp, K_Cursor.cl, nA, cu_at _ _, _, rfl, wa, _, rfl, .inl (SqL.of hz), _, _, rfl, rfl, _, rfl, ?_⟩
  by_cases lt : j < ws.length
  · rw [if_pos lt] at st
    obtain ⟨y, hy⟩ : ∃ y, zs[j]? = some y := ⟨_, List.getElem?_eq_getElem (by omega)⟩
    obtain ⟨w0, hw0⟩ : ∃ w0, ws[j]? = some w0 := ⟨_, List.getElem?_eq_getElem lt⟩
    obtain ⟨tt, rfl, et⟩ := pz.2 j y w0 hy hw0
    refine ifD (by omega) ⟨_, rfl, .ref p, rfl, p, C, dx, _, _, rfl, hp, K_Cursor.cl, nA, cu_at _ _, wa, _, _, _, rfl, rfl, SqL.of hz, atI_nat hy, tt, _, _, _, rfl, rfl, SqT.of et, rfl, ?_⟩
    exact qn st G3 s3
  · rw [if_neg lt] at st
    exact ifND (by omega) ⟨_, rfl, qs t st x G3 s3 hx⟩
theorem ok_read (T : Top K mg "read" st_read ["text"]) (K_Cursor : Kls K mg "Cursor" C cus) (X_NotSo : ExcC K mg "NotSo" CE) (z_enumerate : mg "enumerate" = none) (z_tuple : mg "tuple" = none) (D_says_nothing : Def P w K mg base 1 "says_nothing" ["line"] spNothing) (D_words_of : Def P w K mg base 2 "words_of" ["line"] spWordsOf) (D_statement_of : DefX P w K mg base 9 "statement_of" ["words"] (spStatement C CE)) : Def P w K mg base 10 "read" ["text"] spRead := by
  refine T.ok sc_read (fun vs H Q E h => ?_) (fun f cdv A outer s H vs Q E hr h => ?_)
  · obtain ⟨l, rfl, _⟩ := h
    rfl
  obtain ⟨l, rfl, hl, q⟩ := h
  refine ⟨_, (pss_cons (ps_set (i := 1) sc_read.nd rfl (Or.inl rfl) (pe_lst pa_nil))
    (pss_cons (ps_for PassesOwn.never rfl (pi_enum rfl z_enumerate (pa_cons (pe_bm PySem.F.plainAttrs_str PySem.F.slot_str_split PySem.F.type_str_split mt_split (pv 0) (pa_cons pe_str pa_nil)) pa_nil)) (pg_tup rfl (pgs_cons (pg_name (i := 2) sc_read.nd rfl (Or.inl rfl)) (pgs_cons (pg_name (i := 3) sc_read.nd rfl (Or.inl rfl)) pgs_nil)))
    (pss_one (ps_if (pt_not (pt_val (pe_def D_says_nothing (hr.mono (by decide)) rfl (pa_cons (pv 3) pa_nil))))
      (pss_cons (ps_set (i := 4) sc_read.nd rfl (Or.inl rfl) (pe_def D_words_of (hr.mono (by decide)) rfl (pa_cons (pv 3) pa_nil)))
        (pss_cons (ps_if (pt_cmpR op_isN (pv 4) pe_non (nomark _))
        (pss_one (ps_ret (pe_tup (pa_cons pe_str (pa_cons (pe_op op_add (pv 2) pe_int) (pa_cons pe_str pa_nil))))))
        pss_nil)
        (pss_cons (ps_try_only rfl rfl ⟨rfl, by decide, .inl X_NotSo.at_⟩ takes0 (fun W pn xe tk _ => (pss_one (ps_set (i := 5) sc_read.nd rfl (Or.inl rfl) (pe_defS D_statement_of (hr.mono (by decide)) rfl tk (pa_cons (pv 4) pa_nil)))))
        (fun a oe cls d pn _ _ => (pss_one (ps_ret (pe_tup (pa_cons pe_str (pa_cons (pe_op op_add (pv 2) pe_int) (pa_cons pe_str pa_nil))))))))
        (pss_cons (ps_if (pt_cmpR op_ne (pe_cmpR op_eq (pe_ix (ixT K) (pv 5) pe_int (fun _ _ => rfl)) pe_str (nomark _)) (pe_notT (pv 1)) (nomark _))
        (pss_one (ps_ret (pe_tup (pa_cons pe_str (pa_cons (pe_op op_add (pv 2) pe_int) (pa_cons pe_str pa_nil))))))
        pss_nil)
        (pss_one (ps_expr (pe_bm PySem.F.plainAttrs_list PySem.F.slot_list_append PySem.F.type_list_append mt_append (pv 1) (pa_cons (pv 5) pa_nil))))))))
      pss_nil)))
    (pss_one (ps_ret (pe_ifExp (pt_truth (pv 1) (by intro _; rfl)) (pe_tup (pa_cons pe_str (pa_cons (pe_callTy (tupQ K) rfl z_tuple (by decide +kernel) (pa_cons (pv 1) pa_nil)) pa_nil))) (pe_tup (pa_cons pe_str (pa_cons pe_int (pa_cons pe_str pa_nil))))))))), ?_⟩
  have big : ∀ {n : Nat}, n ≤ 900000 → n ≤ sizeLine := fun h => Nat.le_trans h (by decide)
  refine ⟨Nat.zero_le _, fun fo n0 => ?_⟩
  generalize hN0 : L2.upd H fo _ = G0
  have s0 := new_of n0 hN0
  have e0 := at_of hN0
  try dsimp only at e0
  clear hN0
  obtain ⟨L, hL⟩ : ∃ L, L = linesOf l := ⟨_, rfl⟩
  rw [← hL] at q
  have lL : L.length ≤ 100001 ∧ ∀ x ∈ L, x.length ≤ 100000 := by
    obtain ⟨h1, h2⟩ := spl_len l []
    rw [hL]
    refine ⟨Nat.le_trans h1 (by omega), fun x hx => Nat.le_trans (h2 x hx) (by simp; omega)⟩
  have spt : Txt.split (tx l) (tx [10]) = L.map tx := by
    rw [hL]
    exact SX.split_S (by simp) (by decide)
  refine ⟨_, rfl, rfl, tx l, tx [10], rfl, (by rw [show (Str.ofString "\n") = tx [10] by decide +kernel]), by decide +kernel, big (by rw [tx_len]; omega), fun sp nsp => ?_⟩
  rw [spt]
  refine ⟨sp, (L.map tx).map V.str, rfl, SqL.of upd_same, ?_⟩
  generalize hG : upd G0 sp (.lst ((L.map tx).map V.str)) = G9
  have s9 : Same G0 G9 := hG ▸ Same.new nsp
  have e9 : G9 sp = some (.lst ((L.map tx).map V.str)) := hG ▸ upd_same
  have nsf : sp ≠ fo := (ne_of_none e0 nsp).symm
  have s09 := s0.trans s9
  refine for_enum (K := K) (a := sp) (xs := (L.map tx).map V.str) (fun i σ G => ∃ (x2 x3 x4 x5 : Option V) (acc : List Tr) (xs : List V), σ = [some (.str (tx l)), some (.ref fo), x2, x3, x4, x5] ∧ Same H G ∧ G sp = some (.lst ((L.map tx).map V.str)) ∧ G fo = some (.lst xs) ∧ TWs G xs acc ∧ acc.length ≤ i ∧ readL i acc (L.drop i) = readL 0 [] L) ⟨none, none, none, none, [], [], rfl, s09, e9, s9 _ _ e0, trivial, Nat.le_refl _, rfl⟩ (fun _ _ _ _ ⟨_, _, _, _, _, _, _, _, e, _⟩ => SqL.of e) ?_ ?_
  · rintro i y σ G T hy ⟨x2, x3, x4, x5, acc, xs, rfl, sg, es, ef, hxs, lacc, hrd⟩ n1
    rw [List.map_map, List.getElem?_map] at hy
    obtain ⟨ln, hln, rfl⟩ : ∃ ln, L[i]? = some ln ∧ V.str (tx ln) = y := by
      cases k : L[i]? with
      | none => rw [k] at hy; cases hy
      | some z => rw [k] at hy; exact ⟨z, rfl, Option.some.inj hy⟩
    obtain ⟨ilt, eln⟩ := List.getElem?_eq_some_iff.mp hln
    rw [List.drop_eq_getElem_cons ilt, eln] at hrd
    have lln := lL.2 ln (List.mem_of_getElem? hln)
    generalize hN1 : L2.upd G T _ = G1
    have s1 := new_of n1 hN1
    have e1 := at_of hN1
    try dsimp only at e1
    clear hN1
    refine ⟨T, _, rfl, SqT.of e1, rfl, _, _, rfl, _, _, rfl, rfl, ?_⟩
    refine ⟨_, rfl, ln, rfl, lln, fun G2 s2 => ⟨_, rfl, ?_⟩⟩
    have s02 := sg.trans (s1.trans s2)
    have es2 := s2 _ _ (s1 _ _ es)
    have ef2 := s2 _ _ (s1 _ _ ef)
    have hx2 := (hxs.same s1).same s2
    have lxs := hxs.len
    by_cases nt : nothing ln = true
    · refine ifV (b := false) (by rw [nt]; rfl) ⟨_, _, _, _, acc, xs, rfl, s02, es2, ef2, hx2, by omega, ?_⟩
      rw [← hrd, readL, show line ln = .nothing by unfold line; exact if_pos nt]
    refine ifV (b := true) (by rw [Bool.eq_false_iff.mpr nt]; rfl) ?_
    have ll : line ln = (match words ln with
      | none => .sign
      | some ws => match statement ws with
        | none => .form
        | some t => .told t) := by unfold line; exact if_neg nt
    refine ⟨_, rfl, ln, rfl, lln, fun z G3 s3 => ⟨_, rfl, rfl, _, rfl, ifD rfl ?_⟩, fun ws z p G3 s3 np hw => ⟨_, rfl, rfl, _, rfl, ifND (fun z => by cases z) ?_⟩⟩
    · have rl : readL i acc (ln :: L.drop (i + 1)) = .wrong (i + 1) s_sign := by rw [readL, ll, z]
      refine ⟨_, rfl, _, _, rfl, rfl, (by show 3 ≤ sizeLine; decide), fun t n4 => ?_⟩
      generalize hN4 : L2.upd G3 t _ = G4
      have s4 := new_of n4 hN4
      have e4 := at_of hN4
      try dsimp only at e4
      clear hN4
      have q' := q
      rw [← hrd, rl] at q'
      refine q' t G4 ((s02.trans s3).trans s4) ?_
      rw [e4, show ((i + 1 : Nat) : Int) = ((i : Nat) : Int) + 1 by omega, show tx s_sign = Str.ofString "sign" by decide +kernel]
    rw [z] at ll
    dsimp only at ll
    obtain ⟨w1, w2⟩ := words_ok z
    have s03 := s02.trans s3
    refine ⟨_, rfl, p, ws, rfl, hw, w2, by omega, fun z2 G4 s4 => ⟨true, X_NotSo.em, fun _ a _ => ?_, fun q => Bool.noConfusion q⟩, fun t0 z2 x G4 s4 hx => ?_⟩
    · have rl : readL i acc (ln :: L.drop (i + 1)) = .wrong (i + 1) s_form := by rw [readL, ll, z2]
      refine ⟨_, rfl, _, _, rfl, rfl, (by show 3 ≤ sizeLine; decide), fun t n5 => ?_⟩
      generalize hN5 : L2.upd G4 t _ = G5
      have s5 := new_of n5 hN5
      have e5 := at_of hN5
      try dsimp only at e5
      clear hN5
      have q' := q
      rw [← hrd, rl] at q'
      refine q' t G5 ((s03.trans s4).trans s5) ?_
      rw [e5, show ((i + 1 : Nat) : Int) = ((i : Nat) : Int) + 1 by omega, show tx s_form = Str.ofString "form" by decide +kernel]
    rw [z2] at ll
    dsimp only at ll
    obtain ⟨hd, ts, rfl⟩ := told_head z2
    have hx0 := hx
    obtain ⟨a, ys, rfl, ea, hys⟩ := hx
    obtain ⟨y0, ys', rfl⟩ : ∃ y0 ys', ys = y0 :: ys' := by
      cases ys with
      | nil => exact hys.elim
      | cons y0 ys' => exact ⟨y0, ys', rfl⟩
    have hy0 : y0 = .str (tx hd) := hys.1
    subst hy0
    have ef4 := s4 _ _ (s3 _ _ ef2)
    have es4 := s4 _ _ (s3 _ _ es2)
    have hx4 := (hx2.same s3).same s4
    have s04 := s03.trans s4
    refine ⟨.ref a, rfl, a, _, _, _, rfl, rfl, SqT.of ea, atI_nat (j := 0) rfl, rfl, .ref fo, rfl, _, .inl ⟨xs, SqL.of ef4, rfl⟩, rfl, _, rfl, ?_⟩
    have emp : xs.isEmpty = acc.isEmpty := by
      cases xs with
      | nil => cases acc with
        | nil => rfl
        | cons a b => exact absurd lxs (by simp)
      | cons a b => cases acc with
        | nil => exact absurd lxs (by simp)
        | cons a b => rfl
    have cnd : (!decide (V.bl (decide (V.str (tx hd) = V.str (Str.ofString "game"))) = V.bl (!(!xs.isEmpty)))) = (isGame (.tup (.str hd :: ts)) == !acc.isEmpty) := by
      rw [dec_bl, emp, show decide (V.str (tx hd) = V.str (Str.ofString "game")) = isGame (.tup (.str hd :: ts)) from ?_]
      · cases isGame (.tup (.str hd :: ts)) <;> cases acc.isEmpty <;> rfl
      · rw [show Str.ofString "game" = tx s_game by decide +kernel]
        show _ = decide (hd = s_game)
        rw [decide_eq_decide]
        exact ⟨fun h => tx_inj (V.str.inj h), fun h => by rw [h]⟩
    by_cases g : (isGame (.tup (.str hd :: ts)) == !acc.isEmpty) = true
    · have rl : readL i acc (ln :: L.drop (i + 1)) = .wrong (i + 1) s_game := by rw [readL, ll]; exact if_pos g
      refine ifV (b := true) (by rw [cnd, g]) ⟨_, rfl, _, _, rfl, rfl, (by show 3 ≤ sizeLine; decide), fun t n5 => ?_⟩
      generalize hN5 : L2.upd G4 t _ = G5
      have s5 := new_of n5 hN5
      have e5 := at_of hN5
      try dsimp only at e5
      clear hN5
      have q' := q
      rw [← hrd, rl] at q'
      refine q' t G5 (s04.trans s5) ?_
      rw [e5, show ((i + 1 : Nat) : Int) = ((i : Nat) : Int) + 1 by omega, show tx s_game = Str.ofString "game" by decide +kernel]
    have rl : readL i acc (ln :: L.drop (i + 1)) = readL (i + 1) (acc ++ [.tup (.str hd :: ts)]) (L.drop (i + 1)) := by rw [readL, ll]; exact if_neg g
    refine ifV (b := false) (by rw [cnd]; exact Bool.eq_false_iff.mpr g) ⟨.ref fo, rfl, Or.inl ⟨rfl, xs, SqL.of ef4⟩, .ref a, rfl, fo, xs, .ref a, rfl, rfl, ef4, (by rw [lxs]; exact sq_len (by omega)), ?_⟩
    refine ⟨_, _, _, _, acc ++ [.tup (.str hd :: ts)], xs ++ [.ref a], rfl, same_mut s04 n0, (upd_ne nsf).trans es4, upd_same, (TWs.snoc hx0 hx4).list ef4, by rw [List.length_append]; show _ + 1 ≤ _; omega, by rw [← rl, hrd]⟩
  rintro σ G ⟨x2, x3, x4, x5, acc, xs, rfl, sg, es, ef, hxs, lacc, hrd⟩
  have lxs := hxs.len
  refine ⟨.ref fo, rfl, _, .inl ⟨xs, SqL.of ef, rfl⟩, ?_⟩
  have q' := q
  rw [← hrd, List.drop_eq_nil_of_le (by rw [← List.length_map (f := tx), ← List.length_map (f := V.str)]; exact Nat.le_refl _)] at q'
  cases acc with
  | nil =>
    cases xs with
    | cons a b => exact absurd lxs (by simp)
    | nil =>
      refine ifV (b := false) rfl ⟨(by show 3 ≤ sizeLine; decide), fun t n5 => ?_⟩
      generalize hN5 : L2.upd G t _ = G5
      have s5 := new_of n5 hN5
      have e5 := at_of hN5
      try dsimp only at e5
      clear hN5
      have q' : ∀ t H', Same H H' → H' t = some (.tup [.str "wrong", .int (1 : Nat), .str (tx s_game)]) → Q (.ref t) H' := q'
      refine q' t G5 (sg.trans s5) ?_
      rw [e5, show tx s_game = Str.ofString "game" by decide +kernel]
      rfl
  | cons c d =>
    cases xs with
    | nil => exact absurd lxs (by simp)
    | cons a b =>
      refine ifV (b := true) rfl ⟨.ref fo, rfl, fo, _, rfl, Or.inl ⟨SqL.of ef, fun t2 n5 => ?_⟩⟩
      generalize hN5 : L2.upd G t2 _ = G5
      have s5 := new_of n5 hN5
      have e5 := at_of hN5
      try dsimp only at e5
      clear hN5
      refine ⟨(by show 2 ≤ sizeLine; decide), fun t n6 => ?_⟩
      generalize hN6 : L2.upd G5 t _ = G6
      have s6 := new_of n6 hN6
      have e6 := at_of hN6
      try dsimp only at e6
      clear hN6
      have q' : ∀ t t2 xs H', Same H H' → H' t = some (.tup [.str "tree", .ref t2]) → H' t2 = some (.tup xs) → TWs H' xs (c :: d) → Q (.ref t) H' := q'
      exact q' t t2 _ G6 ((sg.trans s5).trans s6) e6 (s6 _ _ e5) ((hxs.same s5).same s6)
end
end My
set_option Elab.async false
set_option linter.all false
set_option maxRecDepth 100000
set_option maxHeartbeats 4000000
/-! Texts and lists of texts that a law draws: expressions told by what may come of them, the pool changed on the way -/
namespace My
open PySem PySem.Spec PyProof.Rows L2
def cs (s : Str) : List Nat := s.cps.toList
theorem cs_tx (s : Str) : tx (cs s) = s := by
  unfold cs tx
  cases s
  simp
def nm (i : Int) : List Nat := cs (Str.ofString (toString i))
def txs (ls : List (List Nat)) : List V := ls.map fun l => V.str (tx l)
theorem txs_len (ls : List (List Nat)) : (txs ls).length = ls.length := List.length_map _
theorem txs_app (a b : List (List Nat)) : txs (a ++ b) = txs a ++ txs b := List.map_append
theorem txs_get {ls : List (List Nat)} {i : Nat} {l : List Nat} (h : ls[i]? = some l) : (txs ls)[i]? = some (.str (tx l)) := by
  unfold txs
  rw [List.getElem?_map, h]
  rfl
theorem txs_of {ls : List (List Nat)} {i : Nat} {x : V} (h : (txs ls)[i]? = some x) : ∃ l, ls[i]? = some l ∧ x = .str (tx l) := by
  unfold txs at h
  rw [List.getElem?_map] at h
  cases e : ls[i]? with
  | none => rw [e] at h; cases h
  | some n =>
    rw [e] at h
    exact ⟨n, rfl, (Option.some.inj h).symm⟩
theorem txs_mem {ls : List (List Nat)} {x : V} (h : x ∈ txs ls) : ∃ l ∈ ls, x = .str (tx l) := by
  obtain ⟨l, hl, e⟩ := List.mem_map.mp h
  exact ⟨l, hl, e.symm⟩
/-- parts one behind the other -/
def Cat {α : Type} (P : α → List (List Nat) → Prop) : List α → List (List Nat) → Prop
  | [], l => l = []
  | a :: as, l => ∃ x y, l = x ++ y ∧ P a x ∧ Cat P as y
theorem Cat.snoc {α : Type} {P : α → List (List Nat) → Prop} {b : α} {y : List (List Nat)} (hb : P b y) : ∀ {as : List α} {l : List (List Nat)}, Cat P as l → Cat P (as ++ [b]) (l ++ y)
  | [], l, h => by
    rw [show l = [] from h]
    exact ⟨y, [], by simp, hb, rfl⟩
  | a :: as, l, ⟨x, z, e, ha, h⟩ => by
    subst e
    exact ⟨x, z ++ y, by rw [List.append_assoc], ha, Cat.snoc hb h⟩
theorem Cat.take {α : Type} {P : α → List (List Nat) → Prop} {as : List α} {i : Nat} {b : α} {l y : List (List Nat)} (h : Cat P (as.take i) l) (hi : as[i]? = some b) (hb : P b y) : Cat P (as.take (i + 1)) (l ++ y) := by
  rw [List.take_add_one, hi]
  exact Cat.snoc hb h
theorem Cat.mono {α : Type} {P P' : α → List (List Nat) → Prop} : ∀ {as : List α} {l : List (List Nat)}, (∀ a ∈ as, ∀ x, P a x → P' a x) → Cat P as l → Cat P' as l
  | [], l, _, h => h
  | a :: as, l, hm, ⟨x, y, e, ha, h⟩ => ⟨x, y, e, hm a (List.mem_cons_self ..) x ha, Cat.mono (fun b hb => hm b (List.mem_cons_of_mem _ hb)) h⟩
theorem Cat.all {α : Type} {P : α → List (List Nat) → Prop} {G : List Nat → Prop} : ∀ {as : List α} {l : List (List Nat)}, Cat P as l → (∀ a ∈ as, ∀ x, P a x → ∀ y ∈ x, G y) → ∀ y ∈ l, G y
  | [], l, h, _, y, hy => by
    rw [show l = [] from h] at hy
    cases hy
  | a :: as, l, ⟨x, z, e, ha, h⟩, hg, y, hy => by
    subst e
    rcases List.mem_append.mp hy with hy | hy
    · exact hg a (List.mem_cons_self ..) x ha y hy
    · exact Cat.all h (fun b hb => hg b (List.mem_cons_of_mem _ hb)) y hy
theorem Cat.len {α : Type} {P : α → List (List Nat) → Prop} {k : Nat} : ∀ {as : List α} {l : List (List Nat)}, Cat P as l → (∀ a ∈ as, ∀ x, P a x → x.length ≤ k) → l.length ≤ as.length * k
  | [], l, h, _ => by
    rw [show l = [] from h]
    exact Nat.zero_le _
  | a :: as, l, ⟨x, z, e, ha, h⟩, hg => by
    subst e
    have h1 := hg a (List.mem_cons_self ..) x ha
    have h2 := Cat.len h (fun b hb => hg b (List.mem_cons_of_mem _ hb))
    rw [List.length_append, List.length_cons, Nat.succ_mul]
    omega
/-- each gives one -/
def One {α : Type} (P : α → List Nat → Prop) (a : α) (x : List (List Nat)) : Prop := ∃ l, x = [l] ∧ P a l
/-- each gives one or none -/
def Opt {α : Type} (P : α → List Nat → Prop) (a : α) (x : List (List Nat)) : Prop := x = [] ∨ ∃ l, x = [l] ∧ P a l
/-! ### what happens to the heap -/
structure Go (K : PySem.W.Frag) (p a : Addr) (H H' : Hp) : Prop where
  b : But p H H'
  q : PoolAt K H' p a
structure Is (p : Addr) (H : Hp) (x : Addr) (m n : Nat) (ls : List (List Nat)) : Prop where
  np : x ≠ p
  at_ : H x = some (.lst (txs ls))
  few : ls.length ≤ m
  short : ∀ l ∈ ls, l.length ≤ n
section
variable {K : PySem.W.Frag} {p a : Addr} {σ : L2.St} {H H' H1 H2 : Hp} {m n : Nat} {x : Addr} {ls : List (List Nat)}
theorem Go.refl (q : PoolAt K H p a) : Go K p a H H := ⟨But.refl H, q⟩
theorem Go.trans (g : Go K p a H H1) (h : Go K p a H1 H2) : Go K p a H H2 := ⟨g.b.trans h.b, h.q⟩
theorem Go.new {o : HO} (q : PoolAt K H p a) (h : H x = none) : Go K p a H (upd H x o) := ⟨Same.but (Same.new h), q.new h⟩
theorem Go.back (g : Go K p a H H1) (h : H1 x = none) : H x = none := g.b.free g.q h
theorem Is.go (g : Go K p a H H1) (i : Is p H x m n ls) : Is p H1 x m n ls := ⟨i.np, g.b _ _ i.np i.at_, i.few, i.short⟩
theorem Is.sq (i : Is p H x m n ls) : SqL K H x (txs ls) := SqL.of i.at_
theorem Is.wide {m' n' : Nat} (i : Is p H x m n ls) (h1 : m ≤ m') (h2 : n ≤ n') : Is p H x m' n' ls := ⟨i.np, i.at_, Nat.le_trans i.few h1, fun l hl => Nat.le_trans (i.short l hl) h2⟩
theorem go_draw {v : Int} (o : Off p H H1) (q : PoolAt K H1 p a) : Go K p a H H1 := ⟨Off.but o, q⟩
/-! ### the judgements -/
def Tx (K : PySem.W.Frag) (p a : Addr) (t : TE) (σ : L2.St) (H : Hp) (n : Nat) (R : List Nat → Prop) : Prop := ∀ H1, Go K p a H H1 → ∀ Q : VK, (∀ l H2, Go K p a H1 H2 → R l → l.length ≤ n → Q (.str (tx l)) H2) → t σ H1 Q
def Ls (K : PySem.W.Frag) (p a : Addr) (t : TE) (σ : L2.St) (H : Hp) (m n : Nat) (R : List (List Nat) → Prop) : Prop := ∀ H1, Go K p a H H1 → ∀ Q : VK, (∀ x ls H2, Go K p a H1 H2 → Is p H2 x m n ls → R ls → Q (.ref x) H2) → t σ H1 Q
/-- a new list -/
def Lf (K : PySem.W.Frag) (p a : Addr) (t : TE) (σ : L2.St) (H : Hp) (m n : Nat) (R : List (List Nat) → Prop) : Prop := ∀ H1, Go K p a H H1 → ∀ Q : VK, (∀ x ls H2, Go K p a H1 H2 → H1 x = none → Is p H2 x m n ls → R ls → Q (.ref x) H2) → t σ H1 Q
def It (K : PySem.W.Frag) (p a : Addr) (t : TE) (σ : L2.St) (H : Hp) (R : Int → Prop) : Prop := ∀ H1, Go K p a H H1 → ∀ Q : VK, (∀ i H2, Go K p a H1 H2 → R i → Q (.int i) H2) → t σ H1 Q
def Bt (K : PySem.W.Frag) (p a : Addr) (t : TT) (σ : L2.St) (H : Hp) (R : Bool → Prop) : Prop := ∀ H1, Go K p a H H1 → ∀ Q : Bool → Hp → Prop, (∀ b H2, Go K p a H1 H2 → R b → Q b H2) → t σ H1 Q
def Be (K : PySem.W.Frag) (p a : Addr) (t : TE) (σ : L2.St) (H : Hp) (R : Bool → Prop) : Prop := ∀ H1, Go K p a H H1 → ∀ Q : VK, (∀ b H2, Go K p a H1 H2 → R b → Q (.bl b) H2) → t σ H1 Q
/-- arguments that are texts -/
def Ta (K : PySem.W.Frag) (p a : Addr) (t : TA) (σ : L2.St) (H : Hp) (m n : Nat) (R : List (List Nat) → Prop) : Prop := ∀ H1, Go K p a H H1 → ∀ Q : List V → Hp → Prop, (∀ ls H2, Go K p a H1 H2 → R ls → ls.length ≤ m → (∀ l ∈ ls, l.length ≤ n) → Q (txs ls) H2) → t σ H1 Q
/-- arguments that are lists of texts -/
def La (K : PySem.W.Frag) (p a : Addr) (t : TA) (σ : L2.St) (H : Hp) (k m n : Nat) (R : List (List Nat) → Prop) : Prop := ∀ H1, Go K p a H H1 → ∀ Q : List V → Hp → Prop, (∀ vs H2, Go K p a H1 H2 → vs.length = k → (∀ v ∈ vs, ∃ x ls, v = .ref x ∧ Is p H2 x m n ls ∧ R ls) → Q vs H2) → t σ H1 Q
variable {t ta tb te : TE} {tr : TA} {tt tu : TT} {n1 n2 m1 m2 : Nat} {R R1 R2 : List Nat → Prop} {S S1 S2 : List (List Nat) → Prop} {I I1 I2 : Int → Prop} {B B1 B2 : Bool → Prop}
theorem Tx.le (h : Tx K p a t σ H n1 R) (l : n1 ≤ n) : Tx K p a t σ H n R := fun H1 g Q q => h H1 g Q fun l H2 g2 r e => q l H2 g2 r (by omega)
theorem Tx.imp (h : Tx K p a t σ H n R1) (l : ∀ l, R1 l → R l) : Tx K p a t σ H n R := fun H1 g Q q => h H1 g Q fun l' H2 g2 r e => q l' H2 g2 (l _ r) e
theorem Ls.imp (h : Ls K p a t σ H m n S1) (l : ∀ l, S1 l → S l) : Ls K p a t σ H m n S := fun H1 g Q q => h H1 g Q fun x ls H2 g2 i r => q x ls H2 g2 i (l _ r)
theorem tx_c {s : Str} (h : s.length ≤ 150) : Tx K p a (tC (.str s)) σ H 150 (fun l => l = cs s) := fun H1 g Q q => by
  have := q (cs s) H1 (Go.refl g.q) rfl (by rw [← tx_len, cs_tx]; exact h)
  rw [cs_tx] at this
  exact this
theorem tx_var {i : Nat} {l : List Nat} (h : σ[i]? = some (some (.str (tx l)))) (e : l.length ≤ n) : Tx K p a (tVar i) σ H n (fun z => z = l) := fun H1 g Q q => ⟨_, h, q l H1 (Go.refl g.q) rfl e⟩
theorem tx_plus (h1 : Tx K p a ta σ H n1 R1) (h2 : Tx K p a tb σ H n2 R2) (h : n1 + n2 ≤ 900000) : Tx K p a (tOp (fun x y H Q => ∃ i j, x = V.str i ∧ y = .str j ∧ i.length + j.length ≤ sizeLine ∧ Q (.str (i ++ j)) H) ta tb) σ H (n1 + n2) (fun l => ∃ x y, R1 x ∧ R2 y ∧ l = x ++ y) := fun H1 g Q q =>
  h1 H1 g _ fun x H2 g2 r2 e2 => h2 H2 (g.trans g2) _ fun y H3 g3 r3 e3 => ⟨_, _, rfl, rfl, by rw [tx_len, tx_len]; exact Nat.le_trans (by omega) (show 900000 ≤ sizeLine by decide), by
    rw [tx_cat]
    exact q (x ++ y) H3 (g2.trans g3) ⟨x, y, r2, r3, rfl⟩ (by rw [List.length_append]; omega)⟩
theorem it_c {i : Int} : It K p a (tC (.int i)) σ H (fun z => z = i) := fun H1 g Q q => q i H1 (Go.refl g.q) rfl
theorem it_var {i : Nat} {k : Int} (h : σ[i]? = some (some (.int k))) : It K p a (tVar i) σ H (fun z => z = k) := fun H1 g Q q => ⟨_, h, q k H1 (Go.refl g.q) rfl⟩
theorem it_op {f : Int → Int → Int} (h1 : It K p a ta σ H I1) (h2 : It K p a tb σ H I2) : It K p a (tOp (rI0 fun i j => .int (f i j)) ta tb) σ H (fun z => ∃ i j, I1 i ∧ I2 j ∧ z = f i j) := fun H1 g Q q =>
  h1 H1 g _ fun x H2 g2 r2 => h2 H2 (g.trans g2) _ fun y H3 g3 r3 => ⟨_, _, rfl, rfl, q (f x y) H3 (g2.trans g3) ⟨x, y, r2, r3, rfl⟩⟩
theorem it_draw {j0 : Nat} {E : XK} (hp : σ[j0]? = some (some (.ref p))) (h : It K p a t σ H I) (hI : ∀ i, I i → 0 < i ∧ i < 1073741824) : It K p a (tCall (spDraw K) [] E (tCons (tVar j0) (tCons t tNil))) σ H (fun z => ∃ i, I i ∧ 0 ≤ z ∧ z < i) := fun H1 g Q q =>
  ⟨.ref p, hp, h H1 g _ fun i H2 g2 r => ⟨p, a, i, rfl, g2.q, (hI i r).1, (hI i r).2, fun v H3 v0 v1 o q3 => q v H3 (g2.trans ⟨Off.but o, q3⟩) ⟨i, r, v0, v1⟩⟩⟩
theorem tx_num (h : It K p a t σ H I) (hI : ∀ i, I i → 0 ≤ i ∧ i < 100) : Tx K p a (tCB (fun xs H Q => ∃ i : Int, xs = [V.int i] ∧ i.natAbs.log2 < 1920 ∧ Q (.str (toString i)) H) (tCons t tNil)) σ H 10 (fun l => ∃ i, I i ∧ l = nm i) := fun H1 g Q q =>
  h H1 g _ fun i H2 g2 r => ⟨i, rfl, by
    have e := hI i r
    have : i.natAbs.log2 ≤ i.natAbs := Nat.log2_le_self _
    omega, by
    have e := hI i r
    have hl : ∀ k : Nat, k < 100 → (nm (k : Int)).length ≤ 10 := by decide +kernel
    obtain ⟨k, rfl⟩ := Int.eq_ofNat_of_zero_le e.1
    have := q (nm (k : Int)) H2 g2 ⟨_, r, rfl⟩ (hl k (by omega))
    unfold nm at this
    rw [cs_tx] at this
    exact this⟩
theorem bt_eq {c : Int} (h : It K p a t σ H I) : Bt K p a (tTest (tOp rEq t (tC (.int c)))) σ H (fun b => ∃ i, I i ∧ b = decide (i = c)) := fun H1 g Q q =>
  h H1 g _ fun i H2 g2 r => ⟨rfl, _, rfl, by
    rw [dec_i]
    exact q _ H2 g2 ⟨i, r, rfl⟩⟩
theorem bt_lt {c : Int} (h : It K p a t σ H I) : Bt K p a (tTest (tOp (rI0 fun i j => .bl (decide (i < j))) t (tC (.int c)))) σ H (fun b => ∃ i, I i ∧ b = decide (i < c)) := fun H1 g Q q =>
  h H1 g _ fun i H2 g2 r => ⟨_, _, rfl, rfl, _, rfl, q _ H2 g2 ⟨i, r, rfl⟩⟩
theorem bt_gt {c : Int} (h : It K p a t σ H I) : Bt K p a (tTest (tOp (rI0 fun i j => .bl (decide (j < i))) t (tC (.int c)))) σ H (fun b => ∃ i, I i ∧ b = decide (c < i)) := fun H1 g Q q =>
  h H1 g _ fun i H2 g2 r => ⟨_, _, rfl, rfl, _, rfl, q _ H2 g2 ⟨i, r, rfl⟩⟩
theorem be_eq {c : Int} (h : It K p a t σ H I) : Be K p a (tOp rEq t (tC (.int c))) σ H (fun b => ∃ i, I i ∧ b = decide (i = c)) := fun H1 g Q q =>
  h H1 g _ fun i H2 g2 r => ⟨rfl, by
    rw [dec_i]
    exact q _ H2 g2 ⟨i, r, rfl⟩⟩
theorem bt_var {i : Nat} {b : Bool} (h : σ[i]? = some (some (.bl b))) : Bt K p a (tB (tVar i)) σ H (fun z => z = b) := fun H1 g Q q => ⟨_, h, b, rfl, q b H1 (Go.refl g.q) rfl⟩
theorem bt_ne {i j : Nat} {k l : List Nat} (hi : σ[i]? = some (some (.str (tx k)))) (hj : σ[j]? = some (some (.str (tx l)))) : Bt K p a (tTest (tOp rNe (tVar i) (tVar j))) σ H (fun b => b = !decide (k = l)) := fun H1 g Q q =>
  ⟨_, hi, _, hj, rfl, _, rfl, by
    rw [tx_eq]
    exact q _ H1 (Go.refl g.q) rfl⟩
theorem bt_and (h1 : Bt K p a tt σ H B1) (h2 : Bt K p a tu σ H B2) : Bt K p a (tAnd tt tu) σ H (fun b => ∃ c, B1 c ∧ (c = false ∧ b = false ∨ c = true ∧ B2 b)) := fun H1 g Q q =>
  h1 H1 g _ fun c H2 g2 r2 => by
    cases c with
    | true => exact h2 H2 (g.trans g2) _ fun d H3 g3 r3 => q d H3 (g2.trans g3) ⟨true, r2, .inr ⟨rfl, r3⟩⟩
    | false => exact q false H2 g2 ⟨false, r2, .inl ⟨rfl, rfl⟩⟩
end
end My
set_option Elab.async false
set_option linter.all false
set_option maxRecDepth 100000
set_option maxHeartbeats 4000000
namespace My
open PySem PySem.Spec PyProof.Rows L2
theorem join_len {sep : List Nat} {n : Nat} : ∀ {ls : List (List Nat)}, (∀ l ∈ ls, l.length ≤ n) → (TL.joinL sep ls).length ≤ ls.length * (n + sep.length)
  | [], _ => by simp [TL.joinL]
  | [x], h => by
    have := h x (List.mem_cons_self ..)
    simp only [TL.joinL, List.length_cons, List.length_nil]
    omega
  | x :: y :: r, h => by
    have h1 := h x (List.mem_cons_self ..)
    have h2 := join_len (sep := sep) (ls := y :: r) (fun l hl => h l (List.mem_cons_of_mem _ hl))
    have e : (x :: y :: r).length * (n + sep.length) = (y :: r).length * (n + sep.length) + (n + sep.length) := by rw [List.length_cons, Nat.succ_mul]
    rw [e]
    simp only [TL.joinL, List.length_append] at h2 ⊢
    omega
theorem sum_le {n : Nat} : ∀ {ls : List (List Nat)}, (∀ l ∈ ls, l.length ≤ n) → ((ls.map tx).map (·.length)).sum ≤ ls.length * n
  | [], _ => Nat.zero_le _
  | x :: r, h => by
    have h1 := h x (List.mem_cons_self ..)
    have h2 := sum_le (ls := r) (fun l hl => h l (List.mem_cons_of_mem _ hl))
    rw [List.map_cons, List.map_cons, List.sum_cons, List.length_cons, Nat.succ_mul, tx_len]
    omega
section
variable {K : PySem.W.Frag} {p a : Addr} {σ : L2.St} {H H' H1 H2 : Hp} {m n : Nat} {x : Addr} {ls : List (List Nat)}
variable {t ta tb te : TE} {tr : TA} {tt tu : TT} {n1 n2 m1 m2 : Nat} {R R1 R2 : List Nat → Prop} {S S1 S2 : List (List Nat) → Prop} {I I1 I2 : Int → Prop} {B B1 B2 : Bool → Prop} {E : XK}
theorem ls_of (h : Lf K p a t σ H m n S) : Ls K p a t σ H m n S := fun H1 g Q q => h H1 g Q fun x ls H2 g2 _ i r => q x ls H2 g2 i r
theorem Lf.imp (h : Lf K p a t σ H m n S1) (l : ∀ l, S1 l → S l) : Lf K p a t σ H m n S := fun H1 g Q q => h H1 g Q fun x ls H2 g2 f i r => q x ls H2 g2 f i (l _ r)
theorem ls_var {i : Nat} (h : σ[i]? = some (some (.ref x))) (e : Is p H x m n ls) : Ls K p a (tVar i) σ H m n (fun z => z = ls) := fun H1 g Q q => ⟨_, h, q x ls H1 (Go.refl g.q) (e.go g) rfl⟩
theorem tx_join {sep : Str} (h : Ls K p a t σ H m n S) (hs : sep.length ≤ 150) (hb : m * (n + 150) ≤ 900000) :
    Tx K p a (tBM K "str" (fun x xs H Q => ∃ a p, ∃ ys : List Str, x = V.str a ∧ xs = [.ref p] ∧ (SqL K H p (ys.map V.str) ∨ SqT K H p (ys.map V.str)) ∧ (ys.map (·.length)).sum + ys.length * a.length ≤ 16777216 ∧ Q (.str (Txt.join a ys)) H) (tC (.str sep)) (tCons t tNil)) σ H (m * (n + 150)) (fun l => ∃ ls, S ls ∧ l = TL.joinL (cs sep) ls) := fun H1 g Q q =>
  ⟨rfl, h H1 g _ fun x ls H2 g2 i r => ⟨sep, x, ls.map tx, rfl, rfl, .inl (by rw [List.map_map]; exact i.sq), by
    have h1 := sum_le i.short
    have h3 : ls.length * n ≤ m * n := Nat.mul_le_mul_right _ i.few
    have h4 : ls.length * sep.length ≤ m * 150 := Nat.mul_le_mul i.few hs
    have h5 : m * (n + 150) = m * n + m * 150 := Nat.mul_add _ _ _
    rw [List.length_map]
    omega, by
    have e : Txt.join sep (ls.map tx) = tx (TL.joinL (cs sep) ls) := by
      have := SX.join_S (cs sep) ls
      rw [show SX.S (cs sep) = sep from cs_tx sep] at this
      exact this
    rw [e]
    refine q _ H2 g2 ⟨ls, r, rfl⟩ ?_
    have h1 := join_len (sep := cs sep) i.short
    have h2 : (cs sep).length ≤ 150 := by rw [← tx_len, cs_tx]; exact hs
    exact Nat.le_trans h1 (Nat.mul_le_mul i.few (by omega))⟩⟩
theorem tx_ix {i : Nat} {j : Nat} {l : List Nat} (h : σ[i]? = some (some (.ref x))) (e : Is p H x m n ls) (hj : ls[j]? = some l) : Tx K p a (tOp (rIxL K) (tVar i) (tC (.int (j : Nat)))) σ H n (fun z => z = l) := fun H1 g Q q =>
  ⟨_, h, x, txs ls, _, _, rfl, rfl, (e.go g).sq, atI_nat (txs_get hj), q l H1 (Go.refl g.q) rfl (e.short l (List.mem_of_getElem? hj))⟩
theorem tx_pick {j0 : Nat} (hp : σ[j0]? = some (some (.ref p))) (h : Ls K p a t σ H m n S) (hS : ∀ l, S l → 0 < l.length) (hm : m ≤ 100000) : Tx K p a (tCall (spPick K) [] E (tCons (tVar j0) (tCons t tNil))) σ H n (fun l => ∃ ls, S ls ∧ l ∈ ls) := fun H1 g Q q =>
  ⟨.ref p, hp, h H1 g _ fun x ls H2 g2 i r => ⟨p, a, x, txs ls, rfl, g2.q, i.sq, i.np, by rw [txs_len]; exact hS ls r, by rw [txs_len]; exact Nat.le_trans i.few hm, fun v H3 hv o q3 => by
    obtain ⟨l, hl, rfl⟩ := txs_mem hv
    exact q l H3 (g2.trans ⟨Off.but o, q3⟩) ⟨ls, r, hl⟩ (i.short l hl)⟩⟩
theorem la_nil : La K p a tNil σ H 0 m n (fun _ => False) := fun H1 g Q q => q [] H1 (Go.refl g.q) rfl (fun v hv => by cases hv)
theorem ls_wide (h : Ls K p a t σ H m1 n1 S) (h1 : m1 ≤ m) (h2 : n1 ≤ n) : Ls K p a t σ H m n S := fun H1 g Q q => h H1 g Q fun x ls H2 g2 i r => q x ls H2 g2 (i.wide h1 h2) r
theorem la_cons {k : Nat} (h1 : Ls K p a t σ H m1 n S1) (h2 : La K p a tr σ H k m n S2) (hm : m1 ≤ m) : La K p a (tCons t tr) σ H (k + 1) m n (fun l => S1 l ∨ S2 l) := fun H1 g Q q =>
  (ls_wide h1 hm (Nat.le_refl _)) H1 g _ fun x ls H2 g2 i r => h2 H2 (g.trans g2) _ fun vs H3 g3 e hv => q (.ref x :: vs) H3 (g2.trans g3) (by rw [List.length_cons, e]) fun v hv' => by
    rcases List.mem_cons.mp hv' with rfl | hv'
    · exact ⟨x, ls, rfl, i.go g3, .inl r⟩
    · obtain ⟨y, zs, e, i, r⟩ := hv v hv'
      exact ⟨y, zs, e, i, .inr r⟩
theorem ls_pick {j0 : Nat} {k : Nat} (hp : σ[j0]? = some (some (.ref p))) (h : La K p a tr σ H k m n S) (hk : 0 < k ∧ k ≤ 1000) : Ls K p a (tCall (spPick K) [] E (tCons (tVar j0) (tCons (tLst tr) tNil))) σ H m n S := fun H1 g Q q =>
  ⟨.ref p, hp, h H1 g _ fun vs H2 g2 e hv => ⟨by rw [e]; exact Nat.le_trans hk.2 (show 1000 ≤ sizeLine by decide), fun y ny => ⟨p, a, y, vs, rfl, g2.q.new ny, SqL.of upd_same, g2.q.ne ny, by omega, by omega, fun v H3 hvm o q3 => by
    obtain ⟨z, zs, rfl, i, r⟩ := hv v hvm
    have g3 : Go K p a H2 H3 := (Go.new g2.q ny).trans ⟨Off.but o, q3⟩
    exact q z zs H3 (g2.trans g3) (i.go g3) r⟩⟩⟩
theorem ta_nil : Ta K p a tNil σ H 0 n (fun l => l = []) := fun H1 g Q q => q [] H1 (Go.refl g.q) rfl (Nat.zero_le _) (fun l hl => by cases hl)
theorem ta_cons (h1 : Tx K p a t σ H n1 R) (h2 : Ta K p a tr σ H m n S) (h : n1 ≤ n) : Ta K p a (tCons t tr) σ H (m + 1) n (fun l => ∃ x y, R x ∧ S y ∧ l = x :: y) := fun H1 g Q q =>
  h1 H1 g _ fun x H2 g2 r e => h2 H2 (g.trans g2) _ fun ls H3 g3 s l1 l2 => q (x :: ls) H3 (g2.trans g3) ⟨x, ls, r, s, rfl⟩ (by rw [List.length_cons]; omega) fun l hl => by
    rcases List.mem_cons.mp hl with rfl | hl
    · omega
    · exact l2 l hl
theorem lf_lst (h : Ta K p a tr σ H m n S) (hm : m ≤ 100000) : Lf K p a (tLst tr) σ H m n S := fun H1 g Q q =>
  h H1 g _ fun ls H2 g2 r l1 l2 => ⟨by rw [txs_len]; exact Nat.le_trans (Nat.le_trans l1 hm) (show 100000 ≤ sizeLine by decide), fun x nx => q x ls _ (g2.trans (Go.new g2.q nx)) (g2.back nx) ⟨g2.q.ne nx, upd_same, l1, l2⟩ r⟩
theorem ls_lst (h : Ta K p a tr σ H m n S) (hm : m ≤ 100000) : Ls K p a (tLst tr) σ H m n S := ls_of (lf_lst h hm)
theorem lf_cat (h1 : Ls K p a ta σ H m1 n S1) (h2 : Ls K p a tb σ H m2 n S2) (h : m1 + m2 ≤ 100000) : Lf K p a (tOp rCat ta tb) σ H (m1 + m2) n (fun l => ∃ x y, S1 x ∧ S2 y ∧ l = x ++ y) := fun H1 g Q q =>
  h1 H1 g _ fun x xs H2 g2 i2 r2 => h2 H2 (g.trans g2) _ fun y ys H3 g3 i3 r3 => ⟨x, y, txs xs, txs ys, rfl, rfl, (i2.go g3).at_, i3.at_, by
    rw [txs_len, txs_len]
    have := i2.few
    have := i3.few
    exact Nat.le_trans (by omega) (show 100000 ≤ sizeLine by decide), fun z nz => by
    have g4 := Go.new (o := .lst (txs xs ++ txs ys)) g3.q nz
    exact q z (xs ++ ys) _ ((g2.trans g3).trans g4) ((g2.trans g3).back nz) ⟨g3.q.ne nz, by rw [txs_app]; exact upd_same, by rw [List.length_append]; have := i2.few; have := i3.few; omega, fun l hl => by
      rcases List.mem_append.mp hl with hl | hl
      · exact i2.short l hl
      · exact i3.short l hl⟩ ⟨xs, ys, r2, r3, rfl⟩⟩
theorem ls_cat (h1 : Ls K p a ta σ H m1 n S1) (h2 : Ls K p a tb σ H m2 n S2) (h : m1 + m2 ≤ 100000) : Ls K p a (tOp rCat ta tb) σ H (m1 + m2) n (fun l => ∃ x y, S1 x ∧ S2 y ∧ l = x ++ y) := ls_of (lf_cat h1 h2 h)
theorem tx_if (h : Bt K p a tt σ H B) (h1 : Tx K p a ta σ H n1 R1) (h2 : Tx K p a tb σ H n1 R2) : Tx K p a (tIf tt ta tb) σ H n1 (fun l => ∃ b, B b ∧ (b = true ∧ R1 l ∨ b = false ∧ R2 l)) := fun H1 g Q q =>
  h H1 g _ fun b H2 g2 r => by
    cases b with
    | true => exact h1 H2 (g.trans g2) _ fun l H3 g3 r3 e => q l H3 (g2.trans g3) ⟨true, r, .inl ⟨rfl, r3⟩⟩ e
    | false => exact h2 H2 (g.trans g2) _ fun l H3 g3 r3 e => q l H3 (g2.trans g3) ⟨false, r, .inr ⟨rfl, r3⟩⟩ e
/-! ### comprehensions -/
/-- what a comprehension has so far -/
structure Cw1 {α : Type} (K : PySem.W.Frag) (p a : Addr) (H1 : Hp) (D : Addr) (n : Nat) (P : α → List (List Nat) → Prop) (as : List α) (i : Nat) (H : Hp) : Prop where
  free : H1 D = none
  go : Go K p a H1 H
  ex : ∃ ls, H D = some (.lst (txs ls)) ∧ ls.length ≤ i ∧ (∀ l ∈ ls, l.length ≤ n) ∧ Cat P (as.take i) ls
theorem cw1_turn {α : Type} {P : α → List (List Nat) → Prop} {as : List α} {i : Nat} {b : α} {D : Addr} {σ2 : L2.St} (w : Cw1 K p a H1 D n P as i H') (hb : as[i]? = some b) (hi : i < 50000) (ht : Bt K p a tt σ2 H1 B) (he : Tx K p a te σ2 H1 n R)
    (h1 : B true → ∀ l, R l → P b [l]) (h2 : B false → P b []) :
    tt σ2 H' fun c H3 => if c = true then te σ2 H3 fun y H4 => ∃ acc, H4 D = some (.lst acc) ∧ acc.length < sizeLine ∧ Cw1 K p a H1 D n P as (i + 1) (upd H4 D (.lst (acc ++ [y]))) else Cw1 K p a H1 D n P as (i + 1) H3 := by
  obtain ⟨fr, g, ls, e, few, sh, ct⟩ := w
  have nD : D ≠ p := (show H1 D = none → D ≠ p from fun z => by
    intro e2
    obtain ⟨i', y', f', e3⟩ := g.q.ex
    rw [e2] at fr
    have := e
    rw [e2, e3] at this
    cases ls with
    | nil => cases this
    | cons a b => cases this) fr
  refine ht H' g _ fun c H3 g3 r3 => ?_
  have e3 := g3.b _ _ nD e
  cases c with
  | true =>
    show te σ2 H3 fun y H4 => ∃ acc, H4 D = some (.lst acc) ∧ acc.length < sizeLine ∧ Cw1 K p a H1 D n P as (i + 1) (upd H4 D (.lst (acc ++ [y])))
    refine he H3 (g.trans g3) _ fun l H4 g4 r4 l4 => ⟨txs ls, g4.b _ _ nD e3, by rw [txs_len]; exact Nat.lt_of_le_of_lt few (Nat.lt_of_lt_of_le hi (by decide)), fr, ?_, ls ++ [l], ?_, ?_, ?_, Cat.take ct hb (h1 r3 l r4)⟩
    · have g5 := (g.trans g3).trans g4
      exact ⟨g5.b.mut fr, g5.q.put nD (g4.b _ _ nD e3)⟩
    · rw [txs_app]; exact upd_same
    · rw [List.length_append]; show _ + 1 ≤ _; omega
    · intro z hz
      rcases List.mem_append.mp hz with hz | hz
      · exact sh z hz
      · rw [List.mem_singleton.mp hz]; exact l4
  | false =>
    show Cw1 K p a H1 D n P as (i + 1) H3
    refine ⟨fr, g.trans g3, ls, e3, by omega, sh, ?_⟩
    have := Cat.take ct hb (h2 r3)
    rw [List.append_nil] at this
    exact this
theorem bt_yes : Bt K p a tYes σ H (fun b => b = true) := fun H1 g Q q => q true H1 (Go.refl g.q) rfl
/-- over range(n) -/
theorem lf_lcR {j : Nat} {vs : List Nat} {tn : TE} {P : Nat → List (List Nat) → Prop} (N : Nat) (h : It K p a tn σ H I) (hI : ∀ i, I i → 0 ≤ i ∧ i ≤ (N : Nat)) (hN : N ≤ 40000) (hw : ∀ x, wipe ((wipe σ vs).set j (some x)) vs = wipe σ vs)
    (hs : ∀ (i : Nat), i < N → ∃ R : List Nat → Prop, Tx K p a te ((wipe σ vs).set j (some (.int (i : Int)))) H n R ∧ ∀ l, R l → P i [l]) :
    Lf K p a (tLc (iRng1 (tCons tn tNil)) (gName j) tYes te vs) σ H N n (fun ls => ∃ k : Nat, I (k : Int) ∧ Cat P (List.range k) ls) := fun H0 g Q q => h H0 g _ fun k H1 g1 rk => by
  obtain ⟨z0, z1⟩ := hI k rk
  obtain ⟨k, rfl⟩ := Int.eq_ofNat_of_zero_le z0
  refine ⟨(k : Int), rfl, by omega, by omega, fun D hD => ?_⟩
  have ek : ((k : Int)).toNat = k := Int.toNat_natCast k
  rw [ek]
  refine lc_range (lo := 0) (n := k) (Cw1 K p a H1 D n P (List.range k)) ⟨hD, Go.new g1.q hD, [], upd_same, Nat.zero_le _, fun l hl => (by cases hl), rfl⟩ (fun i H' hi w => ?_) (fun H' w => ?_)
  · have e0 : (0 : Int) + (i : Int) = (i : Int) := Int.zero_add _
    refine ⟨hw _, ?_⟩
    obtain ⟨R, hR, hP⟩ := hs i (by omega)
    have hR1 : Tx K p a te ((wipe σ vs).set j (some (.int (0 + (i : Int))))) H1 n R := by
      rw [e0]
      exact fun H2 g2 => hR H2 ((g.trans g1).trans g2)
    exact cw1_turn w (by rw [List.getElem?_range hi]) (by omega) bt_yes hR1 (fun _ => hP) (fun z => by cases z)
  · obtain ⟨fr, g', ls, e, few, sh, ct⟩ := w
    rw [List.take_of_length_le (by rw [List.length_range]; exact Nat.le_refl _)] at ct
    refine q D ls H' (g1.trans g') (g1.back fr) ⟨?_, e, by omega, sh⟩ ⟨k, rk, ct⟩
    intro z
    obtain ⟨_, _, _, e3⟩ := g'.q.ex
    rw [z, e3] at e
    cases ls <;> cases e
/-- over a list of texts that has a name -/
theorem lf_lcL {i j : Nat} {vs : List Nat} {n0 : Nat} {P : List Nat → List (List Nat) → Prop} (hv : σ[i]? = some (some (.ref x))) (hx : Is p H x m n0 ls) (hm : m ≤ 40000) (hw : ∀ x, wipe ((wipe σ vs).set j (some x)) vs = wipe σ vs)
    (hs : ∀ l, l ∈ ls → ∃ (B : Bool → Prop) (R : List Nat → Prop), Bt K p a tt ((wipe σ vs).set j (some (.str (tx l)))) H B ∧ Tx K p a te ((wipe σ vs).set j (some (.str (tx l)))) H n R ∧ (B true → ∀ y, R y → P l [y]) ∧ (B false → P l [])) :
    Lf K p a (tLc (iList K (tVar i)) (gName j) tt te vs) σ H m n (Cat P ls) := fun H1 g Q q => by
  have hx1 := hx.go g
  refine ⟨_, hv, x, rfl, ⟨_, hx1.sq⟩, fun D hD => ?_⟩
  refine lc_list (K := K) (a := x) (xs := txs ls) (Cw1 K p a H1 D n P ls) ⟨hD, Go.new g.q hD, [], upd_same, Nat.zero_le _, fun l hl => (by cases hl), rfl⟩ (fun i H' _ w => (hx1.go w.go).sq) (fun i y H' hy w => ?_) (fun H' w => ?_)
  · obtain ⟨l, hl, rfl⟩ := txs_of hy
    obtain ⟨B, R, hB, hR, h1, h2⟩ := hs l (List.mem_of_getElem? hl)
    refine ⟨hw _, ?_⟩
    have := (List.getElem?_eq_some_iff.mp hl).1
    have := hx.few
    exact cw1_turn w hl (by omega) (fun H2 g2 => hB H2 (g.trans g2)) (fun H2 g2 => hR H2 (g.trans g2)) h1 h2
  · obtain ⟨fr, g', ls', e, few, sh, ct⟩ := w
    rw [txs_len] at few ct
    rw [List.take_of_length_le (Nat.le_refl _)] at ct
    refine q D ls' H' g' fr ⟨?_, e, by have := hx.few; omega, sh⟩ ct
    intro z
    obtain ⟨_, _, _, e3⟩ := g'.q.ex
    rw [z, e3] at e
    cases ls' <;> cases e
end
end My
set_option Elab.async false
set_option linter.all false
set_option maxRecDepth 100000
set_option maxHeartbeats 4000000
namespace My
open PySem PySem.Spec PyProof.Rows L2
section
variable {X : Cx}
theorem pe_K {T : String} {r : V → List V → Hp → VK → Prop} {to : TE} {t : TA} {e : Expr} {K : PySem.W.Frag} (h : X.K = K) (pe : PE X e (tBM X.K T r to t)) : PE X e (tBM K T r to t) := h ▸ pe
theorem pi_K {tl : TE} {tg e : Expr} {K : PySem.W.Frag} (h : X.K = K) (pe : PI X tg e (iList X.K tl)) : PI X tg e (iList K tl) := h ▸ pe
def rJoinK (K : PySem.W.Frag) : V → List V → Hp → VK → Prop := fun x xs H Q => ∃ a p, ∃ ys : List Str, x = V.str a ∧ xs = [.ref p] ∧ (SqL K H p (ys.map V.str) ∨ SqT K H p (ys.map V.str)) ∧ (ys.map (·.length)).sum + ys.length * a.length ≤ 16777216 ∧ Q (.str (Txt.join a ys)) H
theorem joinQ (K : PySem.W.Frag) (h : X.K = K := by rfl) : MtR X "str.join" (rJoinK K) := by subst h; exact mt_join
end
/-- a list with a name that stays, and one that grows -/
structure Two (K : PySem.W.Frag) (p a : Addr) (H0 H : Hp) (c : Addr) (m n : Nat) (cells : List (List Nat)) (x : Addr) (M N : Nat) (ls : List (List Nat)) : Prop where
  go : Go K p a H0 H
  cl : Is p H c m n cells
  ne : c ≠ x
  fr : H0 x = none
  it : Is p H x M N ls
theorem Cat.map {α : Type} {f : α → List Nat} : ∀ {as : List α} {l : List (List Nat)}, Cat (fun a x => x = [f a]) as l → l = as.map f
  | [], l, h => h
  | a :: as, l, ⟨x, y, e, ha, h⟩ => by
    rw [e, ha, Cat.map h]
    rfl
section
variable {K : PySem.W.Frag} {p a : Addr} {σ : L2.St} {H0 H H' H1 H2 : Hp} {m n M N : Nat} {x c : Addr} {ls cells : List (List Nat)} {D : Ends} {tz tu tw : TS}
variable {t ta tb te : TE} {tr : TA} {tt : TT} {n1 n2 m1 m2 : Nat} {R R1 R2 : List Nat → Prop} {S S1 S2 : List (List Nat) → Prop} {I I1 I2 : Int → Prop} {B B1 B2 : Bool → Prop} {E : XK}
theorem Two.to (w : Two K p a H0 H c m n cells x M N ls) (g : Go K p a H H') : Two K p a H0 H' c m n cells x M N ls := ⟨w.go.trans g, w.cl.go g, w.ne, w.fr, w.it.go g⟩
theorem Two.name (w : Two K p a H0 H c m n cells x M N ls) : ∃ L, L = ls ∧ Two K p a H0 H c m n cells x M N L := ⟨_, rfl, w⟩
theorem Two.wide {M' N' : Nat} (w : Two K p a H0 H c m n cells x M N ls) (h1 : M ≤ M') (h2 : N ≤ N') : Two K p a H0 H c m n cells x M' N' ls := ⟨w.go, w.cl, w.ne, w.fr, w.it.wide h1 h2⟩
theorem it_opD {f : Int → Int → Int} {i j : Int} (h1 : It K p a ta σ H (fun z => z = i)) (h2 : It K p a tb σ H (fun z => z = j)) : It K p a (tOp (rI0 fun i j => .int (f i j)) ta tb) σ H (fun z => z = f i j) := fun H1 g Q q =>
  h1 H1 g _ fun x H2 g2 r2 => h2 H2 (g.trans g2) _ fun y H3 g3 r3 => ⟨_, _, rfl, rfl, q (f x y) H3 (g2.trans g3) (by rw [r2, r3])⟩
theorem it_addc {c : Int} (h : It K p a t σ H I) : It K p a (tOp (rI0 fun i j => .int (i + j)) (tC (.int c)) t) σ H (fun z => I (z - c)) := fun H1 g Q q =>
  h H1 g _ fun y H3 g3 r3 => ⟨_, _, rfl, rfl, q (c + y) H3 g3 (by
    show I (c + y - c)
    rw [show c + y - c = y by omega]
    exact r3)⟩
theorem it_drawC {j0 : Nat} {c : Int} (hp : σ[j0]? = some (some (.ref p))) (hI : 0 < c ∧ c < 1073741824) : It K p a (tCall (spDraw K) [] E (tCons (tVar j0) (tCons (tC (.int c)) tNil))) σ H (fun z => 0 ≤ z ∧ z < c) := fun H1 g Q q =>
  ⟨.ref p, hp, p, a, c, rfl, g.q, hI.1, hI.2, fun v H3 v0 v1 o q3 => q v H3 ⟨Off.but o, q3⟩ ⟨v0, v1⟩⟩
theorem it_drawV {j0 : Nat} {i : Nat} {c : Int} (hp : σ[j0]? = some (some (.ref p))) (hv : σ[i]? = some (some (.int c))) (hI : 0 < c ∧ c < 1073741824) : It K p a (tCall (spDraw K) [] E (tCons (tVar j0) (tCons (tVar i) tNil))) σ H (fun z => 0 ≤ z ∧ z < c) := fun H1 g Q q =>
  ⟨.ref p, hp, _, hv, p, a, c, rfl, g.q, hI.1, hI.2, fun v H3 v0 v1 o q3 => q v H3 ⟨Off.but o, q3⟩ ⟨v0, v1⟩⟩
theorem tx_joinK {sep : Str} (h : Ls K p a t σ H m n S) (hs : sep.length ≤ 150) (hb : m * (n + 150) ≤ 900000) :
    Tx K p a (tBM K "str" (rJoinK K) (tC (.str sep)) (tCons t tNil)) σ H (m * (n + 150)) (fun l => ∃ ls, S ls ∧ l = TL.joinL (cs sep) ls) := tx_join h hs hb
theorem tx_ix0 {i : Nat} {l : List Nat} (h : σ[i]? = some (some (.ref x))) (e : Is p H x m n ls) (hj : ls[0]? = some l) : Tx K p a (tOp (rIxL K) (tVar i) (tC (.int 0))) σ H n (fun z => z = l) := tx_ix (j := 0) h e hj
theorem tx_ix1 {i : Nat} {l : List Nat} (h : σ[i]? = some (some (.ref x))) (e : Is p H x m n ls) (hj : ls[1]? = some l) : Tx K p a (tOp (rIxL K) (tVar i) (tC (.int 1))) σ H n (fun z => z = l) := tx_ix (j := 1) h e hj
theorem tx_ix2 {i : Nat} {l : List Nat} (h : σ[i]? = some (some (.ref x))) (e : Is p H x m n ls) (hj : ls[2]? = some l) : Tx K p a (tOp (rIxL K) (tVar i) (tC (.int 2))) σ H n (fun z => z = l) := tx_ix (j := 2) h e hj
theorem at_last {α : Type} {xs : List α} {v : α} (h : xs[xs.length - 1]? = some v) : atI xs (-1) = some v := by
  have hl := (List.getElem?_eq_some_iff.mp h).1
  unfold atI ixN
  rw [if_neg (by omega), if_pos (by omega)]
  show xs[((xs.length : Int) + -1).toNat]? = some v
  rw [show ((xs.length : Int) + -1).toNat = xs.length - 1 by omega]
  exact h
theorem tx_last {i : Nat} {l : List Nat} (h : σ[i]? = some (some (.ref x))) (e : Is p H x m n ls) (hl : ls[ls.length - 1]? = some l) : Tx K p a (tOp (rIxL K) (tVar i) (tUn (rU fun i => .int (-i)) (tC (.int 1)))) σ H n (fun z => z = l) := fun H1 g Q q =>
  ⟨_, h, 1, rfl, x, txs ls, _, _, rfl, rfl, (e.go g).sq, at_last (by rw [txs_len]; exact txs_get hl), q l H1 (Go.refl g.q) rfl (e.short l (List.mem_of_getElem? hl))⟩
theorem tx_pick2 {j0 : Nat} {s1 s2 : Str} (hp : σ[j0]? = some (some (.ref p))) (h1 : s1.length ≤ 150) (h2 : s2.length ≤ 150) : Tx K p a (tCall (spPick K) [] E (tCons (tVar j0) (tCons (tLst (tCons (tC (.str s1)) (tCons (tC (.str s2)) tNil))) tNil))) σ H 150 (fun l => l = cs s1 ∨ l = cs s2) :=
  (tx_pick (m := 2) hp (ls_lst (ta_cons (tx_c h1) (ta_cons (tx_c h2) ta_nil (by decide)) (by decide)) (by decide)) (fun l hl => by
    obtain ⟨_, _, rfl, ⟨_, _, rfl, rfl, rfl⟩, rfl⟩ := hl
    exact Nat.zero_lt_succ _) (by decide)).imp fun l hl => by
    obtain ⟨_, ⟨_, _, rfl, ⟨_, _, rfl, rfl, rfl⟩, rfl⟩, hm⟩ := hl
    simp only [List.mem_cons, List.not_mem_nil, or_false] at hm
    exact hm
theorem it_len {i : Nat} (h : σ[i]? = some (some (.ref x))) (e : Is p H x m n ls) : It K p a (tCB (rLen K) (tCons (tVar i) tNil)) σ H (fun z => z = (ls.length : Nat)) := fun H1 g Q q =>
  ⟨_, h, x, txs ls, rfl, .inl (e.go g).sq, q _ H1 (Go.refl g.q) (by rw [txs_len])⟩
theorem ls_lo {i j k : Nat} (h : σ[i]? = some (some (.ref x))) (hj : σ[j]? = some (some (.int (k : Nat)))) (e : Is p H x m n ls) : Ls K p a (tSl (rSlL K) (tVar i) tNoPart (tPart (tVar j))) σ H m n (fun z => z = ls.take k) := fun H1 g Q q =>
  ⟨_, h, _, hj, _, rfl, x, txs ls, rfl, (e.go g).sq, fun y ny => by
    have e1 : cutV (txs ls) none (some (k : Int)) = txs (ls.take k) := (cut_lt (txs ls) k).trans (by unfold txs; rw [List.map_take])
    rw [e1]
    refine q y (ls.take k) _ (Go.new g.q ny) ⟨g.q.ne ny, upd_same, ?_, fun l hl => e.short l (List.mem_of_mem_take hl)⟩ rfl
    rw [List.length_take]
    have := e.few
    omega⟩
theorem ls_hi {i j k : Nat} (h : σ[i]? = some (some (.ref x))) (hj : σ[j]? = some (some (.int (k : Nat)))) (e : Is p H x m n ls) : Ls K p a (tSl (rSlL K) (tVar i) (tPart (tVar j)) tNoPart) σ H m n (fun z => z = ls.drop k) := fun H1 g Q q =>
  ⟨_, h, _, hj, _, rfl, x, txs ls, rfl, (e.go g).sq, fun y ny => by
    have e1 : cutV (txs ls) (some (k : Int)) none = txs (ls.drop k) := (cut_ge (txs ls) k).trans (by unfold txs; rw [List.map_drop])
    rw [e1]
    refine q y (ls.drop k) _ (Go.new g.q ny) ⟨g.q.ne ny, upd_same, ?_, fun l hl => e.short l (List.mem_of_mem_drop hl)⟩ rfl
    rw [List.length_drop]
    have := e.few
    omega⟩
theorem ls_sl1 {i : Nat} (h : σ[i]? = some (some (.ref x))) (e : Is p H x m n ls) : Ls K p a (tSl (rSlL K) (tVar i) (tPart (tC (.int 1))) tNoPart) σ H m n (fun z => z = ls.drop 1) := fun H1 g Q q =>
  ⟨_, h, _, rfl, x, txs ls, rfl, (e.go g).sq, fun y ny => by
    have e1 : cutV (txs ls) (some 1) none = txs (ls.drop 1) := (cut_ge (txs ls) 1).trans (by unfold txs; rw [List.map_drop])
    rw [e1]
    refine q y (ls.drop 1) _ (Go.new g.q ny) ⟨g.q.ne ny, upd_same, ?_, fun l hl => e.short l (List.mem_of_mem_drop hl)⟩ rfl
    rw [List.length_drop]
    have := e.few
    omega⟩
/-- name = a new list -/
theorem q_new {i : Nat} (q : PoolAt K H p a) (h : Lf K p a t σ H M N S) (k : ∀ x ls H', Go K p a H H' → H x = none → Is p H' x M N ls → S ls → tz D (σ.set i (some (.ref x))) H') : tSeq (tAsg t (gName i)) tz D σ H :=
  h H (Go.refl q) _ fun x ls H2 g f i r => k x ls H2 g f i r
theorem s_new {i : Nat} (q : PoolAt K H p a) (h : Lf K p a t σ H M N S) (k : ∀ x ls H', Go K p a H H' → H x = none → Is p H' x M N ls → S ls → D.nx (σ.set i (some (.ref x))) H') : tAsg t (gName i) D σ H :=
  h H (Go.refl q) _ fun x ls H2 g f i r => k x ls H2 g f i r
theorem q_new2 {i : Nat} (g : Go K p a H0 H) (cl : Is p H c m n cells) (h : Lf K p a t σ H M N S) (k : ∀ x ls H', S ls → Two K p a H0 H' c m n cells x M N ls → tz D (σ.set i (some (.ref x))) H') : tSeq (tAsg t (gName i)) tz D σ H :=
  h H (Go.refl g.q) _ fun x ls H2 g2 f i r => k x ls H2 r ⟨g.trans g2, cl.go g2, ne_of_none cl.at_ f, g.back f, i⟩
theorem s_new2 {i : Nat} (g : Go K p a H0 H) (cl : Is p H c m n cells) (h : Lf K p a t σ H M N S) (k : ∀ x ls H', S ls → Two K p a H0 H' c m n cells x M N ls → D.nx (σ.set i (some (.ref x))) H') : tAsg t (gName i) D σ H :=
  h H (Go.refl g.q) _ fun x ls H2 g2 f i r => k x ls H2 r ⟨g.trans g2, cl.go g2, ne_of_none cl.at_ f, g.back f, i⟩
theorem q_tx {i : Nat} (q : PoolAt K H p a) (h : Tx K p a t σ H n R) (k : ∀ l H', Go K p a H H' → R l → l.length ≤ n → tz D (σ.set i (some (.str (tx l)))) H') : tSeq (tAsg t (gName i)) tz D σ H :=
  h H (Go.refl q) _ fun l H2 g r e => k l H2 g r e
theorem q_it {i : Nat} (q : PoolAt K H p a) (h : It K p a t σ H I) (k : ∀ l H', Go K p a H H' → I l → tz D (σ.set i (some (.int l))) H') : tSeq (tAsg t (gName i)) tz D σ H :=
  h H (Go.refl q) _ fun l H2 g r => k l H2 g r
theorem q_be {i : Nat} (q : PoolAt K H p a) (h : Be K p a t σ H B) (k : ∀ l H', Go K p a H H' → B l → tz D (σ.set i (some (.bl l))) H') : tSeq (tAsg t (gName i)) tz D σ H :=
  h H (Go.refl q) _ fun l H2 g r => k l H2 g r
theorem r_ls (q : PoolAt K H p a) (h : Ls K p a t σ H m n S) (k : ∀ x ls H', Go K p a H H' → Is p H' x m n ls → S ls → D.rt (.ref x) H') : tRet t D σ H :=
  h H (Go.refl q) _ fun x ls H2 g i r => k x ls H2 g i r
theorem r_lf (q : PoolAt K H p a) (h : Lf K p a t σ H m n S) (k : ∀ x ls H', Go K p a H H' → H x = none → Is p H' x m n ls → S ls → D.rt (.ref x) H') : tRet t D σ H :=
  h H (Go.refl q) _ fun x ls H2 g f i r => k x ls H2 g f i r
/-- found.append(text) -/
theorem app_core {i : Nat} (w : Two K p a H0 H c m n cells x M N ls) (hv : σ[i]? = some (some (.ref x))) (h : Tx K p a t σ H n1 R) (h1 : n1 ≤ N) (h2 : M < 100000) (k : ∀ l H', R l → Two K p a H0 H' c m n cells x (M + 1) N (ls ++ [l]) → D.nx σ H') :
    tDrop (tBM K "list" rAppend (tVar i) (tCons t tNil)) D σ H :=
  ⟨_, hv, Or.inl ⟨rfl, _, w.it.sq⟩, h H (Go.refl w.go.q) _ fun l H2 g r e => by
    have w2 := w.to g
    refine ⟨x, txs ls, _, rfl, rfl, w2.it.at_, by rw [txs_len]; exact Nat.lt_of_le_of_lt w2.it.few (Nat.lt_of_lt_of_le h2 (by decide)), ?_⟩
    refine k l _ r ⟨⟨w2.go.b.mut w.fr, w2.go.q.put w2.it.np w2.it.at_⟩, ⟨w2.cl.np, (upd_ne w.ne).trans w2.cl.at_, w2.cl.few, w2.cl.short⟩, w.ne, w.fr, ⟨w2.it.np, by rw [txs_app]; exact upd_same, by rw [List.length_append]; exact Nat.succ_le_succ w2.it.few, fun z hz => ?_⟩⟩
    rcases List.mem_append.mp hz with hz | hz
    · exact w2.it.short z hz
    · rw [List.mem_singleton.mp hz]; omega⟩
theorem q_app2 {i : Nat} (w : Two K p a H0 H c m n cells x M N ls) (hv : σ[i]? = some (some (.ref x))) (h : Tx K p a t σ H n1 R) (h1 : n1 ≤ N) (h2 : M < 100000) (k : ∀ l H', R l → Two K p a H0 H' c m n cells x (M + 1) N (ls ++ [l]) → tz D σ H') :
    tSeq (tDrop (tBM K "list" rAppend (tVar i) (tCons t tNil))) tz D σ H := app_core (D := { D with nx := tz D }) w hv h h1 h2 k
theorem q_ifB (q : PoolAt K H p a) (h : Bt K p a tt σ H B) (h1 : ∀ H', Go K p a H H' → B true → tu { D with nx := tz D } σ H') (h2 : ∀ H', Go K p a H H' → B false → tw { D with nx := tz D } σ H') : tSeq (tIfS tt tu tw) tz D σ H :=
  h H (Go.refl q) _ fun b H2 g r => by
    cases b with
    | true => exact h1 H2 g r
    | false => exact h2 H2 g r
theorem s_ifB (q : PoolAt K H p a) (h : Bt K p a tt σ H B) (h1 : ∀ H', Go K p a H H' → B true → tu D σ H') (h2 : ∀ H', Go K p a H H' → B false → tw D σ H') : tIfS tt tu tw D σ H :=
  h H (Go.refl q) _ fun b H2 g r => by
    cases b with
    | true => exact h1 H2 g r
    | false => exact h2 H2 g r
theorem s_forR {j : Nat} {tn : TE} (q : PoolAt K H p a) (h : It K p a tn σ H I) (hI : ∀ i, I i → 0 ≤ i ∧ i ≤ 1000) (Pv : Nat → Nat → L2.St → Hp → Prop) (h0 : ∀ (k : Nat) H', I (k : Int) → Go K p a H H' → Pv k 0 σ H')
    (hs : ∀ (k i : Nat) σ' H', I (k : Int) → i < k → Pv k i σ' H' → tu { D with nx := Pv k (i + 1), ct := Pv k (i + 1), bk := D.nx } (σ'.set j (some (.int (i : Int)))) H') (hd : ∀ (k : Nat) σ' H', I (k : Int) → Pv k k σ' H' → D.nx σ' H') : tFor (iRng1 (tCons tn tNil)) (gName j) tu D σ H :=
  h H (Go.refl q) _ fun k H1 g r => by
    obtain ⟨z0, z1⟩ := hI k r
    obtain ⟨k, rfl⟩ := Int.eq_ofNat_of_zero_le z0
    refine ⟨(k : Int), rfl, by omega, by omega, ?_⟩
    rw [show ((k : Int)).toNat = k from Int.toNat_natCast k]
    refine for_range (lo := 0) (n := k) (Pv k) (h0 k H1 r g) (fun i σ' H' hi w => ?_) (fun σ' H' w => hd k σ' H' r w)
    have e0 : (0 : Int) + (i : Int) = (i : Int) := Int.zero_add _
    show tu { D with nx := Pv k (i + 1), ct := Pv k (i + 1), bk := D.nx } (σ'.set j (some (.int ((0 : Int) + (i : Int))))) H'
    rw [e0]
    exact hs k i σ' H' r hi w
theorem q_forR {j : Nat} {tn : TE} (q : PoolAt K H p a) (h : It K p a tn σ H I) (hI : ∀ i, I i → 0 ≤ i ∧ i ≤ 1000) (Pv : Nat → Nat → L2.St → Hp → Prop) (h0 : ∀ (k : Nat) H', I (k : Int) → Go K p a H H' → Pv k 0 σ H')
    (hs : ∀ (k i : Nat) σ' H', I (k : Int) → i < k → Pv k i σ' H' → tu { D with nx := Pv k (i + 1), ct := Pv k (i + 1), bk := tz D } (σ'.set j (some (.int (i : Int)))) H') (hd : ∀ (k : Nat) σ' H', I (k : Int) → Pv k k σ' H' → tz D σ' H') : tSeq (tFor (iRng1 (tCons tn tNil)) (gName j) tu) tz D σ H :=
  s_forR (D := { D with nx := tz D }) q h hI Pv h0 hs hd
/-- for x in a list of texts that has a name and stays -/
theorem s_forT2 {i j : Nat} (hv : σ[i]? = some (some (.ref c))) (Pv : Nat → L2.St → Hp → Prop) (cl : Is p H c m n cells) (h0 : Pv 0 σ H) (hl : ∀ i σ' H', Pv i σ' H' → Is p H' c m n cells)
    (hs : ∀ i l σ' H', cells[i]? = some l → Pv i σ' H' → tu { D with nx := Pv (i + 1), ct := Pv (i + 1), bk := D.nx } (σ'.set j (some (.str (tx l)))) H') (hd : ∀ σ' H', Pv cells.length σ' H' → D.nx σ' H') : tFor (iList K (tVar i)) (gName j) tu D σ H :=
  ⟨_, hv, c, rfl, ⟨_, cl.sq⟩, for_list (K := K) (a := c) (xs := txs cells) Pv h0 (fun i σ' H' _ w => (hl i σ' H' w).sq) (fun i y σ' H' hy w => by
    obtain ⟨l, hl, rfl⟩ := txs_of hy
    exact hs i l σ' H' hl w) (by rw [txs_len]; exact hd)⟩
theorem q_forT2 {i j : Nat} (hv : σ[i]? = some (some (.ref c))) (Pv : Nat → L2.St → Hp → Prop) (cl : Is p H c m n cells) (h0 : Pv 0 σ H) (hl : ∀ i σ' H', Pv i σ' H' → Is p H' c m n cells)
    (hs : ∀ i l σ' H', cells[i]? = some l → Pv i σ' H' → tu { D with nx := Pv (i + 1), ct := Pv (i + 1), bk := tz D } (σ'.set j (some (.str (tx l)))) H') (hd : ∀ σ' H', Pv cells.length σ' H' → tz D σ' H') : tSeq (tFor (iList K (tVar i)) (gName j) tu) tz D σ H :=
  s_forT2 (D := { D with nx := tz D }) hv Pv cl h0 hl hs hd
end
end My
set_option Elab.async false
set_option linter.all false
set_option maxRecDepth 100000
set_option maxHeartbeats 4000000
namespace My
open PySem PySem.Spec PyProof.Rows L2
/-- all but two objects as it was -/
def Kp (p x : Addr) (H H' : Hp) : Prop := ∀ b o, b ≠ p → b ≠ x → H b = some o → H' b = some o
structure Tw (K : PySem.W.Frag) (p a : Addr) (H0 Hs H : Hp) (c : Addr) (m n : Nat) (cells : List (List Nat)) (x : Addr) (M N : Nat) (ls : List (List Nat)) : Prop where
  w : Two K p a H0 H c m n cells x M N ls
  k : Kp p x Hs H
section
variable {K : PySem.W.Frag} {p a : Addr} {σ : L2.St} {H0 Hs H H' H1 H2 : Hp} {m n M N : Nat} {x c : Addr} {ls cells : List (List Nat)} {D : Ends} {tz tu tw : TS}
variable {t ta tb te : TE} {tr : TA} {tt : TT} {n1 n2 m1 m2 : Nat} {R R1 R2 : List Nat → Prop} {S S1 S2 : List (List Nat) → Prop} {I I1 I2 : Int → Prop} {B B1 B2 : Bool → Prop} {E : XK}
theorem Kp.refl : Kp p x H H := fun _ _ _ _ h => h
theorem Kp.trans (k1 : Kp p x H H1) (k2 : Kp p x H1 H2) : Kp p x H H2 := fun b o n1 n2 h => k2 b o n1 n2 (k1 b o n1 n2 h)
theorem Go.kp (g : Go K p a H H1) : Kp p x H H1 := fun b o n1 _ h => g.b b o n1 h
theorem Tw.to (w : Tw K p a H0 Hs H c m n cells x M N ls) (g : Go K p a H H') : Tw K p a H0 Hs H' c m n cells x M N ls := ⟨w.w.to g, w.k.trans g.kp⟩
theorem Tw.wide {M' N' : Nat} (w : Tw K p a H0 Hs H c m n cells x M N ls) (h1 : M ≤ M') (h2 : N ≤ N') : Tw K p a H0 Hs H c m n cells x M' N' ls := ⟨w.w.wide h1 h2, w.k⟩
theorem Tw.name (w : Tw K p a H0 Hs H c m n cells x M N ls) : ∃ L, L = ls ∧ Tw K p a H0 Hs H c m n cells x M N L := ⟨_, rfl, w⟩
theorem Tw.q (w : Tw K p a H0 Hs H c m n cells x M N ls) : PoolAt K H p a := w.w.go.q
theorem app3 {i : Nat} (w : Tw K p a H0 Hs H c m n cells x M N ls) (hv : σ[i]? = some (some (.ref x))) (h : Tx K p a t σ H n1 R) (h1 : n1 ≤ N) (h2 : M < 100000) (k : ∀ l H', R l → Tw K p a H0 Hs H' c m n cells x (M + 1) N (ls ++ [l]) → D.nx σ H') :
    tDrop (tBM K "list" rAppend (tVar i) (tCons t tNil)) D σ H :=
  ⟨_, hv, Or.inl ⟨rfl, _, w.w.it.sq⟩, h H (Go.refl w.q) _ fun l H2 g r e => by
    have w2 := w.w.to g
    refine ⟨x, txs ls, _, rfl, rfl, w2.it.at_, by rw [txs_len]; exact Nat.lt_of_le_of_lt w2.it.few (Nat.lt_of_lt_of_le h2 (by decide)), ?_⟩
    refine k l _ r ⟨⟨⟨w2.go.b.mut w.w.fr, w2.go.q.put w2.it.np w2.it.at_⟩, ⟨w2.cl.np, (upd_ne w.w.ne).trans w2.cl.at_, w2.cl.few, w2.cl.short⟩, w.w.ne, w.w.fr, ⟨w2.it.np, by rw [txs_app]; exact upd_same, by rw [List.length_append]; exact Nat.succ_le_succ w2.it.few, fun z hz => ?_⟩⟩, fun b o n1 n2 hb => (upd_ne n2).trans (g.b b o n1 (w.k b o n1 n2 hb))⟩
    rcases List.mem_append.mp hz with hz | hz
    · exact w2.it.short z hz
    · rw [List.mem_singleton.mp hz]; omega⟩
theorem q_app3 {i : Nat} (w : Tw K p a H0 Hs H c m n cells x M N ls) (hv : σ[i]? = some (some (.ref x))) (h : Tx K p a t σ H n1 R) (h1 : n1 ≤ N) (h2 : M < 100000) (k : ∀ l H', R l → Tw K p a H0 Hs H' c m n cells x (M + 1) N (ls ++ [l]) → tz D σ H') :
    tSeq (tDrop (tBM K "list" rAppend (tVar i) (tCons t tNil))) tz D σ H := app3 (D := { D with nx := tz D }) w hv h h1 h2 k
theorem it_mulD {i j : Int} (h1 : It K p a ta σ H (fun z => z = i)) (h2 : It K p a tb σ H (fun z => z = j)) (hc : CMul i j) : It K p a (tOp (rI CMul fun i j => .int (i * j)) ta tb) σ H (fun z => z = i * j) := fun H1 g Q q =>
  h1 H1 g _ fun x H2 g2 r2 => h2 H2 (g.trans g2) _ fun y H3 g3 r3 => ⟨_, _, rfl, rfl, by rw [r2, r3]; exact hc, q (x * y) H3 (g2.trans g3) (by rw [r2, r3])⟩
theorem it_neg1 : It K p a (tUn (rU fun i => .int (-i)) (tC (.int 1))) σ H (fun z => z = -1) := fun H1 g Q q => ⟨1, rfl, q _ H1 (Go.refl g.q) rfl⟩
theorem bt_chain {i j : Nat} {b c : Int} (hi : σ[i]? = some (some (.int b))) (hj : σ[j]? = some (some (.int c))) : Bt K p a (tTest (tChain (rI0 fun i j => .bl (decide (i ≤ j))) (rI0 fun i j => .bl (decide (i < j))) (tC (.int 0)) (tVar i) (tVar j))) σ H (fun z => z = true → 0 ≤ b ∧ b < c) := fun H1 g Q q =>
  ⟨_, hi, 0, b, rfl, rfl, _, rfl, by
    by_cases h : 0 ≤ b
    · refine ifV (b := true) (decide_eq_true h) ⟨_, hj, b, c, rfl, rfl, _, rfl, q _ H1 (Go.refl g.q) fun z => ⟨h, of_decide_eq_true z⟩⟩
    · refine ifV (b := false) (decide_eq_false h) ⟨_, rfl, q _ H1 (Go.refl g.q) fun z => by cases z⟩⟩
theorem s_forI2 {j : Nat} {i1 i2 : Int} (q : PoolAt K H p a) (h1 : It K p a ta σ H (fun z => z = i1)) (h2 : It K p a tb σ H (fun z => z = i2)) (Pv : Addr → Nat → L2.St → Hp → Prop)
    (h0 : ∀ y H', Go K p a H H' → y ≠ p → H y = none → H' y = some (.lst [.int i1, .int i2]) → Pv y 0 σ H') (hl : ∀ y i σ' H', Pv y i σ' H' → H' y = some (.lst [.int i1, .int i2]))
    (hs : ∀ y i v σ' H', [i1, i2][i]? = some v → Pv y i σ' H' → tu { D with nx := Pv y (i + 1), ct := Pv y (i + 1), bk := D.nx } (σ'.set j (some (.int v))) H') (hd : ∀ y σ' H', Pv y 2 σ' H' → D.nx σ' H') :
    tFor (iList K (tLst (tCons ta (tCons tb tNil)))) (gName j) tu D σ H :=
  h1 H (Go.refl q) _ fun x H2 g2 r2 => h2 H2 g2 _ fun y H3 g3 r3 => ⟨(by show 2 ≤ sizeLine; decide), fun l hl2 => by
    rw [r2, r3]
    have g23 := g2.trans g3
    refine ⟨l, rfl, ⟨_, SqL.of upd_same⟩, for_list (K := K) (a := l) (xs := [.int i1, .int i2]) (Pv l) (h0 l _ (g23.trans (Go.new g23.q hl2)) (g23.q.ne hl2) (g23.back hl2) upd_same) (fun i σ' H' _ w => SqL.of (hl l i σ' H' w)) (fun i v σ' H' hv w => ?_) (hd l)⟩
    match i, hv with
    | 0, hv =>
      cases hv
      exact hs l 0 i1 σ' H' rfl w
    | 1, hv =>
      cases hv
      exact hs l 1 i2 σ' H' rfl w⟩
end
end My
set_option Elab.async false
set_option linter.all false
set_option maxRecDepth 100000
set_option maxHeartbeats 4000000
/-! A list of texts in a drawn order -/
namespace My
open PySem PySem.Spec PyProof.Rows L2
local macro_rules
  | `(tactic| nofun) => `(tactic| (apply tup_at; nofun))
local macro_rules
  | `(tactic| nofun) => `(tactic| (apply seq_at; nofun))
local macro_rules
  | `(tactic| nofun) => `(tactic| (apply pool_same; assumption; nofun))
local macro_rules
  | `(tactic| nofun) => `(tactic| (apply but_get; assumption; assumption; nofun))
local macro_rules
  | `(tactic| nofun) => `(tactic| (apply off_get; assumption; assumption; nofun))
local macro_rules
  | `(tactic| nofun) => `(tactic| (apply same_get; assumption; nofun))
local macro_rules
  | `(tactic| nofun) => `(tactic| assumption)
abbrev st_law_mixed_up : Stmt := topS 32
theorem sc_law_mixed_up : FnScope ["pool", "items", "left", "found"] ["pool", "items"] (defScope st_law_mixed_up) := ⟨rfl, rfl, rfl, by decide +kernel, rfl, by decide +kernel, by decide +kernel⟩
def spMixT (K : PySem.W.Frag) : Sp := fun vs H Q _ => ∃ (p a c : Addr) (m n : Nat) (ls : List (List Nat)), vs = [.ref p, .ref c] ∧ PoolAt K H p a ∧ Is p H c m n ls ∧ m ≤ 1000 ∧ (∀ l ∈ ls, ∀ c ∈ l, c < 1114112) ∧ ∀ x H' ys, Go K p a H H' → H x = none → Is p H' x m n ys → ys.Perm ls → Q (.ref x) H'
theorem dp_txs {K : PySem.W.Frag} {H : Hp} : ∀ ls : List (List Nat), DpAll K H (txs ls) (ls.map fun l => .str (tx l))
  | [] => .nil
  | b :: bs => .cons (.str _) (dp_txs bs)
theorem lay_txs {ls : List (List Nat)} (h : ∀ l ∈ ls, ∀ c ∈ l, c < 1114112) : PyData.canLayAll0 (ls.map fun l => .str (tx l)) = true := by
  have := canLayAll_strs' (ls.map tx)
  rw [List.map_map] at this
  refine this.trans (List.all_eq_true.mpr fun s hs => ?_)
  obtain ⟨l, hl, rfl⟩ := List.mem_map.mp hs
  unfold PyData.strOk
  rw [Array.all_eq_true']
  intro c hc
  exact decide_eq_true (h l hl c (by simpa [tx] using hc))
theorem deep_txs : ∀ ls : List (List Nat), PyData.depthAll (ls.map fun l => .str (tx l)) = 0
  | [] => by simp only [List.map_nil, PyData.depthAll]
  | b :: bs => by
    simp only [List.map_cons, PyData.depthAll, PyData.depth]
    rw [deep_txs bs]
    rfl
theorem map_out {α β : Type} (f : α → β) : ∀ (l : List α) (j : Nat), (l.map f).eraseIdx j = (l.eraseIdx j).map f
  | [], _ => rfl
  | a :: l, 0 => rfl
  | a :: l, j + 1 => congrArg (f a :: ·) (map_out f l j)
theorem perm_out {α : Type} {z : α} : ∀ {l : List α} {j : Nat}, l[j]? = some z → ([z] ++ l.eraseIdx j).Perm l
  | a :: l, 0, h => by
    cases h
    exact List.Perm.refl _
  | a :: l, j + 1, h => by
    have := perm_out (l := l) (j := j) h
    exact (List.Perm.swap a z (l.eraseIdx j)).trans (List.Perm.cons a this)
def td (ls : List (List Nat)) : PyData := .list (ls.map fun l => .str (tx l))
theorem shaped_txs {ls : List (List Nat)} (h : ∀ l ∈ ls, ∀ c ∈ l, c < 1114112) : SeqAt.shaped (td ls) = true := by
  unfold SeqAt.shaped td
  simp only [PyData.canLay0, PyData.depth, lay_txs h, deep_txs]
  rfl
theorem dp_td {K : PySem.W.Frag} {H : Hp} {x : Addr} {ls : List (List Nat)} (h : H x = some (.lst (txs ls))) : Dp K H (.ref x) (td ls) := .lst (SqL.of h) (dp_txs ls)
theorem eqv_td_nil (ls : List (List Nat)) : PyData.eqv (td ls) (td []) = ls.isEmpty := by
  unfold td
  cases ls with
  | nil => simp only [List.map_nil, PyData.eqv, PyData.eqvAll, List.isEmpty_nil]
  | cons a b => simp only [List.map_nil, List.map_cons, PyData.eqv, PyData.eqvAll, List.isEmpty_cons]
section
variable {P : Program} {w : World} {K : PySem.W.Frag} {mg : Str → Option Value} {base : Heap}
theorem ok_mixT (T : Top K mg "_law_mixed_up" st_law_mixed_up ["pool", "items"]) (D_law_draw : Def P w K mg base 3 "_law_draw" ["pool", "limit"] (spDraw K)) (z_len : mg "len" = none) (z_list : mg "list" = none) : Def P w K mg base 4 "_law_mixed_up" ["pool", "items"] (spMixT K) := by
  refine T.ok sc_law_mixed_up (fun vs H Q E h => ?_) (fun f cdv A outer s H vs Q E hr h => ?_)
  · obtain ⟨p, a, c, m, n, ls, rfl, _⟩ := h
    rfl
  obtain ⟨p, a, c, m, n, ls, rfl, hP, ic, lm, hc, q⟩ := h
  refine ⟨_, (pss_cons (ps_set (i := 2) sc_law_mixed_up.nd rfl (Or.inl rfl) (pe_callTy (lstQ K) rfl z_list (by decide +kernel) (pa_cons (pv 1) pa_nil)))
    (pss_cons (ps_set (i := 3) sc_law_mixed_up.nd rfl (Or.inl rfl) (pe_lst pa_nil))
    (pss_cons (ps_while PassesOwn.never (pt_cmpR (neQ K hr.units) (pv 2) (pe_lst pa_nil) (nomark _))
    (pss_one (ps_expr (pe_bm PySem.F.plainAttrs_list PySem.F.slot_list_append PySem.F.type_list_append mt_append (pv 3) (pa_cons (pe_bm PySem.F.plainAttrs_list PySem.F.slot_list_pop PySem.F.type_list_pop mt_popAt (pv 2) (pa_cons (pe_def D_law_draw (hr.mono (by decide)) rfl (pa_cons (pv 0) (pa_cons (pe_callB (lenQ K) rfl z_len (by decide +kernel) (pa_cons (pv 2) pa_nil)) pa_nil))) pa_nil)) pa_nil)))))
    (pss_one (ps_ret (pv 3)))))), ?_⟩
  refine ⟨.ref c, rfl, c, _, rfl, .inl ic.sq, fun l n1 => ?_⟩
  generalize hN1 : L2.upd H l _ = G1
  have s1 := new_of n1 hN1
  have e1 := at_of hN1
  try dsimp only at e1
  clear hN1
  have g1 : Go K p a H G1 := ⟨Same.but s1, hP.same s1⟩
  refine ⟨Nat.zero_le _, fun fo n2 => ?_⟩
  generalize hN2 : L2.upd G1 fo _ = G2
  have s2 := new_of n2 hN2
  have e2 := at_of hN2
  try dsimp only at e2
  clear hN2
  have g2 : Go K p a H G2 := g1.trans ⟨Same.but s2, g1.q.same s2⟩
  have nfl : l ≠ fo := ne_of_none e1 n2
  have nlp : l ≠ p := hP.ne n1
  have nfp : fo ≠ p := g1.q.ne n2
  have nfH : H fo = none := g1.back n2
  refine ⟨fun k σ G => ∃ left found : List (List Nat), σ = [some (.ref p), some (.ref c), some (.ref l), some (.ref fo)] ∧ Go K p a H G ∧ G l = some (.lst (txs left)) ∧ G fo = some (.lst (txs found)) ∧ (found ++ left).Perm ls ∧ k = left.length, ⟨_, ls, [], rfl, g2, s2 _ _ e1, e2, List.Perm.refl _, rfl⟩, ?_⟩
  rintro k σ G ⟨left, found, rfl, g, el, ef, pm, rfl⟩
  have lz : found.length + left.length ≤ m := by
    rw [← List.length_append, pm.length_eq]
    exact ic.few
  refine ⟨.ref l, rfl, Nat.zero_le _, fun e n3 => ?_⟩
  generalize hN3 : L2.upd G e _ = G3
  have s3 := new_of n3 hN3
  have e3 := at_of hN3
  try dsimp only at e3
  clear hN3
  have el3 := s3 _ _ el
  have ef3 := s3 _ _ ef
  have g3 : Go K p a H G3 := g.trans ⟨Same.but s3, g.q.same s3⟩
  refine ⟨_, _, dp_td el3, dp_td (ls := []) e3, shaped_txs (fun l hl => hc l (pm.mem_iff.mp (List.mem_append_right _ hl))), shaped_txs (fun l hl => by cases hl), _, rfl, ?_⟩
  rw [eqv_td_nil]
  cases left with
  | nil =>
    refine iteF ?_
    refine ⟨_, rfl, ?_⟩
    rw [List.append_nil] at pm
    refine q fo G3 found g3 nfH ⟨nfp, ef3, by simp at lz; omega, fun z hz => ic.short z (pm.mem_iff.mp hz)⟩ pm
  | cons y ys =>
    refine iteT ⟨fun σ' G' => ∃ m', m' < (y :: ys).length ∧ _, fun σ' G' w => w, ?_⟩
    refine ⟨.ref fo, rfl, Or.inl ⟨rfl, _, SqL.of ef3⟩, .ref l, rfl, Or.inl ⟨rfl, _, SqL.of el3⟩, .ref p, rfl, .ref l, rfl, l, _, rfl, .inl (SqL.of el3), p, a, _, rfl, g3.q, (by rw [txs_len]; simp), (by rw [txs_len]; simp at lz ⊢; omega), fun v G4 v0 v1 o4 q4 => ?_⟩
    have el4 : G4 l = some (.lst (txs (y :: ys))) := o4.get nlp el3
    have ef4 : G4 fo = some (.lst (txs found)) := o4.get nfp ef3
    have g4 : Go K p a H G4 := g3.trans ⟨Off.but o4, q4⟩
    obtain ⟨j, rfl⟩ := Int.eq_ofNat_of_zero_le v0
    rw [txs_len] at v1
    have jlt : j < (y :: ys).length := by omega
    obtain ⟨z, hz⟩ : ∃ z, (y :: ys)[j]? = some z := ⟨_, List.getElem?_eq_getElem jlt⟩
    have hj : seqIndex? (j : Int) (txs (y :: ys)).length = some j := by
      rw [txs_len]
      exact (L2.ixN_seq (Evl.ixN_nat jlt)).1
    refine ⟨l, _, _, j, _, rfl, rfl, el4, by omega, by simp at lz; simp at jlt; omega, hj, txs_get hz, ?_⟩
    refine ⟨fo, _, _, rfl, rfl, (upd_ne (Ne.symm nfl)).trans ef4, by rw [txs_len]; exact sq_len (by omega), ?_⟩
    have e5 : (txs (y :: ys)).eraseIdx j = txs ((y :: ys).eraseIdx j) := by
      exact map_out _ _ _
    rw [e5]
    refine ⟨((y :: ys).eraseIdx j).length, ?_, (y :: ys).eraseIdx j, found ++ [z], rfl, ?_, ?_, ?_, ?_, rfl⟩
    · rw [List.length_eraseIdx_of_lt jlt]
      simp
    · have b1 := g4.b.mut (o := .lst (txs ((y :: ys).eraseIdx j))) n1
      exact ⟨b1.mut nfH, (q4.put nlp el4).put nfp ((upd_ne (Ne.symm nfl)).trans ef4)⟩
    · exact (upd_ne nfl).trans upd_same
    · rw [txs_app]
      exact upd_same
    · refine List.Perm.trans ?_ pm
      rw [List.append_assoc]
      refine List.Perm.append_left _ ?_
      exact perm_out hz
end
theorem lf_mix {j0 : Nat} {K : PySem.W.Frag} {p a : Addr} {σ : L2.St} {H : Hp} {m n i : Nat} {x : Addr} {ls : List (List Nat)} {E : XK} (hp : σ[j0]? = some (some (.ref p))) (hv : σ[i]? = some (some (.ref x))) (e : Is p H x m n ls) (hm : m ≤ 1000) (hc : ∀ l ∈ ls, ∀ c ∈ l, c < 1114112) :
    Lf K p a (tCall (spMixT K) [] E (tCons (tVar j0) (tCons (tVar i) tNil))) σ H m n (fun ys => ys.Perm ls) := fun H1 g Q q =>
  ⟨.ref p, hp, .ref x, hv, p, a, x, m, n, ls, rfl, g.q, e.go g, hm, hc, fun y H' ys g2 f i2 pm => q y ys H' g2 f i2 pm⟩
end My
set_option Elab.async false
set_option linter.all false
set_option maxRecDepth 100000
/-! The lines of drawn games -/
namespace My
open PySem L2
def cellsOf (pre : Str) (rows cols : Nat) : List (List Nat) := (List.range rows).flatMap fun (r : Nat) => (List.range cols).map fun (c : Nat) => cs pre ++ nm r ++ nm c
theorem cellsOf_succ (pre : Str) (r c : Nat) : cellsOf pre (r + 1) c = cellsOf pre r c ++ (List.range c).map fun (k : Nat) => cs pre ++ nm r ++ nm k := by
  unfold cellsOf
  rw [List.range_succ, List.flatMap_append]
  simp
def namesOf (pre : Str) (n : Nat) : List (List Nat) := (List.range n).map fun (k : Nat) => cs pre ++ nm k
def sp1 : List Nat := cs " "
def com : List Nat := cs ", "
def clo : List Nat := cs ")"
/-- three cells on a line -/
def Trip (cells : List (List Nat)) (x : List (List Nat)) : Prop := ∃ s0 s1 s2, s0 ∈ cells ∧ s1 ∈ cells ∧ s2 ∈ cells ∧ s0 ≠ s1 ∧ s0 ≠ s2 ∧ s1 ≠ s2 ∧ x = [cs "begin line(" ++ s0 ++ com ++ s1 ++ com ++ s2 ++ clo]
def linesG (r c : Nat) (trips : List (List Nat)) (short : List Nat) (tail : List (List Nat)) : List (List Nat) :=
  [cs "game lines", cs "kind cell = " ++ TL.joinL sp1 (cellsOf "c" r c), cs "fact mark(cell, player)", cs "fact spot(cell)"] ++ [cs "fact line(cell, cell, cell)", cs "view full(cell)", cs "view open", cs "move put(cell)"]
  ++ (cellsOf "c" r c).map (fun l => cs "begin spot(" ++ l ++ clo) ++ trips ++ [cs "full(C) if mark(C, P)", cs "open if spot(C), not full(C)", cs "put(C) if spot(C), not full(C)"] ++ [cs "put(C) adds mark(C, P) if mover(P)"]
  ++ [cs "wins P if line(A, B, C), mark(A, P), mark(B, P)" ++ short] ++ tail
def LinesG (ls : List (List Nat)) : Prop := ∃ (r c k : Nat) (trips : List (List Nat)) (short : List Nat) (tail : List (List Nat)), (r, c) ∈ [(2, 2), (2, 3), (3, 2), (1, 5)] ∧ 1 ≤ k ∧ k ≤ 3 ∧ Cat (fun _ x => Trip (cellsOf "c" r c) x) (List.range k) trips ∧
  (short = [] ∨ short = cs ", mark(C, P)") ∧ (tail = [] ∨ tail = [cs "drawn if not open"]) ∧ ls = linesG r c trips short tail
def heapsG (k top : Nat) (begins mid tail : List (List Nat)) : List (List Nat) :=
  [cs "game heaps", cs "kind heap = " ++ TL.joinL sp1 (namesOf "h" k), cs "kind num = 0 .. " ++ nm top] ++ [cs "fact has(heap, num)", cs "move left(heap, num)", cs "view some"] ++ begins ++ mid ++ [cs "left(H, N) adds has(H, N)", cs "left(H, N) drops has(H, M) if has(H, M)", cs "some if has(H, M), 0 < M"] ++ tail
def HeapsMid (top : Nat) (mid : List (List Nat)) : Prop := (∃ d : Int, 2 ≤ d ∧ d ≤ 3 ∧ mid = [cs "left(H, N) if has(H, M), N is M - 1", cs "left(H, N) if has(H, M), N is M - " ++ nm d]) ∨
  mid = [cs "fact size(num)"] ++ ((List.range (top + 1)).map fun (k : Nat) => cs "begin size(" ++ nm k ++ clo) ++ [cs "left(H, N) if has(H, M), size(N), N < M"]
def HeapsG (ls : List (List Nat)) : Prop := ∃ (k top : Nat) (begins mid tail : List (List Nat)), 2 ≤ k ∧ k ≤ 3 ∧ 2 ≤ top ∧ top ≤ 4 ∧ Cat (fun h x => ∃ n : Int, 1 ≤ n ∧ n ≤ top ∧ x = [cs "begin has(" ++ h ++ com ++ nm n ++ clo]) (namesOf "h" k) begins ∧
  HeapsMid top mid ∧ (tail = [] ∨ tail = [cs "wins P if not some, mover(P)"]) ∧ ls = heapsG k top begins mid tail
def walkBody (burns hunts : Bool) : List Nat := cs "mover(P), at(P, X), link(X, Y)" ++ (if burns then cs ", not burnt(Y)" else []) ++ (if hunts then [] else cs ", not taken(Y)")
def walksG (n : Nat) (sec : List Nat) (links : List (List Nat)) (burns hunts : Bool) (tail : List (List Nat)) : List (List Nat) :=
  [cs "game walks", cs "kind node = " ++ TL.joinL sp1 (namesOf "n" n), cs "fact at(player, node)", cs "fact link(node, node)"] ++ [cs "fact burnt(node)", cs "view taken(node)", cs "move go(node)", cs "taken(Y) if at(P, Y)"] ++
  [cs "begin at(first, n0)", cs "begin at(second, " ++ sec ++ clo] ++ links ++ [cs "go(Y) if " ++ walkBody burns hunts, cs "go(Y) adds at(P, Y) if mover(P)", cs "go(Y) drops at(P, X) if mover(P), at(P, X)"] ++
  (if burns then [cs "go(Y) adds burnt(X) if mover(P), at(P, X)"] else []) ++ (if hunts then [cs "wins first if at(first, X), at(second, X)"] else []) ++ tail
def Link1 (one other : List Nat) (y : List (List Nat)) : Prop := y = [] ∨ (one ≠ other ∧ y = [cs "begin link(" ++ one ++ com ++ other ++ clo])
def Links (nodes : List (List Nat)) (links : List (List Nat)) : Prop := Cat (fun one x => Cat (Link1 one) nodes x) nodes links
def WalksG (ls : List (List Nat)) : Prop := ∃ (n : Nat) (sec : List Nat) (links : List (List Nat)) (burns hunts : Bool) (tail : List (List Nat)), 4 ≤ n ∧ n ≤ 6 ∧ sec ∈ (namesOf "n" n).drop 1 ∧ Links (namesOf "n" n) links ∧
  (tail = [] ∨ ∃ l ∈ namesOf "n" n, tail = [cs "wins second if at(second, " ++ l ++ clo]) ∧ ls = walksG n sec links burns hunts tail
def Wire1 (one other : List Nat) (y : List (List Nat)) : Prop := y = [] ∨ (other ≠ one ∧ y = [cs "begin wire(" ++ one ++ com ++ other ++ clo])
def LampBlock (lamps : List (List Nat)) (one : List Nat) (x : List (List Nat)) : Prop := ∃ (who : List Nat) (on wires : List (List Nat)), (who = cs "first" ∨ who = cs "second") ∧ (on = [] ∨ on = [cs "begin on(" ++ one ++ clo]) ∧ Cat (Wire1 one) lamps wires ∧
  x = [cs "begin own(" ++ who ++ com ++ one ++ clo] ++ on ++ wires
def lampsG (n : Nat) (blocks : List (List Nat)) (z : List Nat) (wait : List (List Nat)) (last : List Nat) : List (List Nat) :=
  [cs "game lamps", cs "kind lamp = " ++ TL.joinL sp1 (namesOf "l" n), cs "fact on(lamp)", cs "fact wire(lamp, lamp)"] ++ [cs "fact own(player, lamp)", cs "view lit(lamp)", cs "move flip(lamp)", cs "move wait"] ++ blocks ++
  [cs "lit(l0) if on(l0)"] ++ [cs "lit(Y) if lit(X), wire(X, Y), " ++ z] ++ [cs "flip(X) if mover(P), own(P, X)"] ++ wait ++ [cs "flip(X) adds on(X) if not on(X)", cs "flip(X) drops on(X) if on(X)"] ++
  [cs "wins first if lit(" ++ last ++ clo, cs "wins second if on(l1), on(" ++ last ++ cs "), not lit(" ++ last ++ clo]
def LampsG (ls : List (List Nat)) : Prop := ∃ (n : Nat) (blocks : List (List Nat)) (z : List Nat) (wait : List (List Nat)) (last : List Nat), 3 ≤ n ∧ n ≤ 4 ∧ Cat (LampBlock (namesOf "l" n)) (namesOf "l" n) blocks ∧ (z = cs "on(Y)" ∨ z = cs "not on(X)") ∧
  (wait = [] ∨ wait = [cs "wait if not lit(l1)"]) ∧ (namesOf "l" n)[n - 1]? = some last ∧ ls = lampsG n blocks z wait last
def pcell (r c : Int) : List Nat := cs ", p" ++ nm r ++ nm c
def here (who : List Nat) (row way col k : Int) : List Nat := cs "(" ++ who ++ pcell (row + way * k) col ++ pcell (row + way * (k + 1)) col
/-- without the last column's number -/
def hereT (who : List Nat) (row way col k : Int) : List Nat := cs "(" ++ who ++ cs ", p" ++ nm (row + way * k) ++ nm col ++ cs ", p" ++ nm (row + way * (k + 1))
def Hit1 (cols : Int) (h : List Nat) (b : Int) (y : List (List Nat)) : Prop := y = [] ∨ (0 ≤ b ∧ b < cols ∧ y = [cs "begin hit" ++ h ++ nm b ++ clo])
def PawnStep (cols col : Int) (who : List Nat) (row way : Int) (k : Nat) (x : List (List Nat)) : Prop := ∃ hits, Cat (Hit1 cols (hereT who row way col k)) [col - 1, col + 1] hits ∧ x = [cs "begin step" ++ hereT who row way col k ++ nm col ++ clo] ++ hits
def PawnWay (rows : Nat) (cols col : Int) (q : List Nat × Int × Int) (x : List (List Nat)) : Prop := ∃ pawn steps, (pawn = [] ∨ pawn = [cs "begin pawn(" ++ q.1 ++ cs ", p" ++ nm q.2.1 ++ nm col ++ clo]) ∧ Cat (PawnStep cols col q.1 q.2.1 q.2.2) (List.range (rows - 1)) steps ∧
  x = pawn ++ [cs "begin goal(" ++ q.1 ++ cs ", p" ++ nm ((rows : Int) - 1 - q.2.1) ++ nm col ++ clo] ++ steps
def pawnWays (rows : Nat) : List (List Nat × Int × Int) := [(cs "first", 0, 1), (cs "second", (rows : Int) - 1, -1)]
def Pawns (rows cols : Nat) (x : List (List Nat)) : Prop := Cat (fun (c : Nat) y => Cat (PawnWay rows cols c) (pawnWays rows) y) (List.range cols) x
def pawnsG (rows cols : Nat) (pawns tail : List (List Nat)) : List (List Nat) :=
  [cs "game pawns", cs "kind cell = " ++ TL.joinL sp1 (cellsOf "p" rows cols), cs "fact pawn(player, cell)", cs "fact step(player, cell, cell)"] ++ [cs "fact hit(player, cell, cell)", cs "fact goal(player, cell)", cs "view full(cell)", cs "move go(cell, cell)"] ++ pawns ++
  [cs "full(Y) if pawn(Q, Y)", cs "go(X, Y) if mover(P), pawn(P, X), step(P, X, Y), not full(Y)"] ++ [cs "go(X, Y) if mover(P), pawn(P, X), hit(P, X, Y), pawn(Q, Y), P != Q"] ++ [cs "go(X, Y) adds pawn(P, Y) if mover(P)", cs "go(X, Y) drops pawn(P, X) if mover(P)"] ++
  [cs "go(X, Y) drops pawn(Q, Y) if mover(P), pawn(Q, Y), P != Q", cs "wins P if goal(P, X), pawn(P, X)"] ++ tail
def PawnsG (ls : List (List Nat)) : Prop := ∃ (rows cols : Nat) (pawns tail : List (List Nat)), 3 ≤ rows ∧ rows ≤ 4 ∧ 2 ≤ cols ∧ cols ≤ 3 ∧ Pawns rows cols pawns ∧
  (tail = [] ∨ ∃ c0 c1, (cellsOf "p" rows cols)[0]? = some c0 ∧ (cellsOf "p" rows cols)[(cellsOf "p" rows cols).length - 1]? = some c1 ∧ tail = [cs "drawn if not full(" ++ c0 ++ cs "), not full(" ++ c1 ++ clo]) ∧ ls = pawnsG rows cols pawns tail
def GameG (ls : List (List Nat)) : Prop := LinesG ls ∨ HeapsG ls ∨ WalksG ls ∨ LampsG ls ∨ PawnsG ls
end My
set_option Elab.async false
set_option linter.all false
set_option maxRecDepth 100000
set_option maxHeartbeats 4000000
/-! A drawn game of lines -/
namespace My
open PySem PySem.Spec PyProof.Rows L2
local macro_rules
  | `(tactic| nofun) => `(tactic| (apply tup_at; nofun))
local macro_rules
  | `(tactic| nofun) => `(tactic| (apply seq_at; nofun))
local macro_rules
  | `(tactic| nofun) => `(tactic| (apply pool_same; assumption; nofun))
local macro_rules
  | `(tactic| nofun) => `(tactic| (apply but_get; assumption; assumption; nofun))
local macro_rules
  | `(tactic| nofun) => `(tactic| (apply off_get; assumption; assumption; nofun))
local macro_rules
  | `(tactic| nofun) => `(tactic| (apply same_get; assumption; nofun))
local macro_rules
  | `(tactic| nofun) => `(tactic| assumption)
local macro_rules
  | `(tactic| trivial) => `(tactic| ((with_reducible apply tx_joinK); (focus trivial); (focus decide +kernel); focus (first | decide | omega)))
local macro_rules
  | `(tactic| trivial) => `(tactic| ((with_reducible apply tx_num); (focus trivial); intro i hi; omega))
local macro_rules
  | `(tactic| trivial) => `(tactic| ((with_reducible apply tx_plus); (focus trivial); (focus trivial); focus (first | decide | omega)))
local macro_rules
  | `(tactic| trivial) => `(tactic| ((with_reducible apply ta_cons); (focus trivial); (focus trivial); focus (first | decide | omega)))
local macro_rules
  | `(tactic| trivial) => `(tactic| ((with_reducible apply lf_lst); (focus trivial); focus (first | decide | omega)))
local macro_rules
  | `(tactic| trivial) => `(tactic| ((with_reducible apply ls_lst); (focus trivial); focus (first | decide | omega)))
local macro_rules
  | `(tactic| trivial) => `(tactic| ((with_reducible apply lf_cat); (focus trivial); (focus trivial); focus (first | decide | omega)))
local macro_rules
  | `(tactic| trivial) => `(tactic| ((with_reducible apply it_drawC); (focus rfl); decide))
local macro_rules
  | `(tactic| trivial) => `(tactic| ((with_reducible apply it_drawV); (focus rfl); (focus rfl); omega))
local macro_rules
  | `(tactic| trivial) => `(tactic| ((with_reducible apply it_addc); (focus trivial)))
local macro_rules
  | `(tactic| trivial) => `(tactic| ((with_reducible apply it_opD); (focus trivial); (focus trivial)))
local macro_rules
  | `(tactic| trivial) => `(tactic| ((with_reducible apply bt_eq); (focus trivial)))
local macro_rules
  | `(tactic| trivial) => `(tactic| ((with_reducible apply be_eq); (focus trivial)))
local macro_rules
  | `(tactic| trivial) => `(tactic| ((with_reducible apply bt_gt); (focus trivial)))
local macro_rules
  | `(tactic| trivial) => `(tactic| ((with_reducible apply bt_var); rfl))
local macro_rules
  | `(tactic| trivial) => `(tactic| ((with_reducible apply tx_if); (focus trivial); (focus trivial); (focus trivial)))
local macro_rules
  | `(tactic| trivial) => `(tactic| ((with_reducible apply la_cons); (focus trivial); (focus trivial); (focus decide)))
local macro_rules
  | `(tactic| trivial) => `(tactic| with_reducible exact la_nil)
local macro_rules
  | `(tactic| trivial) => `(tactic| ((with_reducible apply ls_pick); (focus rfl); (focus trivial); (focus decide)))
local macro_rules
  | `(tactic| trivial) => `(tactic| ((with_reducible apply tx_c); decide +kernel))
local macro_rules
  | `(tactic| trivial) => `(tactic| with_reducible exact it_c)
local macro_rules
  | `(tactic| trivial) => `(tactic| with_reducible exact ta_nil)
local macro_rules
  | `(tactic| trivial) => `(tactic| ((with_reducible apply it_var); rfl))
local macro_rules
  | `(tactic| trivial) => `(tactic| ((with_reducible apply tx_var); (focus rfl); assumption))
local macro_rules
  | `(tactic| trivial) => `(tactic| ((with_reducible apply ls_var); (focus rfl); assumption))
local macro_rules
  | `(tactic| trivial) => `(tactic| ((with_reducible apply tx_ix0); (focus rfl); (focus assumption); (focus assumption)))
local macro_rules
  | `(tactic| trivial) => `(tactic| ((with_reducible apply tx_ix1); (focus rfl); (focus assumption); (focus assumption)))
local macro_rules
  | `(tactic| trivial) => `(tactic| ((with_reducible apply tx_ix2); (focus rfl); (focus assumption); (focus assumption)))
local macro_rules
  | `(tactic| trivial) => `(tactic| ((with_reducible apply ls_cat); (focus trivial); (focus trivial); (focus (first | decide | omega))))
local macro_rules
  | `(tactic| trivial) => `(tactic| ((with_reducible apply tx_pick2); (focus rfl); (focus decide +kernel); (focus decide +kernel)))
local macro_rules
  | `(tactic| trivial) => `(tactic| ((with_reducible apply tx_last); (focus rfl); (focus assumption); (focus assumption)))
local macro_rules
  | `(tactic| trivial) => `(tactic| ((with_reducible apply bt_and); (focus trivial); (focus trivial)))
local macro_rules
  | `(tactic| trivial) => `(tactic| ((with_reducible apply bt_ne); (focus rfl); (focus rfl)))
abbrev st_law_lines_game : Stmt := topS 27
theorem sc_law_lines_game : FnScope ["pool", "rows", "columns", "cells", "row", "column", "found", "cell", "k", "some", "short"] ["pool"] (defScope st_law_lines_game) := ⟨rfl, rfl, rfl, by decide +kernel, rfl, by decide +kernel, by decide +kernel⟩
def spGame (K : PySem.W.Frag) (G : List (List Nat) → Prop) : Sp := fun vs H Q _ => ∃ (p a : Addr), vs = [.ref p] ∧ PoolAt K H p a ∧ ∀ x H' ls, Go K p a H H' → H x = none → x ≠ p → H' x = some (.lst (txs ls)) → ls.length ≤ 400 → G ls → Q (.ref x) H'
theorem perm_three {α : Type} {l ys : List α} (h : ys.Perm l) (n : l.Nodup) (k : 3 ≤ l.length) : ∃ a b c, ys[0]? = some a ∧ ys[1]? = some b ∧ ys[2]? = some c ∧ a ∈ l ∧ b ∈ l ∧ c ∈ l ∧ a ≠ b ∧ a ≠ c ∧ b ≠ c := by
  have ny : ys.Nodup := h.nodup_iff.mpr n
  have ly := h.length_eq
  match ys, ny, ly, h with
  | [], _, e, _ => simp at e; omega
  | [_], _, e, _ => simp at e; omega
  | [_, _], _, e, _ => simp at e; omega
  | a :: b :: c :: r, ny, _, h =>
    have hm : ∀ x, x ∈ a :: b :: c :: r → x ∈ l := fun x hx => h.mem_iff.mp hx
    simp only [List.nodup_cons, List.mem_cons, not_or] at ny
    exact ⟨a, b, c, rfl, rfl, rfl, hm a (by simp), hm b (by simp), hm c (by simp), ny.1.1, ny.1.2.1, ny.2.1.1⟩
theorem cells_ok : ∀ q ∈ [(2, 2), (2, 3), (3, 2), (1, 5)], (cellsOf "c" q.1 q.2).Nodup ∧ 3 ≤ (cellsOf "c" q.1 q.2).length ∧ (cellsOf "c" q.1 q.2).length ≤ 6 ∧ ∀ l ∈ cellsOf "c" q.1 q.2, ∀ c ∈ l, c < 1114112 := by decide +kernel
section
variable {P : Program} {w : World} {K : PySem.W.Frag} {mg : Str → Option Value} {base : Heap}
theorem ok_lines_game (T : Top K mg "_law_lines_game" st_law_lines_game ["pool"]) (D_law_draw : Def P w K mg base 3 "_law_draw" ["pool", "limit"] (spDraw K)) (D_law_pick : Def P w K mg base 4 "_law_pick" ["pool", "options"] (spPick K)) (D_law_mixed_up : Def P w K mg base 4 "_law_mixed_up" ["pool", "items"] (spMixT K)) (z_range : mg "range" = none) (z_str : mg "str" = none) : Def P w K mg base 5 "_law_lines_game" ["pool"] (spGame K LinesG) := by
  refine T.ok sc_law_lines_game (fun vs H Q E h => ?_) (fun f cdv A outer s H vs Q E hr h => ?_)
  · obtain ⟨p, a, rfl, _⟩ := h
    rfl
  obtain ⟨p, a, rfl, hP, q⟩ := h
  refine ⟨_, (pss_cons (ps_asg (pe_def D_law_pick (hr.mono (by decide)) rfl (pa_cons (pv 0) (pa_cons (pe_lst (pa_cons (pe_tup (pa_cons pe_int (pa_cons pe_int pa_nil))) (pa_cons (pe_tup (pa_cons pe_int (pa_cons pe_int pa_nil))) (pa_cons (pe_tup (pa_cons pe_int (pa_cons pe_int pa_nil))) (pa_cons (pe_tup (pa_cons pe_int (pa_cons pe_int pa_nil))) pa_nil))))) pa_nil))) (pg_tup rfl (pgs_cons (pg_name (i := 1) sc_law_lines_game.nd rfl (Or.inl rfl)) (pgs_cons (pg_name (i := 2) sc_law_lines_game.nd rfl (Or.inl rfl)) pgs_nil))))
    (pss_cons (ps_set (i := 3) sc_law_lines_game.nd rfl (Or.inl rfl) (pe_lst pa_nil))
    (pss_cons (ps_for PassesOwn.never rfl (pi_range1 rfl z_range (pa_cons (pv 1) pa_nil)) (pg_name (i := 4) sc_law_lines_game.nd rfl (Or.inr rfl))
    (pss_one (ps_set (i := 3) sc_law_lines_game.nd rfl (Or.inl rfl) (pe_op op_cat (pv 3) (pe_lc (own := [("column", 5)]) (g := gName 5) (tt := tYes) rfl sc_law_lines_game.nd (pi_range1 rfl z_range (pa_cons (pv 2) pa_nil)) (blkOk_by (own := [("column", 5)]) (N := ["pool", "rows", "columns", "cells", "row", "column", "found", "cell", "k", "some", "short"]) (sc := defScope st_law_lines_game) (by decide +kernel)) (fun _ _ _ _ _ => (pg_name (i := 5) sc_law_lines_game.nd rfl (Or.inl rfl))) (fun _ _ _ _ _ => pts_nil) (fun _ _ _ _ _ => (pe_op op_add_str (pe_op op_add_str pe_str (pe_callTy call_str_int rfl z_str (by decide +kernel) (pa_cons (pv 4) pa_nil))) (pe_callTy call_str_int rfl z_str (by decide +kernel) (pa_cons (pv 5) pa_nil)))))))))
    (pss_cons (ps_set (i := 6) sc_law_lines_game.nd rfl (Or.inl rfl) (pe_lst (pa_cons pe_str (pa_cons (pe_op op_add_str pe_str (pe_K (K := K) rfl (pe_bm PySem.F.plainAttrs_str PySem.F.slot_str_join PySem.F.type_str_join (joinQ K) pe_str (pa_cons (pv 3) pa_nil)))) (pa_cons pe_str (pa_cons pe_str pa_nil))))))
    (pss_cons (ps_set (i := 6) sc_law_lines_game.nd rfl (Or.inl rfl) (pe_op op_cat (pv 6) (pe_lst (pa_cons pe_str (pa_cons pe_str (pa_cons pe_str (pa_cons pe_str pa_nil)))))))
    (pss_cons (ps_set (i := 6) sc_law_lines_game.nd rfl (Or.inl rfl) (pe_op op_cat (pv 6) (pe_lc (own := [("cell", 7)]) (g := gName 7) (tt := tYes) rfl sc_law_lines_game.nd (pi_K (K := K) rfl (pi_list (pv 3))) (blkOk_by (own := [("cell", 7)]) (N := ["pool", "rows", "columns", "cells", "row", "column", "found", "cell", "k", "some", "short"]) (sc := defScope st_law_lines_game) (by decide +kernel)) (fun _ _ _ _ _ => (pg_name (i := 7) sc_law_lines_game.nd rfl (Or.inl rfl))) (fun _ _ _ _ _ => pts_nil) (fun _ _ _ _ _ => (pe_op op_add_str (pe_op op_add_str pe_str (pv 7)) pe_str)))))
    (pss_cons (ps_for PassesOwn.never rfl (pi_range1 rfl z_range (pa_cons (pe_op op_add pe_int (pe_def D_law_draw (hr.mono (by decide)) rfl (pa_cons (pv 0) (pa_cons pe_int pa_nil)))) pa_nil)) (pg_name (i := 8) sc_law_lines_game.nd rfl (Or.inl rfl))
    (pss_cons (ps_set (i := 9) sc_law_lines_game.nd rfl (Or.inl rfl) (pe_def D_law_mixed_up (hr.mono (by decide)) rfl (pa_cons (pv 0) (pa_cons (pv 3) pa_nil))))
      (pss_one (ps_expr (pe_K (K := K) rfl (pe_bm PySem.F.plainAttrs_list PySem.F.slot_list_append PySem.F.type_list_append mt_append (pv 6) (pa_cons (pe_op op_add_str (pe_op op_add_str (pe_op op_add_str (pe_op op_add_str (pe_op op_add_str (pe_op op_add_str pe_str (pe_ix (ixL K) (pv 9) pe_int (fun _ _ => rfl))) pe_str) (pe_ix (ixL K) (pv 9) pe_int (fun _ _ => rfl))) pe_str) (pe_ix (ixL K) (pv 9) pe_int (fun _ _ => rfl))) pe_str) pa_nil)))))))
    (pss_cons (ps_set (i := 6) sc_law_lines_game.nd rfl (Or.inl rfl) (pe_op op_cat (pv 6) (pe_lst (pa_cons pe_str (pa_cons pe_str (pa_cons pe_str pa_nil))))))
    (pss_cons (ps_expr (pe_K (K := K) rfl (pe_bm PySem.F.plainAttrs_list PySem.F.slot_list_append PySem.F.type_list_append mt_append (pv 6) (pa_cons pe_str pa_nil))))
    (pss_cons (ps_set (i := 10) sc_law_lines_game.nd rfl (Or.inl rfl) (pe_ifExp (pt_cmpR op_eq (pe_def D_law_draw (hr.mono (by decide)) rfl (pa_cons (pv 0) (pa_cons pe_int pa_nil))) pe_int (nomark _)) pe_str pe_str))
    (pss_cons (ps_expr (pe_K (K := K) rfl (pe_bm PySem.F.plainAttrs_list PySem.F.slot_list_append PySem.F.type_list_append mt_append (pv 6) (pa_cons (pe_op op_add_str pe_str (pv 10)) pa_nil))))
    (pss_one (ps_ret (pe_op op_cat (pv 6) (pe_def D_law_pick (hr.mono (by decide)) rfl (pa_cons (pv 0) (pa_cons (pe_lst (pa_cons (pe_lst pa_nil) (pa_cons (pe_lst (pa_cons pe_str pa_nil)) (pa_cons (pe_lst (pa_cons pe_str pa_nil)) pa_nil)))) pa_nil))))))))))))))))), ?_⟩
  have sz : ∀ {n : Nat}, n ≤ 1000 → n ≤ sizeLine := fun h => Nat.le_trans h (by decide)
  refine ⟨.ref p, rfl, sz (by simp), fun t1 n1 => ?_⟩
  generalize hN1 : L2.upd H t1 _ = G1
  have s1 := new_of n1 hN1
  have e1 := at_of hN1
  try dsimp only at e1
  clear hN1
  refine ⟨sz (by simp), fun t2 n2 => ?_⟩
  generalize hN2 : L2.upd G1 t2 _ = G2
  have s2 := new_of n2 hN2
  have e2 := at_of hN2
  try dsimp only at e2
  clear hN2
  refine ⟨sz (by simp), fun t3 n3 => ?_⟩
  generalize hN3 : L2.upd G2 t3 _ = G3
  have s3 := new_of n3 hN3
  have e3 := at_of hN3
  try dsimp only at e3
  clear hN3
  refine ⟨sz (by simp), fun t4 n4 => ?_⟩
  generalize hN4 : L2.upd G3 t4 _ = G4
  have s4 := new_of n4 hN4
  have e4 := at_of hN4
  try dsimp only at e4
  clear hN4
  refine ⟨sz (by simp), fun o n5 => ?_⟩
  generalize hN5 : L2.upd G4 o _ = G5
  have s5 := new_of n5 hN5
  have e5 := at_of hN5
  try dsimp only at e5
  clear hN5
  have q5 : PoolAt K G5 p a := by nofun
  have g5 : Go K p a H G5 := ⟨Same.but ((((s1.trans s2).trans s3).trans s4).trans s5), q5⟩
  refine ⟨p, a, o, _, rfl, q5, SqL.of e5, (by nofun : PoolAt K G4 p a).ne n5, by simp, by simp, fun v G6 hv o6 q6 => ?_⟩
  have g6 := g5.trans ⟨Off.but o6, q6⟩
  obtain ⟨t, r, c, rfl, et, hrc⟩ : ∃ (t : Addr) (r c : Nat), v = .ref t ∧ G6 t = some (.tup [.int (r : Nat), .int (c : Nat)]) ∧ (r, c) ∈ [(2, 2), (2, 3), (3, 2), (1, 5)] := by
    have up : ∀ {t' : Addr} {xs}, G5 t' = some (.tup xs) → G6 t' = some (.tup xs) := fun {t' xs} e => o6.get (fun z => by
      obtain ⟨_, _, _, e2⟩ := q5.ex
      rw [z, e2] at e
      cases e) e
    simp only [List.mem_cons, List.not_mem_nil, or_false] at hv
    rcases hv with rfl | rfl | rfl | rfl
    · exact ⟨t1, 2, 2, rfl, up (by nofun), by simp⟩
    · exact ⟨t2, 2, 3, rfl, up (by nofun), by simp⟩
    · exact ⟨t3, 3, 2, rfl, up (by nofun), by simp⟩
    · exact ⟨t4, 1, 5, rfl, up (by nofun), by simp⟩
  have rc5 : r ≤ 3 ∧ c ≤ 5 := by
    simp only [List.mem_cons, Prod.mk.injEq, List.not_mem_nil, or_false] at hrc
    omega
  refine ⟨t, _, rfl, SqT.of et, rfl, _, _, rfl, _, _, rfl, rfl, ?_⟩
  refine q_new g6.q (lf_lst (n := 170) ta_nil (by decide)) fun cA ls7 G7 g7 f7 i7 r7 => ?_
  subst r7
  refine q_forR g7.q (it_var rfl) (fun i e => by omega) (fun k i σ G => ∃ x4 x5 cA, σ = [some (.ref p), some (.int (r : Nat)), some (.int (c : Nat)), some (.ref cA), x4, x5, none, none, none, none, none] ∧ Go K p a H G ∧ Is p G cA (i * 5) 170 (cellsOf "c" i c)) (fun k G e g => ⟨none, none, cA, rfl, (g6.trans g7).trans g, i7.go g⟩) ?_ ?_
  · rintro k i σ G e hi ⟨x4, x5, cA, rfl, g, ic⟩
    refine s_new g.q (lf_cat (ls_var rfl ic) (ls_of (lf_lcR 5 (it_var rfl) (fun i e => by omega) (by decide) (fun x => rfl) (P := fun (k : Nat) x => x = [cs "c" ++ nm i ++ nm k]) ?_)) (by omega)) fun cB ls8 G8 g8 f8 i8 r8 => ?_
    · intro k hk
      refine ⟨_, Tx.le (by trivial) (by decide), fun l hl => ?_⟩
      obtain ⟨_, _, ⟨_, _, rfl, ⟨_, rfl, rfl⟩, rfl⟩, ⟨_, rfl, rfl⟩, rfl⟩ := hl
      rfl
    obtain ⟨_, _, rfl, ⟨k', ek, ct⟩, rfl⟩ := r8
    obtain rfl : k' = c := by omega
    rw [Cat.map ct, ← cellsOf_succ] at i8
    exact ⟨_, _, cB, rfl, g.trans g8, i8.wide (by omega) (Nat.le_refl _)⟩
  rintro k σ G8 e ⟨x4, x5, cA, rfl, g8, ic⟩
  obtain rfl : k = r := by omega
  clear g7 f7 i7 et hv o6 s1 s2 s3 s4 s5 e1 e2 e3 e4 e5
  obtain ⟨C, hC⟩ : ∃ C, C = cellsOf "c" k c := ⟨_, rfl⟩
  obtain ⟨nd, l3, l6, lc⟩ := cells_ok _ hrc
  rw [← hC] at nd l3 l6 lc ic
  have c8 : Is p G8 cA 15 170 C := ic.wide (by omega) (Nat.le_refl _)
  refine q_new2 g8 c8 (N := 6000) (by trivial) fun x L9 G9 r9 w9 => ?_
  simp only [exists_and_left, exists_eq_left, List.cons_append, List.nil_append, List.append_nil] at r9; subst r9
  have i9 := w9.it
  refine q_new2 w9.go w9.cl (N := 6000) (by trivial) fun x L10 G10 r10 w10 => ?_
  simp only [exists_and_left, exists_eq_left, List.cons_append, List.nil_append, List.append_nil] at r10; subst r10
  have i10 := w10.it
  have c10 := w10.cl
  refine q_new2 w10.go w10.cl (N := 6000) (lf_cat (ls_var rfl i10) (ls_of (lf_lcL rfl c10 (by decide) (fun x => rfl) (P := fun l x => x = [cs "begin spot(" ++ l ++ clo]) ?_)) (by decide)) fun x L11 G11 r11 w11 => ?_
  · intro l hl
    have := c10.short l hl
    refine ⟨_, _, bt_yes, Tx.le (by trivial) (by decide), fun _ y hy => ?_, fun z => by cases z⟩
    simp only [exists_and_left, exists_eq_left, List.cons_append, List.nil_append, List.append_nil] at hy; subst hy
    rfl
  obtain ⟨_, L11', rfl, ct, rfl⟩ := r11
  rw [Cat.map ct] at w11
  obtain ⟨L11, hL11, w11⟩ := w11.name
  refine q_forR w11.go.q (by trivial) (fun i hi => by omega) (fun _ i σ G => ∃ x8 x9 x trips, σ = [some (.ref p), some (.int (k : Nat)), some (.int (c : Nat)), some (.ref cA), x4, x5, some (.ref x), none, x8, x9, none] ∧ Two K p a H G cA 15 170 C x (40 + i) 6000 (L11 ++ trips) ∧ Cat (fun _ x => Trip C x) (List.range i) trips)
    (fun _ G e g => ⟨none, none, x, [], rfl, by rw [List.append_nil]; exact (w11.to g).wide (by decide) (Nat.le_refl _), rfl⟩) ?_ ?_
  · rintro k' i σ G e hi ⟨x8, x9, x, trips, rfl, w, ct2⟩
    refine q_new w.go.q (lf_mix rfl rfl w.cl (by decide) lc) fun s ys G' g' f' is' pm => ?_
    have w' := w.to g'
    obtain ⟨s0, s1, s2, h0, h1, h2, m0, m1, m2, n01, n02, n12⟩ := perm_three pm nd l3
    refine app_core w' rfl (by trivial) (by decide) (by omega) fun l G'' r w'' => ?_
    simp only [exists_and_left, exists_eq_left, List.cons_append, List.nil_append, List.append_nil] at r; subst r
    refine ⟨_, _, x, trips ++ [_], rfl, by rw [← List.append_assoc]; exact w'', ?_⟩
    rw [List.range_succ]
    exact Cat.snoc ⟨s0, s1, s2, m0, m1, m2, n01, n02, n12, rfl⟩ ct2
  rintro k' σ G12 ek ⟨x8, x9, x, trips, rfl, w12, ct2⟩
  obtain ⟨L12, hL12⟩ : ∃ L12, L12 = L11 ++ trips := ⟨_, rfl⟩
  rw [← hL12] at w12
  have i12 := (w12.wide (M' := 43) (by omega) (Nat.le_refl _)).it
  refine q_new2 w12.go w12.cl (N := 6000) (by trivial) fun x L13 G13 r13 w13 => ?_
  obtain ⟨_, L13', rfl, r13, rfl⟩ := r13
  simp only [exists_and_left, exists_eq_left, List.cons_append, List.nil_append, List.append_nil] at r13; subst r13
  refine q_app2 w13 rfl (by trivial) (by decide) (by decide) fun _ G14 r14 w14 => ?_
  subst r14
  refine q_tx w14.go.q (by trivial) fun sh G15 g15 rs ls => ?_
  have w15 := w14.to g15
  refine q_app2 w15 rfl (by trivial) (by decide) (by decide) fun _ G16 r16 w16 => ?_
  simp only [exists_and_left, exists_eq_left, List.cons_append, List.nil_append, List.append_nil] at r16; subst r16
  have i16 := w16.it
  refine r_lf w16.go.q (lf_cat (ls_var rfl i16) (n := 6000) (m2 := 1) (by trivial) (by decide)) fun y L17 G17 g17 f17 i17 r17 => ?_
  obtain ⟨_, tail, rfl, rt, rfl⟩ := r17
  obtain ⟨bb, _, rs⟩ := rs
  refine q y G17 _ (w16.go.trans g17) (w16.go.back f17) i17.np i17.at_ (Nat.le_trans i17.few (by decide)) ⟨k, c, k', trips, sh, tail, hrc, by omega, by omega, by rw [← hC]; exact ct2, ?_, ?_, ?_⟩
  · rcases rs with ⟨_, rs⟩ | ⟨_, rs⟩
    · exact .inl rs
    · exact .inr rs
  · simp only [exists_and_left, exists_eq_left, or_false, or_self] at rt
    exact rt
  · simp only [hL12, hL11, List.append_assoc, List.cons_append, List.nil_append, List.append_nil, linesG, sp1, com, clo, ← hC]
end
end My
set_option Elab.async false
set_option linter.all false
set_option maxRecDepth 100000
set_option maxHeartbeats 4000000
/-! A drawn game of heaps -/
namespace My
open PySem PySem.Spec PyProof.Rows L2
local macro_rules
  | `(tactic| nofun) => `(tactic| (apply tup_at; nofun))
local macro_rules
  | `(tactic| nofun) => `(tactic| (apply seq_at; nofun))
local macro_rules
  | `(tactic| nofun) => `(tactic| (apply pool_same; assumption; nofun))
local macro_rules
  | `(tactic| nofun) => `(tactic| (apply but_get; assumption; assumption; nofun))
local macro_rules
  | `(tactic| nofun) => `(tactic| (apply off_get; assumption; assumption; nofun))
local macro_rules
  | `(tactic| nofun) => `(tactic| (apply same_get; assumption; nofun))
local macro_rules
  | `(tactic| nofun) => `(tactic| assumption)
local macro_rules
  | `(tactic| trivial) => `(tactic| ((with_reducible apply tx_joinK); (focus trivial); (focus decide +kernel); focus (first | decide | omega)))
local macro_rules
  | `(tactic| trivial) => `(tactic| ((with_reducible apply tx_num); (focus trivial); intro i hi; omega))
local macro_rules
  | `(tactic| trivial) => `(tactic| ((with_reducible apply tx_plus); (focus trivial); (focus trivial); focus (first | decide | omega)))
local macro_rules
  | `(tactic| trivial) => `(tactic| ((with_reducible apply ta_cons); (focus trivial); (focus trivial); focus (first | decide | omega)))
local macro_rules
  | `(tactic| trivial) => `(tactic| ((with_reducible apply lf_lst); (focus trivial); focus (first | decide | omega)))
local macro_rules
  | `(tactic| trivial) => `(tactic| ((with_reducible apply ls_lst); (focus trivial); focus (first | decide | omega)))
local macro_rules
  | `(tactic| trivial) => `(tactic| ((with_reducible apply lf_cat); (focus trivial); (focus trivial); focus (first | decide | omega)))
local macro_rules
  | `(tactic| trivial) => `(tactic| ((with_reducible apply it_drawC); (focus rfl); decide))
local macro_rules
  | `(tactic| trivial) => `(tactic| ((with_reducible apply it_drawV); (focus rfl); (focus rfl); omega))
local macro_rules
  | `(tactic| trivial) => `(tactic| ((with_reducible apply it_addc); (focus trivial)))
local macro_rules
  | `(tactic| trivial) => `(tactic| ((with_reducible apply it_opD); (focus trivial); (focus trivial)))
local macro_rules
  | `(tactic| trivial) => `(tactic| ((with_reducible apply bt_eq); (focus trivial)))
local macro_rules
  | `(tactic| trivial) => `(tactic| ((with_reducible apply be_eq); (focus trivial)))
local macro_rules
  | `(tactic| trivial) => `(tactic| ((with_reducible apply bt_gt); (focus trivial)))
local macro_rules
  | `(tactic| trivial) => `(tactic| ((with_reducible apply bt_var); rfl))
local macro_rules
  | `(tactic| trivial) => `(tactic| ((with_reducible apply tx_if); (focus trivial); (focus trivial); (focus trivial)))
local macro_rules
  | `(tactic| trivial) => `(tactic| ((with_reducible apply la_cons); (focus trivial); (focus trivial); (focus decide)))
local macro_rules
  | `(tactic| trivial) => `(tactic| with_reducible exact la_nil)
local macro_rules
  | `(tactic| trivial) => `(tactic| ((with_reducible apply ls_pick); (focus rfl); (focus trivial); (focus decide)))
local macro_rules
  | `(tactic| trivial) => `(tactic| ((with_reducible apply tx_c); decide +kernel))
local macro_rules
  | `(tactic| trivial) => `(tactic| with_reducible exact it_c)
local macro_rules
  | `(tactic| trivial) => `(tactic| with_reducible exact ta_nil)
local macro_rules
  | `(tactic| trivial) => `(tactic| ((with_reducible apply it_var); rfl))
local macro_rules
  | `(tactic| trivial) => `(tactic| ((with_reducible apply tx_var); (focus rfl); assumption))
local macro_rules
  | `(tactic| trivial) => `(tactic| ((with_reducible apply ls_var); (focus rfl); assumption))
local macro_rules
  | `(tactic| trivial) => `(tactic| ((with_reducible apply tx_ix0); (focus rfl); (focus assumption); (focus assumption)))
local macro_rules
  | `(tactic| trivial) => `(tactic| ((with_reducible apply tx_ix1); (focus rfl); (focus assumption); (focus assumption)))
local macro_rules
  | `(tactic| trivial) => `(tactic| ((with_reducible apply tx_ix2); (focus rfl); (focus assumption); (focus assumption)))
local macro_rules
  | `(tactic| trivial) => `(tactic| ((with_reducible apply ls_cat); (focus trivial); (focus trivial); (focus (first | decide | omega))))
local macro_rules
  | `(tactic| trivial) => `(tactic| ((with_reducible apply tx_pick2); (focus rfl); (focus decide +kernel); (focus decide +kernel)))
local macro_rules
  | `(tactic| trivial) => `(tactic| ((with_reducible apply tx_last); (focus rfl); (focus assumption); (focus assumption)))
local macro_rules
  | `(tactic| trivial) => `(tactic| ((with_reducible apply bt_and); (focus trivial); (focus trivial)))
local macro_rules
  | `(tactic| trivial) => `(tactic| ((with_reducible apply bt_ne); (focus rfl); (focus rfl)))
abbrev st_law_heaps_game : Stmt := topS 28
theorem sc_law_heaps_game : FnScope ["pool", "heaps", "k", "top", "found", "heap"] ["pool"] (defScope st_law_heaps_game) := ⟨rfl, rfl, rfl, by decide +kernel, rfl, by decide +kernel, by decide +kernel⟩
section
variable {P : Program} {w : World} {K : PySem.W.Frag} {mg : Str → Option Value} {base : Heap}
theorem ok_heaps_game (T : Top K mg "_law_heaps_game" st_law_heaps_game ["pool"]) (D_law_draw : Def P w K mg base 3 "_law_draw" ["pool", "limit"] (spDraw K)) (D_law_pick : Def P w K mg base 4 "_law_pick" ["pool", "options"] (spPick K)) (z_range : mg "range" = none) (z_str : mg "str" = none) : Def P w K mg base 5 "_law_heaps_game" ["pool"] (spGame K HeapsG) := by
  refine T.ok sc_law_heaps_game (fun vs H Q E h => ?_) (fun f cdv A outer s H vs Q E hr h => ?_)
  · obtain ⟨p, a, rfl, _⟩ := h
    rfl
  obtain ⟨p, a, rfl, hP, q⟩ := h
  refine ⟨_, (pss_cons (ps_setLc (i := 1) (own := [("k", 2)]) (g := gName 2) (tt := tYes) rfl sc_law_heaps_game.nd rfl rfl (sw_true rfl rfl rfl (by decide +kernel)) (pi_range1 rfl z_range (pa_cons (pe_op op_add pe_int (pe_def D_law_draw (hr.mono (by decide)) rfl (pa_cons (pv 0) (pa_cons pe_int pa_nil)))) pa_nil)) (blkOk_by (own := [("k", 2)]) (N := ["pool", "heaps", "k", "top", "found", "heap"]) (sc := defScope st_law_heaps_game) (by decide +kernel)) (fun _ _ _ _ _ => (pg_name (i := 2) sc_law_heaps_game.nd rfl (Or.inl rfl))) (fun _ _ _ _ _ => pts_nil) (fun _ _ _ _ _ => (pe_op op_add_str pe_str (pe_callTy call_str_int rfl z_str (by decide +kernel) (pa_cons (pv 2) pa_nil)))))
    (pss_cons (ps_set (i := 3) sc_law_heaps_game.nd rfl (Or.inr rfl) (pe_op op_add pe_int (pe_def D_law_draw (hr.mono (by decide)) rfl (pa_cons (pv 0) (pa_cons pe_int pa_nil)))))
    (pss_cons (ps_set (i := 4) sc_law_heaps_game.nd rfl (Or.inl rfl) (pe_lst (pa_cons pe_str (pa_cons (pe_op op_add_str pe_str (pe_K (K := K) rfl (pe_bm PySem.F.plainAttrs_str PySem.F.slot_str_join PySem.F.type_str_join (joinQ K) pe_str (pa_cons (pv 1) pa_nil)))) (pa_cons (pe_op op_add_str pe_str (pe_callTy call_str_int rfl z_str (by decide +kernel) (pa_cons (pv 3) pa_nil))) pa_nil)))))
    (pss_cons (ps_set (i := 4) sc_law_heaps_game.nd rfl (Or.inl rfl) (pe_op op_cat (pv 4) (pe_lst (pa_cons pe_str (pa_cons pe_str (pa_cons pe_str pa_nil))))))
    (pss_cons (ps_set (i := 4) sc_law_heaps_game.nd rfl (Or.inl rfl) (pe_op op_cat (pv 4) (pe_lc (own := [("heap", 5)]) (g := gName 5) (tt := tYes) rfl sc_law_heaps_game.nd (pi_K (K := K) rfl (pi_list (pv 1))) (blkOk_by (own := [("heap", 5)]) (N := ["pool", "heaps", "k", "top", "found", "heap"]) (sc := defScope st_law_heaps_game) (by decide +kernel)) (fun _ _ _ _ _ => (pg_name (i := 5) sc_law_heaps_game.nd rfl (Or.inl rfl))) (fun _ _ _ _ _ => pts_nil) (fun _ _ _ _ _ => (pe_op op_add_str (pe_op op_add_str (pe_op op_add_str (pe_op op_add_str pe_str (pv 5)) pe_str) (pe_callTy call_str_int rfl z_str (by decide +kernel) (pa_cons (pe_op op_add pe_int (pe_def D_law_draw (hr.mono (by decide)) rfl (pa_cons (pv 0) (pa_cons (pv 3) pa_nil)))) pa_nil))) pe_str)))))
    (Evl.pss_cut (ps_if (pt_cmpR op_eq (pe_def D_law_draw (hr.mono (by decide)) rfl (pa_cons (pv 0) (pa_cons pe_int pa_nil))) pe_int (nomark _))
    (pss_cons (ps_expr (pe_K (K := K) rfl (pe_bm PySem.F.plainAttrs_list PySem.F.slot_list_append PySem.F.type_list_append mt_append (pv 4) (pa_cons pe_str pa_nil))))
      (pss_one (ps_expr (pe_K (K := K) rfl (pe_bm PySem.F.plainAttrs_list PySem.F.slot_list_append PySem.F.type_list_append mt_append (pv 4) (pa_cons (pe_op op_add_str pe_str (pe_callTy call_str_int rfl z_str (by decide +kernel) (pa_cons (pe_op op_add pe_int (pe_def D_law_draw (hr.mono (by decide)) rfl (pa_cons (pv 0) (pa_cons pe_int pa_nil)))) pa_nil))) pa_nil))))))
    (pss_cons (ps_set (i := 4) sc_law_heaps_game.nd rfl (Or.inl rfl) (pe_op op_cat (pe_op op_cat (pv 4) (pe_lst (pa_cons pe_str pa_nil))) (pe_lc (own := [("k", 2)]) (g := gName 2) (tt := tYes) rfl sc_law_heaps_game.nd (pi_range1 rfl z_range (pa_cons (pe_op op_add (pv 3) pe_int) pa_nil)) (blkOk_by (own := [("k", 2)]) (N := ["pool", "heaps", "k", "top", "found", "heap"]) (sc := defScope st_law_heaps_game) (by decide +kernel)) (fun _ _ _ _ _ => (pg_name (i := 2) sc_law_heaps_game.nd rfl (Or.inl rfl))) (fun _ _ _ _ _ => pts_nil) (fun _ _ _ _ _ => (pe_op op_add_str (pe_op op_add_str pe_str (pe_callTy call_str_int rfl z_str (by decide +kernel) (pa_cons (pv 2) pa_nil))) pe_str)))))
      (pss_one (ps_expr (pe_K (K := K) rfl (pe_bm PySem.F.plainAttrs_list PySem.F.slot_list_append PySem.F.type_list_append mt_append (pv 4) (pa_cons pe_str pa_nil)))))))
    (pss_cons (ps_set (i := 4) sc_law_heaps_game.nd rfl (Or.inl rfl) (pe_op op_cat (pv 4) (pe_lst (pa_cons pe_str (pa_cons pe_str (pa_cons pe_str pa_nil))))))
    (pss_one (ps_ret (pe_op op_cat (pv 4) (pe_def D_law_pick (hr.mono (by decide)) rfl (pa_cons (pv 0) (pa_cons (pe_lst (pa_cons (pe_lst pa_nil) (pa_cons (pe_lst (pa_cons pe_str pa_nil)) pa_nil))) pa_nil))))))))))))), ?_⟩
  refine q_new hP (lf_lcR (n := 160) 3 (by trivial) (fun i e => by omega) (by decide) (fun x => rfl) (P := fun (k : Nat) x => x = [cs "h" ++ nm k]) ?_) fun cA C G1 g1 f1 c1 r1 => ?_
  · intro k hk
    refine ⟨_, Tx.le (by trivial) (by decide), fun l hl => ?_⟩
    simp only [exists_and_left, exists_eq_left, List.cons_append, List.nil_append, List.append_nil] at hl; subst hl
    rfl
  obtain ⟨k, ek, ct⟩ := r1
  have hC : C = namesOf "h" k := Cat.map ct
  refine q_it g1.q (by trivial) fun top G2 g2 rt => ?_
  have rt : 2 ≤ top ∧ top ≤ 4 := by omega
  obtain ⟨top, rfl⟩ := Int.eq_ofNat_of_zero_le (show 0 ≤ top by omega)
  have c2 := c1.go g2
  have g02 := g1.trans g2
  refine q_new2 g02 c2 (N := 6000) (by trivial) fun x L3 G3 r3 w3 => ?_
  simp only [exists_and_left, exists_eq_left, List.cons_append, List.nil_append, List.append_nil] at r3; subst r3
  have i3 := w3.it
  refine q_new2 w3.go w3.cl (N := 6000) (by trivial) fun x L4 G4 r4 w4 => ?_
  simp only [exists_and_left, exists_eq_left, List.cons_append, List.nil_append, List.append_nil] at r4; subst r4
  have i4 := w4.it
  have c4 := w4.cl
  refine q_new2 w4.go w4.cl (N := 6000) (lf_cat (ls_var rfl i4) (ls_of (lf_lcL rfl c4 (by decide) (fun x => rfl) (P := fun h x => ∃ n : Int, 1 ≤ n ∧ n ≤ top ∧ x = [cs "begin has(" ++ h ++ com ++ nm n ++ clo]) ?_)) (by decide)) fun x L5 G5 r5 w5 => ?_
  · intro l hl
    have := c4.short l hl
    refine ⟨_, _, bt_yes, Tx.le (by trivial) (by decide), fun _ y hy => ?_, fun z => by cases z⟩
    simp only [exists_and_left, exists_eq_left, List.cons_append, List.nil_append, List.append_nil] at hy
    obtain ⟨_, ⟨_, ⟨i, hi, rfl⟩, rfl⟩, rfl⟩ := hy
    exact ⟨i, by omega, by omega, rfl⟩
  obtain ⟨_, begins, rfl, ct5, rfl⟩ := r5
  obtain ⟨L5, hL5, w5⟩ := w5.name
  refine ⟨fun σ G => ∃ x2 x5 x mid, σ = [some (.ref p), some (.ref cA), x2, some (.int (top : Nat)), some (.ref x), x5] ∧ Two K p a H G cA 3 160 C x 40 6000 (L5 ++ mid) ∧ HeapsMid top mid, ?_, ?_⟩
  · refine s_ifB w5.go.q (by trivial) (fun G6 g6 _ => ?_) (fun G6 g6 _ => ?_)
    · have w6 := w5.to g6
      refine q_app2 w6 rfl (by trivial) (by decide) (by decide) fun _ G7 r7 w7 => ?_
      subst r7
      refine app_core w7 rfl (by trivial) (by decide) (by decide) fun _ G8 r8 w8 => ?_
      simp only [exists_and_left, exists_eq_left, List.cons_append, List.nil_append, List.append_nil] at r8
      obtain ⟨_, ⟨d, hd, rfl⟩, rfl⟩ := r8
      exact ⟨_, _, _, _, rfl, by rw [List.append_assoc] at w8; exact w8.wide (by decide) (Nat.le_refl _), .inl ⟨d, by omega, by omega, rfl⟩⟩
    · have w6 := w5.to g6
      have i6 := w6.it
      refine q_new2 w6.go w6.cl (N := 6000) (lf_cat (by trivial) (ls_of (lf_lcR 5 (by trivial) (fun i e => by omega) (by decide) (fun x => rfl) (P := fun (k : Nat) x => x = [cs "begin size(" ++ nm k ++ clo]) ?_)) (by decide)) fun x L7 G7 r7 w7 => ?_
      · intro k hk
        refine ⟨_, Tx.le (by trivial) (by decide), fun l hl => ?_⟩
        simp only [exists_and_left, exists_eq_left, List.cons_append, List.nil_append, List.append_nil] at hl; subst hl
        rfl
      obtain ⟨_, _, r7, ⟨k', ek', ct7⟩, rfl⟩ := r7
      simp only [exists_and_left, exists_eq_left, List.cons_append, List.nil_append, List.append_nil] at r7; subst r7
      obtain rfl : k' = top + 1 := by omega
      rw [Cat.map ct7] at w7
      refine app_core w7 rfl (by trivial) (by decide) (by decide) fun _ G8 r8 w8 => ?_
      subst r8
      exact ⟨_, _, _, _, rfl, by rw [List.append_assoc, List.append_assoc] at w8; exact w8.wide (by decide) (Nat.le_refl _), .inr rfl⟩
  rintro σ G8 ⟨x2, x5, x, mid, rfl, w8, hm⟩
  have i8 := w8.it
  refine q_new2 w8.go w8.cl (N := 6000) (by trivial) fun x L9 G9 r9 w9 => ?_
  obtain ⟨_, _, rfl, r9, rfl⟩ := r9
  simp only [exists_and_left, exists_eq_left, List.cons_append, List.nil_append, List.append_nil] at r9; subst r9
  have i9 := w9.it
  refine r_lf w9.go.q (lf_cat (ls_var rfl i9) (n := 6000) (m2 := 1) (by trivial) (by decide)) fun y L17 G17 g17 f17 i17 r17 => ?_
  obtain ⟨_, tail, rfl, rt, rfl⟩ := r17
  refine q y G17 _ (w9.go.trans g17) (w9.go.back f17) i17.np i17.at_ (Nat.le_trans i17.few (by decide)) ⟨k, top, begins, mid, tail, by omega, by omega, by omega, by omega, by rw [← hC]; exact ct5, hm, ?_, ?_⟩
  · simp only [exists_and_left, exists_eq_left, or_false, or_self] at rt
    exact rt
  · simp only [hL5, List.append_assoc, List.cons_append, List.nil_append, List.append_nil, heapsG, sp1, com, clo, ← hC]
end
end My
set_option Elab.async false
set_option linter.all false
set_option maxRecDepth 100000
set_option maxHeartbeats 4000000
/-! A drawn game of walks -/
namespace My
open PySem PySem.Spec PyProof.Rows L2
local macro_rules
  | `(tactic| nofun) => `(tactic| (apply tup_at; nofun))
local macro_rules
  | `(tactic| nofun) => `(tactic| (apply seq_at; nofun))
local macro_rules
  | `(tactic| nofun) => `(tactic| (apply pool_same; assumption; nofun))
local macro_rules
  | `(tactic| nofun) => `(tactic| (apply but_get; assumption; assumption; nofun))
local macro_rules
  | `(tactic| nofun) => `(tactic| (apply off_get; assumption; assumption; nofun))
local macro_rules
  | `(tactic| nofun) => `(tactic| (apply same_get; assumption; nofun))
local macro_rules
  | `(tactic| nofun) => `(tactic| assumption)
local macro_rules
  | `(tactic| trivial) => `(tactic| ((with_reducible apply tx_joinK); (focus trivial); (focus decide +kernel); focus (first | decide | omega)))
local macro_rules
  | `(tactic| trivial) => `(tactic| ((with_reducible apply tx_num); (focus trivial); intro i hi; omega))
local macro_rules
  | `(tactic| trivial) => `(tactic| ((with_reducible apply tx_plus); (focus trivial); (focus trivial); focus (first | decide | omega)))
local macro_rules
  | `(tactic| trivial) => `(tactic| ((with_reducible apply ta_cons); (focus trivial); (focus trivial); focus (first | decide | omega)))
local macro_rules
  | `(tactic| trivial) => `(tactic| ((with_reducible apply lf_lst); (focus trivial); focus (first | decide | omega)))
local macro_rules
  | `(tactic| trivial) => `(tactic| ((with_reducible apply ls_lst); (focus trivial); focus (first | decide | omega)))
local macro_rules
  | `(tactic| trivial) => `(tactic| ((with_reducible apply lf_cat); (focus trivial); (focus trivial); focus (first | decide | omega)))
local macro_rules
  | `(tactic| trivial) => `(tactic| ((with_reducible apply it_drawC); (focus rfl); decide))
local macro_rules
  | `(tactic| trivial) => `(tactic| ((with_reducible apply it_drawV); (focus rfl); (focus rfl); omega))
local macro_rules
  | `(tactic| trivial) => `(tactic| ((with_reducible apply it_addc); (focus trivial)))
local macro_rules
  | `(tactic| trivial) => `(tactic| ((with_reducible apply it_opD); (focus trivial); (focus trivial)))
local macro_rules
  | `(tactic| trivial) => `(tactic| ((with_reducible apply bt_eq); (focus trivial)))
local macro_rules
  | `(tactic| trivial) => `(tactic| ((with_reducible apply be_eq); (focus trivial)))
local macro_rules
  | `(tactic| trivial) => `(tactic| ((with_reducible apply bt_gt); (focus trivial)))
local macro_rules
  | `(tactic| trivial) => `(tactic| ((with_reducible apply bt_var); rfl))
local macro_rules
  | `(tactic| trivial) => `(tactic| ((with_reducible apply tx_if); (focus trivial); (focus trivial); (focus trivial)))
local macro_rules
  | `(tactic| trivial) => `(tactic| ((with_reducible apply la_cons); (focus trivial); (focus trivial); (focus decide)))
local macro_rules
  | `(tactic| trivial) => `(tactic| with_reducible exact la_nil)
local macro_rules
  | `(tactic| trivial) => `(tactic| ((with_reducible apply ls_pick); (focus rfl); (focus trivial); (focus decide)))
local macro_rules
  | `(tactic| trivial) => `(tactic| ((with_reducible apply tx_c); decide +kernel))
local macro_rules
  | `(tactic| trivial) => `(tactic| with_reducible exact it_c)
local macro_rules
  | `(tactic| trivial) => `(tactic| with_reducible exact ta_nil)
local macro_rules
  | `(tactic| trivial) => `(tactic| ((with_reducible apply it_var); rfl))
local macro_rules
  | `(tactic| trivial) => `(tactic| ((with_reducible apply tx_var); (focus rfl); assumption))
local macro_rules
  | `(tactic| trivial) => `(tactic| ((with_reducible apply ls_var); (focus rfl); assumption))
local macro_rules
  | `(tactic| trivial) => `(tactic| ((with_reducible apply tx_ix0); (focus rfl); (focus assumption); (focus assumption)))
local macro_rules
  | `(tactic| trivial) => `(tactic| ((with_reducible apply tx_ix1); (focus rfl); (focus assumption); (focus assumption)))
local macro_rules
  | `(tactic| trivial) => `(tactic| ((with_reducible apply tx_ix2); (focus rfl); (focus assumption); (focus assumption)))
local macro_rules
  | `(tactic| trivial) => `(tactic| ((with_reducible apply ls_cat); (focus trivial); (focus trivial); (focus (first | decide | omega))))
local macro_rules
  | `(tactic| trivial) => `(tactic| ((with_reducible apply tx_pick2); (focus rfl); (focus decide +kernel); (focus decide +kernel)))
local macro_rules
  | `(tactic| trivial) => `(tactic| ((with_reducible apply tx_last); (focus rfl); (focus assumption); (focus assumption)))
local macro_rules
  | `(tactic| trivial) => `(tactic| ((with_reducible apply bt_and); (focus trivial); (focus trivial)))
local macro_rules
  | `(tactic| trivial) => `(tactic| ((with_reducible apply bt_ne); (focus rfl); (focus rfl)))
abbrev st_law_walks_game : Stmt := topS 29
theorem sc_law_walks_game : FnScope ["pool", "nodes", "k", "found", "one", "other", "burns", "hunts", "body"] ["pool"] (defScope st_law_walks_game) := ⟨rfl, rfl, rfl, by decide +kernel, rfl, by decide +kernel, by decide +kernel⟩
section
variable {P : Program} {w : World} {K : PySem.W.Frag} {mg : Str → Option Value} {base : Heap}
theorem ok_walks_game (T : Top K mg "_law_walks_game" st_law_walks_game ["pool"]) (D_law_draw : Def P w K mg base 3 "_law_draw" ["pool", "limit"] (spDraw K)) (D_law_pick : Def P w K mg base 4 "_law_pick" ["pool", "options"] (spPick K)) (z_range : mg "range" = none) (z_str : mg "str" = none) : Def P w K mg base 5 "_law_walks_game" ["pool"] (spGame K WalksG) := by
  refine T.ok sc_law_walks_game (fun vs H Q E h => ?_) (fun f cdv A outer s H vs Q E hr h => ?_)
  · obtain ⟨p, a, rfl, _⟩ := h
    rfl
  obtain ⟨p, a, rfl, hP, q⟩ := h
  refine ⟨_, (pss_cons (ps_setLc (i := 1) (own := [("k", 2)]) (g := gName 2) (tt := tYes) rfl sc_law_walks_game.nd rfl rfl (sw_true rfl rfl rfl (by decide +kernel)) (pi_range1 rfl z_range (pa_cons (pe_op op_add pe_int (pe_def D_law_draw (hr.mono (by decide)) rfl (pa_cons (pv 0) (pa_cons pe_int pa_nil)))) pa_nil)) (blkOk_by (own := [("k", 2)]) (N := ["pool", "nodes", "k", "found", "one", "other", "burns", "hunts", "body"]) (sc := defScope st_law_walks_game) (by decide +kernel)) (fun _ _ _ _ _ => (pg_name (i := 2) sc_law_walks_game.nd rfl (Or.inl rfl))) (fun _ _ _ _ _ => pts_nil) (fun _ _ _ _ _ => (pe_op op_add_str pe_str (pe_callTy call_str_int rfl z_str (by decide +kernel) (pa_cons (pv 2) pa_nil)))))
    (pss_cons (ps_set (i := 3) sc_law_walks_game.nd rfl (Or.inl rfl) (pe_lst (pa_cons pe_str (pa_cons (pe_op op_add_str pe_str (pe_K (K := K) rfl (pe_bm PySem.F.plainAttrs_str PySem.F.slot_str_join PySem.F.type_str_join (joinQ K) pe_str (pa_cons (pv 1) pa_nil)))) (pa_cons pe_str (pa_cons pe_str pa_nil))))))
    (pss_cons (ps_set (i := 3) sc_law_walks_game.nd rfl (Or.inl rfl) (pe_op op_cat (pv 3) (pe_lst (pa_cons pe_str (pa_cons pe_str (pa_cons pe_str (pa_cons pe_str pa_nil)))))))
    (pss_cons (ps_set (i := 3) sc_law_walks_game.nd rfl (Or.inl rfl) (pe_op op_cat (pv 3) (pe_lst (pa_cons pe_str (pa_cons (pe_op op_add_str (pe_op op_add_str pe_str (pe_def D_law_pick (hr.mono (by decide)) rfl (pa_cons (pv 0) (pa_cons (pe_slice (slL K) (pv 1) (po_some pe_int) po_none) pa_nil)))) pe_str) pa_nil)))))
    (pss_cons (ps_for PassesOwn.never rfl (pi_K (K := K) rfl (pi_list (pv 1))) (pg_name (i := 4) sc_law_walks_game.nd rfl (Or.inl rfl))
    (pss_one (ps_for PassesOwn.never rfl (pi_K (K := K) rfl (pi_list (pv 1))) (pg_name (i := 5) sc_law_walks_game.nd rfl (Or.inl rfl))
      (pss_one (ps_if (PW.pt (pw_and (pt_cmpR op_ne (pv 4) (pv 5) (nomark _)) (pw_and1 (pt_cmpR op_eq (pe_def D_law_draw (hr.mono (by decide)) rfl (pa_cons (pv 0) (pa_cons pe_int pa_nil))) pe_int (nomark _)))))
        (pss_one (ps_expr (pe_K (K := K) rfl (pe_bm PySem.F.plainAttrs_list PySem.F.slot_list_append PySem.F.type_list_append mt_append (pv 3) (pa_cons (pe_op op_add_str (pe_op op_add_str (pe_op op_add_str (pe_op op_add_str pe_str (pv 4)) pe_str) (pv 5)) pe_str) pa_nil)))))
        pss_nil)))))
    (pss_cons (ps_set (i := 6) sc_law_walks_game.nd rfl (Or.inl rfl) (pe_cmpR op_eq (pe_def D_law_draw (hr.mono (by decide)) rfl (pa_cons (pv 0) (pa_cons pe_int pa_nil))) pe_int (nomark _)))
    (pss_cons (ps_set (i := 7) sc_law_walks_game.nd rfl (Or.inl rfl) (pe_cmpR op_eq (pe_def D_law_draw (hr.mono (by decide)) rfl (pa_cons (pv 0) (pa_cons pe_int pa_nil))) pe_int (nomark _)))
    (pss_cons (ps_set (i := 8) sc_law_walks_game.nd rfl (Or.inl rfl) (pe_op op_add_str (pe_op op_add_str pe_str (pe_ifExp (pt_val (pv 6)) pe_str pe_str)) (pe_ifExp (pt_val (pv 7)) pe_str pe_str)))
    (pss_cons (ps_set (i := 3) sc_law_walks_game.nd rfl (Or.inl rfl) (pe_op op_cat (pv 3) (pe_lst (pa_cons (pe_op op_add_str pe_str (pv 8)) (pa_cons pe_str (pa_cons pe_str pa_nil))))))
    (Evl.pss_cut (ps_if (pt_val (pv 6))
    (pss_one (ps_expr (pe_K (K := K) rfl (pe_bm PySem.F.plainAttrs_list PySem.F.slot_list_append PySem.F.type_list_append mt_append (pv 3) (pa_cons pe_str pa_nil)))))
    pss_nil)
    (Evl.pss_cut (ps_if (pt_val (pv 7))
    (pss_one (ps_expr (pe_K (K := K) rfl (pe_bm PySem.F.plainAttrs_list PySem.F.slot_list_append PySem.F.type_list_append mt_append (pv 3) (pa_cons pe_str pa_nil)))))
    pss_nil)
    (pss_one (ps_ret (pe_op op_cat (pv 3) (pe_def D_law_pick (hr.mono (by decide)) rfl (pa_cons (pv 0) (pa_cons (pe_lst (pa_cons (pe_lst pa_nil) (pa_cons (pe_lst (pa_cons (pe_op op_add_str (pe_op op_add_str pe_str (pe_def D_law_pick (hr.mono (by decide)) rfl (pa_cons (pv 0) (pa_cons (pv 1) pa_nil)))) pe_str) pa_nil)) pa_nil))) pa_nil))))))))))))))))), ?_⟩
  refine q_new hP (lf_lcR (n := 160) 6 (by trivial) (fun i e => by omega) (by decide) (fun x => rfl) (P := fun (k : Nat) x => x = [cs "n" ++ nm k]) ?_) fun cA C G1 g1 f1 c1 r1 => ?_
  · intro k hk
    refine ⟨_, Tx.le (by trivial) (by decide), fun l hl => ?_⟩
    simp only [exists_and_left, exists_eq_left, List.cons_append, List.nil_append, List.append_nil] at hl; subst hl
    rfl
  obtain ⟨k, ek, ct⟩ := r1
  have hC : C = namesOf "n" k := Cat.map ct
  have lC : C.length = k := by rw [hC]; unfold namesOf; rw [List.length_map, List.length_range]
  refine q_new2 g1 c1 (N := 6000) (by trivial) fun x L3 G3 r3 w3 => ?_
  simp only [exists_and_left, exists_eq_left, List.cons_append, List.nil_append, List.append_nil] at r3; subst r3
  have i3 := w3.it
  refine q_new2 w3.go w3.cl (N := 6000) (by trivial) fun x L4 G4 r4 w4 => ?_
  simp only [exists_and_left, exists_eq_left, List.cons_append, List.nil_append, List.append_nil] at r4; subst r4
  have i4 := w4.it
  have c4 := w4.cl
  refine q_new2 w4.go w4.cl (N := 6000) (lf_cat (ls_var rfl i4) (ls_lst (ta_cons (by trivial) (ta_cons (tx_plus (tx_plus (by trivial) (tx_pick rfl (ls_sl1 rfl c4) (fun l hl => by rw [hl, List.length_drop]; omega) (by decide)) (by decide)) (by trivial) (by decide)) ta_nil (by decide)) (by decide)) (by decide)) (by decide)) fun x L5 G5 r5 w5 => ?_
  simp only [exists_and_left, exists_eq_left, List.cons_append, List.nil_append, List.append_nil] at r5
  obtain ⟨_, ⟨_, ⟨_, ⟨_, ⟨sec, hsec, rfl⟩, rfl⟩, rfl⟩, rfl⟩, rfl⟩ := r5
  obtain ⟨L5, hL5, w5⟩ := w5.name
  refine q_forT2 rfl (fun i σ G => ∃ x4 x5 x links, σ = [some (.ref p), some (.ref cA), none, some (.ref x), x4, x5, none, none, none] ∧ Two K p a H G cA 6 160 C x (60 + i * 6) 6000 (L5 ++ links) ∧ Cat (fun one x => Cat (Link1 one) C x) (C.take i) links) w5.cl
    ⟨none, none, x, [], rfl, by rw [List.append_nil]; exact w5.wide (by decide) (Nat.le_refl _), rfl⟩ (fun i σ G ⟨_, _, _, _, _, w, _⟩ => w.cl) ?_ ?_
  · rintro i one σ G hone ⟨x4, x5, x, links, rfl, w, ct⟩
    have l1 := w.cl.short one (List.mem_of_getElem? hone)
    refine s_forT2 rfl (fun j σ G => ∃ x5 x more, σ = [some (.ref p), some (.ref cA), none, some (.ref x), some (.str (tx one)), x5, none, none, none] ∧ Two K p a H G cA 6 160 C x (60 + i * 6 + j) 6000 (L5 ++ links ++ more) ∧ Cat (Link1 one) (C.take j) more) w.cl
      ⟨x5, x, [], rfl, by rw [List.append_nil]; exact w, rfl⟩ (fun i σ G ⟨_, _, _, _, w, _⟩ => w.cl) ?_ ?_
    · rintro j other σ G hoth ⟨x5, x, more, rfl, w, ct2⟩
      have l2 := w.cl.short other (List.mem_of_getElem? hoth)
      have jl := (List.getElem?_eq_some_iff.mp hoth).1
      have il := (List.getElem?_eq_some_iff.mp hone).1
      refine s_ifB w.go.q (bt_and (bt_ne rfl rfl) (by trivial)) (fun G' g' hb => ?_) (fun G' g' _ => ?_)
      · obtain ⟨c, ec, hb⟩ := hb
        have ne : one ≠ other := by
          rcases hb with ⟨_, hb⟩ | ⟨e1, _⟩
          · cases hb
          · rw [e1] at ec
            intro e
            rw [decide_eq_true e] at ec
            cases ec
        have w' := w.to g'
        refine app_core w' rfl (by trivial) (by decide) (by omega) fun _ G'' r w'' => ?_
        simp only [exists_and_left, exists_eq_left, List.cons_append, List.nil_append, List.append_nil] at r; subst r
        rw [List.append_assoc] at w''
        exact ⟨_, x, _, rfl, w'', Cat.take ct2 hoth (.inr ⟨ne, rfl⟩)⟩
      · have := Cat.take ct2 hoth (.inl rfl)
        rw [List.append_nil] at this
        exact ⟨_, x, more, rfl, (w.to g').wide (by omega) (Nat.le_refl _), this⟩
    · rintro σ G' ⟨x5, x, more, rfl, w, ct2⟩
      rw [List.take_of_length_le (Nat.le_refl _)] at ct2
      refine ⟨_, x5, x, links ++ more, rfl, by rw [← List.append_assoc]; exact w.wide (by omega) (Nat.le_refl _), Cat.take ct hone ct2⟩
  rintro σ G6 ⟨x4, x5, x, links, rfl, w6, ct6⟩
  rw [List.take_of_length_le (Nat.le_refl _)] at ct6
  refine q_be w6.go.q (by trivial) fun burns G7 g7 _ => ?_
  refine q_be g7.q (by trivial) fun hunts G8 g8 _ => ?_
  refine q_tx g8.q (by trivial) fun body G9 g9 hb lb => ?_
  have eb : body = walkBody burns hunts := by
    obtain ⟨_, _, ⟨_, _, rfl, ⟨_, rfl, h1⟩, rfl⟩, ⟨_, rfl, h2⟩, rfl⟩ := hb
    unfold walkBody
    rcases h1 with ⟨rfl, rfl⟩ | ⟨rfl, rfl⟩ <;> rcases h2 with ⟨rfl, rfl⟩ | ⟨rfl, rfl⟩ <;> rfl
  have w9 := ((w6.to g7).to g8).to g9
  have w9 := w9.wide (M' := 100) (by omega) (Nat.le_refl _)
  have i9 := w9.it
  refine q_new2 w9.go w9.cl (N := 6000) (by trivial) fun x L10 G10 r10 w10 => ?_
  obtain ⟨_, _, rfl, r10, rfl⟩ := r10
  simp only [exists_and_left, exists_eq_left, List.cons_append, List.nil_append, List.append_nil] at r10; subst r10
  obtain ⟨L10, hL10, w10⟩ := w10.name
  refine ⟨fun σ G => ∃ x, σ = [some (.ref p), some (.ref cA), none, some (.ref x), x4, x5, some (.bl burns), some (.bl hunts), some (.str (tx body))] ∧ Two K p a H G cA 6 160 C x 150 6000 (L10 ++ (if burns then [cs "go(Y) adds burnt(X) if mover(P), at(P, X)"] else [])), ?_, ?_⟩
  · refine s_ifB w10.go.q (bt_var rfl) (fun G11 g11 hb => ?_) (fun G11 g11 hb => ?_)
    · refine app_core (w10.to g11) rfl (by trivial) (by decide) (by decide) fun _ G12 r12 w12 => ?_
      subst r12
      exact ⟨_, rfl, by rw [show burns = true from hb.symm, if_pos rfl]; exact w12.wide (by decide) (Nat.le_refl _)⟩
    · exact ⟨_, rfl, by rw [show burns = false from hb.symm, if_neg Bool.false_ne_true, List.append_nil]; exact (w10.to g11).wide (by decide) (Nat.le_refl _)⟩
  rintro σ G12 ⟨x, rfl, w12⟩
  obtain ⟨L12, hL12, w12⟩ := w12.name
  refine ⟨fun σ G => ∃ x, σ = [some (.ref p), some (.ref cA), none, some (.ref x), x4, x5, some (.bl burns), some (.bl hunts), some (.str (tx body))] ∧ Two K p a H G cA 6 160 C x 200 6000 (L12 ++ (if hunts then [cs "wins first if at(first, X), at(second, X)"] else [])), ?_, ?_⟩
  · refine s_ifB w12.go.q (bt_var rfl) (fun G11 g11 hb => ?_) (fun G11 g11 hb => ?_)
    · refine app_core (w12.to g11) rfl (by trivial) (by decide) (by decide) fun _ G12 r12 w12 => ?_
      subst r12
      exact ⟨_, rfl, by rw [show hunts = true from hb.symm, if_pos rfl]; exact w12.wide (by decide) (Nat.le_refl _)⟩
    · exact ⟨_, rfl, by rw [show hunts = false from hb.symm, if_neg Bool.false_ne_true, List.append_nil]; exact (w12.to g11).wide (by decide) (Nat.le_refl _)⟩
  rintro σ G14 ⟨x, rfl, w14⟩
  have i14 := w14.it
  have c14 := w14.cl
  refine r_lf w14.go.q (lf_cat (ls_var rfl i14) (n := 6000) (m2 := 1) (ls_pick rfl (la_cons (by trivial) (la_cons (ls_lst (ta_cons (tx_plus (tx_plus (by trivial) (tx_pick rfl (ls_var rfl c14) (fun l hl => by rw [hl]; omega) (by decide)) (by decide)) (by trivial) (by decide)) ta_nil (by decide)) (by decide)) la_nil (by decide)) (by decide)) (by decide)) (by decide)) fun y L17 G17 g17 f17 i17 r17 => ?_
  obtain ⟨_, tail, rfl, rt, rfl⟩ := r17
  refine q y G17 _ (w14.go.trans g17) (w14.go.back f17) i17.np i17.at_ (Nat.le_trans i17.few (by decide)) ⟨k, sec, links, burns, hunts, tail, by omega, by omega, by rw [← hC]; exact hsec, by rw [← hC]; exact ct6, ?_, ?_⟩
  · simp only [exists_and_left, exists_eq_left, List.cons_append, List.nil_append, List.append_nil] at rt
    rcases rt with rt | rt | rt
    · exact .inl rt
    · skip
      obtain ⟨_, ⟨_, ⟨l, hl, rfl⟩, rfl⟩, rfl⟩ := rt
      rw [← hC]
      exact .inr ⟨l, hl, rfl⟩
    · exact rt.elim
  · simp only [hL5, hL10, hL12, eb, List.append_assoc, List.cons_append, List.nil_append, List.append_nil, walksG, sp1, com, clo, ← hC]
end
end My
set_option Elab.async false
set_option linter.all false
set_option maxRecDepth 100000
set_option maxHeartbeats 4000000
/-! A drawn game of lamps -/
namespace My
open PySem PySem.Spec PyProof.Rows L2
local macro_rules
  | `(tactic| nofun) => `(tactic| (apply tup_at; nofun))
local macro_rules
  | `(tactic| nofun) => `(tactic| (apply seq_at; nofun))
local macro_rules
  | `(tactic| nofun) => `(tactic| (apply pool_same; assumption; nofun))
local macro_rules
  | `(tactic| nofun) => `(tactic| (apply but_get; assumption; assumption; nofun))
local macro_rules
  | `(tactic| nofun) => `(tactic| (apply off_get; assumption; assumption; nofun))
local macro_rules
  | `(tactic| nofun) => `(tactic| (apply same_get; assumption; nofun))
local macro_rules
  | `(tactic| nofun) => `(tactic| assumption)
local macro_rules
  | `(tactic| trivial) => `(tactic| ((with_reducible apply tx_joinK); (focus trivial); (focus decide +kernel); focus (first | decide | omega)))
local macro_rules
  | `(tactic| trivial) => `(tactic| ((with_reducible apply tx_num); (focus trivial); intro i hi; omega))
local macro_rules
  | `(tactic| trivial) => `(tactic| ((with_reducible apply tx_plus); (focus trivial); (focus trivial); focus (first | decide | omega)))
local macro_rules
  | `(tactic| trivial) => `(tactic| ((with_reducible apply ta_cons); (focus trivial); (focus trivial); focus (first | decide | omega)))
local macro_rules
  | `(tactic| trivial) => `(tactic| ((with_reducible apply lf_lst); (focus trivial); focus (first | decide | omega)))
local macro_rules
  | `(tactic| trivial) => `(tactic| ((with_reducible apply ls_lst); (focus trivial); focus (first | decide | omega)))
local macro_rules
  | `(tactic| trivial) => `(tactic| ((with_reducible apply lf_cat); (focus trivial); (focus trivial); focus (first | decide | omega)))
local macro_rules
  | `(tactic| trivial) => `(tactic| ((with_reducible apply it_drawC); (focus rfl); decide))
local macro_rules
  | `(tactic| trivial) => `(tactic| ((with_reducible apply it_drawV); (focus rfl); (focus rfl); omega))
local macro_rules
  | `(tactic| trivial) => `(tactic| ((with_reducible apply it_addc); (focus trivial)))
local macro_rules
  | `(tactic| trivial) => `(tactic| ((with_reducible apply it_opD); (focus trivial); (focus trivial)))
local macro_rules
  | `(tactic| trivial) => `(tactic| ((with_reducible apply bt_eq); (focus trivial)))
local macro_rules
  | `(tactic| trivial) => `(tactic| ((with_reducible apply be_eq); (focus trivial)))
local macro_rules
  | `(tactic| trivial) => `(tactic| ((with_reducible apply bt_gt); (focus trivial)))
local macro_rules
  | `(tactic| trivial) => `(tactic| ((with_reducible apply bt_var); rfl))
local macro_rules
  | `(tactic| trivial) => `(tactic| ((with_reducible apply tx_if); (focus trivial); (focus trivial); (focus trivial)))
local macro_rules
  | `(tactic| trivial) => `(tactic| ((with_reducible apply la_cons); (focus trivial); (focus trivial); (focus decide)))
local macro_rules
  | `(tactic| trivial) => `(tactic| with_reducible exact la_nil)
local macro_rules
  | `(tactic| trivial) => `(tactic| ((with_reducible apply ls_pick); (focus rfl); (focus trivial); (focus decide)))
local macro_rules
  | `(tactic| trivial) => `(tactic| ((with_reducible apply tx_c); decide +kernel))
local macro_rules
  | `(tactic| trivial) => `(tactic| with_reducible exact it_c)
local macro_rules
  | `(tactic| trivial) => `(tactic| with_reducible exact ta_nil)
local macro_rules
  | `(tactic| trivial) => `(tactic| ((with_reducible apply it_var); rfl))
local macro_rules
  | `(tactic| trivial) => `(tactic| ((with_reducible apply tx_var); (focus rfl); assumption))
local macro_rules
  | `(tactic| trivial) => `(tactic| ((with_reducible apply ls_var); (focus rfl); assumption))
local macro_rules
  | `(tactic| trivial) => `(tactic| ((with_reducible apply tx_ix0); (focus rfl); (focus assumption); (focus assumption)))
local macro_rules
  | `(tactic| trivial) => `(tactic| ((with_reducible apply tx_ix1); (focus rfl); (focus assumption); (focus assumption)))
local macro_rules
  | `(tactic| trivial) => `(tactic| ((with_reducible apply tx_ix2); (focus rfl); (focus assumption); (focus assumption)))
local macro_rules
  | `(tactic| trivial) => `(tactic| ((with_reducible apply ls_cat); (focus trivial); (focus trivial); (focus (first | decide | omega))))
local macro_rules
  | `(tactic| trivial) => `(tactic| ((with_reducible apply tx_pick2); (focus rfl); (focus decide +kernel); (focus decide +kernel)))
local macro_rules
  | `(tactic| trivial) => `(tactic| ((with_reducible apply tx_last); (focus rfl); (focus assumption); (focus assumption)))
local macro_rules
  | `(tactic| trivial) => `(tactic| ((with_reducible apply bt_and); (focus trivial); (focus trivial)))
local macro_rules
  | `(tactic| trivial) => `(tactic| ((with_reducible apply bt_ne); (focus rfl); (focus rfl)))
abbrev st_law_lamps_game : Stmt := topS 30
theorem sc_law_lamps_game : FnScope ["pool", "lamps", "k", "found", "one", "other", "last"] ["pool"] (defScope st_law_lamps_game) := ⟨rfl, rfl, rfl, by decide +kernel, rfl, by decide +kernel, by decide +kernel⟩
section
variable {P : Program} {w : World} {K : PySem.W.Frag} {mg : Str → Option Value} {base : Heap}
theorem ok_lamps_game (T : Top K mg "_law_lamps_game" st_law_lamps_game ["pool"]) (D_law_draw : Def P w K mg base 3 "_law_draw" ["pool", "limit"] (spDraw K)) (D_law_pick : Def P w K mg base 4 "_law_pick" ["pool", "options"] (spPick K)) (z_range : mg "range" = none) (z_str : mg "str" = none) : Def P w K mg base 5 "_law_lamps_game" ["pool"] (spGame K LampsG) := by
  refine T.ok sc_law_lamps_game (fun vs H Q E h => ?_) (fun f cdv A outer s H vs Q E hr h => ?_)
  · obtain ⟨p, a, rfl, _⟩ := h
    rfl
  obtain ⟨p, a, rfl, hP, q⟩ := h
  refine ⟨_, (pss_cons (ps_setLc (i := 1) (own := [("k", 2)]) (g := gName 2) (tt := tYes) rfl sc_law_lamps_game.nd rfl rfl (sw_true rfl rfl rfl (by decide +kernel)) (pi_range1 rfl z_range (pa_cons (pe_op op_add pe_int (pe_def D_law_draw (hr.mono (by decide)) rfl (pa_cons (pv 0) (pa_cons pe_int pa_nil)))) pa_nil)) (blkOk_by (own := [("k", 2)]) (N := ["pool", "lamps", "k", "found", "one", "other", "last"]) (sc := defScope st_law_lamps_game) (by decide +kernel)) (fun _ _ _ _ _ => (pg_name (i := 2) sc_law_lamps_game.nd rfl (Or.inl rfl))) (fun _ _ _ _ _ => pts_nil) (fun _ _ _ _ _ => (pe_op op_add_str pe_str (pe_callTy call_str_int rfl z_str (by decide +kernel) (pa_cons (pv 2) pa_nil)))))
    (pss_cons (ps_set (i := 3) sc_law_lamps_game.nd rfl (Or.inl rfl) (pe_lst (pa_cons pe_str (pa_cons (pe_op op_add_str pe_str (pe_K (K := K) rfl (pe_bm PySem.F.plainAttrs_str PySem.F.slot_str_join PySem.F.type_str_join (joinQ K) pe_str (pa_cons (pv 1) pa_nil)))) (pa_cons pe_str (pa_cons pe_str pa_nil))))))
    (pss_cons (ps_set (i := 3) sc_law_lamps_game.nd rfl (Or.inl rfl) (pe_op op_cat (pv 3) (pe_lst (pa_cons pe_str (pa_cons pe_str (pa_cons pe_str (pa_cons pe_str pa_nil)))))))
    (pss_cons (ps_for PassesOwn.never rfl (pi_K (K := K) rfl (pi_list (pv 1))) (pg_name (i := 4) sc_law_lamps_game.nd rfl (Or.inr rfl))
    (pss_cons (ps_expr (pe_K (K := K) rfl (pe_bm PySem.F.plainAttrs_list PySem.F.slot_list_append PySem.F.type_list_append mt_append (pv 3) (pa_cons (pe_op op_add_str (pe_op op_add_str (pe_op op_add_str (pe_op op_add_str pe_str (pe_def D_law_pick (hr.mono (by decide)) rfl (pa_cons (pv 0) (pa_cons (pe_lst (pa_cons pe_str (pa_cons pe_str pa_nil))) pa_nil)))) pe_str) (pv 4)) pe_str) pa_nil))))
      (Evl.pss_cut (ps_if (pt_cmpR op_eq (pe_def D_law_draw (hr.mono (by decide)) rfl (pa_cons (pv 0) (pa_cons pe_int pa_nil))) pe_int (nomark _))
      (pss_one (ps_expr (pe_K (K := K) rfl (pe_bm PySem.F.plainAttrs_list PySem.F.slot_list_append PySem.F.type_list_append mt_append (pv 3) (pa_cons (pe_op op_add_str (pe_op op_add_str pe_str (pv 4)) pe_str) pa_nil)))))
      pss_nil)
      (pss_one (ps_set (i := 3) sc_law_lamps_game.nd rfl (Or.inl rfl) (pe_op op_cat (pv 3) (pe_lc (own := [("other", 5)]) (g := gName 5) rfl sc_law_lamps_game.nd (pi_K (K := K) rfl (pi_list (pv 1))) (blkOk_by (own := [("other", 5)]) (N := ["pool", "lamps", "k", "found", "one", "other", "last"]) (sc := defScope st_law_lamps_game) (by decide +kernel)) (fun _ _ _ _ _ => (pg_name (i := 5) sc_law_lamps_game.nd rfl (Or.inl rfl))) (fun _ _ _ _ _ => pts_one (PW.pt (pw_and (pt_cmpR op_ne (pv 5) (pv 4) (nomark _)) (pw_and1 (pt_cmpR op_eq (pe_def D_law_draw (hr.mono (by decide)) rfl (pa_cons (pv 0) (pa_cons pe_int pa_nil))) pe_int (nomark _)))))) (fun _ _ _ _ _ => (pe_op op_add_str (pe_op op_add_str (pe_op op_add_str (pe_op op_add_str pe_str (pv 4)) pe_str) (pv 5)) pe_str)))))))))
    (pss_cons (ps_expr (pe_K (K := K) rfl (pe_bm PySem.F.plainAttrs_list PySem.F.slot_list_append PySem.F.type_list_append mt_append (pv 3) (pa_cons pe_str pa_nil))))
    (pss_cons (ps_expr (pe_K (K := K) rfl (pe_bm PySem.F.plainAttrs_list PySem.F.slot_list_append PySem.F.type_list_append mt_append (pv 3) (pa_cons (pe_op op_add_str pe_str (pe_def D_law_pick (hr.mono (by decide)) rfl (pa_cons (pv 0) (pa_cons (pe_lst (pa_cons pe_str (pa_cons pe_str pa_nil))) pa_nil)))) pa_nil))))
    (pss_cons (ps_set (i := 3) sc_law_lamps_game.nd rfl (Or.inl rfl) (pe_op op_cat (pe_op op_cat (pv 3) (pe_lst (pa_cons pe_str pa_nil))) (pe_def D_law_pick (hr.mono (by decide)) rfl (pa_cons (pv 0) (pa_cons (pe_lst (pa_cons (pe_lst pa_nil) (pa_cons (pe_lst (pa_cons pe_str pa_nil)) pa_nil))) pa_nil)))))
    (pss_cons (ps_set (i := 3) sc_law_lamps_game.nd rfl (Or.inl rfl) (pe_op op_cat (pv 3) (pe_lst (pa_cons pe_str (pa_cons pe_str pa_nil)))))
    (pss_cons (ps_set (i := 6) sc_law_lamps_game.nd rfl (Or.inl rfl) (pe_ix (ixL K) (pv 1) (pe_un un_neg pe_int) (fun _ _ => rfl)))
    (pss_one (ps_ret (pe_op op_cat (pv 3) (pe_lst (pa_cons (pe_op op_add_str (pe_op op_add_str pe_str (pv 6)) pe_str) (pa_cons (pe_op op_add_str (pe_op op_add_str (pe_op op_add_str (pe_op op_add_str pe_str (pv 6)) pe_str) (pv 6)) pe_str) pa_nil))))))))))))))), ?_⟩
  have two : ∀ {x y : List Nat} {l : List (List Nat)}, (∃ x1 y1, x1 = x ∧ (∃ x2 y2, x2 = y ∧ y2 = [] ∧ y1 = x2 :: y2) ∧ l = x1 :: y1) → l = [x, y] := fun h => by
    obtain ⟨_, _, rfl, ⟨_, _, rfl, rfl, rfl⟩, rfl⟩ := h
    rfl
  refine q_new hP (lf_lcR (n := 160) 4 (by trivial) (fun i e => by omega) (by decide) (fun x => rfl) (P := fun (k : Nat) x => x = [cs "l" ++ nm k]) ?_) fun cA C G1 g1 f1 c1 r1 => ?_
  · intro k hk
    refine ⟨_, Tx.le (by trivial) (by decide), fun l hl => ?_⟩
    simp only [exists_and_left, exists_eq_left, List.cons_append, List.nil_append, List.append_nil] at hl; subst hl
    rfl
  obtain ⟨k, ek, ct⟩ := r1
  have hC : C = namesOf "l" k := Cat.map ct
  have lC : C.length = k := by rw [hC]; unfold namesOf; rw [List.length_map, List.length_range]
  refine q_new2 g1 c1 (N := 6000) (by trivial) fun x L3 G3 r3 w3 => ?_
  simp only [exists_and_left, exists_eq_left, List.cons_append, List.nil_append, List.append_nil] at r3; subst r3
  have i3 := w3.it
  refine q_new2 w3.go w3.cl (N := 6000) (by trivial) fun x L4 G4 r4 w4 => ?_
  simp only [exists_and_left, exists_eq_left, List.cons_append, List.nil_append, List.append_nil] at r4; subst r4
  obtain ⟨L5, hL5, w5⟩ := w4.name
  refine q_forT2 rfl (fun i σ G => ∃ x4 x5 x blocks, σ = [some (.ref p), some (.ref cA), none, some (.ref x), x4, x5, none] ∧ Two K p a H G cA 4 160 C x (60 + i * 6) 6000 (L5 ++ blocks) ∧ Cat (LampBlock C) (C.take i) blocks) w5.cl
    ⟨none, none, x, [], rfl, by rw [List.append_nil]; exact w5.wide (by decide) (Nat.le_refl _), rfl⟩ (fun i σ G ⟨_, _, _, _, _, w, _⟩ => w.cl) ?_ ?_
  · rintro i one σ G hone ⟨x4, x5, x, blocks, rfl, w, ct⟩
    have l1 := w.cl.short one (List.mem_of_getElem? hone)
    have il := (List.getElem?_eq_some_iff.mp hone).1
    refine q_app2 w rfl (by trivial) (by decide) (by omega) fun _ G6 r6 w6 => ?_
    simp only [exists_and_left, exists_eq_left, List.cons_append, List.nil_append, List.append_nil] at r6
    obtain ⟨_, ⟨_, ⟨_, ⟨who, hwho, rfl⟩, rfl⟩, rfl⟩, rfl⟩ := r6
    obtain ⟨L6, hL6, w6⟩ := w6.name
    refine ⟨fun σ G => ∃ x on, σ = [some (.ref p), some (.ref cA), none, some (.ref x), some (.str (tx one)), x5, none] ∧ Two K p a H G cA 4 160 C x (60 + i * 6 + 2) 6000 (L6 ++ on) ∧ (on = [] ∨ on = [cs "begin on(" ++ one ++ clo]), ?_, ?_⟩
    · refine s_ifB w6.go.q (by trivial) (fun G7 g7 _ => ?_) (fun G7 g7 _ => ?_)
      · refine app_core (w6.to g7) rfl (by trivial) (by decide) (by omega) fun _ G8 r8 w8 => ?_
        simp only [exists_and_left, exists_eq_left, List.cons_append, List.nil_append, List.append_nil] at r8; subst r8
        exact ⟨x, _, rfl, w8, .inr rfl⟩
      · exact ⟨x, [], rfl, by rw [List.append_nil]; exact (w6.to g7).wide (by omega) (Nat.le_refl _), .inl rfl⟩
    rintro σ G8 ⟨x, on, rfl, w8, hon⟩
    have i8 := w8.it
    have c8 := w8.cl
    refine s_new2 w8.go w8.cl (N := 6000) (lf_cat (ls_var rfl i8) (ls_of (lf_lcL rfl c8 (by decide) (fun x => rfl) (P := Wire1 one) ?_)) (by omega)) fun x L9 G9 r9 w9 => ?_
    · intro l hl
      have := c8.short l hl
      refine ⟨_, _, by trivial, Tx.le (by trivial) (by decide), fun hb y hy => ?_, fun _ => .inl rfl⟩
      simp only [exists_and_left, exists_eq_left, List.cons_append, List.nil_append, List.append_nil] at hy; subst hy
      obtain ⟨c, ec, hb⟩ := hb
      refine .inr ⟨?_, rfl⟩
      rcases hb with ⟨_, hb⟩ | ⟨e1, _⟩
      · cases hb
      · rw [e1] at ec
        intro e
        rw [decide_eq_true e] at ec
        cases ec
    obtain ⟨_, wires, rfl, ct9, rfl⟩ := r9
    refine ⟨_, x5, x, blocks ++ ([cs "begin own(" ++ who ++ com ++ one ++ clo] ++ on ++ wires), rfl, ?_, Cat.take ct hone ⟨who, on, wires, hwho, hon, ct9, rfl⟩⟩
    rw [hL6] at w9
    simp only [List.append_assoc] at w9 ⊢
    exact w9.wide (by omega) (Nat.le_refl _)
  rintro σ G6 ⟨x4, x5, x, blocks, rfl, w6, ct6⟩
  rw [List.take_of_length_le (Nat.le_refl _)] at ct6
  have w6 := w6.wide (M' := 100) (by omega) (Nat.le_refl _)
  refine q_app2 w6 rfl (by trivial) (by decide) (by decide) fun _ G7 r7 w7 => ?_
  subst r7
  refine q_app2 w7 rfl (by trivial) (by decide) (by decide) fun _ G8 r8 w8 => ?_
  simp only [exists_and_left, exists_eq_left, List.cons_append, List.nil_append, List.append_nil] at r8
  obtain ⟨z, hz, rfl⟩ := r8
  have i8 := w8.it
  refine q_new2 w8.go w8.cl (N := 6000) (lf_cat (m2 := 1) (by trivial) (by trivial) (by decide)) fun x L9 G9 r9 w9 => ?_
  simp only [exists_and_left, exists_eq_left, List.cons_append, List.nil_append, List.append_nil] at r9
  obtain ⟨wait, hw, rfl⟩ := r9
  have hw : wait = [] ∨ wait = [cs "wait if not lit(l1)"] := by
    rcases hw with h | h | h
    · exact .inl h
    · exact .inr h
    · exact h.elim
  have i9 := w9.it
  refine q_new2 w9.go w9.cl (N := 6000) (by trivial) fun x L10 G10 r10 w10 => ?_
  obtain ⟨_, _, rfl, r10, rfl⟩ := r10
  simp only [exists_and_left, exists_eq_left, List.cons_append, List.nil_append, List.append_nil] at r10; subst r10
  obtain ⟨last, hlast⟩ : ∃ last, C[C.length - 1]? = some last := ⟨_, List.getElem?_eq_getElem (by omega)⟩
  have c10 := w10.cl
  refine q_tx w10.go.q (by trivial) fun _ G11 g11 r11 l11 => ?_
  subst r11
  have w11 := w10.to g11
  have i11 := w11.it
  refine r_lf w11.go.q (lf_cat (ls_var rfl i11) (n := 6000) (by trivial) (by decide)) fun y L17 G17 g17 f17 i17 r17 => ?_
  obtain ⟨_, _, rfl, r17, rfl⟩ := r17
  simp only [exists_and_left, exists_eq_left, List.cons_append, List.nil_append, List.append_nil] at r17; subst r17
  refine q y G17 _ (w11.go.trans g17) (w11.go.back f17) i17.np i17.at_ (Nat.le_trans i17.few (by decide)) ⟨k, blocks, z, wait, _, by omega, by omega, by rw [← hC]; exact ct6, hz, hw, by rw [← hC, ← lC]; exact hlast, ?_⟩
  simp only [hL5, List.append_assoc, List.cons_append, List.nil_append, List.append_nil, lampsG, sp1, com, clo, ← hC]
end
end My
set_option Elab.async false
set_option linter.all false
set_option maxRecDepth 100000
set_option maxHeartbeats 4000000
/-! A drawn game of pawns -/
namespace My
open PySem PySem.Spec PyProof.Rows L2
local macro_rules
  | `(tactic| nofun) => `(tactic| (apply tup_at; nofun))
local macro_rules
  | `(tactic| nofun) => `(tactic| (apply seq_at; nofun))
local macro_rules
  | `(tactic| nofun) => `(tactic| (apply pool_same; assumption; nofun))
local macro_rules
  | `(tactic| nofun) => `(tactic| (apply but_get; assumption; assumption; nofun))
local macro_rules
  | `(tactic| nofun) => `(tactic| (apply off_get; assumption; assumption; nofun))
local macro_rules
  | `(tactic| nofun) => `(tactic| (apply same_get; assumption; nofun))
local macro_rules
  | `(tactic| nofun) => `(tactic| assumption)
local macro_rules
  | `(tactic| trivial) => `(tactic| ((with_reducible apply tx_joinK); (focus trivial); (focus decide +kernel); focus (first | decide | omega)))
local macro_rules
  | `(tactic| trivial) => `(tactic| ((with_reducible apply tx_num); (focus trivial); intro i hi; omega))
local macro_rules
  | `(tactic| trivial) => `(tactic| ((with_reducible apply tx_plus); (focus trivial); (focus trivial); focus (first | decide | omega)))
local macro_rules
  | `(tactic| trivial) => `(tactic| ((with_reducible apply ta_cons); (focus trivial); (focus trivial); focus (first | decide | omega)))
local macro_rules
  | `(tactic| trivial) => `(tactic| ((with_reducible apply lf_lst); (focus trivial); focus (first | decide | omega)))
local macro_rules
  | `(tactic| trivial) => `(tactic| ((with_reducible apply ls_lst); (focus trivial); focus (first | decide | omega)))
local macro_rules
  | `(tactic| trivial) => `(tactic| ((with_reducible apply lf_cat); (focus trivial); (focus trivial); focus (first | decide | omega)))
local macro_rules
  | `(tactic| trivial) => `(tactic| ((with_reducible apply it_drawC); (focus rfl); decide))
local macro_rules
  | `(tactic| trivial) => `(tactic| ((with_reducible apply it_drawV); (focus rfl); (focus rfl); omega))
local macro_rules
  | `(tactic| trivial) => `(tactic| ((with_reducible apply it_addc); (focus trivial)))
local macro_rules
  | `(tactic| trivial) => `(tactic| ((with_reducible apply it_opD); (focus trivial); (focus trivial)))
local macro_rules
  | `(tactic| trivial) => `(tactic| ((with_reducible apply bt_eq); (focus trivial)))
local macro_rules
  | `(tactic| trivial) => `(tactic| ((with_reducible apply be_eq); (focus trivial)))
local macro_rules
  | `(tactic| trivial) => `(tactic| ((with_reducible apply bt_gt); (focus trivial)))
local macro_rules
  | `(tactic| trivial) => `(tactic| ((with_reducible apply bt_var); rfl))
local macro_rules
  | `(tactic| trivial) => `(tactic| ((with_reducible apply tx_if); (focus trivial); (focus trivial); (focus trivial)))
local macro_rules
  | `(tactic| trivial) => `(tactic| ((with_reducible apply la_cons); (focus trivial); (focus trivial); (focus decide)))
local macro_rules
  | `(tactic| trivial) => `(tactic| with_reducible exact la_nil)
local macro_rules
  | `(tactic| trivial) => `(tactic| ((with_reducible apply ls_pick); (focus rfl); (focus trivial); (focus decide)))
local macro_rules
  | `(tactic| trivial) => `(tactic| ((with_reducible apply tx_c); decide +kernel))
local macro_rules
  | `(tactic| trivial) => `(tactic| with_reducible exact it_c)
local macro_rules
  | `(tactic| trivial) => `(tactic| with_reducible exact ta_nil)
local macro_rules
  | `(tactic| trivial) => `(tactic| ((with_reducible apply it_var); rfl))
local macro_rules
  | `(tactic| trivial) => `(tactic| ((with_reducible apply tx_var); (focus rfl); assumption))
local macro_rules
  | `(tactic| trivial) => `(tactic| ((with_reducible apply ls_var); (focus rfl); assumption))
local macro_rules
  | `(tactic| trivial) => `(tactic| ((with_reducible apply tx_ix0); (focus rfl); (focus assumption); (focus assumption)))
local macro_rules
  | `(tactic| trivial) => `(tactic| ((with_reducible apply tx_ix1); (focus rfl); (focus assumption); (focus assumption)))
local macro_rules
  | `(tactic| trivial) => `(tactic| ((with_reducible apply tx_ix2); (focus rfl); (focus assumption); (focus assumption)))
local macro_rules
  | `(tactic| trivial) => `(tactic| ((with_reducible apply ls_cat); (focus trivial); (focus trivial); (focus (first | decide | omega))))
local macro_rules
  | `(tactic| trivial) => `(tactic| ((with_reducible apply tx_pick2); (focus rfl); (focus decide +kernel); (focus decide +kernel)))
local macro_rules
  | `(tactic| trivial) => `(tactic| ((with_reducible apply tx_last); (focus rfl); (focus assumption); (focus assumption)))
local macro_rules
  | `(tactic| trivial) => `(tactic| ((with_reducible apply bt_and); (focus trivial); (focus trivial)))
local macro_rules
  | `(tactic| trivial) => `(tactic| ((with_reducible apply bt_ne); (focus rfl); (focus rfl)))
local macro_rules
  | `(tactic| trivial) => `(tactic| ((with_reducible apply it_mulD); (focus trivial); (focus trivial); (focus (unfold CMul; omega))))
local macro_rules
  | `(tactic| trivial) => `(tactic| with_reducible exact it_neg1)
local macro_rules
  | `(tactic| trivial) => `(tactic| ((with_reducible apply bt_chain); (focus rfl); (focus rfl)))
abbrev st_law_pawns_game : Stmt := topS 31
theorem sc_law_pawns_game : FnScope ["pool", "rows", "columns", "cells", "row", "column", "found", "who", "way", "k", "here", "beside"] ["pool"] (defScope st_law_pawns_game) := ⟨rfl, rfl, rfl, by decide +kernel, rfl, by decide +kernel, by decide +kernel⟩
section
variable {P : Program} {w : World} {K : PySem.W.Frag} {mg : Str → Option Value} {base : Heap}
theorem ok_pawns_game (T : Top K mg "_law_pawns_game" st_law_pawns_game ["pool"]) (D_law_draw : Def P w K mg base 3 "_law_draw" ["pool", "limit"] (spDraw K)) (D_law_pick : Def P w K mg base 4 "_law_pick" ["pool", "options"] (spPick K)) (z_range : mg "range" = none) (z_str : mg "str" = none) : Def P w K mg base 5 "_law_pawns_game" ["pool"] (spGame K PawnsG) := by
  refine T.ok sc_law_pawns_game (fun vs H Q E h => ?_) (fun f cdv A outer s H vs Q E hr h => ?_)
  · obtain ⟨p, a, rfl, _⟩ := h
    rfl
  obtain ⟨p, a, rfl, hP, q⟩ := h
  refine ⟨_, (pss_cons (ps_set (i := 1) sc_law_pawns_game.nd rfl (Or.inl rfl) (pe_op op_add pe_int (pe_def D_law_draw (hr.mono (by decide)) rfl (pa_cons (pv 0) (pa_cons pe_int pa_nil)))))
    (pss_cons (ps_set (i := 2) sc_law_pawns_game.nd rfl (Or.inl rfl) (pe_op op_add pe_int (pe_def D_law_draw (hr.mono (by decide)) rfl (pa_cons (pv 0) (pa_cons pe_int pa_nil)))))
    (pss_cons (ps_set (i := 3) sc_law_pawns_game.nd rfl (Or.inl rfl) (pe_lst pa_nil))
    (pss_cons (ps_for PassesOwn.never rfl (pi_range1 rfl z_range (pa_cons (pv 1) pa_nil)) (pg_name (i := 4) sc_law_pawns_game.nd rfl (Or.inr rfl))
    (pss_one (ps_set (i := 3) sc_law_pawns_game.nd rfl (Or.inl rfl) (pe_op op_cat (pv 3) (pe_lc (own := [("column", 5)]) (g := gName 5) (tt := tYes) rfl sc_law_pawns_game.nd (pi_range1 rfl z_range (pa_cons (pv 2) pa_nil)) (blkOk_by (own := [("column", 5)]) (N := ["pool", "rows", "columns", "cells", "row", "column", "found", "who", "way", "k", "here", "beside"]) (sc := defScope st_law_pawns_game) (by decide +kernel)) (fun _ _ _ _ _ => (pg_name (i := 5) sc_law_pawns_game.nd rfl (Or.inl rfl))) (fun _ _ _ _ _ => pts_nil) (fun _ _ _ _ _ => (pe_op op_add_str (pe_op op_add_str pe_str (pe_callTy call_str_int rfl z_str (by decide +kernel) (pa_cons (pv 4) pa_nil))) (pe_callTy call_str_int rfl z_str (by decide +kernel) (pa_cons (pv 5) pa_nil)))))))))
    (pss_cons (ps_set (i := 6) sc_law_pawns_game.nd rfl (Or.inl rfl) (pe_lst (pa_cons pe_str (pa_cons (pe_op op_add_str pe_str (pe_K (K := K) rfl (pe_bm PySem.F.plainAttrs_str PySem.F.slot_str_join PySem.F.type_str_join (joinQ K) pe_str (pa_cons (pv 3) pa_nil)))) (pa_cons pe_str (pa_cons pe_str pa_nil))))))
    (pss_cons (ps_set (i := 6) sc_law_pawns_game.nd rfl (Or.inl rfl) (pe_op op_cat (pv 6) (pe_lst (pa_cons pe_str (pa_cons pe_str (pa_cons pe_str (pa_cons pe_str pa_nil)))))))
    (pss_cons (ps_for PassesOwn.never rfl (pi_range1 rfl z_range (pa_cons (pv 2) pa_nil)) (pg_name (i := 5) sc_law_pawns_game.nd rfl (Or.inl rfl))
    (pss_one (ps_for PassesOwn.never rfl (pi_K (K := K) rfl (pi_list (pe_lst (pa_cons (pe_tup (pa_cons pe_str (pa_cons pe_int (pa_cons pe_int pa_nil)))) (pa_cons (pe_tup (pa_cons pe_str (pa_cons (pe_op op_sub (pv 1) pe_int) (pa_cons (pe_un un_neg pe_int) pa_nil)))) pa_nil))))) (pg_tup rfl (pgs_cons (pg_name (i := 7) sc_law_pawns_game.nd rfl (Or.inl rfl)) (pgs_cons (pg_name (i := 4) sc_law_pawns_game.nd rfl (Or.inr rfl)) (pgs_cons (pg_name (i := 8) sc_law_pawns_game.nd rfl (Or.inl rfl)) pgs_nil))))
      (Evl.pss_cut (ps_if (pt_cmpR op_gt (pe_def D_law_draw (hr.mono (by decide)) rfl (pa_cons (pv 0) (pa_cons pe_int pa_nil))) pe_int (nomark _))
        (pss_one (ps_expr (pe_K (K := K) rfl (pe_bm PySem.F.plainAttrs_list PySem.F.slot_list_append PySem.F.type_list_append mt_append (pv 6) (pa_cons (pe_op op_add_str (pe_op op_add_str (pe_op op_add_str (pe_op op_add_str (pe_op op_add_str pe_str (pv 7)) pe_str) (pe_callTy call_str_int rfl z_str (by decide +kernel) (pa_cons (pv 4) pa_nil))) (pe_callTy call_str_int rfl z_str (by decide +kernel) (pa_cons (pv 5) pa_nil))) pe_str) pa_nil)))))
        pss_nil)
        (pss_cons (ps_expr (pe_K (K := K) rfl (pe_bm PySem.F.plainAttrs_list PySem.F.slot_list_append PySem.F.type_list_append mt_append (pv 6) (pa_cons (pe_op op_add_str (pe_op op_add_str (pe_op op_add_str (pe_op op_add_str (pe_op op_add_str pe_str (pv 7)) pe_str) (pe_callTy call_str_int rfl z_str (by decide +kernel) (pa_cons (pe_op op_sub (pe_op op_sub (pv 1) pe_int) (pv 4)) pa_nil))) (pe_callTy call_str_int rfl z_str (by decide +kernel) (pa_cons (pv 5) pa_nil))) pe_str) pa_nil))))
        (pss_one (ps_for PassesOwn.never rfl (pi_range1 rfl z_range (pa_cons (pe_op op_sub (pv 1) pe_int) pa_nil)) (pg_name (i := 9) sc_law_pawns_game.nd rfl (Or.inl rfl))
        (pss_cons (ps_set (i := 10) sc_law_pawns_game.nd rfl (Or.inl rfl) (pe_op op_add_str (pe_op op_add_str (pe_op op_add_str (pe_op op_add_str (pe_op op_add_str (pe_op op_add_str pe_str (pv 7)) pe_str) (pe_callTy call_str_int rfl z_str (by decide +kernel) (pa_cons (pe_op op_add (pv 4) (pe_op op_mul (pv 8) (pv 9))) pa_nil))) (pe_callTy call_str_int rfl z_str (by decide +kernel) (pa_cons (pv 5) pa_nil))) pe_str) (pe_callTy call_str_int rfl z_str (by decide +kernel) (pa_cons (pe_op op_add (pv 4) (pe_op op_mul (pv 8) (pe_op op_add (pv 9) pe_int))) pa_nil))))
          (pss_cons (ps_expr (pe_K (K := K) rfl (pe_bm PySem.F.plainAttrs_list PySem.F.slot_list_append PySem.F.type_list_append mt_append (pv 6) (pa_cons (pe_op op_add_str (pe_op op_add_str (pe_op op_add_str pe_str (pv 10)) (pe_callTy call_str_int rfl z_str (by decide +kernel) (pa_cons (pv 5) pa_nil))) pe_str) pa_nil))))
          (pss_one (ps_for PassesOwn.never rfl (pi_K (K := K) rfl (pi_list (pe_lst (pa_cons (pe_op op_sub (pv 5) pe_int) (pa_cons (pe_op op_add (pv 5) pe_int) pa_nil))))) (pg_name (i := 11) sc_law_pawns_game.nd rfl (Or.inl rfl))
          (pss_one (ps_if (PW.pt (pw_and (pt_chain op_le op_lt pe_int (pv 11) (pv 2)) (pw_and1 (pt_cmpR op_gt (pe_def D_law_draw (hr.mono (by decide)) rfl (pa_cons (pv 0) (pa_cons pe_int pa_nil))) pe_int (nomark _)))))
            (pss_one (ps_expr (pe_K (K := K) rfl (pe_bm PySem.F.plainAttrs_list PySem.F.slot_list_append PySem.F.type_list_append mt_append (pv 6) (pa_cons (pe_op op_add_str (pe_op op_add_str (pe_op op_add_str pe_str (pv 10)) (pe_callTy call_str_int rfl z_str (by decide +kernel) (pa_cons (pv 11) pa_nil))) pe_str) pa_nil)))))
            pss_nil)))))))))))))
    (pss_cons (ps_set (i := 6) sc_law_pawns_game.nd rfl (Or.inl rfl) (pe_op op_cat (pv 6) (pe_lst (pa_cons pe_str (pa_cons pe_str pa_nil)))))
    (pss_cons (ps_expr (pe_K (K := K) rfl (pe_bm PySem.F.plainAttrs_list PySem.F.slot_list_append PySem.F.type_list_append mt_append (pv 6) (pa_cons pe_str pa_nil))))
    (pss_cons (ps_set (i := 6) sc_law_pawns_game.nd rfl (Or.inl rfl) (pe_op op_cat (pv 6) (pe_lst (pa_cons pe_str (pa_cons pe_str pa_nil)))))
    (pss_cons (ps_set (i := 6) sc_law_pawns_game.nd rfl (Or.inl rfl) (pe_op op_cat (pv 6) (pe_lst (pa_cons pe_str (pa_cons pe_str pa_nil)))))
    (pss_one (ps_ret (pe_op op_cat (pv 6) (pe_def D_law_pick (hr.mono (by decide)) rfl (pa_cons (pv 0) (pa_cons (pe_lst (pa_cons (pe_lst pa_nil) (pa_cons (pe_lst pa_nil) (pa_cons (pe_lst (pa_cons (pe_op op_add_str (pe_op op_add_str (pe_op op_add_str (pe_op op_add_str pe_str (pe_ix (ixL K) (pv 3) pe_int (fun _ _ => rfl))) pe_str) (pe_ix (ixL K) (pv 3) (pe_un un_neg pe_int) (fun _ _ => rfl))) pe_str) pa_nil)) pa_nil)))) pa_nil))))))))))))))))), ?_⟩
  refine q_it hP (by trivial) fun r G1 g1 hr1 => ?_
  have hr1 : 3 ≤ r ∧ r ≤ 4 := by omega
  obtain ⟨r, rfl⟩ := Int.eq_ofNat_of_zero_le (show 0 ≤ r by omega)
  refine q_it g1.q (by trivial) fun c G2 g2 hc1 => ?_
  have hc1 : 2 ≤ c ∧ c ≤ 3 := by omega
  obtain ⟨c, rfl⟩ := Int.eq_ofNat_of_zero_le (show 0 ≤ c by omega)
  have g6 := g1.trans g2
  refine q_new g6.q (lf_lst (n := 170) ta_nil (by decide)) fun cA ls7 G7 g7 f7 i7 r7 => ?_
  subst r7
  refine q_forR g7.q (it_var rfl) (fun i e => by omega) (fun k i σ G => ∃ x4 x5 cA, σ = [some (.ref p), some (.int (r : Nat)), some (.int (c : Nat)), some (.ref cA), x4, x5, none, none, none, none, none, none] ∧ Go K p a H G ∧ Is p G cA (i * 3) 170 (cellsOf "p" i c)) (fun k G e g => ⟨none, none, cA, rfl, (g6.trans g7).trans g, i7.go g⟩) ?_ ?_
  · rintro k i σ G e hi ⟨x4, x5, cA, rfl, g, ic⟩
    refine s_new g.q (lf_cat (ls_var rfl ic) (ls_of (lf_lcR 3 (it_var rfl) (fun i e => by omega) (by decide) (fun x => rfl) (P := fun (k : Nat) x => x = [cs "p" ++ nm i ++ nm k]) ?_)) (by omega)) fun cB ls8 G8 g8 f8 i8 r8 => ?_
    · intro k hk
      refine ⟨_, Tx.le (by trivial) (by decide), fun l hl => ?_⟩
      simp only [exists_and_left, exists_eq_left, List.cons_append, List.nil_append, List.append_nil] at hl; subst hl
      rfl
    obtain ⟨_, _, rfl, ⟨k', ek, ct⟩, rfl⟩ := r8
    obtain rfl : k' = c := by omega
    rw [Cat.map ct, ← cellsOf_succ] at i8
    exact ⟨_, _, cB, rfl, g.trans g8, i8.wide (by omega) (Nat.le_refl _)⟩
  rintro k σ G8 e ⟨x4, x5, cA, rfl, g8, ic⟩
  obtain rfl : k = r := by omega
  clear g7 f7 i7
  obtain ⟨C, hC⟩ : ∃ C, C = cellsOf "p" k c := ⟨_, rfl⟩
  rw [← hC] at ic
  have c8 : Is p G8 cA 12 170 C := ic.wide (by omega) (Nat.le_refl _)
  refine q_new2 g8 c8 (N := 6000) (by trivial) fun x L9 G9 r9 w9 => ?_
  simp only [exists_and_left, exists_eq_left, List.cons_append, List.nil_append, List.append_nil] at r9; subst r9
  have i9 := w9.it
  refine q_new2 w9.go w9.cl (N := 6000) (by trivial) fun x L10 G10 r10 w10 => ?_
  simp only [exists_and_left, exists_eq_left, List.cons_append, List.nil_append, List.append_nil] at r10; subst r10
  obtain ⟨L10, hL10, w10⟩ := w10.name
  refine q_forR w10.go.q (it_var rfl) (fun i hi => by omega) (fun _ i σ G => ∃ x4 x5 x7 x8 x9 x10 x11 x pawns, σ = [some (.ref p), some (.int (k : Nat)), some (.int (c : Nat)), some (.ref cA), x4, x5, some (.ref x), x7, x8, x9, x10, x11] ∧ Two K p a H G cA 12 170 C x (60 + i * 30) 6000 (L10 ++ pawns) ∧ Cat (fun (c' : Nat) y => Cat (PawnWay k c c') (pawnWays k) y) (List.range i) pawns)
    (fun _ G e g => ⟨x4, x5, none, none, none, none, none, x, [], rfl, by rw [List.append_nil]; exact (w10.to g).wide (by decide) (Nat.le_refl _), rfl⟩) ?_ ?_
  · rintro kk col σ G ekk hcol ⟨x4, x5, x7, x8, x9, x10, x11, x, pawns, rfl, w, ct⟩
    have lcol : col < 3 := by omega
    refine ⟨(by show 3 ≤ sizeLine; decide), fun t1 n1 => ?_⟩
    generalize hN1 : L2.upd G t1 _ = G1
    have s1 := new_of n1 hN1
    have e1 := at_of hN1
    try dsimp only at e1
    clear hN1
    refine ⟨_, rfl, _, _, rfl, rfl, 1, rfl, (by show 3 ≤ sizeLine; decide), fun t2 n2 => ?_⟩
    generalize hN2 : L2.upd G1 t2 _ = G2
    have s2 := new_of n2 hN2
    have e2 := at_of hN2
    try dsimp only at e2
    clear hN2
    refine ⟨(by show 2 ≤ sizeLine; decide), fun l n3 => ?_⟩
    generalize hN3 : L2.upd G2 l _ = G3
    have s3 := new_of n3 hN3
    have e3 := at_of hN3
    try dsimp only at e3
    clear hN3
    have q1 := w.go.q.same s1
    have q2 := q1.same s2
    have q3 := q2.same s3
    have g3 : Go K p a G G3 := ⟨Same.but ((s1.trans s2).trans s3), q3⟩
    have xne : ∀ {y : Addr}, G y = none → y ≠ x := fun h z => by rw [z, w.it.at_] at h; cases h
    have nlp : l ≠ p := q2.ne n3
    have n3G : G l = none := (show Go K p a G G2 from ⟨Same.but (s1.trans s2), q2⟩).back n3
    have n2G : G t2 = none := (show Go K p a G G1 from ⟨Same.but s1, q1⟩).back n2
    have nlx : l ≠ x := xne n3G
    have n1p : t1 ≠ p := w.go.q.ne n1
    have n2p : t2 ≠ p := q1.ne n2
    have t13 : G3 t1 = some (.tup [.str (Str.ofString "first"), .int 0, .int 1]) := by nofun
    have t23 : G3 t2 = some (.tup [.str (Str.ofString "second"), .int ((k : Int) - 1), .int (-1)]) := by nofun
    refine ⟨l, rfl, ⟨_, SqL.of e3⟩, for_list (K := K) (a := l) (xs := [.ref t1, .ref t2]) (fun j σ G => ∃ x4 x7 x8 x9 x10 x11 more, σ = [some (.ref p), some (.int (k : Nat)), some (.int (c : Nat)), some (.ref cA), x4, some (.int (col : Nat)), some (.ref x), x7, x8, x9, x10, x11] ∧
      Tw K p a H G3 G cA 12 170 C x (60 + col * 30 + j * 15) 6000 (L10 ++ pawns ++ more) ∧ Cat (PawnWay k c col) ((pawnWays k).take j) more)
      ⟨x4, x7, x8, x9, x10, x11, [], rfl, ⟨by rw [List.append_nil]; exact w.to g3, Kp.refl⟩, rfl⟩ (fun i σ G _ ⟨_, _, _, _, _, _, _, _, w, _⟩ => SqL.of (w.k _ _ nlp nlx e3)) ?_ ?_⟩
    · rintro j y σ G4 hy ⟨x4, x7, x8, x9, x10, x11, more, rfl, w4, ct4⟩
      obtain ⟨t, who, row, way, rfl, et, hj, lw, hrow, hway, hall⟩ : ∃ (t : Addr) (who : List Nat) (row way : Int), y = .ref t ∧ G4 t = some (.tup [.str (tx who), .int row, .int way]) ∧ (pawnWays k)[j]? = some (who, row, way) ∧ who.length ≤ 10 ∧ (0 ≤ row ∧ row ≤ (k : Int) - 1) ∧ (-1 ≤ way ∧ way ≤ 1) ∧ ∀ i : Int, 0 ≤ i → i ≤ (k : Int) - 1 → 0 ≤ row + way * i ∧ row + way * i < 100 := by
        match j, hy with
        | 0, hy =>
          cases hy
          exact ⟨t1, cs "first", 0, 1, rfl, by rw [cs_tx]; exact w4.k _ _ n1p (xne n1) t13, rfl, by decide +kernel, by omega, by omega, fun i h1 h2 => by omega⟩
        | 1, hy =>
          cases hy
          exact ⟨t2, cs "second", (k : Int) - 1, -1, rfl, by rw [cs_tx]; exact w4.k _ _ n2p (xne n2G) t23, rfl, by decide +kernel, by omega, by omega, fun i h1 h2 => by omega⟩
      have jl : j < 2 := (List.getElem?_eq_some_iff.mp hy).1
      refine ⟨t, _, rfl, SqT.of et, rfl, _, _, rfl, _, _, rfl, _, _, rfl, rfl, ?_⟩
      obtain ⟨L4, hL4, w4⟩ := w4.name
      refine ⟨fun σ G => ∃ pawn, σ = [some (.ref p), some (.int (k : Nat)), some (.int (c : Nat)), some (.ref cA), some (.int row), some (.int (col : Nat)), some (.ref x), some (.str (tx who)), some (.int way), x9, x10, x11] ∧ Tw K p a H G3 G cA 12 170 C x (60 + col * 30 + j * 15 + 1) 6000 (L4 ++ pawn) ∧ (pawn = [] ∨ pawn = [cs "begin pawn(" ++ who ++ cs ", p" ++ nm row ++ nm col ++ clo]), ?_, ?_⟩
      · refine s_ifB w4.q (by trivial) (fun G5 g5 _ => ?_) (fun G5 g5 _ => ?_)
        · refine app3 (w4.to g5) rfl (by trivial) (by decide) (by omega) fun _ G6 r6 w6 => ?_
          simp only [exists_and_left, exists_eq_left, List.cons_append, List.nil_append, List.append_nil] at r6; subst r6
          exact ⟨_, rfl, w6, .inr rfl⟩
        · exact ⟨[], rfl, by rw [List.append_nil]; exact (w4.to g5).wide (by omega) (Nat.le_refl _), .inl rfl⟩
      rintro σ G6 ⟨pawn, rfl, w6, hpawn⟩
      refine q_app3 w6 rfl (by trivial) (by decide) (by omega) fun _ G7 r7 w7 => ?_
      simp only [exists_and_left, exists_eq_left, List.cons_append, List.nil_append, List.append_nil] at r7; subst r7
      obtain ⟨L7, hL7, w7⟩ := w7.name
      refine s_forR w7.q (by trivial) (fun i hi => by omega) (fun _ i σ G => ∃ x9 x10 x11 steps, σ = [some (.ref p), some (.int (k : Nat)), some (.int (c : Nat)), some (.ref cA), some (.int row), some (.int (col : Nat)), some (.ref x), some (.str (tx who)), some (.int way), x9, x10, x11] ∧
        Tw K p a H G3 G cA 12 170 C x (60 + col * 30 + j * 15 + 2 + i * 4) 6000 (L7 ++ steps) ∧ Cat (PawnStep c col who row way) (List.range i) steps)
        (fun _ G ek g => ⟨x9, x10, x11, [], rfl, by rw [List.append_nil]; exact w7.to g, rfl⟩) ?_ ?_
      · rintro kk i σ G8 ekk hi ⟨x9, x10, x11, steps, rfl, w8, ct8⟩
        have hA := hall i (by omega) (by omega)
        have hB := hall (i + 1) (by omega) (by omega)
        refine q_tx w8.q (by trivial) fun hh G9 g9 rh lh => ?_
        simp only [exists_and_left, exists_eq_left, List.cons_append, List.nil_append, List.append_nil] at rh
        have eh : hh = hereT who row way col i := rh
        have w9 := w8.to g9
        refine q_app3 w9 rfl (by trivial) (by decide) (by omega) fun _ G10 r10 w10 => ?_
        simp only [exists_and_left, exists_eq_left, List.cons_append, List.nil_append, List.append_nil] at r10; subst r10
        obtain ⟨L11, hL11, w10⟩ := w10.name
        refine s_forI2 w10.q (by trivial) (by trivial) (fun y b σ G => ∃ G' x11 hits, σ = [some (.ref p), some (.int (k : Nat)), some (.int (c : Nat)), some (.ref cA), some (.int row), some (.int (col : Nat)), some (.ref x), some (.str (tx who)), some (.int way), some (.int (i : Nat)), some (.str (tx hh)), x11] ∧
          G' y = some (.lst [.int ((col : Int) - 1), .int ((col : Int) + 1)]) ∧ y ≠ p ∧ y ≠ x ∧ Kp p x G3 G' ∧ Tw K p a H G' G cA 12 170 C x (60 + col * 30 + j * 15 + 2 + i * 4 + 1 + b) 6000 (L11 ++ hits) ∧ Cat (Hit1 c (hereT who row way col i)) ([(col : Int) - 1, (col : Int) + 1].take b) hits)
          (fun y G' g np ny ey => ⟨G', x11, [], rfl, ey, np, (fun z => by rw [z, w10.w.it.at_] at ny; cases ny), w10.k.trans g.kp, ⟨by rw [List.append_nil]; exact w10.w.to g, Kp.refl⟩, rfl⟩)
          (fun y b σ G ⟨G', _, _, _, ey, np, nx, _, w, _⟩ => w.k _ _ np nx ey) ?_ ?_
        · rintro y b v σ G11 hv ⟨G', x11, hits, rfl, ey, np, nx, k3, w11, ct11⟩
          have bl : b < 2 := (List.getElem?_eq_some_iff.mp hv).1
          refine s_ifB w11.q (by trivial) (fun G12 g12 hb => ?_) (fun G12 g12 _ => ?_)
          · obtain ⟨c', hc', hb⟩ := hb
            have hv2 : 0 ≤ v ∧ v < (c : Int) := by
              rcases hb with ⟨_, hb⟩ | ⟨e1, _⟩
              · cases hb
              · exact hc' e1
            refine app3 (w11.to g12) rfl (by trivial) (by decide) (by omega) fun _ G13 r13 w13 => ?_
            simp only [exists_and_left, exists_eq_left, List.cons_append, List.nil_append, List.append_nil] at r13; subst r13
            exact ⟨G', _, _, rfl, ey, np, nx, k3, by rw [List.append_assoc] at w13; exact w13, Cat.take ct11 hv (.inr ⟨hv2.1, hv2.2, by rw [eh]; rfl⟩)⟩
          · have := Cat.take ct11 hv (.inl rfl)
            rw [List.append_nil] at this
            exact ⟨G', _, hits, rfl, ey, np, nx, k3, (w11.to g12).wide (by omega) (Nat.le_refl _), this⟩
        · rintro y σ G12 ⟨G', x11, hits, rfl, ey, np, nx, k3, w12, ct12⟩
          refine ⟨_, _, _, steps ++ ([cs "begin step" ++ hereT who row way col i ++ nm col ++ clo] ++ hits), rfl, ⟨?_, k3.trans w12.k⟩, ?_⟩
          · have := w12.w
            rw [hL11, eh] at this
            simp only [List.append_assoc] at this ⊢
            exact this.wide (by omega) (Nat.le_refl _)
          · rw [List.range_succ]
            exact Cat.snoc ⟨hits, ct12, rfl⟩ ct8
      · rintro kk σ G9 ekk ⟨x9, x10, x11, steps, rfl, w9, ct9⟩
        obtain rfl : kk = k - 1 := by omega
        refine ⟨_, _, _, _, _, _, more ++ (pawn ++ [cs "begin goal(" ++ who ++ cs ", p" ++ nm ((k : Int) - 1 - row) ++ nm col ++ clo] ++ steps), rfl, ?_, Cat.take ct4 hj ⟨pawn, steps, hpawn, ct9, rfl⟩⟩
        rw [hL7, hL4] at w9
        simp only [List.append_assoc] at w9 ⊢
        exact w9.wide (by omega) (Nat.le_refl _)
    · rintro σ G4 ⟨x4, x7, x8, x9, x10, x11, more, rfl, w4, ct4⟩
      refine ⟨_, _, _, _, _, _, _, x, pawns ++ more, rfl, by rw [← List.append_assoc]; exact w4.w.wide (by simp; omega) (Nat.le_refl _), ?_⟩
      rw [List.range_succ]
      exact Cat.snoc (P := fun (c' : Nat) y => Cat (PawnWay k c c') (pawnWays k) y) (show Cat (PawnWay k c col) (pawnWays k) more from ct4) ct
  rintro kk σ G11 ekk ⟨x4, x5, x7, x8, x9, x10, x11, x, pawns, rfl, w11, ct11⟩
  obtain rfl : kk = c := by omega
  have w11 := w11.wide (M' := 160) (by omega) (Nat.le_refl _)
  have i11 := w11.it
  refine q_new2 w11.go w11.cl (N := 6000) (by trivial) fun x L12 G12 r12 w12 => ?_
  obtain ⟨_, _, rfl, r12, rfl⟩ := r12
  simp only [exists_and_left, exists_eq_left, List.cons_append, List.nil_append, List.append_nil] at r12; subst r12
  refine q_app2 w12 rfl (by trivial) (by decide) (by decide) fun _ G13 r13 w13 => ?_
  subst r13
  have i13 := w13.it
  refine q_new2 w13.go w13.cl (N := 6000) (by trivial) fun x L14 G14 r14 w14 => ?_
  obtain ⟨_, _, rfl, r14, rfl⟩ := r14
  simp only [exists_and_left, exists_eq_left, List.cons_append, List.nil_append, List.append_nil] at r14; subst r14
  have i14 := w14.it
  refine q_new2 w14.go w14.cl (N := 6000) (by trivial) fun x L15 G15 r15 w15 => ?_
  obtain ⟨_, _, rfl, r15, rfl⟩ := r15
  simp only [exists_and_left, exists_eq_left, List.cons_append, List.nil_append, List.append_nil] at r15; subst r15
  have i15 := w15.it
  have c15 := w15.cl
  have ne : 0 < C.length := by
    have : ∀ r ∈ [3, 4], ∀ c ∈ [2, 3], 0 < (cellsOf "p" r c).length := by decide +kernel
    rw [hC]
    exact this k (by simp; omega) kk (by simp; omega)
  obtain ⟨cl0, h0⟩ : ∃ l, C[0]? = some l := ⟨_, List.getElem?_eq_getElem ne⟩
  obtain ⟨cl1, h1⟩ : ∃ l, C[C.length - 1]? = some l := ⟨_, List.getElem?_eq_getElem (by omega)⟩
  refine r_lf w15.go.q (lf_cat (ls_var rfl i15) (n := 6000) (m2 := 1) (by trivial) (by decide)) fun y L17 G17 g17 f17 i17 r17 => ?_
  obtain ⟨_, tail, rfl, rt, rfl⟩ := r17
  refine q y G17 _ (w15.go.trans g17) (w15.go.back f17) i17.np i17.at_ (Nat.le_trans i17.few (by decide)) ⟨k, kk, pawns, tail, by omega, by omega, by omega, by omega, ct11, ?_, ?_⟩
  · simp only [exists_and_left, exists_eq_left, List.cons_append, List.nil_append, List.append_nil] at rt
    rw [← hC]
    rcases rt with rt | rt | rt | rt
    · exact .inl rt
    · exact .inl rt
    · exact .inr ⟨_, _, h0, h1, rt⟩
    · exact rt.elim
  · simp only [hL10, List.append_assoc, List.cons_append, List.nil_append, List.append_nil, pawnsG, sp1, com, clo, ← hC]
end
end My
set_option Elab.async false
set_option linter.all false
set_option maxRecDepth 100000
set_option maxHeartbeats 4000000
/-! A drawn game -/
namespace My
open PySem PySem.Spec PyProof.Rows L2
local macro_rules
  | `(tactic| nofun) => `(tactic| (apply tup_at; nofun))
local macro_rules
  | `(tactic| nofun) => `(tactic| (apply seq_at; nofun))
local macro_rules
  | `(tactic| nofun) => `(tactic| (apply pool_same; assumption; nofun))
local macro_rules
  | `(tactic| nofun) => `(tactic| (apply but_get; assumption; assumption; nofun))
local macro_rules
  | `(tactic| nofun) => `(tactic| (apply off_get; assumption; assumption; nofun))
local macro_rules
  | `(tactic| nofun) => `(tactic| (apply same_get; assumption; nofun))
local macro_rules
  | `(tactic| nofun) => `(tactic| assumption)
local macro_rules
  | `(tactic| trivial) => `(tactic| ((with_reducible apply tx_joinK); (focus trivial); (focus decide +kernel); focus (first | decide | omega)))
local macro_rules
  | `(tactic| trivial) => `(tactic| ((with_reducible apply tx_num); (focus trivial); intro i hi; omega))
local macro_rules
  | `(tactic| trivial) => `(tactic| ((with_reducible apply tx_plus); (focus trivial); (focus trivial); focus (first | decide | omega)))
local macro_rules
  | `(tactic| trivial) => `(tactic| ((with_reducible apply ta_cons); (focus trivial); (focus trivial); focus (first | decide | omega)))
local macro_rules
  | `(tactic| trivial) => `(tactic| ((with_reducible apply lf_lst); (focus trivial); focus (first | decide | omega)))
local macro_rules
  | `(tactic| trivial) => `(tactic| ((with_reducible apply ls_lst); (focus trivial); focus (first | decide | omega)))
local macro_rules
  | `(tactic| trivial) => `(tactic| ((with_reducible apply lf_cat); (focus trivial); (focus trivial); focus (first | decide | omega)))
local macro_rules
  | `(tactic| trivial) => `(tactic| ((with_reducible apply it_drawC); (focus rfl); decide))
local macro_rules
  | `(tactic| trivial) => `(tactic| ((with_reducible apply it_drawV); (focus rfl); (focus rfl); omega))
local macro_rules
  | `(tactic| trivial) => `(tactic| ((with_reducible apply it_addc); (focus trivial)))
local macro_rules
  | `(tactic| trivial) => `(tactic| ((with_reducible apply it_opD); (focus trivial); (focus trivial)))
local macro_rules
  | `(tactic| trivial) => `(tactic| ((with_reducible apply bt_eq); (focus trivial)))
local macro_rules
  | `(tactic| trivial) => `(tactic| ((with_reducible apply be_eq); (focus trivial)))
local macro_rules
  | `(tactic| trivial) => `(tactic| ((with_reducible apply bt_gt); (focus trivial)))
local macro_rules
  | `(tactic| trivial) => `(tactic| ((with_reducible apply bt_var); rfl))
local macro_rules
  | `(tactic| trivial) => `(tactic| ((with_reducible apply tx_if); (focus trivial); (focus trivial); (focus trivial)))
local macro_rules
  | `(tactic| trivial) => `(tactic| ((with_reducible apply la_cons); (focus trivial); (focus trivial); (focus decide)))
local macro_rules
  | `(tactic| trivial) => `(tactic| with_reducible exact la_nil)
local macro_rules
  | `(tactic| trivial) => `(tactic| ((with_reducible apply ls_pick); (focus rfl); (focus trivial); (focus decide)))
local macro_rules
  | `(tactic| trivial) => `(tactic| ((with_reducible apply tx_c); decide +kernel))
local macro_rules
  | `(tactic| trivial) => `(tactic| with_reducible exact it_c)
local macro_rules
  | `(tactic| trivial) => `(tactic| with_reducible exact ta_nil)
local macro_rules
  | `(tactic| trivial) => `(tactic| ((with_reducible apply it_var); rfl))
local macro_rules
  | `(tactic| trivial) => `(tactic| ((with_reducible apply tx_var); (focus rfl); assumption))
local macro_rules
  | `(tactic| trivial) => `(tactic| ((with_reducible apply ls_var); (focus rfl); assumption))
local macro_rules
  | `(tactic| trivial) => `(tactic| ((with_reducible apply tx_ix0); (focus rfl); (focus assumption); (focus assumption)))
local macro_rules
  | `(tactic| trivial) => `(tactic| ((with_reducible apply tx_ix1); (focus rfl); (focus assumption); (focus assumption)))
local macro_rules
  | `(tactic| trivial) => `(tactic| ((with_reducible apply tx_ix2); (focus rfl); (focus assumption); (focus assumption)))
local macro_rules
  | `(tactic| trivial) => `(tactic| ((with_reducible apply ls_cat); (focus trivial); (focus trivial); (focus (first | decide | omega))))
local macro_rules
  | `(tactic| trivial) => `(tactic| ((with_reducible apply tx_pick2); (focus rfl); (focus decide +kernel); (focus decide +kernel)))
local macro_rules
  | `(tactic| trivial) => `(tactic| ((with_reducible apply tx_last); (focus rfl); (focus assumption); (focus assumption)))
local macro_rules
  | `(tactic| trivial) => `(tactic| ((with_reducible apply bt_and); (focus trivial); (focus trivial)))
local macro_rules
  | `(tactic| trivial) => `(tactic| ((with_reducible apply bt_ne); (focus rfl); (focus rfl)))
abbrev st_law_game : Stmt := topS 33
theorem sc_law_game : FnScope ["pool", "choice"] ["pool"] (defScope st_law_game) := ⟨rfl, rfl, rfl, by decide +kernel, rfl, by decide +kernel, by decide +kernel⟩
section
variable {P : Program} {w : World} {K : PySem.W.Frag} {mg : Str → Option Value} {base : Heap}
theorem Go.hop {K : PySem.W.Frag} {p a : Addr} {H H1 H2 : Hp} (g : Go K p a H H1) (h : Go K p a H1 H2) {x : Addr} (n : H1 x = none) : Go K p a H H2 ∧ H x = none := ⟨g.trans h, g.back n⟩
theorem ok_game (T : Top K mg "_law_game" st_law_game ["pool"]) (D_law_draw : Def P w K mg base 3 "_law_draw" ["pool", "limit"] (spDraw K)) (D_law_lines_game : Def P w K mg base 5 "_law_lines_game" ["pool"] (spGame K LinesG)) (D_law_heaps_game : Def P w K mg base 5 "_law_heaps_game" ["pool"] (spGame K HeapsG)) (D_law_walks_game : Def P w K mg base 5 "_law_walks_game" ["pool"] (spGame K WalksG)) (D_law_lamps_game : Def P w K mg base 5 "_law_lamps_game" ["pool"] (spGame K LampsG)) (D_law_pawns_game : Def P w K mg base 5 "_law_pawns_game" ["pool"] (spGame K PawnsG)) : Def P w K mg base 6 "_law_game" ["pool"] (spGame K GameG) := by
  refine T.ok sc_law_game (fun vs H Q E h => ?_) (fun f cdv A outer s H vs Q E hr h => ?_)
  · obtain ⟨p, a, rfl, _⟩ := h
    rfl
  obtain ⟨p, a, rfl, hP, q⟩ := h
  refine ⟨_, (pss_cons (ps_set (i := 1) sc_law_game.nd rfl (Or.inl rfl) (pe_def D_law_draw (hr.mono (by decide)) rfl (pa_cons (pv 0) (pa_cons pe_int pa_nil))))
    (pss_cons (ps_if (pt_cmpR op_eq (pv 1) pe_int (nomark _))
    (pss_one (ps_ret (pe_def D_law_lines_game (hr.mono (by decide)) rfl (pa_cons (pv 0) pa_nil))))
    pss_nil)
    (pss_cons (ps_if (pt_cmpR op_eq (pv 1) pe_int (nomark _))
    (pss_one (ps_ret (pe_def D_law_heaps_game (hr.mono (by decide)) rfl (pa_cons (pv 0) pa_nil))))
    pss_nil)
    (pss_cons (ps_if (pt_cmpR op_lt (pv 1) pe_int (nomark _))
    (pss_one (ps_ret (pe_def D_law_walks_game (hr.mono (by decide)) rfl (pa_cons (pv 0) pa_nil))))
    pss_nil)
    (pss_one (ps_ret (pe_ifExp (pt_cmpR op_eq (pv 1) pe_int (nomark _)) (pe_def D_law_lamps_game (hr.mono (by decide)) rfl (pa_cons (pv 0) pa_nil)) (pe_def D_law_pawns_game (hr.mono (by decide)) rfl (pa_cons (pv 0) pa_nil))))))))), ?_⟩
  refine q_it hP (by trivial) fun v G1 g1 hv => ?_
  refine ⟨_, rfl, rfl, _, rfl, ?_⟩
  rw [dec_i]
  by_cases c0 : v = 0
  · refine ifD c0 ⟨_, rfl, p, a, rfl, g1.q, fun x G2 ls g2 n np e l h => ?_⟩
    exact q x G2 ls (g1.trans g2) (g1.back n) np e l (.inl h)
  refine ifND c0 ⟨_, rfl, rfl, _, rfl, ?_⟩
  rw [dec_i]
  by_cases c1 : v = 1
  · refine ifD c1 ⟨_, rfl, p, a, rfl, g1.q, fun x G2 ls g2 n np e l h => ?_⟩
    exact q x G2 ls (g1.trans g2) (g1.back n) np e l (.inr (.inl h))
  refine ifND c1 ⟨_, rfl, _, _, rfl, rfl, _, rfl, ?_⟩
  by_cases c2 : v < 4
  · refine ifD c2 ⟨_, rfl, p, a, rfl, g1.q, fun x G2 ls g2 n np e l h => ?_⟩
    exact q x G2 ls (g1.trans g2) (g1.back n) np e l (.inr (.inr (.inl h)))
  refine ifND c2 ⟨_, rfl, rfl, _, rfl, ?_⟩
  rw [dec_i]
  by_cases c3 : v = 4
  · refine ifD c3 ⟨_, rfl, p, a, rfl, g1.q, fun x G2 ls g2 n np e l h => ?_⟩
    exact q x G2 ls (g1.trans g2) (g1.back n) np e l (.inr (.inr (.inr (.inl h))))
  · refine ifND c3 ⟨_, rfl, p, a, rfl, g1.q, fun x G2 ls g2 n np e l h => ?_⟩
    exact q x G2 ls (g1.trans g2) (g1.back n) np e l (.inr (.inr (.inr (.inr h))))
end
end My
set_option linter.all false
/-! Trees are flat and of plain signs -/
namespace Wd
def Fit : Nat → Tr → Prop
  | _, .int _ => True
  | _, .str l => ∀ c ∈ l, c < 128
  | 0, .tup _ => False
  | d + 1, .tup ts => ∀ t ∈ ts, Fit d t
theorem Fit.up : ∀ {d e : Nat} {t : Tr}, d ≤ e → Fit d t → Fit e t
  | d, e, .int _, _, _ => by cases e <;> trivial
  | d, e, .str l, _, h => by
    have h : ∀ c ∈ l, c < 128 := by cases d <;> exact h
    cases e <;> exact h
  | 0, _, .tup ts, _, h => h.elim
  | d + 1, 0, .tup ts, l, h => by omega
  | d + 1, e + 1, .tup ts, l, h => fun t ht => Fit.up (by omega) (h t ht)
theorem fit_int {d : Nat} {i : Int} : Fit d (.int i) := by cases d <;> trivial
theorem fit_str {d : Nat} {l : List Nat} (h : ∀ c ∈ l, c < 128) : Fit d (.str l) := by cases d <;> exact h
theorem fit_low {d : Nat} {l : List Nat} (h : l.all (· < 128) = true) : Fit d (.str l) := fit_str fun c hc => by simpa using List.all_eq_true.mp h c hc
def Low (ws : List Word) : Prop := ∀ w ∈ ws, ∀ c ∈ w.2, c < 128
section
variable {ws : List Word} {i j : Nat} {t : Tr} {d : Nat}
theorem om {α β : Type} {f : α → β} {o : Option α} {b : β} (h : o.map f = some b) : ∃ a, o = some a ∧ b = f a := by
  cases o with
  | none => cases h
  | some a => exact ⟨a, rfl, (Option.some.inj h).symm⟩
theorem low_peek (h : Low ws) : ∀ c ∈ (peek ws i).2, c < 128 := by
  unfold peek
  rw [List.getD_eq_getElem?_getD]
  cases e : ws[i]? with
  | none => intro c hc; cases hc
  | some w => exact h w (List.mem_of_getElem? e)
theorem fit_name (h : Low ws) (e : name ws i = some (t, j)) : Fit d t := by
  unfold name at e
  split at e
  · cases e; exact fit_str (low_peek h)
  · cases e
theorem fit2 {t u : Tr} (a : Fit d t) (b : Fit d u) : Fit (d + 1) (.tup [t, u]) := fun x hx => by
  simp only [List.mem_cons, List.not_mem_nil, or_false] at hx
  rcases hx with rfl | rfl
  · exact a
  · exact b
theorem fit3 {t u v : Tr} (a : Fit d t) (b : Fit d u) (c : Fit d v) : Fit (d + 1) (.tup [t, u, v]) := fun x hx => by
  simp only [List.mem_cons, List.not_mem_nil, or_false] at hx
  rcases hx with rfl | rfl | rfl
  · exact a
  · exact b
  · exact c
theorem fit4 {t u v w : Tr} (a : Fit d t) (b : Fit d u) (c : Fit d v) (e : Fit d w) : Fit (d + 1) (.tup [t, u, v, w]) := fun x hx => by
  simp only [List.mem_cons, List.not_mem_nil, or_false] at hx
  rcases hx with rfl | rfl | rfl | rfl
  · exact a
  · exact b
  · exact c
  · exact e
theorem fit_term (h : Low ws) (e : term ws i = some (t, j)) : Fit 1 t := by
  unfold term at e
  split at e
  · obtain ⟨a, _, ea⟩ := om e; cases ea; exact fit2 (fit_low (by decide)) fit_int
  · split at e
    · cases e; exact fit2 (fit_low (by decide)) (fit_str (low_peek h))
    · obtain ⟨a, h2, ea⟩ := om e; cases ea; exact fit2 (fit_low (by decide)) (fit_name h h2)
theorem fit_more {one : Nat → Option (Tr × Nat)} (ho : ∀ i t j, one i = some (t, j) → Fit d t) : ∀ {f i : Nat} {acc l : List Tr} {j : Nat}, (∀ t ∈ acc, Fit d t) → more ws one f i acc = some (l, j) → ∀ t ∈ l, Fit d t
  | 0, _, _, _, _, _, e => by cases e
  | f + 1, i, acc, l, j, ha, e => by
    unfold more at e
    split at e
    · cases h1 : one (i + 1) with
      | none => rw [h1] at e; cases e
      | some r =>
        rw [h1] at e
        refine fit_more ho (fun t ht => ?_) e
        rcases List.mem_append.mp ht with ht | ht
        · exact ha t ht
        · rw [List.mem_singleton.mp ht]; exact ho _ _ _ h1
    · cases e; exact ha
theorem fit_listed {one : Nat → Option (Tr × Nat)} (ho : ∀ i t j, one i = some (t, j) → Fit d t) (e : listed ws one i = some (t, j)) : Fit (d + 1) t := by
  unfold listed at e
  split at e
  · cases h1 : one (i + 1) with
    | none => rw [h1] at e; cases e
    | some r =>
      rw [h1] at e
      dsimp only at e
      cases h2 : more ws one (ws.length + 1) r.2 [r.1] with
      | none => rw [h2] at e; cases e
      | some r2 =>
        rw [h2] at e
        dsimp only at e
        split at e
        · split at e
          · cases e
          · cases e
            exact fit_more ho (fun t ht => by rw [List.mem_singleton.mp ht]; exact ho _ _ _ h1) h2
        · cases e
  · cases e; exact fun t ht => by cases ht
theorem fit_atom (h : Low ws) (e : atom ws i = some (t, j)) : Fit 3 t := by
  unfold atom at e
  cases h1 : name ws i with
  | none => rw [h1] at e; cases e
  | some r =>
    rw [h1] at e
    dsimp only at e
    cases h2 : listed ws (term ws) r.2 with
    | none => rw [h2] at e; cases e
    | some r2 =>
      rw [h2] at e
      cases e
      exact fit2 (fit_name h h1) (fit_listed (fun _ _ _ => fit_term h) h2)
theorem fit_compared (h : Low ws) (e : compared ws i = some (t, j)) : Fit 2 t := by
  unfold compared at e
  cases h1 : term ws i with
  | none => rw [h1] at e; cases e
  | some r =>
    rw [h1] at e
    dsimp only at e
    have f1 := fit_term h h1
    split at e
    · rename_i s hs
      obtain ⟨a, h2, ea⟩ := om e
      cases ea
      refine fit3 ?_ f1 (fit_term h h2)
      have hm := List.mem_of_find?_eq_some hs
      have : ∀ s ∈ prs, s.2.all (· < 128) = true := by decide
      exact fit_low (this s hm)
    · split at e
      · cases h2 : term ws (r.2 + 1) with
        | none => rw [h2] at e; cases e
        | some r2 =>
          rw [h2] at e
          dsimp only at e
          split at e
          · obtain ⟨a, _, ea⟩ := om e; cases ea; exact fit4 (fit_low (by decide)) f1 (fit_term h h2) fit_int
          · split at e
            · obtain ⟨a, _, ea⟩ := om e; cases ea; exact fit4 (fit_low (by decide)) f1 (fit_term h h2) fit_int
            · cases e
      · cases e
theorem fit_literal (h : Low ws) (e : literal ws i = some (t, j)) : Fit 4 t := by
  unfold literal at e
  split at e
  · obtain ⟨a, h2, ea⟩ := om e; cases ea; exact fit2 (fit_low (by decide)) (fit_atom h h2)
  · split at e
    · split at e
      · cases h2 : term ws (i + 2) with
        | none => rw [h2] at e; cases e
        | some r2 =>
          rw [h2] at e
          dsimp only at e
          split at e
          · cases e; exact fit2 (fit_low (by decide)) ((fit_term h h2).up (by decide))
          · cases e
      · cases e
    · split at e
      · obtain ⟨a, h2, ea⟩ := om e; cases ea; exact fit2 (fit_low (by decide)) (fit_atom h h2)
      · exact (fit_compared h e).up (by decide)
theorem fit_body (h : Low ws) (e : body ws i = some (t, j)) : Fit 5 t := by
  unfold body at e
  split at e
  · cases h1 : literal ws (i + 1) with
    | none => rw [h1] at e; cases e
    | some r =>
      rw [h1] at e
      obtain ⟨a, h2, ea⟩ := om e
      cases ea
      exact fit_more (fun _ _ _ => fit_literal h) (fun t ht => by rw [List.mem_singleton.mp ht]; exact fit_literal h h1) h2
  · cases e; exact fun t ht => by cases ht
theorem fit_moreNames (h : Low ws) : ∀ {f i : Nat} {acc l : List Tr} {j : Nat}, (∀ t ∈ acc, Fit 0 t) → moreNames ws f i acc = some (l, j) → ∀ t ∈ l, Fit 0 t
  | 0, _, _, _, _, _, e => by cases e
  | f + 1, i, acc, l, j, ha, e => by
    unfold moreNames at e
    split at e
    · cases h1 : name ws i with
      | none => rw [h1] at e; cases e
      | some r =>
        rw [h1] at e
        refine fit_moreNames h (fun t ht => ?_) e
        rcases List.mem_append.mp ht with ht | ht
        · exact ha t ht
        · rw [List.mem_singleton.mp ht]; exact fit_name h h1
    · cases e; exact ha
theorem fit_constants (h : Low ws) (e : constants ws i = some (t, j)) : Fit 2 t := by
  unfold constants at e
  split at e
  · cases h1 : number ws i with
    | none => rw [h1] at e; cases e
    | some r =>
      rw [h1] at e
      dsimp only at e
      split at e
      · obtain ⟨a, _, ea⟩ := om e; cases ea; exact (fit3 (d := 0) (fit_low (by decide)) fit_int fit_int).up (by decide)
      · cases e
  · cases h1 : name ws i with
    | none => rw [h1] at e; cases e
    | some r =>
      rw [h1] at e
      obtain ⟨a, h2, ea⟩ := om e
      cases ea
      exact fit2 (d := 1) (fit_low (by decide)) (fit_moreNames h (fun t ht => by rw [List.mem_singleton.mp ht]; exact fit_name h h1) h2)
theorem fit_toldBy (h : Low ws) {o : Option Tr} (e : toldBy ws i = some (o, j)) : ∀ t, o = some t → Fit 6 t := by
  intro t ht
  subst ht
  unfold toldBy at e
  split at e
  · obtain ⟨a, h2, ea⟩ := om e; cases ea; exact (fit2 (d := 0) (fit_low (by decide)) (fit_name h h2)).up (by decide)
  · split at e
    · cases h1 : name ws (i + 1) with
      | none => rw [h1] at e; cases e
      | some r =>
        rw [h1] at e
        dsimp only at e
        split at e
        · obtain ⟨a, h2, ea⟩ := om e; cases ea; exact (fit3 (d := 2) (fit_low (by decide)) (fit_name h h1) (fit_constants h h2)).up (by decide)
        · cases e
    · split at e
      · rename_i s hs
        cases h1 : name ws (i + 1) with
        | none => rw [h1] at e; cases e
        | some r =>
          rw [h1] at e
          obtain ⟨a, h2, ea⟩ := om e
          cases ea
          have hm := List.mem_of_find?_eq_some hs
          have : ∀ s ∈ [s_fact, s_view, s_move], s.all (· < 128) = true := by decide
          exact (fit3 (d := 1) (fit_low (this s hm)) (fit_name h h1) (fit_listed (fun _ _ _ => fit_name h) h2)).up (by decide)
      · split at e
        · obtain ⟨a, h2, ea⟩ := om e; cases ea; exact (fit2 (fit_low (by decide)) (fit_atom h h2)).up (by decide)
        · split at e
          · cases h1 : term ws (i + 1) with
            | none => rw [h1] at e; cases e
            | some r =>
              rw [h1] at e
              obtain ⟨a, h2, ea⟩ := om e
              cases ea
              exact fit3 (fit_low (by decide)) ((fit_term h h1).up (by decide)) (fit_body h h2)
          · split at e
            · obtain ⟨a, h2, ea⟩ := om e; cases ea; exact fit2 (fit_low (by decide)) (fit_body h h2)
            · cases e
theorem fit_ruleBy (h : Low ws) (e : ruleBy ws i = some (t, j)) : Fit 6 t := by
  unfold ruleBy at e
  cases h1 : atom ws i with
  | none => rw [h1] at e; cases e
  | some r =>
    rw [h1] at e
    dsimp only at e
    have f1 := (fit_atom h h1).up (e := 5) (by decide)
    split at e
    · rename_i s hs
      cases h2 : atom ws (r.2 + 1) with
      | none => rw [h2] at e; cases e
      | some r2 =>
        rw [h2] at e
        obtain ⟨a, h3, ea⟩ := om e
        cases ea
        have hm := List.mem_of_find?_eq_some hs
        have : ∀ s ∈ [s_adds, s_drops], s.all (· < 128) = true := by decide
        exact fit4 (fit_low (this s hm)) f1 ((fit_atom h h2).up (by decide)) (fit_body h h3)
    · obtain ⟨a, h3, ea⟩ := om e
      cases ea
      exact fit3 (fit_low (by decide)) f1 (fit_body h h3)
theorem fit_statement (h : Low ws) (e : statement ws = some t) : Fit 6 t := by
  unfold statement at e
  cases h1 : toldBy ws 0 with
  | none => rw [h1] at e; cases e
  | some r =>
    obtain ⟨o, j⟩ := r
    rw [h1] at e
    cases o with
    | some u =>
      have e : (if j < ws.length then none else some u) = some t := e
      split at e
      · cases e
      · cases e; exact fit_toldBy h h1 _ rfl
    | none =>
      dsimp only at e
      cases h2 : ruleBy ws j with
      | none => rw [h2] at e; cases e
      | some r2 =>
        obtain ⟨u, k⟩ := r2
        rw [h2] at e
        have e : (if k < ws.length then none else some u) = some t := e
        split at e
        · cases e
        · cases e; exact fit_ruleBy h h2
end
end Wd
set_option Elab.async false
set_option linter.all false
set_option maxRecDepth 100000
set_option maxHeartbeats 4000000
/-! The lines of drawn games are statements -/
namespace My
open PySem L2 Wd
def toldB (l : List Nat) : Option Bool := match line l with | .told t => some (isGame t) | _ => none
def plainB (l : List Nat) : Bool := l.all (fun c => c != 10) && decide (l.length ≤ 150)
def goodB (l : List Nat) : Bool := toldB l == some false && plainB l
def headB (l : List Nat) : Bool := toldB l == some true && plainB l
def Good (l : List Nat) : Prop := goodB l = true
def GoodLs (ls : List (List Nat)) : Prop := ∃ g rest, ls = g :: rest ∧ headB g = true ∧ ∀ l ∈ rest, Good l
theorem good_app {a b : List (List Nat)} (h1 : ∀ l ∈ a, Good l) (h2 : ∀ l ∈ b, Good l) : ∀ l ∈ a ++ b, Good l := fun l hl => by
  rcases List.mem_append.mp hl with hl | hl
  · exact h1 l hl
  · exact h2 l hl
theorem good_all {a : List (List Nat)} (h : a.all goodB = true) : ∀ l ∈ a, Good l := fun l hl => List.all_eq_true.mp h l hl
theorem good_one {l : List Nat} (h : goodB l = true) : ∀ z ∈ [l], Good z := fun z hz => by rw [List.mem_singleton.mp hz]; exact h
theorem good_nil : ∀ l ∈ ([] : List (List Nat)), Good l := fun l hl => by cases hl
theorem good_or {a b : List (List Nat)} (h : a = [] ∨ a = b) (hb : b.all goodB = true) : ∀ l ∈ a, Good l := by
  rcases h with rfl | rfl
  · exact good_nil
  · exact good_all hb
theorem lines_fix : ∀ q ∈ [(2, 2), (2, 3), (3, 2), (1, 5)], headB (cs "game lines") = true ∧ goodB (cs "kind cell = " ++ TL.joinL sp1 (cellsOf "c" q.1 q.2)) = true ∧ ((cellsOf "c" q.1 q.2).map (fun l => cs "begin spot(" ++ l ++ clo)).all goodB = true := by decide +kernel
theorem lines_trip : ∀ q ∈ [(2, 2), (2, 3), (3, 2), (1, 5)], ∀ s0 ∈ cellsOf "c" q.1 q.2, ∀ s1 ∈ cellsOf "c" q.1 q.2, ∀ s2 ∈ cellsOf "c" q.1 q.2, goodB (cs "begin line(" ++ s0 ++ com ++ s1 ++ com ++ s2 ++ clo) = true := by decide +kernel
theorem lines_rest : [cs "fact mark(cell, player)", cs "fact spot(cell)"].all goodB = true ∧ [cs "fact line(cell, cell, cell)", cs "view full(cell)", cs "view open", cs "move put(cell)"].all goodB = true ∧
  [cs "full(C) if mark(C, P)", cs "open if spot(C), not full(C)", cs "put(C) if spot(C), not full(C)"].all goodB = true ∧ [cs "put(C) adds mark(C, P) if mover(P)"].all goodB = true ∧ goodB (cs "wins P if line(A, B, C), mark(A, P), mark(B, P)") = true ∧
  goodB (cs "wins P if line(A, B, C), mark(A, P), mark(B, P)" ++ cs ", mark(C, P)") = true ∧ [cs "drawn if not open"].all goodB = true := by decide +kernel
theorem linesG_good {ls : List (List Nat)} (h : LinesG ls) : GoodLs ls := by
  obtain ⟨r, c, k, trips, short, tail, hrc, _, _, ct, hs, ht, rfl⟩ := h
  obtain ⟨f1, f2, f3⟩ := lines_fix _ hrc
  obtain ⟨r1, r2, r3, r4, r5, r6, r7⟩ := lines_rest
  refine ⟨cs "game lines", _, by unfold linesG; simp only [List.cons_append, List.append_assoc, List.nil_append]; rfl, f1, ?_⟩
  refine good_app (a := [_]) (good_one f2) (good_app (a := [_, _]) (good_all r1) (good_app (a := [_, _, _, _]) (good_all r2) (good_app (good_all f3) (good_app ?_ (good_app (a := [_, _, _]) (good_all r3) (good_app (a := [_]) (good_all r4) (good_app (a := [_]) ?_ (good_or ht r7))))))))
  · refine Cat.all ct fun _ _ x hx y hy => ?_
    obtain ⟨s0, s1, s2, h0, h1, h2, _, _, _, rfl⟩ := hx
    rw [List.mem_singleton.mp hy]
    exact lines_trip _ hrc s0 h0 s1 h1 s2 h2
  · rcases hs with rfl | rfl
    · rw [List.append_nil]; exact good_one r5
    · exact good_one r6
end My
set_option Elab.async false
set_option linter.all false
set_option maxRecDepth 100000
set_option maxHeartbeats 4000000
namespace My
open PySem L2 Wd
theorem nat_of {n : Int} {m : Nat} (h0 : 0 ≤ n) (h1 : n ≤ (m : Int)) : ∃ k : Nat, n = (k : Int) ∧ k ≤ m := by
  obtain ⟨k, rfl⟩ := Int.eq_ofNat_of_zero_le h0
  exact ⟨k, rfl, by omega⟩
theorem heaps_fix : ∀ k ∈ [2, 3], ∀ t ∈ [2, 3, 4], headB (cs "game heaps") = true ∧ goodB (cs "kind heap = " ++ TL.joinL sp1 (namesOf "h" k)) = true ∧ goodB (cs "kind num = 0 .. " ++ nm ((t : Nat) : Int)) = true := by decide +kernel
theorem heaps_begin : ∀ h ∈ namesOf "h" 3, ∀ n ∈ List.range 5, goodB (cs "begin has(" ++ h ++ com ++ nm ((n : Nat) : Int) ++ clo) = true := by decide +kernel
theorem heaps_size : ((List.range 5).map fun (k : Nat) => cs "begin size(" ++ nm k ++ clo).all goodB = true := by decide +kernel
theorem heaps_rest : [cs "fact has(heap, num)", cs "move left(heap, num)", cs "view some"].all goodB = true ∧ goodB (cs "left(H, N) if has(H, M), N is M - 1") = true ∧ (∀ d ∈ [2, 3], goodB (cs "left(H, N) if has(H, M), N is M - " ++ nm ((d : Nat) : Int)) = true) ∧
  goodB (cs "fact size(num)") = true ∧ goodB (cs "left(H, N) if has(H, M), size(N), N < M") = true ∧ [cs "left(H, N) adds has(H, N)", cs "left(H, N) drops has(H, M) if has(H, M)", cs "some if has(H, M), 0 < M"].all goodB = true ∧
  [cs "wins P if not some, mover(P)"].all goodB = true := by decide +kernel
theorem names_sub {pre : Str} {k m : Nat} (h : k ≤ m) : ∀ l ∈ namesOf pre k, l ∈ namesOf pre m := fun l hl => by
  unfold namesOf at hl ⊢
  obtain ⟨i, hi, rfl⟩ := List.mem_map.mp hl
  exact List.mem_map.mpr ⟨i, List.mem_range.mpr (Nat.lt_of_lt_of_le (List.mem_range.mp hi) h), rfl⟩
theorem heapsG_good {ls : List (List Nat)} (h : HeapsG ls) : GoodLs ls := by
  obtain ⟨k, top, begins, mid, tail, k1, k2, t1, t2, ct, hm, ht, rfl⟩ := h
  obtain ⟨f1, f2, f3⟩ := heaps_fix k (by simp; omega) top (by simp; omega)
  obtain ⟨r1, r2, r3, r4, r5, r6, r7⟩ := heaps_rest
  refine ⟨cs "game heaps", _, by unfold heapsG; simp only [List.cons_append, List.append_assoc, List.nil_append]; rfl, f1, ?_⟩
  refine good_app (a := [_]) (good_one f2) (good_app (a := [_]) (good_one f3) (good_app (a := [_, _, _]) (good_all r1) (good_app ?_ (good_app ?_ (good_app (a := [_, _, _]) (good_all r6) (good_or ht r7))))))
  · refine Cat.all ct fun h hh x hx y hy => ?_
    obtain ⟨n, n1, n2, rfl⟩ := hx
    obtain ⟨n, rfl, hn⟩ := nat_of (by omega) n2
    rw [List.mem_singleton.mp hy]
    exact heaps_begin h (names_sub k2 h hh) n (List.mem_range.mpr (by omega))
  · rcases hm with ⟨d, d1, d2, rfl⟩ | rfl
    · obtain ⟨d, rfl, hd⟩ := nat_of (n := d) (m := 3) (by omega) (by omega)
      exact good_app (a := [_]) (good_one r2) (good_one (r3 d (by simp; omega)))
    · refine good_app (good_app (good_one r4) (fun l hl => ?_)) (good_one r5)
      obtain ⟨i, hi, rfl⟩ := List.mem_map.mp hl
      exact List.all_eq_true.mp heaps_size _ (List.mem_map.mpr ⟨i, List.mem_range.mpr (by have := List.mem_range.mp hi; omega), rfl⟩)
theorem walks_fix : ∀ k ∈ [4, 5, 6], headB (cs "game walks") = true ∧ goodB (cs "kind node = " ++ TL.joinL sp1 (namesOf "n" k)) = true := by decide +kernel
theorem walks_one : ∀ l ∈ namesOf "n" 6, goodB (cs "begin at(second, " ++ l ++ clo) = true ∧ goodB (cs "wins second if at(second, " ++ l ++ clo) = true ∧ ∀ o ∈ namesOf "n" 6, goodB (cs "begin link(" ++ l ++ com ++ o ++ clo) = true := by decide +kernel
theorem walks_rest : [cs "fact at(player, node)", cs "fact link(node, node)"].all goodB = true ∧ [cs "fact burnt(node)", cs "view taken(node)", cs "move go(node)", cs "taken(Y) if at(P, Y)"].all goodB = true ∧ goodB (cs "begin at(first, n0)") = true ∧
  (∀ b h : Bool, goodB (cs "go(Y) if " ++ walkBody b h) = true) ∧ [cs "go(Y) adds at(P, Y) if mover(P)", cs "go(Y) drops at(P, X) if mover(P), at(P, X)"].all goodB = true ∧ [cs "go(Y) adds burnt(X) if mover(P), at(P, X)"].all goodB = true ∧
  [cs "wins first if at(first, X), at(second, X)"].all goodB = true := by decide +kernel
theorem walksG_good {ls : List (List Nat)} (h : WalksG ls) : GoodLs ls := by
  obtain ⟨n, sec, links, burns, hunts, tail, n1, n2, hsec, hl, ht, rfl⟩ := h
  obtain ⟨f1, f2⟩ := walks_fix n (by simp; omega)
  obtain ⟨r1, r2, r3, r4, r5, r6, r7⟩ := walks_rest
  have up := names_sub (pre := "n") n2
  refine ⟨cs "game walks", _, by unfold walksG; simp only [List.cons_append, List.append_assoc, List.nil_append]; rfl, f1, ?_⟩
  refine good_app (a := [_]) (good_one f2) (good_app (a := [_, _]) (good_all r1) (good_app (a := [_, _, _, _]) (good_all r2) (good_app (a := [_]) (good_one r3) (good_app (a := [_]) (good_one ?_) (good_app ?_ (good_app (a := [_]) (good_one (r4 burns hunts)) (good_app (a := [_, _]) (good_all r5) (good_app ?_ (good_app ?_ ?_)))))))))
  · exact (walks_one sec (up sec (List.mem_of_mem_drop hsec))).1
  · refine Cat.all hl fun one h1 x hx => Cat.all hx fun other h2 y hy z hz => ?_
    rcases hy with rfl | ⟨_, rfl⟩
    · cases hz
    · rw [List.mem_singleton.mp hz]
      exact (walks_one one (up one h1)).2.2 other (up other h2)
  · cases burns
    · exact good_nil
    · exact good_all r6
  · cases hunts
    · exact good_nil
    · exact good_all r7
  · rcases ht with rfl | ⟨l, hl, rfl⟩
    · exact good_nil
    · exact good_one (walks_one l (up l hl)).2.1
theorem lamps_fix : ∀ k ∈ [3, 4], headB (cs "game lamps") = true ∧ goodB (cs "kind lamp = " ++ TL.joinL sp1 (namesOf "l" k)) = true := by decide +kernel
theorem lamps_one : ∀ l ∈ namesOf "l" 4, goodB (cs "begin own(" ++ cs "first" ++ com ++ l ++ clo) = true ∧ goodB (cs "begin own(" ++ cs "second" ++ com ++ l ++ clo) = true ∧ goodB (cs "begin on(" ++ l ++ clo) = true ∧ goodB (cs "wins first if lit(" ++ l ++ clo) = true ∧
  goodB (cs "wins second if on(l1), on(" ++ l ++ cs "), not lit(" ++ l ++ clo) = true ∧ ∀ o ∈ namesOf "l" 4, goodB (cs "begin wire(" ++ l ++ com ++ o ++ clo) = true := by decide +kernel
theorem lamps_rest : [cs "fact on(lamp)", cs "fact wire(lamp, lamp)"].all goodB = true ∧ [cs "fact own(player, lamp)", cs "view lit(lamp)", cs "move flip(lamp)", cs "move wait"].all goodB = true ∧ goodB (cs "lit(l0) if on(l0)") = true ∧
  goodB (cs "lit(Y) if lit(X), wire(X, Y), " ++ cs "on(Y)") = true ∧ goodB (cs "lit(Y) if lit(X), wire(X, Y), " ++ cs "not on(X)") = true ∧ goodB (cs "flip(X) if mover(P), own(P, X)") = true ∧ [cs "wait if not lit(l1)"].all goodB = true ∧
  [cs "flip(X) adds on(X) if not on(X)", cs "flip(X) drops on(X) if on(X)"].all goodB = true := by decide +kernel
theorem lampsG_good {ls : List (List Nat)} (h : LampsG ls) : GoodLs ls := by
  obtain ⟨n, blocks, z, wait, last, n1, n2, ct, hz, hw, hl, rfl⟩ := h
  obtain ⟨f1, f2⟩ := lamps_fix n (by simp; omega)
  obtain ⟨r1, r2, r3, r4, r5, r6, r7, r8⟩ := lamps_rest
  have up := names_sub (pre := "l") n2
  have hlast := lamps_one last (up last (List.mem_of_getElem? hl))
  refine ⟨cs "game lamps", _, by unfold lampsG; simp only [List.cons_append, List.append_assoc, List.nil_append]; rfl, f1, ?_⟩
  refine good_app (a := [_]) (good_one f2) (good_app (a := [_, _]) (good_all r1) (good_app (a := [_, _, _, _]) (good_all r2) (good_app ?_ (good_app (a := [_]) (good_one r3) (good_app (a := [_]) (good_one ?_) (good_app (a := [_]) (good_one r6) (good_app (good_or hw r7) (good_app (a := [_, _]) (good_all r8) (good_app (a := [_]) (good_one ?_) (good_one ?_))))))))))
  · refine Cat.all ct fun one h1 x hx y hy => ?_
    obtain ⟨who, on, wires, hwho, hon, hwi, rfl⟩ := hx
    have h := lamps_one one (up one h1)
    revert y
    refine good_app (good_app (good_one ?_) ?_) ?_
    · rcases hwho with rfl | rfl
      · exact h.1
      · exact h.2.1
    · rcases hon with rfl | rfl
      · exact good_nil
      · exact good_one h.2.2.1
    · refine Cat.all hwi fun o ho y hy z hz => ?_
      rcases hy with rfl | ⟨_, rfl⟩
      · cases hz
      · rw [List.mem_singleton.mp hz]
        exact h.2.2.2.2.2 o (up o ho)
  · rcases hz with rfl | rfl
    · exact r4
    · exact r5
  · exact hlast.2.2.2.1
  · have := hlast.2.2.2.2.1
    simp only [List.append_assoc] at this ⊢
    exact this
theorem pawns_fix : ∀ r ∈ [3, 4], ∀ c ∈ [2, 3], headB (cs "game pawns") = true ∧ goodB (cs "kind cell = " ++ TL.joinL sp1 (cellsOf "p" r c)) = true ∧ ∀ l ∈ cellsOf "p" r c, ∀ o ∈ cellsOf "p" r c, goodB (cs "drawn if not full(" ++ l ++ cs "), not full(" ++ o ++ clo) = true := by decide +kernel
theorem pawns_way : ∀ r ∈ [3, 4], ∀ q ∈ pawnWays r, ∀ col ∈ [0, 1, 2], goodB (cs "begin pawn(" ++ q.1 ++ cs ", p" ++ nm q.2.1 ++ nm ((col : Nat) : Int) ++ clo) = true ∧ goodB (cs "begin goal(" ++ q.1 ++ cs ", p" ++ nm (((r : Nat) : Int) - 1 - q.2.1) ++ nm ((col : Nat) : Int) ++ clo) = true ∧
  ∀ k ∈ List.range (r - 1), goodB (cs "begin step" ++ hereT q.1 q.2.1 q.2.2 ((col : Nat) : Int) ((k : Nat) : Int) ++ nm ((col : Nat) : Int) ++ clo) = true ∧ ∀ b ∈ [0, 1, 2], goodB (cs "begin hit" ++ hereT q.1 q.2.1 q.2.2 ((col : Nat) : Int) ((k : Nat) : Int) ++ nm ((b : Nat) : Int) ++ clo) = true := by decide +kernel
theorem pawns_rest : [cs "fact pawn(player, cell)", cs "fact step(player, cell, cell)"].all goodB = true ∧ [cs "fact hit(player, cell, cell)", cs "fact goal(player, cell)", cs "view full(cell)", cs "move go(cell, cell)"].all goodB = true ∧
  [cs "full(Y) if pawn(Q, Y)", cs "go(X, Y) if mover(P), pawn(P, X), step(P, X, Y), not full(Y)"].all goodB = true ∧ [cs "go(X, Y) if mover(P), pawn(P, X), hit(P, X, Y), pawn(Q, Y), P != Q"].all goodB = true ∧
  [cs "go(X, Y) adds pawn(P, Y) if mover(P)", cs "go(X, Y) drops pawn(P, X) if mover(P)"].all goodB = true ∧ [cs "go(X, Y) drops pawn(Q, Y) if mover(P), pawn(Q, Y), P != Q", cs "wins P if goal(P, X), pawn(P, X)"].all goodB = true := by decide +kernel
theorem pawnsG_good {ls : List (List Nat)} (h : PawnsG ls) : GoodLs ls := by
  obtain ⟨r, c, pawns, tail, r1', r2', c1', c2', ct, ht, rfl⟩ := h
  obtain ⟨f1, f2, f3⟩ := pawns_fix r (by simp; omega) c (by simp; omega)
  obtain ⟨r1, r2, r3, r4, r5, r6⟩ := pawns_rest
  refine ⟨cs "game pawns", _, by unfold pawnsG; simp only [List.cons_append, List.append_assoc, List.nil_append]; rfl, f1, ?_⟩
  refine good_app (a := [_]) (good_one f2) (good_app (a := [_, _]) (good_all r1) (good_app (a := [_, _, _, _]) (good_all r2) (good_app ?_ (good_app (a := [_, _]) (good_all r3) (good_app (a := [_]) (good_all r4) (good_app (a := [_, _]) (good_all r5) (good_app (a := [_, _]) (good_all r6) ?_)))))))
  · refine Cat.all ct fun col hcol x hx => Cat.all hx fun q hq y hy => ?_
    have h := pawns_way r (by simp; omega) q hq col (by have := List.mem_range.mp hcol; simp; omega)
    obtain ⟨pawn, steps, hp, hs, rfl⟩ := hy
    refine good_app (good_app ?_ (good_one h.2.1)) (Cat.all hs fun k hk z hz => ?_)
    · rcases hp with rfl | rfl
      · exact good_nil
      · exact good_one h.1
    · obtain ⟨hits, hh, rfl⟩ := hz
      have hk := h.2.2 k hk
      refine good_app (good_one hk.1) (Cat.all hh fun b hb u hu v hv => ?_)
      rcases hu with rfl | ⟨b0, b1, rfl⟩
      · cases hv
      · obtain ⟨b, rfl, hb2⟩ := nat_of (m := 2) b0 (by omega)
        rw [List.mem_singleton.mp hv]
        exact hk.2 b (by simp; omega)
  · rcases ht with rfl | ⟨c0, c1, h0, h1, rfl⟩
    · exact good_nil
    · exact good_one (f3 c0 (List.mem_of_getElem? h0) c1 (List.mem_of_getElem? h1))
theorem gameG_good {ls : List (List Nat)} (h : GameG ls) : GoodLs ls := by
  rcases h with h | h | h | h | h
  · exact linesG_good h
  · exact heapsG_good h
  · exact walksG_good h
  · exact lampsG_good h
  · exact pawnsG_good h
end My
set_option Elab.async false
set_option linter.all false
set_option maxRecDepth 100000
set_option maxHeartbeats 4000000
/-! Wrong lines put in -/
namespace My
open PySem L2 Wd
def signsL : List (List Nat) := [cs "fact a.b", cs "fact aB", cs "kind k = 1a", cs "fact abcdefghijklm", cs "begin f(007)", cs "begin f(100)", cs "fact f!", cs "v(X) if a & b", cs "fact f\tg", cs "kind k = 1...3", cs "move M.", cs "fact f; fact g", cs "Ab Cd AB"]
def formsL : List (List Nat) := [cs "fact", cs "fact f(", cs "fact f()", cs "fact f(a, b, c, d, e)", cs "kind k", cs "kind k =", cs "kind k = 1", cs "kind k = a .. b", cs "kind k = a 1", cs "begin not f", cs "begin f(X, )", cs "v(X) f(X)", cs "v(X) if", cs "v(X) if f(X),", cs "wins",
  cs "wins first second", cs "drawn f", cs "m adds", cs "m adds not f", cs "m drops f if X is Y", cs "v if X is Y + Z", cs "v if X < ", cs "v if mover", cs "v if mover(first", cs "not f if g", cs "view(a)", cs "fact if", cs "X = Y", cs "v if X is 3", cs "game",
  cs "game g h", cs "v -- remark", cs "begin X", cs "kind k = 3 .. ", cs "wins first if not not f", cs "fact f g"]
def kindB (l : List Nat) : Nat := match line l with | .nothing => 0 | .sign => 1 | .form => 2 | .told _ => 3
theorem signs_all : ∀ l ∈ signsL, kindB l = 1 ∧ plainB l = true := by decide +kernel
theorem forms_all : ∀ l ∈ formsL, kindB l = 2 ∧ plainB l = true := by decide +kernel
theorem other_game : headB (cs "game other") = true := by decide +kernel
def Bad (why l : List Nat) : Prop := plainB l = true ∧ ((why = s_sign ∧ line l = .sign) ∨ (why = s_form ∧ line l = .form) ∨ (why = s_game ∧ ∃ t, line l = .told t ∧ isGame t = true))
theorem toldB_of {l : List Nat} {b : Bool} (h : toldB l = some b) : ∃ t, line l = .told t ∧ isGame t = b := by
  unfold toldB at h
  split at h
  · rename_i t e
    exact ⟨t, e, Option.some.inj h⟩
  · cases h
theorem good_of {l : List Nat} (h : Good l) : (∃ t, line l = .told t ∧ isGame t = false) ∧ plainB l = true := by
  unfold Good goodB at h
  rw [Bool.and_eq_true, beq_iff_eq] at h
  exact ⟨toldB_of h.1, h.2⟩
theorem head_of {l : List Nat} (h : headB l = true) : (∃ t, line l = .told t ∧ isGame t = true) ∧ plainB l = true := by
  unfold headB at h
  rw [Bool.and_eq_true, beq_iff_eq] at h
  exact ⟨toldB_of h.1, h.2⟩
theorem plain_of {l : List Nat} (h : plainB l = true) : 10 ∉ l ∧ l.length ≤ 150 := by
  unfold plainB at h
  rw [Bool.and_eq_true] at h
  refine ⟨fun z => ?_, of_decide_eq_true h.2⟩
  have := List.all_eq_true.mp h.1 10 z
  cases this
theorem bad_sign {l : List Nat} (h : l ∈ signsL) : Bad s_sign l := by
  obtain ⟨h1, h2⟩ := signs_all l h
  refine ⟨h2, .inl ⟨rfl, ?_⟩⟩
  unfold kindB at h1
  split at h1 <;> first | assumption | cases h1
theorem bad_form {l : List Nat} (h : l ∈ formsL) : Bad s_form l := by
  obtain ⟨h1, h2⟩ := forms_all l h
  refine ⟨h2, .inr (.inl ⟨rfl, ?_⟩)⟩
  unfold kindB at h1
  split at h1 <;> first | assumption | cases h1
theorem bad_game : Bad s_game (cs "game other") := by
  obtain ⟨h1, h2⟩ := head_of other_game
  exact ⟨h2, .inr (.inr ⟨rfl, h1⟩)⟩
theorem GoodLs.plain {ls : List (List Nat)} (h : GoodLs ls) : ∀ l ∈ ls, plainB l = true := by
  obtain ⟨g, r, rfl, h1, h2⟩ := h
  intro l hl
  rcases List.mem_cons.mp hl with rfl | hl
  · exact (head_of h1).2
  · exact (good_of (h2 l hl)).2
theorem GoodLs.take {ls : List (List Nat)} {n : Nat} (h : GoodLs ls) (hn : 1 ≤ n) : GoodLs (ls.take n) := by
  obtain ⟨g, r, rfl, h1, h2⟩ := h
  obtain ⟨m, rfl⟩ : ∃ m, n = m + 1 := ⟨n - 1, by omega⟩
  exact ⟨g, r.take m, rfl, h1, fun l hl => h2 l (List.mem_of_mem_take hl)⟩
/-- the first wrong line -/
def Wr (Ls : List (List Nat)) (f : Nat) (why : List Nat) : Prop := ∃ pre bad post, Ls = pre ++ bad :: post ∧ pre.length = f ∧ GoodLs pre ∧ Bad why bad
theorem wr_first {ls : List (List Nat)} {bad why : List Nat} {p : Nat} (h : GoodLs ls) (p1 : 1 ≤ p) (p2 : p ≤ ls.length) (b : Bad why bad) : Wr (ls.take p ++ [bad] ++ ls.drop p) p why :=
  ⟨ls.take p, bad, ls.drop p, by rw [List.append_assoc]; rfl, by rw [List.length_take]; omega, h.take p1, b⟩
theorem wr_before {ls : List (List Nat)} {bad why why1 : List Nat} {p f : Nat} (h : Wr ls f why1) (p1 : 1 ≤ p) (p2 : p ≤ f) (b : Bad why bad) : Wr (ls.take p ++ [bad] ++ ls.drop p) p why := by
  obtain ⟨pre, bd, post, rfl, l, g, _⟩ := h
  refine ⟨pre.take p, bad, (pre ++ bd :: post).drop p, ?_, by rw [List.length_take]; omega, g.take p1, b⟩
  rw [List.take_append_of_le_length (by omega), List.append_assoc]
  rfl
theorem wr_after {ls : List (List Nat)} {bad why : List Nat} {p f : Nat} (h : Wr ls f why) (p2 : f < p) : Wr (ls.take p ++ [bad] ++ ls.drop p) f why := by
  obtain ⟨pre, bd, post, rfl, l, g, b⟩ := h
  refine ⟨pre, bd, (post.take (p - f - 1)) ++ [bad] ++ post.drop (p - f - 1), ?_, l, g, b⟩
  obtain ⟨k, rfl⟩ : ∃ k, p = pre.length + (k + 1) := ⟨p - f - 1, by omega⟩
  rw [show pre.length + (k + 1) - f - 1 = k by omega, List.take_length_add_append, List.drop_length_add_append, List.take_succ_cons, List.drop_succ_cons]
  simp only [List.append_assoc, List.cons_append, List.nil_append]
/-- what is read of good lines, others behind them -/
theorem readL_good : ∀ {rest : List (List Nat)} {n : Nat} {acc : List Tr} {X : List (List Nat)}, acc ≠ [] → (∀ l ∈ rest, Good l) → ∃ acc', acc' ≠ [] ∧ readL n acc (rest ++ X) = readL (n + rest.length) acc' X
  | [], n, acc, X, ha, _ => ⟨acc, ha, rfl⟩
  | l :: r, n, acc, X, ha, h => by
    obtain ⟨⟨t, e, g⟩, _⟩ := good_of (h l (List.mem_cons_self ..))
    obtain ⟨acc', h1, h2⟩ := readL_good (rest := r) (n := n + 1) (acc := acc ++ [t]) (X := X) (by simp) (fun x hx => h x (List.mem_cons_of_mem _ hx))
    refine ⟨acc', h1, ?_⟩
    rw [List.cons_append, readL, e]
    have : (isGame t == !acc.isEmpty) = false := by
      rw [g]
      cases acc with
      | nil => exact absurd rfl ha
      | cons a b => rfl
    show (if (isGame t == !acc.isEmpty) = true then _ else _) = _
    rw [this, if_neg Bool.false_ne_true, h2, List.length_cons]
    congr 1
    omega
theorem readL_goodLs {ls X : List (List Nat)} (h : GoodLs ls) : ∃ acc, acc ≠ [] ∧ readL 0 [] (ls ++ X) = readL ls.length acc X := by
  obtain ⟨g, r, rfl, h1, h2⟩ := h
  obtain ⟨⟨t, e, hg⟩, _⟩ := head_of h1
  obtain ⟨acc, ha, hr⟩ := readL_good (rest := r) (n := 1) (acc := [t]) (X := X) (by simp) h2
  refine ⟨acc, ha, ?_⟩
  rw [List.cons_append, readL, e]
  show (if (isGame t == !([] : List Tr).isEmpty) = true then _ else readL 1 [t] (r ++ X)) = _
  rw [hg, if_neg (by decide), hr, List.length_cons]
  congr 1
  omega
theorem readL_bad {n : Nat} {acc : List Tr} {why l : List Nat} {X : List (List Nat)} (ha : acc ≠ []) (b : Bad why l) : readL n acc (l :: X) = .wrong (n + 1) why := by
  rcases b with ⟨_, ⟨rfl, e⟩ | ⟨rfl, e⟩ | ⟨rfl, t, e, g⟩⟩
  · rw [readL, e]
  · rw [readL, e]
  · rw [readL, e]
    have : (isGame t == !acc.isEmpty) = true := by
      rw [g]
      cases acc with
      | nil => exact absurd rfl ha
      | cons a b => rfl
    exact if_pos this
theorem wr_read {Ls : List (List Nat)} {f : Nat} {why : List Nat} (h : Wr Ls f why) : readL 0 [] Ls = .wrong (f + 1) why := by
  obtain ⟨pre, bad, post, rfl, rfl, g, b⟩ := h
  obtain ⟨acc, ha, e⟩ := readL_goodLs (X := bad :: post) g
  rw [e, readL_bad ha b]
theorem nothing_nil : line [] = .nothing := by
  have h : kindB [] = 0 := by decide +kernel
  unfold kindB at h
  split at h <;> first | assumption | cases h
/-- two empty lines, then all but the first -/
theorem wr_read2 {Ls : List (List Nat)} {f : Nat} {why : List Nat} (h : Wr Ls f why) (f2 : 2 ≤ f) : readL 0 [] ([] :: [] :: Ls.drop 1) = .wrong 3 s_game := by
  obtain ⟨pre, bad, post, rfl, rfl, ⟨g, r, rfl, h1, h2⟩, b⟩ := h
  cases r with
  | nil => simp at f2
  | cons l r =>
    obtain ⟨⟨t, e, hg⟩, _⟩ := good_of (h2 l (List.mem_cons_self ..))
    rw [readL, nothing_nil]
    show readL 1 [] ([] :: _) = _
    rw [readL, nothing_nil]
    show readL 2 [] (l :: (r ++ bad :: post)) = _
    rw [readL, e]
    show (if (isGame t == !([] : List Tr).isEmpty) = true then _ else _) = _
    rw [hg, if_pos (by decide)]
theorem wr_len {Ls : List (List Nat)} {f : Nat} {why : List Nat} (h : Wr Ls f why) : 2 ≤ Ls.length ∧ f < Ls.length ∧ 1 ≤ f := by
  obtain ⟨pre, bad, post, rfl, rfl, ⟨g, r, rfl, _⟩, b⟩ := h
  simp only [List.length_append, List.length_cons]
  omega
/-- all trees that are read are flat -/
theorem words_low {l : List Nat} {t : Tr} (hw : ∀ {l : List Nat} {ws : List Word}, words l = some ws → Low ws) (e : line l = .told t) : Fit 6 t := by
  unfold line at e
  split at e
  · cases e
  · cases h1 : words l with
    | none => rw [h1] at e; cases e
    | some ws =>
      rw [h1] at e
      dsimp only at e
      cases h2 : statement ws with
      | none => rw [h2] at e; cases e
      | some u =>
        rw [h2] at e
        cases e
        exact fit_statement (hw h1) h2
theorem readL_fit (hw : ∀ {l : List Nat} {ws : List Word}, words l = some ws → Low ws) : ∀ {ls : List (List Nat)} {n : Nat} {acc ts : List Tr}, (∀ t ∈ acc, Fit 6 t) → readL n acc ls = .tree ts → ∀ t ∈ ts, Fit 6 t
  | [], n, acc, ts, ha, e => by
    cases acc with
    | nil => cases e
    | cons a b => cases e; exact ha
  | l :: ls, n, acc, ts, ha, e => by
    rw [readL] at e
    cases h : line l with
    | nothing => rw [h] at e; exact readL_fit hw ha e
    | sign => rw [h] at e; cases e
    | form => rw [h] at e; cases e
    | told t =>
      rw [h] at e
      dsimp only at e
      split at e
      · cases e
      · refine readL_fit hw (fun u hu => ?_) e
        rcases List.mem_append.mp hu with hu | hu
        · exact ha u hu
        · rw [List.mem_singleton.mp hu]; exact words_low hw h
end My
set_option Elab.async false
set_option linter.all false
set_option maxRecDepth 100000
set_option maxHeartbeats 4000000
/-! Trees as data; the wrong lines -/
namespace My
open PySem PySem.Spec PyProof.Rows L2 Wd
local macro_rules
  | `(tactic| nofun) => `(tactic| (apply tup_at; nofun))
local macro_rules
  | `(tactic| nofun) => `(tactic| (apply seq_at; nofun))
local macro_rules
  | `(tactic| nofun) => `(tactic| (apply pool_same; assumption; nofun))
local macro_rules
  | `(tactic| nofun) => `(tactic| (apply but_get; assumption; assumption; nofun))
local macro_rules
  | `(tactic| nofun) => `(tactic| (apply off_get; assumption; assumption; nofun))
local macro_rules
  | `(tactic| nofun) => `(tactic| (apply same_get; assumption; nofun))
local macro_rules
  | `(tactic| nofun) => `(tactic| assumption)
local macro_rules
  | `(tactic| trivial) => `(tactic| ((with_reducible apply tx_joinK); (focus trivial); (focus decide +kernel); focus (first | decide | omega)))
local macro_rules
  | `(tactic| trivial) => `(tactic| ((with_reducible apply tx_num); (focus trivial); intro i hi; omega))
local macro_rules
  | `(tactic| trivial) => `(tactic| ((with_reducible apply tx_plus); (focus trivial); (focus trivial); focus (first | decide | omega)))
local macro_rules
  | `(tactic| trivial) => `(tactic| ((with_reducible apply ta_cons); (focus trivial); (focus trivial); focus (first | decide | omega)))
local macro_rules
  | `(tactic| trivial) => `(tactic| ((with_reducible apply lf_lst); (focus trivial); focus (first | decide | omega)))
local macro_rules
  | `(tactic| trivial) => `(tactic| ((with_reducible apply ls_lst); (focus trivial); focus (first | decide | omega)))
local macro_rules
  | `(tactic| trivial) => `(tactic| ((with_reducible apply lf_cat); (focus trivial); (focus trivial); focus (first | decide | omega)))
local macro_rules
  | `(tactic| trivial) => `(tactic| ((with_reducible apply it_drawC); (focus rfl); decide))
local macro_rules
  | `(tactic| trivial) => `(tactic| ((with_reducible apply it_drawV); (focus rfl); (focus rfl); omega))
local macro_rules
  | `(tactic| trivial) => `(tactic| ((with_reducible apply it_addc); (focus trivial)))
local macro_rules
  | `(tactic| trivial) => `(tactic| ((with_reducible apply it_opD); (focus trivial); (focus trivial)))
local macro_rules
  | `(tactic| trivial) => `(tactic| ((with_reducible apply bt_eq); (focus trivial)))
local macro_rules
  | `(tactic| trivial) => `(tactic| ((with_reducible apply be_eq); (focus trivial)))
local macro_rules
  | `(tactic| trivial) => `(tactic| ((with_reducible apply bt_gt); (focus trivial)))
local macro_rules
  | `(tactic| trivial) => `(tactic| ((with_reducible apply bt_var); rfl))
local macro_rules
  | `(tactic| trivial) => `(tactic| ((with_reducible apply tx_if); (focus trivial); (focus trivial); (focus trivial)))
local macro_rules
  | `(tactic| trivial) => `(tactic| ((with_reducible apply la_cons); (focus trivial); (focus trivial); (focus decide)))
local macro_rules
  | `(tactic| trivial) => `(tactic| with_reducible exact la_nil)
local macro_rules
  | `(tactic| trivial) => `(tactic| ((with_reducible apply ls_pick); (focus rfl); (focus trivial); (focus decide)))
local macro_rules
  | `(tactic| trivial) => `(tactic| ((with_reducible apply tx_c); decide +kernel))
local macro_rules
  | `(tactic| trivial) => `(tactic| with_reducible exact it_c)
local macro_rules
  | `(tactic| trivial) => `(tactic| with_reducible exact ta_nil)
local macro_rules
  | `(tactic| trivial) => `(tactic| ((with_reducible apply it_var); rfl))
local macro_rules
  | `(tactic| trivial) => `(tactic| ((with_reducible apply tx_var); (focus rfl); assumption))
local macro_rules
  | `(tactic| trivial) => `(tactic| ((with_reducible apply ls_var); (focus rfl); assumption))
local macro_rules
  | `(tactic| trivial) => `(tactic| ((with_reducible apply tx_ix0); (focus rfl); (focus assumption); (focus assumption)))
local macro_rules
  | `(tactic| trivial) => `(tactic| ((with_reducible apply tx_ix1); (focus rfl); (focus assumption); (focus assumption)))
local macro_rules
  | `(tactic| trivial) => `(tactic| ((with_reducible apply tx_ix2); (focus rfl); (focus assumption); (focus assumption)))
local macro_rules
  | `(tactic| trivial) => `(tactic| ((with_reducible apply ls_cat); (focus trivial); (focus trivial); (focus (first | decide | omega))))
local macro_rules
  | `(tactic| trivial) => `(tactic| ((with_reducible apply tx_pick2); (focus rfl); (focus decide +kernel); (focus decide +kernel)))
local macro_rules
  | `(tactic| trivial) => `(tactic| ((with_reducible apply tx_last); (focus rfl); (focus assumption); (focus assumption)))
local macro_rules
  | `(tactic| trivial) => `(tactic| ((with_reducible apply bt_and); (focus trivial); (focus trivial)))
local macro_rules
  | `(tactic| trivial) => `(tactic| ((with_reducible apply bt_ne); (focus rfl); (focus rfl)))
abbrev st_law_wrongs : Stmt := topS 34
theorem sc_law_wrongs : FnScope ["signs", "forms"] [] (defScope st_law_wrongs) := ⟨rfl, rfl, rfl, by decide +kernel, rfl, by decide +kernel, by decide +kernel⟩
mutual
def toD : Tr → PyData
  | .int i => .int i
  | .str l => .str (tx l)
  | .tup ts => .tuple (toDs ts)
def toDs : List Tr → List PyData
  | [] => []
  | t :: ts => toD t :: toDs ts
end
mutual
theorem TW.dp {K : PySem.W.Frag} {H : Hp} : ∀ (t : Tr) {x : V}, TW H x t → Dp K H x (toD t)
  | .int i, x, h => by
    have h : x = .int i := h
    subst h
    exact .int i
  | .str l, x, h => by
    have h : x = .str (tx l) := h
    subst h
    exact .str _
  | .tup ts, x, h => by
    obtain ⟨a, xs, rfl, e, k⟩ := h
    exact .tup (SqT.of e) (TWs.dp ts k)
theorem TWs.dp {K : PySem.W.Frag} {H : Hp} : ∀ (ts : List Tr) {xs : List V}, TWs H xs ts → DpAll K H xs (toDs ts)
  | [], [], _ => .nil
  | t :: ts, x :: xs, ⟨h, k⟩ => .cons (TW.dp t h) (TWs.dp ts k)
  | [], _ :: _, h => h.elim
  | _ :: _, [], h => h.elim
end
theorem lay_toDs {d : Nat} : ∀ {ts : List Tr}, (∀ t ∈ ts, PyData.canLay0 (toD t) = true ∧ PyData.depth (toD t) ≤ d) → PyData.canLayAll0 (toDs ts) = true ∧ PyData.depthAll (toDs ts) ≤ d
  | [], _ => ⟨by simp only [toDs, PyData.canLayAll0], by simp only [toDs, PyData.depthAll]; exact Nat.zero_le _⟩
  | t :: ts, h => by
    obtain ⟨a, b⟩ := h t (List.mem_cons_self ..)
    obtain ⟨c, e⟩ := lay_toDs (ts := ts) fun u hu => h u (List.mem_cons_of_mem _ hu)
    refine ⟨by simp only [toDs, PyData.canLayAll0, a, c, Bool.and_self], ?_⟩
    simp only [toDs, PyData.depthAll]
    exact Nat.max_le.mpr ⟨b, e⟩
theorem fit_lay : ∀ {d : Nat} {t : Tr}, Fit d t → PyData.canLay0 (toD t) = true ∧ PyData.depth (toD t) ≤ d
  | d, .int i, _ => ⟨by simp only [toD, PyData.canLay0], by simp only [toD, PyData.depth]; exact Nat.zero_le _⟩
  | d, .str l, h => by
    have h : ∀ c ∈ l, c < 128 := by cases d <;> exact h
    refine ⟨?_, by simp only [toD, PyData.depth]; exact Nat.zero_le _⟩
    simp only [toD, PyData.canLay0]
    unfold PyData.strOk
    rw [Array.all_eq_true']
    intro c hc
    have hc : c ∈ l := by simpa [tx] using hc
    have := h c hc
    exact decide_eq_true (by omega)
  | 0, .tup ts, h => h.elim
  | d + 1, .tup ts, h => by
    obtain ⟨a, b⟩ := lay_toDs (d := d) (ts := ts) fun t ht => fit_lay (h t ht)
    refine ⟨by simp only [toD, PyData.canLay0]; exact a, ?_⟩
    simp only [toD, PyData.depth]
    omega
/-- what read tells, as data -/
def outD : Out → PyData
  | .wrong n why => .tuple [.str "wrong", .int (n : Nat), .str (tx why)]
  | .tree ts => .tuple [.str "tree", .tuple (toDs ts)]
def wrongD (n : Nat) (why : Str) : PyData := .tuple [.str "wrong", .int (n : Nat), .str why]
theorem low_words {l : List Nat} {ws : List Word} (h : words l = some ws) : Low ws := fun w hw => ((words_ok h).2 w hw).2
theorem low_ok {l : List Nat} (h : l.all (· < 128) = true) : PyData.strOk (tx l) = true := by
  unfold PyData.strOk
  rw [Array.all_eq_true']
  intro c hc
  have hc : c ∈ l := by simpa [tx] using hc
  have := List.all_eq_true.mp h c hc
  exact decide_eq_true (by simp at this; omega)
theorem shaped_wrong {n : Nat} {why : Str} (h : PyData.strOk why = true) : SeqAt.shaped (wrongD n why) = true := by
  unfold SeqAt.shaped wrongD
  simp only [PyData.canLay0, PyData.canLayAll0, PyData.depth, PyData.depthAll, h, show PyData.strOk (Str.ofString "wrong") = true by decide +kernel]
  rfl
theorem shaped_tree {ts : List Tr} (h : ∀ t ∈ ts, Fit 6 t) : SeqAt.shaped (outD (.tree ts)) = true := by
  unfold SeqAt.shaped outD
  obtain ⟨a, b⟩ := lay_toDs (d := 6) (ts := ts) fun t ht => fit_lay (h t ht)
  simp only [PyData.canLay0, PyData.canLayAll0, PyData.depth, PyData.depthAll, a, show PyData.strOk (Str.ofString "tree") = true by decide +kernel, Bool.and_self, Bool.true_and]
  exact decide_eq_true (by omega)
theorem why_ok {n : Nat} {acc : List Tr} {ls : List (List Nat)} {m : Nat} {why : List Nat} (h : readL n acc ls = .wrong m why) : why.all (· < 128) = true := by
  induction ls generalizing n acc with
  | nil =>
    cases acc with
    | nil => cases h; decide
    | cons a b => cases h
  | cons l ls ih =>
    rw [readL] at h
    cases e : line l with
    | nothing => rw [e] at h; exact ih h
    | sign => rw [e] at h; cases h; decide
    | form => rw [e] at h; cases h; decide
    | told t =>
      rw [e] at h
      dsimp only at h
      split at h
      · cases h; decide
      · exact ih h
theorem eqv_wrong (n m : Nat) (a b : Str) : PyData.eqv (wrongD n a) (wrongD m b) = (decide ((n : Int) = m) && decide (a = b)) := by
  unfold wrongD
  simp only [PyData.eqv, PyData.eqvAll]
  by_cases h1 : (n : Int) = m <;> by_cases h2 : a = b <;> simp [h1, h2]
/-- read, told as data -/
def spReadD (K : PySem.W.Frag) : Sp := fun vs H Q _ => ∃ l : List Nat, vs = [.str (tx l)] ∧ l.length ≤ 100000 ∧ ∀ t d H', Same H H' → Dp K H' (.ref t) d → SeqAt.shaped d = true → (∀ n why, readL 0 [] (linesOf l) = .wrong n why → d = wrongD n (tx why)) → Q (.ref t) H'
theorem read_data {K : PySem.W.Frag} {vs : List V} {H : Hp} {Q : VK} {E : XK} (h : spReadD K vs H Q E) : spRead vs H Q E := by
  obtain ⟨l, rfl, hl, q⟩ := h
  refine ⟨l, rfl, hl, ?_⟩
  cases e : readL 0 [] (linesOf l) with
  | wrong n why =>
    intro t H' s ht
    refine q t (wrongD n (tx why)) H' s (.tup (SqT.of ht) (.cons (.str _) (.cons (.int _) (.cons (.str _) .nil)))) (shaped_wrong (low_ok (why_ok e))) fun n' why' e' => ?_
    rw [e] at e'
    cases e'
    rfl
  | tree ts =>
    intro t t2 xs H' s ht ht2 hx
    refine q t (outD (.tree ts)) H' s (.tup (SqT.of ht) (.cons (.str _) (.cons (.tup (SqT.of ht2) (TWs.dp ts hx)) .nil))) (shaped_tree (readL_fit low_words (fun t ht => by cases ht) e)) fun n' why' e' => ?_
    rw [e] at e'
    cases e'
def spWrongs (K : PySem.W.Frag) : Sp := fun vs H Q _ => vs = [] ∧ ∃ p a, PoolAt K H p a ∧ ∀ y s f H', Go K p a H H' → H' y = some (.lst [.ref s, .ref f]) → Is p H' s 13 150 signsL → Is p H' f 40 150 formsL → Q (.ref y) H'
section
variable {P : Program} {w : World} {K : PySem.W.Frag} {mg : Str → Option Value} {base : Heap}
theorem ok_wrongs (T : Top K mg "_law_wrongs" st_law_wrongs []) : Def P w K mg base 1 "_law_wrongs" [] (spWrongs K) := by
  refine T.ok sc_law_wrongs (fun vs H Q E h => ?_) (fun f cdv A outer s H vs Q E hr h => ?_)
  · obtain ⟨rfl, _⟩ := h
    rfl
  obtain ⟨rfl, p, a, hP, q⟩ := h
  refine ⟨_, (pss_cons (ps_set (i := 0) sc_law_wrongs.nd rfl (Or.inl rfl) (pe_lst (pa_cons pe_str (pa_cons pe_str (pa_cons pe_str (pa_cons pe_str (pa_cons pe_str (pa_cons pe_str (pa_cons pe_str pa_nil)))))))))
    (pss_cons (ps_set (i := 0) sc_law_wrongs.nd rfl (Or.inl rfl) (pe_op op_cat (pv 0) (pe_lst (pa_cons pe_str (pa_cons pe_str (pa_cons pe_str (pa_cons pe_str (pa_cons pe_str (pa_cons pe_str pa_nil)))))))))
    (pss_cons (ps_set (i := 1) sc_law_wrongs.nd rfl (Or.inl rfl) (pe_lst (pa_cons pe_str (pa_cons pe_str (pa_cons pe_str (pa_cons pe_str (pa_cons pe_str (pa_cons pe_str (pa_cons pe_str (pa_cons pe_str pa_nil))))))))))
    (pss_cons (ps_set (i := 1) sc_law_wrongs.nd rfl (Or.inl rfl) (pe_op op_cat (pv 1) (pe_lst (pa_cons pe_str (pa_cons pe_str (pa_cons pe_str (pa_cons pe_str (pa_cons pe_str (pa_cons pe_str (pa_cons pe_str pa_nil))))))))))
    (pss_cons (ps_set (i := 1) sc_law_wrongs.nd rfl (Or.inl rfl) (pe_op op_cat (pv 1) (pe_lst (pa_cons pe_str (pa_cons pe_str (pa_cons pe_str (pa_cons pe_str (pa_cons pe_str (pa_cons pe_str (pa_cons pe_str pa_nil))))))))))
    (pss_cons (ps_set (i := 1) sc_law_wrongs.nd rfl (Or.inl rfl) (pe_op op_cat (pv 1) (pe_lst (pa_cons pe_str (pa_cons pe_str (pa_cons pe_str (pa_cons pe_str (pa_cons pe_str (pa_cons pe_str (pa_cons pe_str (pa_cons pe_str pa_nil)))))))))))
    (pss_cons (ps_set (i := 1) sc_law_wrongs.nd rfl (Or.inl rfl) (pe_op op_cat (pv 1) (pe_lst (pa_cons pe_str (pa_cons pe_str (pa_cons pe_str (pa_cons pe_str (pa_cons pe_str (pa_cons pe_str pa_nil)))))))))
    (pss_one (ps_ret (pe_lst (pa_cons (pv 0) (pa_cons (pv 1) pa_nil)))))))))))), ?_⟩
  refine q_new hP (N := 150) (by trivial) fun s L1 G1 g1 f1 i1 r1 => ?_
  simp only [exists_and_left, exists_eq_left, List.cons_append, List.nil_append, List.append_nil] at r1; subst r1
  refine q_new g1.q (N := 150) (by trivial) fun s L2 G2 g2 f2 i2 r2 => ?_
  simp only [exists_and_left, exists_eq_left, List.cons_append, List.nil_append, List.append_nil] at r2; subst r2
  refine q_new g2.q (N := 150) (by trivial) fun f L3 G3 g3 f3 i3 r3 => ?_
  simp only [exists_and_left, exists_eq_left, List.cons_append, List.nil_append, List.append_nil] at r3; subst r3
  have i2 := i2.go g3
  refine q_new g3.q (N := 150) (by trivial) fun f L4 G4 g4 f4 i4 r4 => ?_
  simp only [exists_and_left, exists_eq_left, List.cons_append, List.nil_append, List.append_nil] at r4; subst r4
  have i2 := i2.go g4
  refine q_new g4.q (N := 150) (by trivial) fun f L5 G5 g5 f5 i5 r5 => ?_
  simp only [exists_and_left, exists_eq_left, List.cons_append, List.nil_append, List.append_nil] at r5; subst r5
  have i2 := i2.go g5
  refine q_new g5.q (N := 150) (by trivial) fun f L6 G6 g6 f6 i6 r6 => ?_
  simp only [exists_and_left, exists_eq_left, List.cons_append, List.nil_append, List.append_nil] at r6; subst r6
  have i2 := i2.go g6
  refine q_new g6.q (N := 150) (by trivial) fun f L7 G7 g7 f7 i7 r7 => ?_
  simp only [exists_and_left, exists_eq_left, List.cons_append, List.nil_append, List.append_nil] at r7; subst r7
  have i2 := i2.go g7
  refine ⟨_, rfl, _, rfl, (by show 2 ≤ sizeLine; decide), fun y n8 => ?_⟩
  generalize hN8 : L2.upd G7 y _ = G8
  have s8 := new_of n8 hN8
  have e8 := at_of hN8
  try dsimp only at e8
  clear hN8
  have g8 : Go K p a G7 G8 := ⟨Same.but s8, g7.q.same s8⟩
  exact q y s f G8 (((((((g1.trans g2).trans g3).trans g4).trans g5).trans g6).trans g7).trans g8) e8 ((i2.go g8).wide (by decide) (Nat.le_refl _)) ((i7.go g8).wide (by decide) (Nat.le_refl _))
end
end My
set_option Elab.async false
set_option linter.all false
set_option maxRecDepth 100000
set_option maxHeartbeats 4000000
/-! read(text) held against ("wrong", n, why) -/
namespace My
open PySem PySem.Spec PyProof.Rows L2 Wd
mutual
theorem dp_same {K : PySem.W.Frag} {H H' : Hp} (s : Same H H') : ∀ {v : V} {d : PyData}, Dp K H v d → Dp K H' v d
  | _, _, .non => .non
  | _, _, .bl b => .bl b
  | _, _, .int i => .int i
  | _, _, .str x => .str x
  | _, _, .lst h k => .lst (s.seq h) (dps_same s k)
  | _, _, .tup h k => .tup (sqT_same s h) (dps_same s k)
theorem dps_same {K : PySem.W.Frag} {H H' : Hp} (s : Same H H') : ∀ {vs : List V} {ds : List PyData}, DpAll K H vs ds → DpAll K H' vs ds
  | _, _, .nil => .nil
  | _, _, .cons h k => .cons (dp_same s h) (dps_same s k)
end
def wrongB (o : Out) (n : Nat) (why : List Nat) : Bool := match o with
  | .wrong m w => decide (m = n) && decide (w = why)
  | .tree _ => false
theorem wrong_of {o : Out} {n : Nat} {why : List Nat} (h : wrongB o n why = true) : o = .wrong n why := by
  cases o with
  | wrong m w =>
    have h : (decide (m = n) && decide (w = why)) = true := h
    obtain ⟨a, b⟩ := Bool.and_eq_true_iff.mp h
    rw [of_decide_eq_true a, of_decide_eq_true b]
  | tree t => exact absurd h (by simp [wrongB])
theorem bad_low {why bad : List Nat} (b : Bad why bad) : why.all (· < 128) = true := by
  rcases b.2 with ⟨e, _⟩ | ⟨e, _⟩ | ⟨e, _⟩
  · rw [e]; decide
  · rw [e]; decide
  · rw [e]; decide
theorem wr_low {Ls : List (List Nat)} {f : Nat} {why : List Nat} (h : Wr Ls f why) : why.all (· < 128) = true := by
  obtain ⟨pre, bad, post, _, _, _, b⟩ := h
  exact bad_low b
section
variable {K : PySem.W.Frag} {p a : Addr} {σ : L2.St} {H : Hp} {n : Nat} {R : List Nat → Prop} {t : TE} {u : TA} {E : XK} {Q : VK} {D : Ends} {tz tu : TS}
theorem rd_ne {m : Nat} {wy : List Nat} (q : PoolAt K H p a) (h : Tx K p a t σ H n R) (hn : ∀ l, R l → l.length ≤ n → l.length ≤ 100000) (ok : wy.all (· < 128) = true)
    (hu : ∀ H' (Q' : List V → Hp → Prop), Go K p a H H' → Q' [.str "wrong", .int (m : Nat), .str (tx wy)] H' → u σ H' Q')
    (k : ∀ b H', Go K p a H H' → ((∀ l, R l → readL 0 [] (linesOf l) = .wrong m wy) → b = false) → Q (.bl b) H') :
    tOp (rNeD K) (tCall (spReadD K) [] E (tCons t tNil)) (tTup u) σ H Q :=
  h H (Go.refl q) _ fun l H1 g1 r e1 => ⟨l, rfl, hn l r e1, fun tt d H2 s2 hd sd hw => by
    have g2 : Go K p a H H2 := g1.trans ⟨Same.but s2, g1.q.same s2⟩
    refine hu H2 _ g2 ⟨by show 3 ≤ sizeLine; decide, fun pp np => ?_⟩
    refine ⟨d, wrongD m (tx wy), dp_same (Same.new np) hd, .tup (SqT.of upd_same) (.cons (.str _) (.cons (.int _) (.cons (.str _) .nil))), sd, shaped_wrong (low_ok ok), k _ _ (g2.trans (Go.new g2.q np)) fun all => ?_⟩
    rw [hw m wy (all l r), eqv_wrong]
    simp⟩
theorem rd_eq {m : Nat} {wy : List Nat} (q : PoolAt K H p a) (h : Tx K p a t σ H n R) (hn : ∀ l, R l → l.length ≤ n → l.length ≤ 100000) (ok : wy.all (· < 128) = true)
    (hu : ∀ H' (Q' : List V → Hp → Prop), Go K p a H H' → Q' [.str "wrong", .int (m : Nat), .str (tx wy)] H' → u σ H' Q')
    (hR : ∀ l, R l → readL 0 [] (linesOf l) = .wrong m wy)
    (k : ∀ H', Go K p a H H' → Q (.bl true) H') :
    tOp (rEqD K) (tCall (spReadD K) [] E (tCons t tNil)) (tTup u) σ H Q :=
  h H (Go.refl q) _ fun l H1 g1 r e1 => ⟨l, rfl, hn l r e1, fun tt d H2 s2 hd sd hw => by
    have g2 : Go K p a H H2 := g1.trans ⟨Same.but s2, g1.q.same s2⟩
    refine hu H2 _ g2 ⟨by show 3 ≤ sizeLine; decide, fun pp np => ?_⟩
    refine ⟨d, wrongD m (tx wy), dp_same (Same.new np) hd, .tup (SqT.of upd_same) (.cons (.str _) (.cons (.int _) (.cons (.str _) .nil))), sd, shaped_wrong (low_ok ok), ?_⟩
    rw [hw m wy (hR l r), eqv_wrong, decide_eq_true rfl, decide_eq_true rfl]
    exact k _ (g2.trans (Go.new g2.q np))⟩
/-- if read(text) != (..): it is not -/
theorem s_rd {m : Nat} {wy : List Nat} (q : PoolAt K H p a) (h : Tx K p a t σ H n R) (hn : ∀ l, R l → l.length ≤ n → l.length ≤ 100000) (ok : wy.all (· < 128) = true)
    (hu : ∀ H' (Q' : List V → Hp → Prop), Go K p a H H' → Q' [.str "wrong", .int (m : Nat), .str (tx wy)] H' → u σ H' Q')
    (hR : ∀ l, R l → readL 0 [] (linesOf l) = .wrong m wy)
    (k : ∀ H', Go K p a H H' → D.nx σ H') :
    tIfS (tTest (tOp (rNeD K) (tCall (spReadD K) [] E (tCons t tNil)) (tTup u))) tu tNext D σ H :=
  rd_ne q h hn ok hu fun b H' g hb => by
    refine ⟨b, rfl, ?_⟩
    rw [hb hR]
    exact k H' g
theorem q_rd {m : Nat} {wy : List Nat} (q : PoolAt K H p a) (h : Tx K p a t σ H n R) (hn : ∀ l, R l → l.length ≤ n → l.length ≤ 100000) (ok : wy.all (· < 128) = true)
    (hu : ∀ H' (Q' : List V → Hp → Prop), Go K p a H H' → Q' [.str "wrong", .int (m : Nat), .str (tx wy)] H' → u σ H' Q')
    (hR : ∀ l, R l → readL 0 [] (linesOf l) = .wrong m wy)
    (k : ∀ H', Go K p a H H' → tz D σ H') :
    tSeq (tIfS (tTest (tOp (rNeD K) (tCall (spReadD K) [] E (tCons t tNil)) (tTup u))) tu tNext) tz D σ H := s_rd (D := { D with nx := tz D }) q h hn ok hu hR k
/-- the three parts of ("wrong", n, why), all told -/
theorem hu_c {m : Nat} {why : Str} : ∀ H' (Q' : List V → Hp → Prop), Go K p a H H' → Q' [.str "wrong", .int (m : Nat), .str (tx (cs why))] H' → tCons (tC (.str "wrong")) (tCons (tC (.int (m : Nat))) (tCons (tC (.str why)) tNil)) σ H' Q' := fun H' Q' _ q => by
  rw [cs_tx] at q
  exact q
end
end My
set_option Elab.async false
set_option linter.all false
set_option maxRecDepth 100000
set_option maxHeartbeats 4000000
/-! The law: texts with wrong lines -/
namespace My
open PySem PySem.Spec PyProof.Rows L2 Wd
local macro_rules
  | `(tactic| nofun) => `(tactic| (apply tup_at; nofun))
local macro_rules
  | `(tactic| nofun) => `(tactic| (apply seq_at; nofun))
local macro_rules
  | `(tactic| nofun) => `(tactic| (apply pool_same; assumption; nofun))
local macro_rules
  | `(tactic| nofun) => `(tactic| (apply but_get; assumption; assumption; nofun))
local macro_rules
  | `(tactic| nofun) => `(tactic| (apply off_get; assumption; assumption; nofun))
local macro_rules
  | `(tactic| nofun) => `(tactic| (apply same_get; assumption; nofun))
local macro_rules
  | `(tactic| nofun) => `(tactic| assumption)
local macro_rules
  | `(tactic| trivial) => `(tactic| ((with_reducible apply tx_joinK); (focus trivial); (focus decide +kernel); focus (first | decide | omega)))
local macro_rules
  | `(tactic| trivial) => `(tactic| ((with_reducible apply tx_num); (focus trivial); intro i hi; omega))
local macro_rules
  | `(tactic| trivial) => `(tactic| ((with_reducible apply tx_plus); (focus trivial); (focus trivial); focus (first | decide | omega)))
local macro_rules
  | `(tactic| trivial) => `(tactic| ((with_reducible apply ta_cons); (focus trivial); (focus trivial); focus (first | decide | omega)))
local macro_rules
  | `(tactic| trivial) => `(tactic| ((with_reducible apply lf_lst); (focus trivial); focus (first | decide | omega)))
local macro_rules
  | `(tactic| trivial) => `(tactic| ((with_reducible apply ls_lst); (focus trivial); focus (first | decide | omega)))
local macro_rules
  | `(tactic| trivial) => `(tactic| ((with_reducible apply lf_cat); (focus trivial); (focus trivial); focus (first | decide | omega)))
local macro_rules
  | `(tactic| trivial) => `(tactic| ((with_reducible apply it_drawC); (focus rfl); decide))
local macro_rules
  | `(tactic| trivial) => `(tactic| ((with_reducible apply it_drawV); (focus rfl); (focus rfl); omega))
local macro_rules
  | `(tactic| trivial) => `(tactic| ((with_reducible apply it_addc); (focus trivial)))
local macro_rules
  | `(tactic| trivial) => `(tactic| ((with_reducible apply it_opD); (focus trivial); (focus trivial)))
local macro_rules
  | `(tactic| trivial) => `(tactic| ((with_reducible apply bt_eq); (focus trivial)))
local macro_rules
  | `(tactic| trivial) => `(tactic| ((with_reducible apply be_eq); (focus trivial)))
local macro_rules
  | `(tactic| trivial) => `(tactic| ((with_reducible apply bt_gt); (focus trivial)))
local macro_rules
  | `(tactic| trivial) => `(tactic| ((with_reducible apply bt_var); rfl))
local macro_rules
  | `(tactic| trivial) => `(tactic| ((with_reducible apply tx_if); (focus trivial); (focus trivial); (focus trivial)))
local macro_rules
  | `(tactic| trivial) => `(tactic| ((with_reducible apply la_cons); (focus trivial); (focus trivial); (focus decide)))
local macro_rules
  | `(tactic| trivial) => `(tactic| with_reducible exact la_nil)
local macro_rules
  | `(tactic| trivial) => `(tactic| ((with_reducible apply ls_pick); (focus rfl); (focus trivial); (focus decide)))
local macro_rules
  | `(tactic| trivial) => `(tactic| ((with_reducible apply tx_c); decide +kernel))
local macro_rules
  | `(tactic| trivial) => `(tactic| with_reducible exact it_c)
local macro_rules
  | `(tactic| trivial) => `(tactic| with_reducible exact ta_nil)
local macro_rules
  | `(tactic| trivial) => `(tactic| ((with_reducible apply it_var); rfl))
local macro_rules
  | `(tactic| trivial) => `(tactic| ((with_reducible apply tx_var); (focus rfl); assumption))
local macro_rules
  | `(tactic| trivial) => `(tactic| ((with_reducible apply ls_var); (focus rfl); assumption))
local macro_rules
  | `(tactic| trivial) => `(tactic| ((with_reducible apply tx_ix0); (focus rfl); (focus assumption); (focus assumption)))
local macro_rules
  | `(tactic| trivial) => `(tactic| ((with_reducible apply tx_ix1); (focus rfl); (focus assumption); (focus assumption)))
local macro_rules
  | `(tactic| trivial) => `(tactic| ((with_reducible apply tx_ix2); (focus rfl); (focus assumption); (focus assumption)))
local macro_rules
  | `(tactic| trivial) => `(tactic| ((with_reducible apply ls_cat); (focus trivial); (focus trivial); (focus (first | decide | omega))))
local macro_rules
  | `(tactic| trivial) => `(tactic| ((with_reducible apply tx_pick2); (focus rfl); (focus decide +kernel); (focus decide +kernel)))
local macro_rules
  | `(tactic| trivial) => `(tactic| ((with_reducible apply tx_last); (focus rfl); (focus assumption); (focus assumption)))
local macro_rules
  | `(tactic| trivial) => `(tactic| ((with_reducible apply bt_and); (focus trivial); (focus trivial)))
local macro_rules
  | `(tactic| trivial) => `(tactic| ((with_reducible apply bt_ne); (focus rfl); (focus rfl)))
abbrev st_law : Stmt := topS 35
theorem sc_law : FnScope ["script", "pool", "signs", "forms", "trial", "lines", "wrong", "k", "place", "choice", "line", "reason", "more", "at", "first", "text"] ["script"] (defScope st_law) := ⟨rfl, rfl, rfl, by decide +kernel, rfl, by decide +kernel, by decide +kernel⟩
def spLaw (K : PySem.W.Frag) : Sp := fun vs H Q _ => ∃ (a : Addr) (ns : List Int), vs = [.ref a] ∧ Scr K H a ns ∧ ns.length ≤ 63 ∧ ∀ H', Q (.bl true) H'
abbrev KV := List (L2.Key × V)
def one (f : Nat) (why : List Nat) : L2.Key × V := (.inl (f : Int), .str (tx why))
/-- what is told of the wrong lines -/
def Fin (Ls : List (List Nat)) (kvs : KV) : Prop := ∃ (is : List Int) (f : Nat) (why : List Nat), kvs.map (·.1) = is.map Sum.inl ∧ (f : Int) ∈ is ∧ (∀ j ∈ is, (f : Int) ≤ j) ∧ valV kvs (.inl (f : Int)) = some (.str (tx why)) ∧ Wr Ls f why ∧
  (∀ v, valV kvs (.inl 1) = some v → ∃ y, v = .str (tx y) ∧ y.all (· < 128) = true) ∧ (valV kvs (.inl 1) = none → f ≠ 1)
theorem fin1 {Ls : List (List Nat)} {f : Nat} {why : List Nat} (h : Wr Ls f why) : Fin Ls [one f why] := by
  refine ⟨[(f : Int)], f, why, rfl, by simp, fun j hj => by simp at hj; omega, valV_pos rfl, h, fun v hv => ?_, fun hv => ?_⟩
  · by_cases e : (one f why).1 = Sum.inl 1
    · rw [valV_pos e] at hv
      exact ⟨why, (Option.some.inj hv).symm, wr_low h⟩
    · rw [valV_neg e] at hv
      cases hv
  · intro e
    subst e
    have hv : valV [one 1 why] (one 1 why).1 = none := hv
    rw [valV_pos rfl] at hv
    cases hv
theorem fin2 {Ls : List (List Nat)} {f g : Nat} {why y2 : List Nat} (h : Wr Ls f why) (l : f < g) : Fin Ls [one f why, one g y2] ∧ Fin Ls [one g y2, one f why] := by
  have ne : ¬ (one g y2).1 = Sum.inl (f : Int) := fun z => by
    have : (g : Int) = (f : Int) := Sum.inl.inj z
    omega
  have pos := (wr_len h).2.2
  have ng : ¬ (one g y2).1 = Sum.inl 1 := fun z => by
    have : (g : Int) = 1 := Sum.inl.inj z
    omega
  refine ⟨⟨[(f : Int), (g : Int)], f, why, rfl, by simp, fun j hj => by simp at hj; omega, valV_pos rfl, h, fun v hv => ?_, fun hv => ?_⟩, ⟨[(g : Int), (f : Int)], f, why, rfl, by simp, fun j hj => by simp at hj; omega, by rw [valV_neg ne]; exact valV_pos rfl, h, fun v hv => ?_, fun hv => ?_⟩⟩
  · by_cases e : (one f why).1 = Sum.inl 1
    · rw [valV_pos e] at hv
      exact ⟨why, (Option.some.inj hv).symm, wr_low h⟩
    · rw [valV_neg e, valV_neg ng] at hv
      cases hv
  · intro e
    subst e
    have hv : valV [one 1 why, one g y2] (one 1 why).1 = none := hv
    rw [valV_pos rfl] at hv
    cases hv
  · rw [valV_neg ng] at hv
    by_cases e : (one f why).1 = Sum.inl 1
    · rw [valV_pos e] at hv
      exact ⟨why, (Option.some.inj hv).symm, wr_low h⟩
    · rw [valV_neg e] at hv
      cases hv
  · intro e
    subst e
    rw [valV_neg ng] at hv
    have hv : valV [one 1 why] (one 1 why).1 = none := hv
    rw [valV_pos rfl] at hv
    cases hv
/-- the state behind i wrong lines -/
def Stt (i : Nat) (Ls : List (List Nat)) (kvs : KV) : Prop := (i = 0 ∧ kvs = [] ∧ GoodLs Ls) ∨ (i = 1 ∧ ∃ f why, kvs = [one f why] ∧ Wr Ls f why) ∨ (i = 2 ∧ Fin Ls kvs)
/-- keys behind a line put in -/
def shiftK (p : Nat) (kv : L2.Key × V) : L2.Key × V := match kv.1 with
  | .inl j => (.inl (if (p : Int) ≤ j then j + 1 else j), kv.2)
  | .inr _ => kv
theorem stt_next {i p : Nat} {Ls : List (List Nat)} {kvs : KV} {bad why : List Nat} (h : Stt i Ls kvs) (hi : i < 2) (p1 : 1 ≤ p) (p2 : p ≤ Ls.length) (b : Bad why bad) : Stt (i + 1) (Ls.take p ++ [bad] ++ Ls.drop p) (putK (kvs.map (shiftK p)) (.inl (p : Int)) (.str (tx why))) := by
  rcases h with ⟨rfl, rfl, g⟩ | ⟨rfl, f, y, rfl, hw⟩ | ⟨rfl, _⟩
  · exact .inr (.inl ⟨rfl, p, why, rfl, wr_first g p1 p2 b⟩)
  · refine .inr (.inr ⟨rfl, ?_⟩)
    by_cases c : p ≤ f
    · have e : putK ([one f y].map (shiftK p)) (.inl (p : Int)) (.str (tx why)) = [one (f + 1) y, one p why] := by
        have s : shiftK p (one f y) = one (f + 1) y := by
          show ((Sum.inl (if (p : Int) ≤ (f : Int) then (f : Int) + 1 else f) : L2.Key), _) = _
          rw [if_pos (by omega)]
          rfl
        rw [List.map_cons, s, List.map_nil]
        unfold putK
        rw [if_neg]
        · rfl
        · have : ((f + 1 : Nat) : Int) ≠ (p : Int) := by omega
          simp only [List.any_cons, List.any_nil, Bool.or_false, decide_eq_true_eq]
          exact fun z => this (Sum.inl.inj z)
      rw [e]
      exact (fin2 (wr_before hw p1 c b) (by omega)).2
    · have e : putK ([one f y].map (shiftK p)) (.inl (p : Int)) (.str (tx why)) = [one f y, one p why] := by
        have s : shiftK p (one f y) = one f y := by
          show ((Sum.inl (if (p : Int) ≤ (f : Int) then (f : Int) + 1 else f) : L2.Key), _) = _
          rw [if_neg (by omega)]
          rfl
        rw [List.map_cons, s, List.map_nil]
        unfold putK
        rw [if_neg]
        · rfl
        · have : (f : Int) ≠ (p : Int) := by omega
          simp only [List.any_cons, List.any_nil, Bool.or_false, decide_eq_true_eq]
          exact fun z => this (Sum.inl.inj z)
      rw [e]
      exact (fin2 (wr_after hw (by omega)) (by omega)).1
  · omega
theorem stt_fin {i : Nat} {Ls : List (List Nat)} {kvs : KV} (h : Stt i Ls kvs) (hi : 1 ≤ i) : Fin Ls kvs := by
  rcases h with ⟨rfl, _⟩ | ⟨rfl, f, y, rfl, hw⟩ | ⟨rfl, h⟩
  · omega
  · exact fin1 hw
  · exact h
theorem stt_few {i : Nat} {Ls : List (List Nat)} {kvs : KV} (h : Stt i Ls kvs) (hi : i < 2) : kvs.length ≤ 1 := by
  rcases h with ⟨rfl, rfl, _⟩ | ⟨rfl, f, y, rfl, hw⟩ | ⟨rfl, h⟩
  · exact Nat.zero_le _
  · exact Nat.le_refl _
  · omega
theorem stt_pos {i : Nat} {Ls : List (List Nat)} {kvs : KV} (h : Stt i Ls kvs) : 1 ≤ Ls.length := by
  rcases h with ⟨rfl, _, g, r, rfl, _⟩ | ⟨rfl, f, y, _, hw⟩ | ⟨rfl, is, f, why, _, _, _, _, hw, _⟩
  · simp
  · have := wr_len hw; omega
  · have := wr_len hw; omega
theorem lines_join {Ls : List (List Nat)} (ne : Ls ≠ []) (h : ∀ l ∈ Ls, plainB l = true) : linesOf (TL.joinL [10] Ls) = Ls := TL.spl_join ne fun l hl => (plain_of (h l hl)).1
theorem len_join {Ls : List (List Nat)} (h : ∀ l ∈ Ls, plainB l = true) : (TL.joinL [10] Ls).length ≤ Ls.length * 151 := join_len fun l hl => (plain_of (h l hl)).2
theorem plain_put {Ls : List (List Nat)} {bad : List Nat} {p : Nat} (h : ∀ l ∈ Ls, plainB l = true) (b : plainB bad = true) : ∀ l ∈ Ls.take p ++ [bad] ++ Ls.drop p, plainB l = true := fun l hl => by
  rcases List.mem_append.mp hl with hl | hl
  · rcases List.mem_append.mp hl with hl | hl
    · exact h l (List.mem_of_mem_take hl)
    · rw [List.mem_singleton.mp hl]; exact b
  · exact h l (List.mem_of_mem_drop hl)
theorem tx_varS {K : PySem.W.Frag} {p a : Addr} {σ : L2.St} {H : Hp} {n i : Nat} {s : Str} (h : σ[i]? = some (some (.str s))) (e : s.length ≤ n) : Tx K p a (tVar i) σ H n (fun z => z = cs s) := tx_var (by rw [cs_tx]; exact h) (by rw [← tx_len, cs_tx]; exact e)
theorem four {i : Nat} {x : V} (h : ([.str (Str.ofString ""), .str (Str.ofString "\n"), .str (Str.ofString "-- nothing"), .str (Str.ofString "  \n --\n")] : List V)[i]? = some x) : ∃ s : Str, x = .str s ∧ s.length ≤ 150 ∧ wrongB (readL 0 [] (linesOf (cs s))) 1 (cs "game") = true := by
  match i, h with
  | 0, h => cases h; exact ⟨_, rfl, by decide +kernel, by decide +kernel⟩
  | 1, h => cases h; exact ⟨_, rfl, by decide +kernel, by decide +kernel⟩
  | 2, h => cases h; exact ⟨_, rfl, by decide +kernel, by decide +kernel⟩
  | 3, h => cases h; exact ⟨_, rfl, by decide +kernel, by decide +kernel⟩
  | n + 4, h => cases h
structure Defs (P : Program) (w : World) (K : PySem.W.Frag) (mg : Str → Option Value) (base : Heap) : Prop where
  D_law_pool : Def P w K mg base 3 "_law_pool" ["script"] (spPool K)
  D_law_next : Def P w K mg base 3 "_law_next" ["pool"] (spNext K)
  D_law_draw : Def P w K mg base 3 "_law_draw" ["pool", "limit"] (spDraw K)
  D_law_pick : Def P w K mg base 4 "_law_pick" ["pool", "options"] (spPick K)
  D_law_wrongs : Def P w K mg base 1 "_law_wrongs" [] (spWrongs K)
  D_law_game : Def P w K mg base 6 "_law_game" ["pool"] (spGame K GameG)
  D_read : Def P w K mg base 10 "read" ["text"] (spReadD K)
section
variable {P : Program} {w : World} {K : PySem.W.Frag} {mg : Str → Option Value} {base : Heap}
theorem ok_law (T : Top K mg "law" st_law ["script"]) (F : Defs P w K mg base) (z_range : mg "range" = none) (z_len : mg "len" = none) (z_min : mg "min" = none) : Def P w K mg base 11 "law" ["script"] (spLaw K) := by
  have ⟨D_law_pool, D_law_next, D_law_draw, D_law_pick, D_law_wrongs, D_law_game, D_read⟩ := F
  refine T.ok sc_law (fun vs H Q E h => ?_) (fun f cdv A outer s H vs Q E hr h => ?_)
  · obtain ⟨a, ns, rfl, _⟩ := h
    rfl
  obtain ⟨a, ns, rfl, hC, hl, q⟩ := h
  have big : ∀ {n : Nat}, n ≤ 900000 → n ≤ sizeLine := fun h => Nat.le_trans h (by decide)
  have hu := hu_of hr
  refine ⟨_, (pss_cons (ps_set (i := 1) sc_law.nd rfl (Or.inl rfl) (pe_def D_law_pool (hr.mono (by decide)) rfl (pa_cons (pv 0) pa_nil)))
    (pss_cons (ps_asg (pe_def0 D_law_wrongs (hr.mono (by decide)) rfl) (pg_lst rfl (pgs_cons (pg_name (i := 2) sc_law.nd rfl (Or.inl rfl)) (pgs_cons (pg_name (i := 3) sc_law.nd rfl (Or.inl rfl)) pgs_nil))))
    (pss_cons (ps_for PassesOwn.never rfl (pi_range1 rfl z_range (pa_cons pe_int pa_nil)) (pg_name (i := 4) sc_law.nd rfl (Or.inl rfl))
    (pss_cons (ps_expr (pe_def D_law_next (hr.mono (by decide)) rfl (pa_cons (pv 1) pa_nil)))
      (pss_cons (ps_set (i := 5) sc_law.nd rfl (Or.inl rfl) (pe_def D_law_game (hr.mono (by decide)) rfl (pa_cons (pv 1) pa_nil)))
      (pss_cons (ps_set (i := 6) sc_law.nd rfl (Or.inl rfl) pe_dnewK)
      (pss_cons (ps_for PassesOwn.never rfl (pi_range1 rfl z_range (pa_cons (pe_op op_add pe_int (pe_def D_law_draw (hr.mono (by decide)) rfl (pa_cons (pv 1) (pa_cons pe_int pa_nil)))) pa_nil)) (pg_name (i := 7) sc_law.nd rfl (Or.inl rfl))
      (pss_cons (ps_set (i := 8) sc_law.nd rfl (Or.inl rfl) (pe_op op_add pe_int (pe_def D_law_draw (hr.mono (by decide)) rfl (pa_cons (pv 1) (pa_cons (pe_callB (lenQ K) rfl z_len (by decide +kernel) (pa_cons (pv 5) pa_nil)) pa_nil)))))
        (pss_cons (ps_set (i := 9) sc_law.nd rfl (Or.inl rfl) (pe_def D_law_draw (hr.mono (by decide)) rfl (pa_cons (pv 1) (pa_cons pe_int pa_nil))))
        (Evl.pss_cut (ps_if (pt_cmpR op_lt (pv 9) pe_int (nomark _))
        (pss_one (ps_par (i := 10) (j := 11) rfl sc_law.nd rfl rfl (by decide) rfl rfl (pa_cons (pe_def D_law_pick (hr.mono (by decide)) rfl (pa_cons (pv 1) (pa_cons (pv 2) pa_nil))) (pa_cons pe_str pa_nil)) rfl))
        (pss_one (ps_if (pt_cmpR op_lt (pv 9) pe_int (nomark _))
          (pss_one (ps_par (i := 10) (j := 11) rfl sc_law.nd rfl rfl (by decide) rfl rfl (pa_cons (pe_def D_law_pick (hr.mono (by decide)) rfl (pa_cons (pv 1) (pa_cons (pv 3) pa_nil))) (pa_cons pe_str pa_nil)) rfl))
          (pss_one (ps_asg (pe_tup (pa_cons pe_str (pa_cons pe_str pa_nil))) (pg_tup rfl (pgs_cons (pg_name (i := 10) sc_law.nd rfl (Or.inl rfl)) (pgs_cons (pg_name (i := 11) sc_law.nd rfl (Or.inl rfl)) pgs_nil))))))))
        (pss_cons (ps_set (i := 5) sc_law.nd rfl (Or.inl rfl) (pe_op op_cat (pe_op op_cat (pe_slice (slL K) (pv 5) po_none (po_some (pv 8))) (pe_lst (pa_cons (pv 10) pa_nil))) (pe_slice (slL K) (pv 5) (po_some (pv 8)) po_none)))
        (pss_cons (ps_set (i := 12) sc_law.nd rfl (Or.inl rfl) pe_dnewK)
        (pss_cons (ps_lock (ps_for PassesOwn.never rfl (pi_keys (pv 6)) (pg_name (i := 13) sc_law.nd rfl (Or.inl rfl))
        (pss_one (ps_dput hu (pv 12) (pe_ifExp (pt_cmpR op_ge (pv 13) (pv 8) (nomark _)) (pe_op op_add (pv 13) pe_int) (pv 13)) (pe_dget hu (pv 6) (pv 13) (fun _ _ => rfl)) rfl))))
        (pss_cons (ps_dput hu (pv 12) (pv 8) (pv 11) rfl)
        (pss_one (ps_set (i := 6) sc_law.nd rfl (Or.inl rfl) (pv 12)))))))))))
      (pss_cons (ps_set (i := 14) sc_law.nd rfl (Or.inl rfl) (pe_callB (cr_minK rfl) rfl z_min (by decide +kernel) (pa_cons (pv 6) pa_nil)))
      (pss_cons (ps_if (pt_cmpR (neQ K hr.units) (pe_def D_read (hr.mono (by decide)) rfl (pa_cons (pe_K (K := K) rfl (pe_bm PySem.F.plainAttrs_str PySem.F.slot_str_join PySem.F.type_str_join (joinQ K) pe_str (pa_cons (pv 5) pa_nil))) pa_nil)) (pe_tup (pa_cons pe_str (pa_cons (pe_op op_add (pv 14) pe_int) (pa_cons (pe_dget hu (pv 6) (pv 14) (fun _ _ => rfl)) pa_nil)))) (nomark _))
      (pss_one (ps_ret pe_bl))
      pss_nil)
      (pss_one (ps_if (PW.pt (pw_and (pt_cmpR (neQ K hr.units) (pe_def D_read (hr.mono (by decide)) rfl (pa_cons (pe_op op_add_str pe_str (pe_K (K := K) rfl (pe_bm PySem.F.plainAttrs_str PySem.F.slot_str_join PySem.F.type_str_join (joinQ K) pe_str (pa_cons (pe_slice (slL K) (pv 5) (po_some pe_int) po_none) pa_nil)))) pa_nil)) (pe_tup (pa_cons pe_str (pa_cons pe_int (pa_cons (pe_ifExp (PW.pt (pw_and (pt_cmp (pc_din hu pe_int (pv 6))) (pw_and1 (pt_cmpR op_ne (pe_dget hu (pv 6) pe_int (fun _ _ => rfl)) pe_str (nomark _))))) (pe_dget hu (pv 6) pe_int (fun _ _ => rfl)) pe_str) pa_nil)))) (nomark _)) (pw_and1 (pt_cmp (pc_dnotin hu pe_int (pv 6))))))
      (pss_one (ps_ret pe_bl))
      pss_nil)))))))))
    (pss_cons (ps_for PassesOwn.never rfl (pi_K (K := K) rfl (pi_list (pe_lst (pa_cons pe_str (pa_cons pe_str (pa_cons pe_str (pa_cons pe_str pa_nil))))))) (pg_name (i := 15) sc_law.nd rfl (Or.inl rfl))
    (pss_one (ps_if (pt_cmpR (neQ K hr.units) (pe_def D_read (hr.mono (by decide)) rfl (pa_cons (pv 15) pa_nil)) (pe_tup (pa_cons pe_str (pa_cons pe_int (pa_cons pe_str pa_nil)))) (nomark _))
      (pss_one (ps_ret pe_bl))
      pss_nil)))
    (pss_one (ps_ret (pe_and (pe_cmpR (eqQ K hr.units) (pe_def D_read (hr.mono (by decide)) rfl (pa_cons pe_str pa_nil)) (pe_tup (pa_cons pe_str (pa_cons pe_int (pa_cons pe_str pa_nil)))) (nomark _)) (pe_and (pe_cmpR (eqQ K hr.units) (pe_def D_read (hr.mono (by decide)) rfl (pa_cons pe_str pa_nil)) (pe_tup (pa_cons pe_str (pa_cons pe_int (pa_cons pe_str pa_nil)))) (nomark _)) (pe_one (pe_cmpR (eqQ K hr.units) (pe_def D_read (hr.mono (by decide)) rfl (pa_cons pe_str pa_nil)) (pe_tup (pa_cons pe_str (pa_cons pe_int (pa_cons pe_str pa_nil)))) (nomark _))))))))))), ?_⟩
  refine ⟨.ref a, rfl, a, ns, rfl, hC, hl, fun p H0 np o0 hP0 => ?_⟩
  refine ⟨rfl, p, a, hP0, fun y s f G1 g1 ey is_ if_ => ?_⟩
  refine ⟨y, _, rfl, SqL.of ey, rfl, _, _, rfl, _, _, rfl, rfl, ?_⟩
  have e10 : cs "\n" = [10] := by decide +kernel
  refine q_forR g1.q it_c (fun i hi => by omega) (fun _ i σ G => ∃ x4 x5 x6 x7 x8 x9 x10 x11 x12 x13 x14, σ = [some (.ref a), some (.ref p), some (.ref s), some (.ref f), x4, x5, x6, x7, x8, x9, x10, x11, x12, x13, x14, none] ∧ PoolAt K G p a ∧ Is p G s 13 150 signsL ∧ Is p G f 40 150 formsL)
    (fun _ G _ g => ⟨none, none, none, none, none, none, none, none, none, none, none, rfl, g.q, is_.go g, if_.go g⟩) ?_ ?_
  · rintro kk i σ G ekk hi ⟨x4, x5, x6, x7, x8, x9, x10, x11, x12, x13, x14, rfl, PG, is1, if1⟩
    refine ⟨.ref p, rfl, p, a, rfl, PG, fun G2 o2 P2 => ?_⟩
    have g2 : Go K p a G G2 := ⟨Off.but o2, P2⟩
    refine ⟨.ref p, rfl, p, a, rfl, P2, fun lx G3 ls g3 n3 np3 e3 l3 gg => ?_⟩
    have gl := gameG_good gg
    refine fun d n4 => ?_
    generalize hN4 : L2.upd G3 d _ = G4
    have s4 := new_of n4 hN4
    have e4 := at_of hN4
    try dsimp only at e4
    clear hN4
    have g4 : Go K p a G3 G4 := ⟨Same.but s4, g3.q.same s4⟩
    have i4 : Is p G4 lx 402 150 ls := ⟨np3, s4 _ _ e3, by omega, fun l hl => (plain_of (gl.plain l hl)).2⟩
    have g24 := (g2.trans g3).trans g4
    refine q_forR g4.q (it_addc (it_drawC rfl (by decide))) (fun i hi => by omega) (fun _ i σ G => ∃ x4 x7 x8 x9 x10 x11 x12 x13 x14 Ls kvs lx d, σ = [some (.ref a), some (.ref p), some (.ref s), some (.ref f), x4, some (.ref lx), some (.ref d), x7, x8, x9, x10, x11, x12, x13, x14, none] ∧ PoolAt K G p a ∧ Is p G s 13 150 signsL ∧ Is p G f 40 150 formsL ∧
      Is p G lx 402 150 Ls ∧ Ls.length ≤ 400 + i ∧ d ≠ p ∧ G d = some (.dK kvs) ∧ Stt i Ls kvs ∧ ∀ l ∈ Ls, plainB l = true)
      (fun _ G5 _ g5 => ⟨_, x7, x8, x9, x10, x11, x12, x13, x14, ls, [], lx, d, rfl, g5.q, is1.go (g24.trans g5), if1.go (g24.trans g5), i4.go g5, by omega, g3.q.ne n4, g5.b _ _ (g3.q.ne n4) e4, .inl ⟨rfl, rfl, gl⟩, gl.plain⟩) ?_ ?_
    · rintro k' j σ G ek' hj ⟨x4, x7, x8, x9, x10, x11, x12, x13, x14, Ls, kvs, lx, d, rfl, PG, is2, if2, il, lL, nd, ed, st, pl⟩
      have j2 : j < 2 := by omega
      have lpos := stt_pos st
      refine q_it PG (it_addc (it_draw rfl (it_len rfl il) (fun i hi => by omega))) fun z G1 g1 hz => ?_
      obtain ⟨_, rfl, z0, z1⟩ := hz
      obtain ⟨z, rfl⟩ := Int.eq_ofNat_of_zero_le (show 0 ≤ z by omega)
      have z12 : 1 ≤ z ∧ z ≤ Ls.length := by omega
      refine q_it g1.q (it_drawC rfl (by decide)) fun ch G2 g2 hch => ?_
      have g12 := g1.trans g2
      refine ⟨fun σ G' => ∃ bad why, σ = [some (.ref a), some (.ref p), some (.ref s), some (.ref f), x4, some (.ref lx), some (.ref d), some (.int (j : Nat)), some (.int (z : Nat)), some (.int ch), some (.str (tx bad)), some (.str (tx why)), x12, x13, x14, none] ∧ Go K p a G G' ∧ Bad why bad, ?_, ?_⟩
      · refine s_ifB g2.q (bt_lt (it_var rfl)) (fun G3 g3 _ => ?_) (fun G3 g3 _ => s_ifB g3.q (bt_lt (it_var rfl)) (fun G4 g4 _ => ?_) (fun G4 g4 _ => ?_))
        · have i3 := is2.go (g12.trans g3)
          refine ⟨.ref p, rfl, .ref s, rfl, p, a, s, txs signsL, rfl, g3.q, i3.sq, i3.np, by rw [txs_len]; decide, by rw [txs_len]; exact Nat.le_trans i3.few (by decide), fun v G5 hv o5 P5 => ⟨_, _, rfl, ?_⟩⟩
          obtain ⟨l, hl, rfl⟩ := txs_mem hv
          exact ⟨l, s_sign, by rw [show tx s_sign = Str.ofString "sign" by decide +kernel]; rfl, (g12.trans g3).trans ⟨Off.but o5, P5⟩, bad_sign hl⟩
        · have i3 := if2.go ((g12.trans g3).trans g4)
          refine ⟨.ref p, rfl, .ref f, rfl, p, a, f, txs formsL, rfl, g4.q, i3.sq, i3.np, by rw [txs_len]; decide, by rw [txs_len]; exact Nat.le_trans i3.few (by decide), fun v G5 hv o5 P5 => ⟨_, _, rfl, ?_⟩⟩
          obtain ⟨l, hl, rfl⟩ := txs_mem hv
          exact ⟨l, s_form, by rw [show tx s_form = Str.ofString "form" by decide +kernel]; rfl, ((g12.trans g3).trans g4).trans ⟨Off.but o5, P5⟩, bad_form hl⟩
        · refine ⟨(by show 2 ≤ sizeLine; decide), fun t nt => ⟨t, _, rfl, SqT.of upd_same, rfl, _, _, rfl, _, _, rfl, rfl, ?_⟩⟩
          exact ⟨cs "game other", s_game, by rw [show tx s_game = Str.ofString "game" by decide +kernel, cs_tx]; rfl, ((g12.trans g3).trans g4).trans (Go.new g4.q nt), bad_game⟩
      rintro σ G3 ⟨bad, why, rfl, g3, hb⟩
      have il3 := il.go g3
      have lb := (plain_of hb.1).2
      refine q_new g3.q (lf_cat (ls_cat (ls_lo rfl rfl il3) (ls_lst (ta_cons (tx_var rfl lb) ta_nil (by decide)) (by decide)) (by decide)) (ls_hi rfl rfl il3) (by decide)) fun ly Lx G4 g4 f4 i4 r4 => ?_
      obtain ⟨_, _, ⟨_, _, rfl, ⟨bad, _, rfl, rfl, rfl⟩, rfl⟩, rfl, rfl⟩ := r4
      have len4 : (Ls.take z ++ [bad] ++ Ls.drop z).length = Ls.length + 1 := by
        rw [List.length_append, List.length_append, List.length_take, List.length_drop]
        show min z Ls.length + 1 + _ = _
        omega
      have i4 : Is p G4 ly 402 150 (Ls.take z ++ [bad] ++ Ls.drop z) := ⟨i4.np, i4.at_, by rw [len4]; omega, i4.short⟩
      have g34 := g3.trans g4
      have ed4 := g34.b _ _ nd ed
      refine fun m n5 => ?_
      generalize hN5 : L2.upd G4 m _ = G5
      have s5 := new_of n5 hN5
      have e5 := at_of hN5
      try dsimp only at e5
      clear hN5
      have nmd : m ≠ d := fun z => by rw [z, ed4] at n5; cases n5
      have ed5 := s5 _ _ ed4
      refine ⟨d, .dK kvs, ed5, trivial, fun od => ?_⟩
      refine ⟨.ref d, rfl, d, od, rfl, .inl ⟨kvs, upd_same, for_keys (d := d) (o := od) (fun i σ H' => ∃ x13, σ = [some (.ref a), some (.ref p), some (.ref s), some (.ref f), x4, some (.ref ly), some (.ref d), some (.int (j : Nat)), some (.int (z : Nat)), some (.int ch), some (.str (tx bad)), some (.str (tx why)), some (.ref m), x13, x14, none] ∧
        But m (upd G5 d (.frz od (.dK kvs))) H' ∧ H' m = some (.dK ((kvs.take i).map (shiftK z)))) ⟨x13, rfl, But.refl _, (upd_ne nmd).trans e5⟩ (fun i σ H' ⟨x, _, sm, _⟩ => sm _ _ (Ne.symm nmd) upd_same) ?_ ?_⟩⟩
      · rintro i key v σ H' hk ⟨x13, rfl, bt, em⟩
        have few := stt_few st j2
        have i0 : i = 0 := by have := (List.getElem?_eq_some_iff.mp hk).1; omega
        subst i0
        have st1 : ∃ f y, kvs = [one f y] := by
          rcases st with ⟨_, rfl, _⟩ | ⟨_, f, y, rfl, _⟩ | ⟨rfl, _⟩
          · cases hk
          · exact ⟨f, y, rfl⟩
          · omega
        obtain ⟨f0, y0, rfl⟩ := st1
        cases hk
        have fz : H' d = some (.frz od (.dK [one f0 y0])) := bt _ _ (Ne.symm nmd) upd_same
        refine ⟨.ref d, rfl, .int (f0 : Nat), rfl, d, .str (tx y0), rfl, .inl ⟨[one f0 y0], .inl (f0 : Int), .inr ⟨od, fz⟩, rfl, (valV_pos (p := one f0 y0) (r := []) (k := .inl (f0 : Int)) rfl).symm⟩, ?_⟩
        refine ⟨.ref m, rfl, ?_⟩
        refine ⟨.int (f0 : Nat), rfl, .int (z : Nat), rfl, _, _, rfl, rfl, _, rfl, ?_⟩
        have em : H' m = some (.dK []) := em
        by_cases c : (z : Int) ≤ (f0 : Int)
        · rw [decide_eq_true c]
          refine ⟨.int (f0 : Nat), rfl, _, _, rfl, rfl, m, _, rfl, DPut.k (k := .inl ((f0 : Int) + 1)) em (by decide), ?_⟩
          refine ⟨_, rfl, bt.trans (Off.but Off.upd), ?_⟩
          rw [upd_same]
          show _ = some (HO.dK [(Sum.inl (if (z : Int) ≤ (f0 : Int) then (f0 : Int) + 1 else f0), _)])
          rw [if_pos c]
          rfl
        · rw [decide_eq_false c]
          refine ⟨.int (f0 : Nat), rfl, m, _, rfl, DPut.k (k := .inl (f0 : Int)) em (by decide), ?_⟩
          refine ⟨_, rfl, bt.trans (Off.but Off.upd), ?_⟩
          rw [upd_same]
          show _ = some (HO.dK [(Sum.inl (if (z : Int) ≤ (f0 : Int) then (f0 : Int) + 1 else f0), _)])
          rw [if_neg c]
          rfl
      · rintro σ H' ⟨x13, rfl, bt, em⟩
        refine ⟨bt _ _ (Ne.symm nmd) upd_same, ?_⟩
        rw [List.take_length] at em
        have few := stt_few st j2
        refine ⟨.str (tx why), rfl, .ref m, rfl, .int (z : Nat), rfl, m, _, rfl, DPut.k (k := .inl (z : Int)) ((upd_ne nmd).trans em) (by rw [List.length_map]; exact Nat.lt_of_le_of_lt few (by decide)), ?_⟩
        refine ⟨.ref m, rfl, ?_⟩
        generalize hF : upd (upd H' d (.dK kvs)) m (.dK (putK (kvs.map (shiftK z)) (.inl (z : Int)) (.str (tx why)))) = HF
        have em : HF m = some (.dK (putK (kvs.map (shiftK z)) (.inl (z : Int)) (.str (tx why)))) := by rw [← hF]; exact upd_same
        have sF : Same G4 HF := fun b o hb => by
          have nb : b ≠ m := fun z => by rw [z, n5] at hb; cases hb
          rw [← hF, upd_ne nb]
          by_cases bd : b = d
          · rw [bd] at hb ⊢
            rw [upd_same]
            exact ed4.symm.trans hb
          · rw [upd_ne bd]
            exact bt _ _ nb ((upd_ne bd).trans (s5 _ _ hb))
        have gF : Go K p a G4 HF := ⟨Same.but sF, g4.q.same sF⟩
        have gG := g34.trans gF
        exact ⟨x4, _, _, _, _, _, _, x13, x14, _, _, ly, m, rfl, gF.q, is2.go gG, if2.go gG, i4.go gF, by rw [len4]; omega, g4.q.ne n5, em, stt_next st j2 z12.1 z12.2 hb, plain_put pl hb.1⟩
    · rintro k' σ G ek' ⟨x4, x7, x8, x9, x10, x11, x12, x13, x14, Ls, kvs, lx, d, rfl, PG, is2, if2, il, lL, nd, ed, st, pl⟩
      obtain ⟨is, fN, why, ek, fi, fmin, fv, fw, v1, n1⟩ := stt_fin st (by omega)
      have lpos := stt_pos st
      have ne : Ls ≠ [] := fun z => by rw [z] at lpos; cases lpos
      refine ⟨.ref d, rfl, d, kvs, is, rfl, ed, ek, List.ne_nil_of_mem fi, fun m hm hmin => ?_⟩
      obtain rfl : m = (fN : Int) := Int.le_antisymm (hmin _ fi) (fmin m hm)
      refine q_rd (E := E0) (m := fN + 1) (wy := why) PG (tx_joinK (ls_var rfl il) (by decide +kernel) (by decide)) (fun l ⟨ls, e1, e2⟩ _ => ?_) (wr_low fw) (fun H' Q' g q => ?_) (fun l ⟨ls, e1, e2⟩ => ?_) (fun G2 g2 => ?_)
      · rw [e2, e1, e10]
        have := len_join pl
        have := il.few
        omega
      · exact ⟨.int (fN : Nat), rfl, _, _, rfl, rfl, .ref d, rfl, .int (fN : Nat), rfl, d, .str (tx why), rfl, .inl ⟨kvs, .inl (fN : Int), .inl (g.b _ _ nd ed), rfl, fv.symm⟩, q⟩
      · rw [e2, e1, e10, lines_join ne pl]
        exact wr_read fw
      have il2 := il.go g2
      have ed2 := g2.b _ _ nd ed
      have e10b : cs "\n\n" = [10, 10] := by decide +kernel
      have e2l : ∀ l : List Nat, (∃ x y, x = cs "\n\n" ∧ (∃ ls, ls = Ls.drop 1 ∧ y = TL.joinL (cs "\n") ls) ∧ l = x ++ y) → l = TL.joinL [10] ([] :: [] :: Ls.drop 1) := fun l ⟨x, y, e1, ⟨ls, e2, e3⟩, e4⟩ => by
        have hd : Ls.drop 1 ≠ [] := fun z => by
          have := (wr_len fw).1
          have z := congrArg List.length z
          rw [List.length_drop] at z
          exact absurd z (by show ¬ Ls.length - 1 = 0; omega)
        rw [e4, e1, e3, e2, e10, e10b]
        cases e : Ls.drop 1 with
        | nil => exact absurd e hd
        | cons u us => rfl
      have p2 : ∀ l ∈ ([] :: [] :: Ls.drop 1 : List (List Nat)), plainB l = true := fun l hl => by
        rcases List.mem_cons.mp hl with rfl | hl
        · decide
        rcases List.mem_cons.mp hl with rfl | hl
        · decide
        exact pl l (List.mem_of_mem_drop hl)
      have l2 : ∀ l, l = TL.joinL [10] ([] :: [] :: Ls.drop 1) → l.length ≤ 100000 := fun l e => by
        rw [e]
        have := len_join p2
        have := il.few
        have : ([] :: [] :: Ls.drop 1 : List (List Nat)).length = Ls.length - 1 + 2 := by simp
        omega
      have eg : tx s_game = Str.ofString "game" := by decide +kernel
      cases e1 : valV kvs (.inl 1) with
      | none =>
        have f2 : 2 ≤ fN := by
          have := (wr_len fw).2.2
          have := n1 e1
          omega
        refine rd_ne (E := E0) (m := 3) (wy := s_game) g2.q (tx_plus (tx_c (by decide +kernel)) (tx_joinK (ls_sl1 rfl il2) (by decide +kernel) (by decide)) (by decide)) (fun l r _ => l2 l (e2l l r)) (by decide) (fun H' Q' g q => ?_) (fun b H' g hb => ?_)
        · rw [eg] at q
          exact ⟨.ref d, rfl, d, none, rfl, .inl ⟨kvs, .inl 1, .inl (g.b _ _ nd ed2), rfl, e1.symm⟩, false, rfl, q⟩
        · have gg := g2.trans g
          refine ⟨b, rfl, ?_⟩
          rw [hb fun l r => by rw [e2l l r, lines_join (by simp) p2]; exact wr_read2 fw f2]
          exact ⟨x4, _, _, _, _, _, _, _, _, _, _, rfl, gg.q, is2.go gg, if2.go gg⟩
      | some v =>
        obtain ⟨y, rfl, ylow⟩ := v1 v e1
        refine rd_ne (E := E0) (m := 3) (wy := y) g2.q (tx_plus (tx_c (by decide +kernel)) (tx_joinK (ls_sl1 rfl il2) (by decide +kernel) (by decide)) (by decide)) (fun l r _ => l2 l (e2l l r)) ylow (fun H' Q' g q => ?_) (fun b H' g hb => ?_)
        · have dg : DGet H' d (.int 1) (some (.str (tx y))) := .inl ⟨kvs, .inl 1, .inl (g.b _ _ nd ed2), rfl, e1.symm⟩
          refine ⟨.ref d, rfl, d, _, rfl, dg, true, rfl, ?_⟩
          refine ⟨.ref d, rfl, d, _, rfl, dg, rfl, _, rfl, ?_⟩
          by_cases c : V.str (tx y) = V.str (Str.ofString "game")
          · rw [decide_eq_true c]
            rw [c] at q
            exact q
          · rw [decide_eq_false c]
            exact ⟨.ref d, rfl, d, _, rfl, dg, q⟩
        · have gg := g2.trans g
          refine ⟨b, rfl, ?_⟩
          cases b with
          | false => exact ⟨x4, _, _, _, _, _, _, _, _, _, _, rfl, gg.q, is2.go gg, if2.go gg⟩
          | true => exact ⟨.ref d, rfl, d, some _, rfl, .inl ⟨kvs, .inl 1, .inl (g.b _ _ nd ed2), rfl, e1.symm⟩, false, rfl, x4, _, _, _, _, _, _, _, _, _, _, rfl, gg.q, is2.go gg, if2.go gg⟩
  · rintro k' σ G ek' ⟨x4, x5, x6, x7, x8, x9, x10, x11, x12, x13, x14, rfl, PG, is1, if1⟩
    refine ⟨by show 4 ≤ sizeLine; decide, fun tq nq => ?_⟩
    have tp : tq ≠ p := PG.ne nq
    have g6 : Go K p a G (upd G tq (.lst [.str (Str.ofString ""), .str (Str.ofString "\n"), .str (Str.ofString "-- nothing"), .str (Str.ofString "  \n --\n")])) := Go.new PG nq
    refine ⟨tq, rfl, ⟨_, SqL.of upd_same⟩, for_list (K := K) (a := tq) (xs := [.str (Str.ofString ""), .str (Str.ofString "\n"), .str (Str.ofString "-- nothing"), .str (Str.ofString "  \n --\n")]) (fun _ σ H' => ∃ x15, σ = [some (.ref a), some (.ref p), some (.ref s), some (.ref f), x4, x5, x6, x7, x8, x9, x10, x11, x12, x13, x14, x15] ∧ Go K p a (upd G tq (.lst [.str (Str.ofString ""), .str (Str.ofString "\n"), .str (Str.ofString "-- nothing"), .str (Str.ofString "  \n --\n")])) H')
      ⟨none, rfl, Go.refl g6.q⟩ (fun i σ H' _ ⟨_, _, g⟩ => SqL.of (g.b _ _ tp upd_same)) ?_ ?_⟩
    · rintro i x σ H' hx ⟨x15, rfl, g⟩
      obtain ⟨tt, rfl, hl, hw⟩ := four hx
      refine s_rd (E := E0) (m := 1) (wy := cs "game") g.q (tx_varS (s := tt) rfl hl) (fun l _ h => Nat.le_trans h (by decide)) (by decide +kernel) hu_c (fun l e => by rw [e]; exact wrong_of hw) (fun H2 g2 => ?_)
      exact ⟨_, rfl, g.trans g2⟩
    · rintro σ H' ⟨x15, rfl, g⟩
      refine rd_eq (E := E0) (m := 1) (wy := cs "form") g.q (tx_c (by decide +kernel)) (fun l _ h => Nat.le_trans h (by decide)) (by decide +kernel) hu_c (fun l e => by rw [e]; exact wrong_of (by decide +kernel)) (fun H1 g1 => ⟨true, rfl, ?_⟩)
      refine rd_eq (E := E0) (m := 2) (wy := cs "game") g1.q (tx_c (by decide +kernel)) (fun l _ h => Nat.le_trans h (by decide)) (by decide +kernel) hu_c (fun l e => by rw [e]; exact wrong_of (by decide +kernel)) (fun H1 g1 => ⟨true, rfl, ?_⟩)
      exact rd_eq (E := E0) (m := 1) (wy := cs "sign") g1.q (tx_c (by decide +kernel)) (fun l _ h => Nat.le_trans h (by decide)) (by decide +kernel) hu_c (fun l e => by rw [e]; exact wrong_of (by decide +kernel)) (fun H1 g1 => q _)
end
end My
set_option Elab.async false
set_option linter.all false
set_option maxRecDepth 100000
set_option maxHeartbeats 4000000
namespace My
open PySem PySem.Spec PyProof.Rows L2
theorem signs_txt : ([V.str (Str.ofString "!="), V.str (Str.ofString ".."), V.str (Str.ofString "("), V.str (Str.ofString ")"), V.str (Str.ofString ","), V.str (Str.ofString "="), V.str (Str.ofString "<"), V.str (Str.ofString "+"), V.str (Str.ofString "-")] : List V) = Wd.sgs.map fun s => V.str (tx s) := by
  show _ = [V.str (tx [33, 61]), V.str (tx [46, 46]), V.str (tx [40]), V.str (tx [41]), V.str (tx [44]), V.str (tx [61]), V.str (tx [60]), V.str (tx [43]), V.str (tx [45])]
  rw [show tx [33, 61] = Str.ofString "!=" by decide +kernel, show tx [46, 46] = Str.ofString ".." by decide +kernel, show tx [40] = Str.ofString "(" by decide +kernel, show tx [41] = Str.ofString ")" by decide +kernel, show tx [44] = Str.ofString "," by decide +kernel,
    show tx [61] = Str.ofString "=" by decide +kernel, show tx [60] = Str.ofString "<" by decide +kernel, show tx [43] = Str.ofString "+" by decide +kernel, show tx [45] = Str.ofString "-" by decide +kernel]
theorem keys_txt : ([V.str (Str.ofString "game"), V.str (Str.ofString "kind"), V.str (Str.ofString "fact"), V.str (Str.ofString "view"), V.str (Str.ofString "move"), V.str (Str.ofString "begin"), V.str (Str.ofString "if"), V.str (Str.ofString "not"), V.str (Str.ofString "mover"), V.str (Str.ofString "is"), V.str (Str.ofString "adds"), V.str (Str.ofString "drops"), V.str (Str.ofString "wins"), V.str (Str.ofString "drawn")] : List V) = Wd.keys.map fun s => V.str (tx s) := by
  show _ = [V.str (tx Wd.s_game), V.str (tx Wd.s_kind), V.str (tx Wd.s_fact), V.str (tx Wd.s_view), V.str (tx Wd.s_move), V.str (tx Wd.s_begin), V.str (tx Wd.s_if), V.str (tx Wd.s_not), V.str (tx Wd.s_mover), V.str (tx Wd.s_is), V.str (tx Wd.s_adds), V.str (tx Wd.s_drops), V.str (tx Wd.s_wins), V.str (tx Wd.s_drawn)]
  rw [show tx Wd.s_game = Str.ofString "game" by decide +kernel, show tx Wd.s_kind = Str.ofString "kind" by decide +kernel, show tx Wd.s_fact = Str.ofString "fact" by decide +kernel, show tx Wd.s_view = Str.ofString "view" by decide +kernel, show tx Wd.s_move = Str.ofString "move" by decide +kernel, show tx Wd.s_begin = Str.ofString "begin" by decide +kernel, show tx Wd.s_if = Str.ofString "if" by decide +kernel,
    show tx Wd.s_not = Str.ofString "not" by decide +kernel, show tx Wd.s_mover = Str.ofString "mover" by decide +kernel, show tx Wd.s_is = Str.ofString "is" by decide +kernel, show tx Wd.s_adds = Str.ofString "adds" by decide +kernel, show tx Wd.s_drops = Str.ofString "drops" by decide +kernel, show tx Wd.s_wins = Str.ofString "wins" by decide +kernel, show tx Wd.s_drawn = Str.ofString "drawn" by decide +kernel]
/-- the two defs behind bound methods -/
noncomputable def SS (C CE gT gN : Addr) : Addr → Option Sp := fun g => if g = gT then some (spParse C CE [] Wd.term TW) else if g = gN then some (spParse C CE [] Wd.name TW) else none
theorem held_of {P : Program} {w : World} {K : PySem.W.Frag} {mg : Str → Option Value} {base : Heap} {k j : Nat} {C g : Addr} {m : Str} {ps : List Str} {sp : Sp} (D : MthX P w K mg base j C m ps sp) (h : j ≤ k) (B : BMeth K C m g) : HeldM P w K mg base k g sp := by
  obtain ⟨f, fd, F, mm, b⟩ := D.ex
  have e := mm.at_.symm.trans B.mt.at_
  cases e
  exact ⟨fd, ps, F.mono h, B.fi, b⟩
theorem held_both {P : Program} {w : World} {K : PySem.W.Frag} {mg : Str → Option Value} {base : Heap} {C CE gT gN : Addr} (D_term : MthX P w K mg base 3 C "term" ["self"] (spParse C CE [] Wd.term TW)) (D_name : MthX P w K mg base 2 C "name" ["self"] (spParse C CE [] Wd.name TW)) (B_term : BMeth K C "term" gT) (B_name : BMeth K C "name" gN) :
    ∀ g sp, SS C CE gT gN g = some sp → HeldM P w K mg base 3 g sp := fun g sp h => by
  unfold SS at h
  by_cases e : g = gT
  · rw [if_pos e] at h
    cases h
    rw [e]
    exact held_of D_term (by decide) B_term
  · rw [if_neg e] at h
    by_cases e2 : g = gN
    · rw [if_pos e2] at h
      cases h
      rw [e2]
      exact held_of D_name (by decide) B_name
    · rw [if_neg e2] at h
      cases h
theorem all_mk {l : PySem.W.OpenLaw} {w : World} {K : PySem.W.Frag} {h : Heap} {mg : Str → Option Value} {fa : Addr} (X : K.In h) (G : h.Ns mainGlobals mg) (hfa : mg "law" = some (.ref fa))
    {f0 : Addr} {od0 an0 : Option Addr} {sl0 : Array (Option Value)} {oc0 kV0 dc0 pm0 cd0 ct0 : Value}
    (a0 : PySem.W.nsIn K mainGlobals "run_sort" = some (some (.ref f0))) (l0 : K.lookup f0 = some ⟨oc0, od0, .func (PySem.W.fnOf "run_sort" "run_sort" (defArgs st_run_sort) (defBody st_run_sort) (defScope st_run_sort) .none kV0 dc0 pm0 an0 cd0 ct0), sl0⟩) (c0 : PySem.W.codeIn K cd0 "run_sort" = true) (k0 : PySem.W.keepIn K (.ref f0) = true)
    {f1 : Addr} {od1 an1 : Option Addr} {sl1 : Array (Option Value)} {oc1 kV1 dc1 pm1 cd1 ct1 : Value}
    (a1 : PySem.W.nsIn K mainGlobals "end_of_run" = some (some (.ref f1))) (l1 : K.lookup f1 = some ⟨oc1, od1, .func (PySem.W.fnOf "end_of_run" "end_of_run" (defArgs st_end_of_run) (defBody st_end_of_run) (defScope st_end_of_run) .none kV1 dc1 pm1 an1 cd1 ct1), sl1⟩) (c1 : PySem.W.codeIn K cd1 "end_of_run" = true) (k1 : PySem.W.keepIn K (.ref f1) = true)
    {f2 : Addr} {od2 an2 : Option Addr} {sl2 : Array (Option Value)} {oc2 kV2 dc2 pm2 cd2 ct2 : Value}
    (a2 : PySem.W.nsIn K mainGlobals "sign_at" = some (some (.ref f2))) (l2 : K.lookup f2 = some ⟨oc2, od2, .func (PySem.W.fnOf "sign_at" "sign_at" (defArgs st_sign_at) (defBody st_sign_at) (defScope st_sign_at) .none kV2 dc2 pm2 an2 cd2 ct2), sl2⟩) (c2 : PySem.W.codeIn K cd2 "sign_at" = true) (k2 : PySem.W.keepIn K (.ref f2) = true)
    {f3 : Addr} {od3 an3 : Option Addr} {sl3 : Array (Option Value)} {oc3 kV3 dc3 pm3 cd3 ct3 : Value}
    (a3 : PySem.W.nsIn K mainGlobals "words_of" = some (some (.ref f3))) (l3 : K.lookup f3 = some ⟨oc3, od3, .func (PySem.W.fnOf "words_of" "words_of" (defArgs st_words_of) (defBody st_words_of) (defScope st_words_of) .none kV3 dc3 pm3 an3 cd3 ct3), sl3⟩) (c3 : PySem.W.codeIn K cd3 "words_of" = true) (k3 : PySem.W.keepIn K (.ref f3) = true)
    {f4 : Addr} {od4 an4 : Option Addr} {sl4 : Array (Option Value)} {oc4 kV4 dc4 pm4 cd4 ct4 : Value}
    (a4 : PySem.W.nsIn K mainGlobals "says_nothing" = some (some (.ref f4))) (l4 : K.lookup f4 = some ⟨oc4, od4, .func (PySem.W.fnOf "says_nothing" "says_nothing" (defArgs st_says_nothing) (defBody st_says_nothing) (defScope st_says_nothing) .none kV4 dc4 pm4 an4 cd4 ct4), sl4⟩) (c4 : PySem.W.codeIn K cd4 "says_nothing" = true) (k4 : PySem.W.keepIn K (.ref f4) = true)
    {f5 : Addr} {od5 an5 : Option Addr} {sl5 : Array (Option Value)} {oc5 kV5 dc5 pm5 cd5 ct5 : Value}
    (a5 : PySem.W.nsIn K mainGlobals "told_by" = some (some (.ref f5))) (l5 : K.lookup f5 = some ⟨oc5, od5, .func (PySem.W.fnOf "told_by" "told_by" (defArgs st_told_by) (defBody st_told_by) (defScope st_told_by) .none kV5 dc5 pm5 an5 cd5 ct5), sl5⟩) (c5 : PySem.W.codeIn K cd5 "told_by" = true) (k5 : PySem.W.keepIn K (.ref f5) = true)
    {f6 : Addr} {od6 an6 : Option Addr} {sl6 : Array (Option Value)} {oc6 kV6 dc6 pm6 cd6 ct6 : Value}
    (a6 : PySem.W.nsIn K mainGlobals "rule_by" = some (some (.ref f6))) (l6 : K.lookup f6 = some ⟨oc6, od6, .func (PySem.W.fnOf "rule_by" "rule_by" (defArgs st_rule_by) (defBody st_rule_by) (defScope st_rule_by) .none kV6 dc6 pm6 an6 cd6 ct6), sl6⟩) (c6 : PySem.W.codeIn K cd6 "rule_by" = true) (k6 : PySem.W.keepIn K (.ref f6) = true)
    {f7 : Addr} {od7 an7 : Option Addr} {sl7 : Array (Option Value)} {oc7 kV7 dc7 pm7 cd7 ct7 : Value}
    (a7 : PySem.W.nsIn K mainGlobals "statement_of" = some (some (.ref f7))) (l7 : K.lookup f7 = some ⟨oc7, od7, .func (PySem.W.fnOf "statement_of" "statement_of" (defArgs st_statement_of) (defBody st_statement_of) (defScope st_statement_of) .none kV7 dc7 pm7 an7 cd7 ct7), sl7⟩) (c7 : PySem.W.codeIn K cd7 "statement_of" = true) (k7 : PySem.W.keepIn K (.ref f7) = true)
    {f8 : Addr} {od8 an8 : Option Addr} {sl8 : Array (Option Value)} {oc8 kV8 dc8 pm8 cd8 ct8 : Value}
    (a8 : PySem.W.nsIn K mainGlobals "read" = some (some (.ref f8))) (l8 : K.lookup f8 = some ⟨oc8, od8, .func (PySem.W.fnOf "read" "read" (defArgs st_read) (defBody st_read) (defScope st_read) .none kV8 dc8 pm8 an8 cd8 ct8), sl8⟩) (c8 : PySem.W.codeIn K cd8 "read" = true) (k8 : PySem.W.keepIn K (.ref f8) = true)
    {f9 : Addr} {od9 an9 : Option Addr} {sl9 : Array (Option Value)} {oc9 kV9 dc9 pm9 cd9 ct9 : Value}
    (a9 : PySem.W.nsIn K mainGlobals "_law_mixed" = some (some (.ref f9))) (l9 : K.lookup f9 = some ⟨oc9, od9, .func (PySem.W.fnOf "_law_mixed" "_law_mixed" (defArgs st_law_mixed) (defBody st_law_mixed) (defScope st_law_mixed) .none kV9 dc9 pm9 an9 cd9 ct9), sl9⟩) (c9 : PySem.W.codeIn K cd9 "_law_mixed" = true) (k9 : PySem.W.keepIn K (.ref f9) = true)
    {f10 : Addr} {od10 an10 : Option Addr} {sl10 : Array (Option Value)} {oc10 kV10 dc10 pm10 cd10 ct10 : Value}
    (a10 : PySem.W.nsIn K mainGlobals "_law_rest" = some (some (.ref f10))) (l10 : K.lookup f10 = some ⟨oc10, od10, .func (PySem.W.fnOf "_law_rest" "_law_rest" (defArgs st_law_rest) (defBody st_law_rest) (defScope st_law_rest) .none kV10 dc10 pm10 an10 cd10 ct10), sl10⟩) (c10 : PySem.W.codeIn K cd10 "_law_rest" = true) (k10 : PySem.W.keepIn K (.ref f10) = true)
    {f11 : Addr} {od11 an11 : Option Addr} {sl11 : Array (Option Value)} {oc11 kV11 dc11 pm11 cd11 ct11 : Value}
    (a11 : PySem.W.nsIn K mainGlobals "_law_pool" = some (some (.ref f11))) (l11 : K.lookup f11 = some ⟨oc11, od11, .func (PySem.W.fnOf "_law_pool" "_law_pool" (defArgs st_law_pool) (defBody st_law_pool) (defScope st_law_pool) .none kV11 dc11 pm11 an11 cd11 ct11), sl11⟩) (c11 : PySem.W.codeIn K cd11 "_law_pool" = true) (k11 : PySem.W.keepIn K (.ref f11) = true)
    {f12 : Addr} {od12 an12 : Option Addr} {sl12 : Array (Option Value)} {oc12 kV12 dc12 pm12 cd12 ct12 : Value}
    (a12 : PySem.W.nsIn K mainGlobals "_law_next" = some (some (.ref f12))) (l12 : K.lookup f12 = some ⟨oc12, od12, .func (PySem.W.fnOf "_law_next" "_law_next" (defArgs st_law_next) (defBody st_law_next) (defScope st_law_next) .none kV12 dc12 pm12 an12 cd12 ct12), sl12⟩) (c12 : PySem.W.codeIn K cd12 "_law_next" = true) (k12 : PySem.W.keepIn K (.ref f12) = true)
    {f13 : Addr} {od13 an13 : Option Addr} {sl13 : Array (Option Value)} {oc13 kV13 dc13 pm13 cd13 ct13 : Value}
    (a13 : PySem.W.nsIn K mainGlobals "_law_draw" = some (some (.ref f13))) (l13 : K.lookup f13 = some ⟨oc13, od13, .func (PySem.W.fnOf "_law_draw" "_law_draw" (defArgs st_law_draw) (defBody st_law_draw) (defScope st_law_draw) .none kV13 dc13 pm13 an13 cd13 ct13), sl13⟩) (c13 : PySem.W.codeIn K cd13 "_law_draw" = true) (k13 : PySem.W.keepIn K (.ref f13) = true)
    {f14 : Addr} {od14 an14 : Option Addr} {sl14 : Array (Option Value)} {oc14 kV14 dc14 pm14 cd14 ct14 : Value}
    (a14 : PySem.W.nsIn K mainGlobals "_law_pick" = some (some (.ref f14))) (l14 : K.lookup f14 = some ⟨oc14, od14, .func (PySem.W.fnOf "_law_pick" "_law_pick" (defArgs st_law_pick) (defBody st_law_pick) (defScope st_law_pick) .none kV14 dc14 pm14 an14 cd14 ct14), sl14⟩) (c14 : PySem.W.codeIn K cd14 "_law_pick" = true) (k14 : PySem.W.keepIn K (.ref f14) = true)
    {f15 : Addr} {od15 an15 : Option Addr} {sl15 : Array (Option Value)} {oc15 kV15 dc15 pm15 cd15 ct15 : Value}
    (a15 : PySem.W.nsIn K mainGlobals "_law_mixed_up" = some (some (.ref f15))) (l15 : K.lookup f15 = some ⟨oc15, od15, .func (PySem.W.fnOf "_law_mixed_up" "_law_mixed_up" (defArgs st_law_mixed_up) (defBody st_law_mixed_up) (defScope st_law_mixed_up) .none kV15 dc15 pm15 an15 cd15 ct15), sl15⟩) (c15 : PySem.W.codeIn K cd15 "_law_mixed_up" = true) (k15 : PySem.W.keepIn K (.ref f15) = true)
    {f16 : Addr} {od16 an16 : Option Addr} {sl16 : Array (Option Value)} {oc16 kV16 dc16 pm16 cd16 ct16 : Value}
    (a16 : PySem.W.nsIn K mainGlobals "_law_lines_game" = some (some (.ref f16))) (l16 : K.lookup f16 = some ⟨oc16, od16, .func (PySem.W.fnOf "_law_lines_game" "_law_lines_game" (defArgs st_law_lines_game) (defBody st_law_lines_game) (defScope st_law_lines_game) .none kV16 dc16 pm16 an16 cd16 ct16), sl16⟩) (c16 : PySem.W.codeIn K cd16 "_law_lines_game" = true) (k16 : PySem.W.keepIn K (.ref f16) = true)
    {f17 : Addr} {od17 an17 : Option Addr} {sl17 : Array (Option Value)} {oc17 kV17 dc17 pm17 cd17 ct17 : Value}
    (a17 : PySem.W.nsIn K mainGlobals "_law_heaps_game" = some (some (.ref f17))) (l17 : K.lookup f17 = some ⟨oc17, od17, .func (PySem.W.fnOf "_law_heaps_game" "_law_heaps_game" (defArgs st_law_heaps_game) (defBody st_law_heaps_game) (defScope st_law_heaps_game) .none kV17 dc17 pm17 an17 cd17 ct17), sl17⟩) (c17 : PySem.W.codeIn K cd17 "_law_heaps_game" = true) (k17 : PySem.W.keepIn K (.ref f17) = true)
    {f18 : Addr} {od18 an18 : Option Addr} {sl18 : Array (Option Value)} {oc18 kV18 dc18 pm18 cd18 ct18 : Value}
    (a18 : PySem.W.nsIn K mainGlobals "_law_walks_game" = some (some (.ref f18))) (l18 : K.lookup f18 = some ⟨oc18, od18, .func (PySem.W.fnOf "_law_walks_game" "_law_walks_game" (defArgs st_law_walks_game) (defBody st_law_walks_game) (defScope st_law_walks_game) .none kV18 dc18 pm18 an18 cd18 ct18), sl18⟩) (c18 : PySem.W.codeIn K cd18 "_law_walks_game" = true) (k18 : PySem.W.keepIn K (.ref f18) = true)
    {f19 : Addr} {od19 an19 : Option Addr} {sl19 : Array (Option Value)} {oc19 kV19 dc19 pm19 cd19 ct19 : Value}
    (a19 : PySem.W.nsIn K mainGlobals "_law_lamps_game" = some (some (.ref f19))) (l19 : K.lookup f19 = some ⟨oc19, od19, .func (PySem.W.fnOf "_law_lamps_game" "_law_lamps_game" (defArgs st_law_lamps_game) (defBody st_law_lamps_game) (defScope st_law_lamps_game) .none kV19 dc19 pm19 an19 cd19 ct19), sl19⟩) (c19 : PySem.W.codeIn K cd19 "_law_lamps_game" = true) (k19 : PySem.W.keepIn K (.ref f19) = true)
    {f20 : Addr} {od20 an20 : Option Addr} {sl20 : Array (Option Value)} {oc20 kV20 dc20 pm20 cd20 ct20 : Value}
    (a20 : PySem.W.nsIn K mainGlobals "_law_pawns_game" = some (some (.ref f20))) (l20 : K.lookup f20 = some ⟨oc20, od20, .func (PySem.W.fnOf "_law_pawns_game" "_law_pawns_game" (defArgs st_law_pawns_game) (defBody st_law_pawns_game) (defScope st_law_pawns_game) .none kV20 dc20 pm20 an20 cd20 ct20), sl20⟩) (c20 : PySem.W.codeIn K cd20 "_law_pawns_game" = true) (k20 : PySem.W.keepIn K (.ref f20) = true)
    {f21 : Addr} {od21 an21 : Option Addr} {sl21 : Array (Option Value)} {oc21 kV21 dc21 pm21 cd21 ct21 : Value}
    (a21 : PySem.W.nsIn K mainGlobals "_law_game" = some (some (.ref f21))) (l21 : K.lookup f21 = some ⟨oc21, od21, .func (PySem.W.fnOf "_law_game" "_law_game" (defArgs st_law_game) (defBody st_law_game) (defScope st_law_game) .none kV21 dc21 pm21 an21 cd21 ct21), sl21⟩) (c21 : PySem.W.codeIn K cd21 "_law_game" = true) (k21 : PySem.W.keepIn K (.ref f21) = true)
    {f22 : Addr} {od22 an22 : Option Addr} {sl22 : Array (Option Value)} {oc22 kV22 dc22 pm22 cd22 ct22 : Value}
    (a22 : PySem.W.nsIn K mainGlobals "_law_wrongs" = some (some (.ref f22))) (l22 : K.lookup f22 = some ⟨oc22, od22, .func (PySem.W.fnOf "_law_wrongs" "_law_wrongs" (defArgs st_law_wrongs) (defBody st_law_wrongs) (defScope st_law_wrongs) .none kV22 dc22 pm22 an22 cd22 ct22), sl22⟩) (c22 : PySem.W.codeIn K cd22 "_law_wrongs" = true) (k22 : PySem.W.keepIn K (.ref f22) = true)
    {f23 : Addr} {od23 an23 : Option Addr} {sl23 : Array (Option Value)} {oc23 kV23 dc23 pm23 cd23 ct23 : Value}
    (a23 : PySem.W.nsIn K mainGlobals "law" = some (some (.ref f23))) (l23 : K.lookup f23 = some ⟨oc23, od23, .func (PySem.W.fnOf "law" "law" (defArgs st_law) (defBody st_law) (defScope st_law) .none kV23 dc23 pm23 an23 cd23 ct23), sl23⟩) (c23 : PySem.W.codeIn K cd23 "law" = true) (k23 : PySem.W.keepIn K (.ref f23) = true)
    {C0 : Addr} (ca0 : PySem.W.nsIn K mainGlobals "Cursor" = some (some (.ref C0))) (cg0 : PySem.W.plainGet K C0 Str.empty = true) (ch0 : PySem.W.hasDictIn K C0 = true) (co0 : PySem.W.plainOver K C0 = true) (cs0 : PySem.W.findIn K (.ref C0) "__setattr__" = some (some (.builtin "object.__setattr__"))) (cm0 : PySem.W.makesIn K C0 = true) (ck0 : PySem.W.keepIn K (.ref C0) = true) (nf0_0 : PySem.W.findIn K (.ref C0) "words" = some none) (nf0_1 : PySem.W.findIn K (.ref C0) "at" = some none)
    {mf0 : Addr} {mod0 man0 : Option Addr} {msl0 : Array (Option Value)} {moc0 mkV0 mdc0 mpm0 mcd0 mct0 : Value}
    (ma0 : PySem.W.findIn K (.ref C0) "__init__" = some (some (.ref mf0))) (mi0 : PySem.W.isFn K (.ref mf0) = true) (ml0 : K.lookup mf0 = some ⟨moc0, mod0, .func (PySem.W.fnOf "__init__" "Cursor.__init__" (defArgs st_Cursor___init__) (defBody st_Cursor___init__) (defScope st_Cursor___init__) .none mkV0 mdc0 mpm0 man0 mcd0 mct0), msl0⟩) (mc0 : PySem.W.codeIn K mcd0 "Cursor.__init__" = true) (mk0 : PySem.W.keepIn K (.ref mf0) = true)
    {mf1 : Addr} {mod1 man1 : Option Addr} {msl1 : Array (Option Value)} {moc1 mkV1 mdc1 mpm1 mcd1 mct1 : Value}
    (ma1 : PySem.W.findIn K (.ref C0) "peek" = some (some (.ref mf1))) (mi1 : PySem.W.isFn K (.ref mf1) = true) (ml1 : K.lookup mf1 = some ⟨moc1, mod1, .func (PySem.W.fnOf "peek" "Cursor.peek" (defArgs st_Cursor_peek) (defBody st_Cursor_peek) (defScope st_Cursor_peek) .none mkV1 mdc1 mpm1 man1 mcd1 mct1), msl1⟩) (mc1 : PySem.W.codeIn K mcd1 "Cursor.peek" = true) (mk1 : PySem.W.keepIn K (.ref mf1) = true)
    {mf2 : Addr} {mod2 man2 : Option Addr} {msl2 : Array (Option Value)} {moc2 mkV2 mdc2 mpm2 mcd2 mct2 : Value}
    (ma2 : PySem.W.findIn K (.ref C0) "sees" = some (some (.ref mf2))) (mi2 : PySem.W.isFn K (.ref mf2) = true) (ml2 : K.lookup mf2 = some ⟨moc2, mod2, .func (PySem.W.fnOf "sees" "Cursor.sees" (defArgs st_Cursor_sees) (defBody st_Cursor_sees) (defScope st_Cursor_sees) .none mkV2 mdc2 mpm2 man2 mcd2 mct2), msl2⟩) (mc2 : PySem.W.codeIn K mcd2 "Cursor.sees" = true) (mk2 : PySem.W.keepIn K (.ref mf2) = true)
    {mf3 : Addr} {mod3 man3 : Option Addr} {msl3 : Array (Option Value)} {moc3 mkV3 mdc3 mpm3 mcd3 mct3 : Value}
    (ma3 : PySem.W.findIn K (.ref C0) "take" = some (some (.ref mf3))) (mi3 : PySem.W.isFn K (.ref mf3) = true) (ml3 : K.lookup mf3 = some ⟨moc3, mod3, .func (PySem.W.fnOf "take" "Cursor.take" (defArgs st_Cursor_take) (defBody st_Cursor_take) (defScope st_Cursor_take) .none mkV3 mdc3 mpm3 man3 mcd3 mct3), msl3⟩) (mc3 : PySem.W.codeIn K mcd3 "Cursor.take" = true) (mk3 : PySem.W.keepIn K (.ref mf3) = true)
    {mf4 : Addr} {mod4 man4 : Option Addr} {msl4 : Array (Option Value)} {moc4 mkV4 mdc4 mpm4 mcd4 mct4 : Value}
    (ma4 : PySem.W.findIn K (.ref C0) "name" = some (some (.ref mf4))) (mi4 : PySem.W.isFn K (.ref mf4) = true) (ml4 : K.lookup mf4 = some ⟨moc4, mod4, .func (PySem.W.fnOf "name" "Cursor.name" (defArgs st_Cursor_name) (defBody st_Cursor_name) (defScope st_Cursor_name) .none mkV4 mdc4 mpm4 man4 mcd4 mct4), msl4⟩) (mc4 : PySem.W.codeIn K mcd4 "Cursor.name" = true) (mk4 : PySem.W.keepIn K (.ref mf4) = true)
    {mf5 : Addr} {mod5 man5 : Option Addr} {msl5 : Array (Option Value)} {moc5 mkV5 mdc5 mpm5 mcd5 mct5 : Value}
    (ma5 : PySem.W.findIn K (.ref C0) "number" = some (some (.ref mf5))) (mi5 : PySem.W.isFn K (.ref mf5) = true) (ml5 : K.lookup mf5 = some ⟨moc5, mod5, .func (PySem.W.fnOf "number" "Cursor.number" (defArgs st_Cursor_number) (defBody st_Cursor_number) (defScope st_Cursor_number) .none mkV5 mdc5 mpm5 man5 mcd5 mct5), msl5⟩) (mc5 : PySem.W.codeIn K mcd5 "Cursor.number" = true) (mk5 : PySem.W.keepIn K (.ref mf5) = true)
    {mf6 : Addr} {mod6 man6 : Option Addr} {msl6 : Array (Option Value)} {moc6 mkV6 mdc6 mpm6 mcd6 mct6 : Value}
    (ma6 : PySem.W.findIn K (.ref C0) "term" = some (some (.ref mf6))) (mi6 : PySem.W.isFn K (.ref mf6) = true) (ml6 : K.lookup mf6 = some ⟨moc6, mod6, .func (PySem.W.fnOf "term" "Cursor.term" (defArgs st_Cursor_term) (defBody st_Cursor_term) (defScope st_Cursor_term) .none mkV6 mdc6 mpm6 man6 mcd6 mct6), msl6⟩) (mc6 : PySem.W.codeIn K mcd6 "Cursor.term" = true) (mk6 : PySem.W.keepIn K (.ref mf6) = true)
    {mf7 : Addr} {mod7 man7 : Option Addr} {msl7 : Array (Option Value)} {moc7 mkV7 mdc7 mpm7 mcd7 mct7 : Value}
    (ma7 : PySem.W.findIn K (.ref C0) "listed" = some (some (.ref mf7))) (mi7 : PySem.W.isFn K (.ref mf7) = true) (ml7 : K.lookup mf7 = some ⟨moc7, mod7, .func (PySem.W.fnOf "listed" "Cursor.listed" (defArgs st_Cursor_listed) (defBody st_Cursor_listed) (defScope st_Cursor_listed) .none mkV7 mdc7 mpm7 man7 mcd7 mct7), msl7⟩) (mc7 : PySem.W.codeIn K mcd7 "Cursor.listed" = true) (mk7 : PySem.W.keepIn K (.ref mf7) = true)
    {mf8 : Addr} {mod8 man8 : Option Addr} {msl8 : Array (Option Value)} {moc8 mkV8 mdc8 mpm8 mcd8 mct8 : Value}
    (ma8 : PySem.W.findIn K (.ref C0) "atom" = some (some (.ref mf8))) (mi8 : PySem.W.isFn K (.ref mf8) = true) (ml8 : K.lookup mf8 = some ⟨moc8, mod8, .func (PySem.W.fnOf "atom" "Cursor.atom" (defArgs st_Cursor_atom) (defBody st_Cursor_atom) (defScope st_Cursor_atom) .none mkV8 mdc8 mpm8 man8 mcd8 mct8), msl8⟩) (mc8 : PySem.W.codeIn K mcd8 "Cursor.atom" = true) (mk8 : PySem.W.keepIn K (.ref mf8) = true)
    {mf9 : Addr} {mod9 man9 : Option Addr} {msl9 : Array (Option Value)} {moc9 mkV9 mdc9 mpm9 mcd9 mct9 : Value}
    (ma9 : PySem.W.findIn K (.ref C0) "compared" = some (some (.ref mf9))) (mi9 : PySem.W.isFn K (.ref mf9) = true) (ml9 : K.lookup mf9 = some ⟨moc9, mod9, .func (PySem.W.fnOf "compared" "Cursor.compared" (defArgs st_Cursor_compared) (defBody st_Cursor_compared) (defScope st_Cursor_compared) .none mkV9 mdc9 mpm9 man9 mcd9 mct9), msl9⟩) (mc9 : PySem.W.codeIn K mcd9 "Cursor.compared" = true) (mk9 : PySem.W.keepIn K (.ref mf9) = true)
    {mf10 : Addr} {mod10 man10 : Option Addr} {msl10 : Array (Option Value)} {moc10 mkV10 mdc10 mpm10 mcd10 mct10 : Value}
    (ma10 : PySem.W.findIn K (.ref C0) "literal" = some (some (.ref mf10))) (mi10 : PySem.W.isFn K (.ref mf10) = true) (ml10 : K.lookup mf10 = some ⟨moc10, mod10, .func (PySem.W.fnOf "literal" "Cursor.literal" (defArgs st_Cursor_literal) (defBody st_Cursor_literal) (defScope st_Cursor_literal) .none mkV10 mdc10 mpm10 man10 mcd10 mct10), msl10⟩) (mc10 : PySem.W.codeIn K mcd10 "Cursor.literal" = true) (mk10 : PySem.W.keepIn K (.ref mf10) = true)
    {mf11 : Addr} {mod11 man11 : Option Addr} {msl11 : Array (Option Value)} {moc11 mkV11 mdc11 mpm11 mcd11 mct11 : Value}
    (ma11 : PySem.W.findIn K (.ref C0) "body" = some (some (.ref mf11))) (mi11 : PySem.W.isFn K (.ref mf11) = true) (ml11 : K.lookup mf11 = some ⟨moc11, mod11, .func (PySem.W.fnOf "body" "Cursor.body" (defArgs st_Cursor_body) (defBody st_Cursor_body) (defScope st_Cursor_body) .none mkV11 mdc11 mpm11 man11 mcd11 mct11), msl11⟩) (mc11 : PySem.W.codeIn K mcd11 "Cursor.body" = true) (mk11 : PySem.W.keepIn K (.ref mf11) = true)
    {mf12 : Addr} {mod12 man12 : Option Addr} {msl12 : Array (Option Value)} {moc12 mkV12 mdc12 mpm12 mcd12 mct12 : Value}
    (ma12 : PySem.W.findIn K (.ref C0) "constants" = some (some (.ref mf12))) (mi12 : PySem.W.isFn K (.ref mf12) = true) (ml12 : K.lookup mf12 = some ⟨moc12, mod12, .func (PySem.W.fnOf "constants" "Cursor.constants" (defArgs st_Cursor_constants) (defBody st_Cursor_constants) (defScope st_Cursor_constants) .none mkV12 mdc12 mpm12 man12 mcd12 mct12), msl12⟩) (mc12 : PySem.W.codeIn K mcd12 "Cursor.constants" = true) (mk12 : PySem.W.keepIn K (.ref mf12) = true)
    (bg0 : PySem.W.specialIn K (.ref mf6) "__get__" = some (some (.builtin "function.__get__"))) (bt0 : PySem.W.takesIn K (.ref mf6) = some false) (bf0 : PySem.W.fnIn K mf6 = true)
    (bg1 : PySem.W.specialIn K (.ref mf4) "__get__" = some (some (.builtin "function.__get__"))) (bt1 : PySem.W.takesIn K (.ref mf4) = some false) (bf1 : PySem.W.fnIn K mf4 = true)
    (bn : mf6 ≠ mf4)
    {X0 : Addr} (xa0 : PySem.W.nsIn K mainGlobals "NotSo" = some (some (.ref X0))) (xe0 : PySem.W.excIn K X0 [.type "ValueError", .type "Exception", .type "BaseException", .type "object"] "ValueError.__new__" = true) (xk0 : PySem.W.keepIn K (.ref X0) = true) (xs0 : PySem.W.subIn K (.ref X0) (.type "BaseException") = some true) (xt0 : PySem.W.typeIn K (.ref X0) = some (.type "type")) (xm0 : PySem.W.exmOne K (.ref X0) (.ref X0) = some true)
    {u0 : Addr} {uo0 : Option Addr} {ui0 : Array Value} {un0 : Nat} {us0 : Array (Option Value)} (ua0 : PySem.W.nsIn K mainGlobals "SIGNS" = some (some (.ref u0))) (ul0 : K.lookup u0 = some ⟨.type "tuple", uo0, .seq ui0 un0, us0⟩) (uz0 : ui0.size ≤ 1000) (ue0 : ui0.toList.map absV = ([V.str (Str.ofString "!="), V.str (Str.ofString ".."), V.str (Str.ofString "("), V.str (Str.ofString ")"), V.str (Str.ofString ","), V.str (Str.ofString "="), V.str (Str.ofString "<"), V.str (Str.ofString "+"), V.str (Str.ofString "-")]).map some)
    {u1 : Addr} {uo1 : Option Addr} {ui1 : Array Value} {un1 : Nat} {us1 : Array (Option Value)} (ua1 : PySem.W.nsIn K mainGlobals "KEY_WORDS" = some (some (.ref u1))) (ul1 : K.lookup u1 = some ⟨.type "tuple", uo1, .seq ui1 un1, us1⟩) (uz1 : ui1.size ≤ 1000) (ue1 : ui1.toList.map absV = ([V.str (Str.ofString "game"), V.str (Str.ofString "kind"), V.str (Str.ofString "fact"), V.str (Str.ofString "view"), V.str (Str.ofString "move"), V.str (Str.ofString "begin"), V.str (Str.ofString "if"), V.str (Str.ofString "not"), V.str (Str.ofString "mover"), V.str (Str.ofString "is"), V.str (Str.ofString "adds"), V.str (Str.ofString "drops"), V.str (Str.ofString "wins"), V.str (Str.ofString "drawn")]).map some)
    {v0 : Tok} (q0 : PySem.W.nsIn K mainGlobals "LOWER" = some (some (.str (Str.ofString "abcdefghijklmnopqrstuvwxyz") v0)))
    {v1 : Tok} (q1 : PySem.W.nsIn K mainGlobals "UPPER" = some (some (.str (Str.ofString "ABCDEFGHIJKLMNOPQRSTUVWXYZ") v1)))
    {v2 : Tok} (q2 : PySem.W.nsIn K mainGlobals "DIGITS" = some (some (.str (Str.ofString "0123456789") v2)))
    (z_all : PySem.W.nsIn K mainGlobals "all" = some none)
    (z_any : PySem.W.nsIn K mainGlobals "any" = some none)
    (z_len : PySem.W.nsIn K mainGlobals "len" = some none)
    (z_int : PySem.W.nsIn K mainGlobals "int" = some none)
    (z_tuple : PySem.W.nsIn K mainGlobals "tuple" = some none)
    (z_enumerate : PySem.W.nsIn K mainGlobals "enumerate" = some none)
    (z_range : PySem.W.nsIn K mainGlobals "range" = some none)
    (z_str : PySem.W.nsIn K mainGlobals "str" = some none)
    (z_list : PySem.W.nsIn K mainGlobals "list" = some none)
    (z_min : PySem.W.nsIn K mainGlobals "min" = some none)
    : ∃ fd : FuncData, (∀ (s : Shared) (v : Value), BindsTo s fd ⟨[v], []⟩ [("script", v)]) ∧ ∀ base : Heap, K.In base → base.Ns mainGlobals mg → FnOk l.prog w K mg base CX0 11 fa fd ["script"] (spLaw K) := by
  have T_run_sort : Top K mg "run_sort" st_run_sort ["run"] := top_mk X G a0 l0 c0 k0 (fun _ _ _ _ _ _ us hl => match us, hl with | [_], _ => rfl)
  have T_end_of_run : Top K mg "end_of_run" st_end_of_run ["line", "at"] := top_mk X G a1 l1 c1 k1 (fun _ _ _ _ _ _ us hl => match us, hl with | [_, _], _ => rfl)
  have T_sign_at : Top K mg "sign_at" st_sign_at ["line", "at"] := top_mk X G a2 l2 c2 k2 (fun _ _ _ _ _ _ us hl => match us, hl with | [_, _], _ => rfl)
  have T_words_of : Top K mg "words_of" st_words_of ["line"] := top_mk X G a3 l3 c3 k3 (fun _ _ _ _ _ _ us hl => match us, hl with | [_], _ => rfl)
  have T_says_nothing : Top K mg "says_nothing" st_says_nothing ["line"] := top_mk X G a4 l4 c4 k4 (fun _ _ _ _ _ _ us hl => match us, hl with | [_], _ => rfl)
  have T_told_by : Top K mg "told_by" st_told_by ["cursor"] := top_mk X G a5 l5 c5 k5 (fun _ _ _ _ _ _ us hl => match us, hl with | [_], _ => rfl)
  have T_rule_by : Top K mg "rule_by" st_rule_by ["cursor"] := top_mk X G a6 l6 c6 k6 (fun _ _ _ _ _ _ us hl => match us, hl with | [_], _ => rfl)
  have T_statement_of : Top K mg "statement_of" st_statement_of ["words"] := top_mk X G a7 l7 c7 k7 (fun _ _ _ _ _ _ us hl => match us, hl with | [_], _ => rfl)
  have T_read : Top K mg "read" st_read ["text"] := top_mk X G a8 l8 c8 k8 (fun _ _ _ _ _ _ us hl => match us, hl with | [_], _ => rfl)
  have T_law_mixed : Top K mg "_law_mixed" st_law_mixed ["number", "place"] := top_mk X G a9 l9 c9 k9 (fun _ _ _ _ _ _ us hl => match us, hl with | [_, _], _ => rfl)
  have T_law_rest : Top K mg "_law_rest" st_law_rest ["script", "place", "fills"] := top_mk X G a10 l10 c10 k10 (fun _ _ _ _ _ _ us hl => match us, hl with | [_, _, _], _ => rfl)
  have T_law_pool : Top K mg "_law_pool" st_law_pool ["script"] := top_mk X G a11 l11 c11 k11 (fun _ _ _ _ _ _ us hl => match us, hl with | [_], _ => rfl)
  have T_law_next : Top K mg "_law_next" st_law_next ["pool"] := top_mk X G a12 l12 c12 k12 (fun _ _ _ _ _ _ us hl => match us, hl with | [_], _ => rfl)
  have T_law_draw : Top K mg "_law_draw" st_law_draw ["pool", "limit"] := top_mk X G a13 l13 c13 k13 (fun _ _ _ _ _ _ us hl => match us, hl with | [_, _], _ => rfl)
  have T_law_pick : Top K mg "_law_pick" st_law_pick ["pool", "options"] := top_mk X G a14 l14 c14 k14 (fun _ _ _ _ _ _ us hl => match us, hl with | [_, _], _ => rfl)
  have T_law_mixed_up : Top K mg "_law_mixed_up" st_law_mixed_up ["pool", "items"] := top_mk X G a15 l15 c15 k15 (fun _ _ _ _ _ _ us hl => match us, hl with | [_, _], _ => rfl)
  have T_law_lines_game : Top K mg "_law_lines_game" st_law_lines_game ["pool"] := top_mk X G a16 l16 c16 k16 (fun _ _ _ _ _ _ us hl => match us, hl with | [_], _ => rfl)
  have T_law_heaps_game : Top K mg "_law_heaps_game" st_law_heaps_game ["pool"] := top_mk X G a17 l17 c17 k17 (fun _ _ _ _ _ _ us hl => match us, hl with | [_], _ => rfl)
  have T_law_walks_game : Top K mg "_law_walks_game" st_law_walks_game ["pool"] := top_mk X G a18 l18 c18 k18 (fun _ _ _ _ _ _ us hl => match us, hl with | [_], _ => rfl)
  have T_law_lamps_game : Top K mg "_law_lamps_game" st_law_lamps_game ["pool"] := top_mk X G a19 l19 c19 k19 (fun _ _ _ _ _ _ us hl => match us, hl with | [_], _ => rfl)
  have T_law_pawns_game : Top K mg "_law_pawns_game" st_law_pawns_game ["pool"] := top_mk X G a20 l20 c20 k20 (fun _ _ _ _ _ _ us hl => match us, hl with | [_], _ => rfl)
  have T_law_game : Top K mg "_law_game" st_law_game ["pool"] := top_mk X G a21 l21 c21 k21 (fun _ _ _ _ _ _ us hl => match us, hl with | [_], _ => rfl)
  have T_law_wrongs : Top K mg "_law_wrongs" st_law_wrongs [] := top_mk X G a22 l22 c22 k22 (fun _ _ _ _ _ _ us hl => match us, hl with | [], _ => rfl)
  have T_law : Top K mg "law" st_law ["script"] := top_mk X G a23 l23 c23 k23 (fun _ _ _ _ _ _ us hl => match us, hl with | [_], _ => rfl)
  have K_Cursor : Kls K mg "Cursor" C0 ["words", "at"] := ⟨⟨cg0, ch0, co0, cs0⟩, (fun f hf => by
    simp only [List.mem_cons, List.not_mem_nil, or_false] at hf
    rcases hf with rfl | rfl
    · exact nf0_0
    · exact nf0_1), PySem.W.mg_of X G ca0⟩
  have T_Cursor___init__ : ITop K C0 "Cursor.__init__" st_Cursor___init__ ["self", "words"] := itop_mk cm0 ck0 ma0 mi0 ml0 mc0 mk0 (fun _ _ _ _ _ _ us hl => match us, hl with | [_, _], _ => rfl)
  have T_Cursor_peek : MTop K C0 "peek" "Cursor.peek" st_Cursor_peek ["self", "further"] := mtop_mk ma1 mi1 ml1 mc1 mk1 (fun _ _ _ _ _ _ us hl => match us, hl with | [_, _], _ => rfl)
  have T_Cursor_sees : MTop K C0 "sees" "Cursor.sees" st_Cursor_sees ["self", "text"] := mtop_mk ma2 mi2 ml2 mc2 mk2 (fun _ _ _ _ _ _ us hl => match us, hl with | [_, _], _ => rfl)
  have T_Cursor_take : MTop K C0 "take" "Cursor.take" st_Cursor_take ["self", "text"] := mtop_mk ma3 mi3 ml3 mc3 mk3 (fun _ _ _ _ _ _ us hl => match us, hl with | [_, _], _ => rfl)
  have T_Cursor_name : MTop K C0 "name" "Cursor.name" st_Cursor_name ["self"] := mtop_mk ma4 mi4 ml4 mc4 mk4 (fun _ _ _ _ _ _ us hl => match us, hl with | [_], _ => rfl)
  have T_Cursor_number : MTop K C0 "number" "Cursor.number" st_Cursor_number ["self"] := mtop_mk ma5 mi5 ml5 mc5 mk5 (fun _ _ _ _ _ _ us hl => match us, hl with | [_], _ => rfl)
  have T_Cursor_term : MTop K C0 "term" "Cursor.term" st_Cursor_term ["self"] := mtop_mk ma6 mi6 ml6 mc6 mk6 (fun _ _ _ _ _ _ us hl => match us, hl with | [_], _ => rfl)
  have T_Cursor_listed : MTop K C0 "listed" "Cursor.listed" st_Cursor_listed ["self", "one"] := mtop_mk ma7 mi7 ml7 mc7 mk7 (fun _ _ _ _ _ _ us hl => match us, hl with | [_, _], _ => rfl)
  have T_Cursor_atom : MTop K C0 "atom" "Cursor.atom" st_Cursor_atom ["self"] := mtop_mk ma8 mi8 ml8 mc8 mk8 (fun _ _ _ _ _ _ us hl => match us, hl with | [_], _ => rfl)
  have T_Cursor_compared : MTop K C0 "compared" "Cursor.compared" st_Cursor_compared ["self"] := mtop_mk ma9 mi9 ml9 mc9 mk9 (fun _ _ _ _ _ _ us hl => match us, hl with | [_], _ => rfl)
  have T_Cursor_literal : MTop K C0 "literal" "Cursor.literal" st_Cursor_literal ["self"] := mtop_mk ma10 mi10 ml10 mc10 mk10 (fun _ _ _ _ _ _ us hl => match us, hl with | [_], _ => rfl)
  have T_Cursor_body : MTop K C0 "body" "Cursor.body" st_Cursor_body ["self"] := mtop_mk ma11 mi11 ml11 mc11 mk11 (fun _ _ _ _ _ _ us hl => match us, hl with | [_], _ => rfl)
  have T_Cursor_constants : MTop K C0 "constants" "Cursor.constants" st_Cursor_constants ["self"] := mtop_mk ma12 mi12 ml12 mc12 mk12 (fun _ _ _ _ _ _ us hl => match us, hl with | [_], _ => rfl)
  have B_term : BMeth K C0 "term" mf6 := ⟨⟨ma6, mi6, mk6⟩, bg0, bt0, by decide +kernel, bf0⟩
  have B_name : BMeth K C0 "name" mf4 := ⟨⟨ma4, mi4, mk4⟩, bg1, bt1, by decide +kernel, bf1⟩
  have X_NotSo : ExcC K mg "NotSo" X0 := ⟨xe0, PySem.W.mg_of X G xa0, xk0, xs0, xt0, xm0⟩
  have m_SIGNS := PySem.W.mg_of X G ua0
  have t_SIGNS := tup_mk ul0 uz0 ue0
  have m_KEY_WORDS := PySem.W.mg_of X G ua1
  have t_KEY_WORDS := tup_mk ul1 uz1 ue1
  have m_LOWER := PySem.W.mg_of X G q0
  have m_UPPER := PySem.W.mg_of X G q1
  have m_DIGITS := PySem.W.mg_of X G q2
  replace z_all := PySem.W.mg_none_of X G z_all
  replace z_any := PySem.W.mg_none_of X G z_any
  replace z_len := PySem.W.mg_none_of X G z_len
  replace z_int := PySem.W.mg_none_of X G z_int
  replace z_tuple := PySem.W.mg_none_of X G z_tuple
  replace z_enumerate := PySem.W.mg_none_of X G z_enumerate
  replace z_range := PySem.W.mg_none_of X G z_range
  replace z_str := PySem.W.mg_none_of X G z_str
  replace z_list := PySem.W.mg_none_of X G z_list
  replace z_min := PySem.W.mg_none_of X G z_min
  have e := hfa.symm.trans (PySem.W.mg_of X G a23)
  cases e
  refine ⟨PySem.W.fnOf "law" "law" (defArgs st_law) (defBody st_law) (defScope st_law) .none kV23 dc23 pm23 an23 cd23 ct23, fun s v => .of_eq rfl, fun base _ _ => ?_⟩
  have M : MWords mg := ⟨⟨_, m_LOWER⟩, ⟨_, m_UPPER⟩, ⟨_, m_DIGITS⟩⟩
  have t_SIGNS := signs_txt ▸ t_SIGNS
  have t_KEYS := keys_txt ▸ t_KEY_WORDS
  have D_mixed : Def l.prog w K mg base 1 "_law_mixed" ["number", "place"] spMixed := ok_mixed T_law_mixed z_int
  have D_rest := ok_rest T_law_rest D_mixed z_int z_len
  have D_draw := ok_draw T_law_draw D_rest z_int
  have D_next := ok_next T_law_next D_rest
  have D_pick := ok_pick T_law_pick D_draw z_len
  have D_mixT := ok_mixT T_law_mixed_up D_draw z_len z_list
  have D_game := ok_game T_law_game D_draw (ok_lines_game T_law_lines_game D_draw D_pick D_mixT z_range z_str) (ok_heaps_game T_law_heaps_game D_draw D_pick z_range z_str) (ok_walks_game T_law_walks_game D_draw D_pick z_range z_str) (ok_lamps_game T_law_lamps_game D_draw D_pick z_range z_str) (ok_pawns_game T_law_pawns_game D_draw D_pick z_range z_str)
  have D_wrongs : Def l.prog w K mg base 1 "_law_wrongs" [] (spWrongs K) := ok_wrongs T_law_wrongs
  have D_run : Def l.prog w K mg base 1 "run_sort" ["run"] spRunSort := ok_run_sort T_run_sort M z_all z_any z_len
  have D_eor : Def l.prog w K mg base 1 "end_of_run" ["line", "at"] spEndOfRun := ok_end_of_run T_end_of_run M z_len
  have D_sign : Def l.prog w K mg base 1 "sign_at" ["line", "at"] spSignAt := ok_sign_at T_sign_at m_SIGNS t_SIGNS z_len
  have D_words := ok_words_of T_words_of D_eor D_run D_sign z_len z_any
  have D_nothing : Def l.prog w K mg base 1 "says_nothing" ["line"] spNothing := ok_nothing T_says_nothing
  have D_ini : Ini l.prog w K mg base 1 C0 ["self", "words"] (spCInit C0) := ok_cinit T_Cursor___init__ K_Cursor
  have D_peek : Mth l.prog w K mg base 1 C0 "peek" ["self", "further"] (spPeek C0) := ok_peek T_Cursor_peek K_Cursor z_len
  have D_sees := ok_sees T_Cursor_sees K_Cursor D_peek
  have D_take := ok_take T_Cursor_take K_Cursor X_NotSo D_sees
  have D_name := ok_name T_Cursor_name K_Cursor X_NotSo m_KEY_WORDS t_KEYS D_peek
  have D_number := ok_number T_Cursor_number K_Cursor X_NotSo z_int D_peek
  have D_term := ok_term T_Cursor_term K_Cursor D_peek D_name D_number
  have B := held_both D_term D_name B_term B_name
  have sT : SS C0 X0 mf6 mf4 mf6 = some (spParse C0 X0 [] Wd.term TW) := if_pos rfl
  have sN : SS C0 X0 mf6 mf4 mf4 = some (spParse C0 X0 [] Wd.name TW) := (if_neg (Ne.symm bn)).trans (if_pos rfl)
  have D_listed := ok_listed T_Cursor_listed K_Cursor X_NotSo z_len z_tuple B D_sees D_take
  have D_atom := ok_atom T_Cursor_atom K_Cursor B_term sT D_name D_listed
  have D_compared := ok_compared T_Cursor_compared K_Cursor D_term D_number D_sees D_take
  have D_literal := ok_literal T_Cursor_literal K_Cursor D_term D_peek D_atom D_compared D_sees D_take
  have D_body := ok_body T_Cursor_body K_Cursor z_tuple D_literal D_sees D_take
  have D_constants := ok_constants T_Cursor_constants K_Cursor z_tuple z_len D_peek D_name D_number D_take
  have D_told := ok_told_by T_told_by K_Cursor B_name sN D_name D_term D_listed D_atom D_body D_constants D_sees D_take
  have D_rule := ok_rule_by T_rule_by K_Cursor D_atom D_body D_sees D_take
  have D_statement := ok_statement T_statement_of K_Cursor X_NotSo z_len D_ini D_told D_rule
  have D_read0 := ok_read T_read K_Cursor X_NotSo z_enumerate z_tuple D_nothing D_words D_statement
  have D_read : Def l.prog w K mg base 10 "read" ["text"] (spReadD K) := Def.imp D_read0 fun _ _ _ _ h => read_data h
  have D_law := ok_law T_law ⟨ok_pool T_law_pool D_rest, D_next, D_draw, D_pick, D_wrongs, D_game, D_read⟩ z_range z_len z_min
  exact D_law.at_ hfa l23
end My
open PySem PySem.W PyProof.Rows
set_option maxHeartbeats 0 in
theorem PySem.Challenge.cw_playproof_k01_texts_refused_at_their_fir_holds : PySem.Challenge.rw_playproof_k01_texts_refused_at_their_fir.Holds := by
  w_on; o_law; k_head; (case hw => w_witness2)
  k_fill
  refine L2.walk_of (l := PySem.Challenge.rw_playproof_k01_texts_refused_at_their_fir) (n := 63) (k := 11) (x := "script") (CX := fun _ => L2.CX0) (sp := fun w => My.spLaw _) rfl (by decide) rfl ⟨rfl, by decide, by decide⟩ (fun w h Y => PySem.W.kIn_of Y) ?F (fun _ _ a ns hl ho hS => ⟨a, ns, rfl, My.Scr.of ho hS, hl, fun _ => rfl⟩) (fun _ _ _ _ _ h => h)
  case F =>
    intro w mg fa h KX G hmg
    refine' My.all_mk KX G hmg ?a0 ?l0 ?c0 ?k0 ?a1 ?l1 ?c1 ?k1 ?a2 ?l2 ?c2 ?k2 ?a3 ?l3 ?c3 ?k3 ?a4 ?l4 ?c4 ?k4 ?a5 ?l5 ?c5 ?k5 ?a6 ?l6 ?c6 ?k6 ?a7 ?l7 ?c7 ?k7 ?a8 ?l8 ?c8 ?k8 ?a9 ?l9 ?c9 ?k9 ?a10 ?l10 ?c10 ?k10 ?a11 ?l11 ?c11 ?k11 ?a12 ?l12 ?c12 ?k12 ?a13 ?l13 ?c13 ?k13 ?a14 ?l14 ?c14 ?k14 ?a15 ?l15 ?c15 ?k15 ?a16 ?l16 ?c16 ?k16 ?a17 ?l17 ?c17 ?k17 ?a18 ?l18 ?c18 ?k18 ?a19 ?l19 ?c19 ?k19 ?a20 ?l20 ?c20 ?k20 ?a21 ?l21 ?c21 ?k21 ?a22 ?l22 ?c22 ?k22 ?a23 ?l23 ?c23 ?k23 ?ca0 ?cg0 ?ch0 ?co0 ?cs0 ?cm0 ?ck0 ?nf0_0 ?nf0_1 ?ma0 ?mi0 ?ml0 ?mc0 ?mk0 ?ma1 ?mi1 ?ml1 ?mc1 ?mk1 ?ma2 ?mi2 ?ml2 ?mc2 ?mk2 ?ma3 ?mi3 ?ml3 ?mc3 ?mk3 ?ma4 ?mi4 ?ml4 ?mc4 ?mk4 ?ma5 ?mi5 ?ml5 ?mc5 ?mk5 ?ma6 ?mi6 ?ml6 ?mc6 ?mk6 ?ma7 ?mi7 ?ml7 ?mc7 ?mk7 ?ma8 ?mi8 ?ml8 ?mc8 ?mk8 ?ma9 ?mi9 ?ml9 ?mc9 ?mk9 ?ma10 ?mi10 ?ml10 ?mc10 ?mk10 ?ma11 ?mi11 ?ml11 ?mc11 ?mk11 ?ma12 ?mi12 ?ml12 ?mc12 ?mk12 ?bg0 ?bt0 ?bf0 ?bg1 ?bt1 ?bf1 ?bn ?xa0 ?xe0 ?xk0 ?xs0 ?xt0 ?xm0 ?ua0 ?ul0 ?uz0 ?ue0 ?ua1 ?ul1 ?uz1 ?ue1 ?q0 ?q1 ?q2 ?z_all ?z_any ?z_len ?z_int ?z_tuple ?z_enumerate ?z_range ?z_str ?z_list ?z_min
    (case a0 => k_is)
    (case l0 => k_is)
    (case c0 => k_is)
    (case k0 => k_is)
    (case a1 => k_is)
    (case l1 => k_is)
    (case c1 => k_is)
    (case k1 => k_is)
    (case a2 => k_is)
    (case l2 => k_is)
    (case c2 => k_is)
    (case k2 => k_is)
    (case a3 => k_is)
    (case l3 => k_is)
    (case c3 => k_is)
    (case k3 => k_is)
    (case a4 => k_is)
    (case l4 => k_is)
    (case c4 => k_is)
    (case k4 => k_is)
    (case a5 => k_is)
    (case l5 => k_is)
    (case c5 => k_is)
    (case k5 => k_is)
    (case a6 => k_is)
    (case l6 => k_is)
    (case c6 => k_is)
    (case k6 => k_is)
    (case a7 => k_is)
    (case l7 => k_is)
    (case c7 => k_is)
    (case k7 => k_is)
    (case a8 => k_is)
    (case l8 => k_is)
    (case c8 => k_is)
    (case k8 => k_is)
    (case a9 => k_is)
    (case l9 => k_is)
    (case c9 => k_is)
    (case k9 => k_is)
    (case a10 => k_is)
    (case l10 => k_is)
    (case c10 => k_is)
    (case k10 => k_is)
    (case a11 => k_is)
    (case l11 => k_is)
    (case c11 => k_is)
    (case k11 => k_is)
    (case a12 => k_is)
    (case l12 => k_is)
    (case c12 => k_is)
    (case k12 => k_is)
    (case a13 => k_is)
    (case l13 => k_is)
    (case c13 => k_is)
    (case k13 => k_is)
    (case a14 => k_is)
    (case l14 => k_is)
    (case c14 => k_is)
    (case k14 => k_is)
    (case a15 => k_is)
    (case l15 => k_is)
    (case c15 => k_is)
    (case k15 => k_is)
    (case a16 => k_is)
    (case l16 => k_is)
    (case c16 => k_is)
    (case k16 => k_is)
    (case a17 => k_is)
    (case l17 => k_is)
    (case c17 => k_is)
    (case k17 => k_is)
    (case a18 => k_is)
    (case l18 => k_is)
    (case c18 => k_is)
    (case k18 => k_is)
    (case a19 => k_is)
    (case l19 => k_is)
    (case c19 => k_is)
    (case k19 => k_is)
    (case a20 => k_is)
    (case l20 => k_is)
    (case c20 => k_is)
    (case k20 => k_is)
    (case a21 => k_is)
    (case l21 => k_is)
    (case c21 => k_is)
    (case k21 => k_is)
    (case a22 => k_is)
    (case l22 => k_is)
    (case c22 => k_is)
    (case k22 => k_is)
    (case a23 => k_is)
    (case l23 => k_is)
    (case c23 => k_is)
    (case k23 => k_is)
    (case ca0 => k_is)
    (case cg0 => k_is)
    (case ch0 => k_is)
    (case co0 => k_is)
    (case cs0 => k_is)
    (case cm0 => k_is)
    (case ck0 => k_is)
    (case nf0_0 => k_is)
    (case nf0_1 => k_is)
    (case ma0 => k_is)
    (case mi0 => k_is)
    (case ml0 => k_is)
    (case mc0 => k_is)
    (case mk0 => k_is)
    (case ma1 => k_is)
    (case mi1 => k_is)
    (case ml1 => k_is)
    (case mc1 => k_is)
    (case mk1 => k_is)
    (case ma2 => k_is)
    (case mi2 => k_is)
    (case ml2 => k_is)
    (case mc2 => k_is)
    (case mk2 => k_is)
    (case ma3 => k_is)
    (case mi3 => k_is)
    (case ml3 => k_is)
    (case mc3 => k_is)
    (case mk3 => k_is)
    (case ma4 => k_is)
    (case mi4 => k_is)
    (case ml4 => k_is)
    (case mc4 => k_is)
    (case mk4 => k_is)
    (case ma5 => k_is)
    (case mi5 => k_is)
    (case ml5 => k_is)
    (case mc5 => k_is)
    (case mk5 => k_is)
    (case ma6 => k_is)
    (case mi6 => k_is)
    (case ml6 => k_is)
    (case mc6 => k_is)
    (case mk6 => k_is)
    (case ma7 => k_is)
    (case mi7 => k_is)
    (case ml7 => k_is)
    (case mc7 => k_is)
    (case mk7 => k_is)
    (case ma8 => k_is)
    (case mi8 => k_is)
    (case ml8 => k_is)
    (case mc8 => k_is)
    (case mk8 => k_is)
    (case ma9 => k_is)
    (case mi9 => k_is)
    (case ml9 => k_is)
    (case mc9 => k_is)
    (case mk9 => k_is)
    (case ma10 => k_is)
    (case mi10 => k_is)
    (case ml10 => k_is)
    (case mc10 => k_is)
    (case mk10 => k_is)
    (case ma11 => k_is)
    (case mi11 => k_is)
    (case ml11 => k_is)
    (case mc11 => k_is)
    (case mk11 => k_is)
    (case ma12 => k_is)
    (case mi12 => k_is)
    (case ml12 => k_is)
    (case mc12 => k_is)
    (case mk12 => k_is)
    (case bg0 => k_is)
    (case bt0 => k_is)
    (case bf0 => k_is)
    (case bg1 => k_is)
    (case bt1 => k_is)
    (case bf1 => k_is)
    (case xa0 => k_is)
    (case xe0 => k_exc)
    (case xk0 => k_is)
    (case xs0 => k_is)
    (case xt0 => k_is)
    (case xm0 => kts_exm)
    (case ua0 => k_is)
    (case ul0 => k_is)
    (case ua1 => k_is)
    (case ul1 => k_is)
    (case q0 => k_is)
    (case q1 => k_is)
    (case q2 => k_is)
    (case z_all => k_is)
    (case z_any => k_is)
    (case z_len => k_is)
    (case z_int => k_is)
    (case z_tuple => k_is)
    (case z_enumerate => k_is)
    (case z_range => k_is)
    (case z_str => k_is)
    (case z_list => k_is)
    (case z_min => k_is)
    (case bn => decide)
    (case uz0 => decide)
    (case ue0 => rfl)
    (case uz1 => decide)
    (case ue1 => rfl)
