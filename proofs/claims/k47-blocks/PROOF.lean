import PyProof.Rows.All
import Wide.All
import OpenK.AllK
import Wide.FinOn
import HandS.ForMost
import HandS.Wide
import HandS.DictComp
import HandS.IsInst
import HandS.Evl
import PySem.Challenge.RW_playproof_k47_whole_blocks_with_sums
set_option Elab.async false
set_option linter.all false
set_option maxRecDepth 100000
set_option maxHeartbeats 4000000
/-! Own base: a def by its contract (Def), heaps but for one address (Off), the law's pool of numbers -/
namespace My
open PySem PySem.Spec PyProof.Rows L2
/-- a def of the top that keeps its promise, by the name that it is called by -/
structure Def (P : Program) (w : World) (K : PySem.W.Frag) (mg : Str → Option Value) (base : Heap) (k : Nat) (x : Str) (ps : List Str) (sp : Sp) : Prop where
  ex : ∃ (f : Addr) (fd : FuncData), FnOk P w K mg base CX0 k f fd ps sp ∧ mg x = some (.ref f) ∧ PySem.W.keepIn K (.ref f) = true ∧ Binds K fd ps [] ∧ ∃ oc od osl, K.lookup f = some ⟨oc, od, .func fd, osl⟩
/-- a def as it stands behind the top -/
structure Top (K : PySem.W.Frag) (mg : Str → Option Value) (x : Str) (st : Stmt) (ps : List Str) : Prop where
  ex : ∃ (f : Addr) (fd : FuncData), Fun K x x st f fd ∧ mg x = some (.ref f) ∧ Binds K fd ps []
section
variable {P : Program} {w : World} {K : PySem.W.Frag} {mg : Str → Option Value} {base : Heap} {x : Str} {st : Stmt} {ps N : List Str} {k : Nat} {sp : Sp}
theorem Top.def (T : Top K mg x st ps) (h : ∀ f fd, Fun K x x st f fd → FnOk P w K mg base CX0 k f fd ps sp) : Def P w K mg base k x ps sp := by
  obtain ⟨f, fd, F, m, b⟩ := T.ex
  obtain ⟨oc, od, kV, doc, pm, an, cdv, ct, osl, _, l, _⟩ := F.ex
  exact ⟨f, fd, h f fd F, m, F.kp, b, oc, od, osl, l⟩
theorem Def.mono {j : Nat} (D : Def P w K mg base j x ps sp) (h : j ≤ k) : Def P w K mg base k x ps sp := by
  obtain ⟨f, fd, F, m, kp, b, l⟩ := D.ex
  exact ⟨f, fd, F.mono h, m, kp, b, l⟩
theorem Def.imp {sp' : Sp} (D : Def P w K mg base k x ps sp) (h : ∀ vs H Q E, sp' vs H Q E → sp vs H Q E) : Def P w K mg base k x ps sp' := by
  obtain ⟨f, fd, F, m, kp, b, l⟩ := D.ex
  exact ⟨f, fd, F.imp h, m, kp, b, l⟩
theorem Def.at_ {f : Addr} {fd : FuncData} {oc : Value} {od : Option Addr} {osl : Array (Option Value)} (D : Def P w K mg base k x ps sp) (hm : mg x = some (.ref f)) (hl : K.lookup f = some ⟨oc, od, .func fd, osl⟩) : FnOk P w K mg base CX0 k f fd ps sp := by
  obtain ⟨f', fd', F, m, _, _, oc', od', osl', l⟩ := D.ex
  obtain rfl : f' = f := by
    rw [hm] at m
    injection m with e
    injection e with e
    exact e.symm
  rw [hl] at l
  injection l with e
  injection e with _ _ e _
  injection e with e
  subst e
  exact F
/-- a def of the top, by what the head's facts say of it -/
theorem top_mk {h : Heap} {f : Addr} {od an : Option Addr} {osl : Array (Option Value)} {oc kV doc pm cd ct : Value} (X : K.In h) (G : h.Ns mainGlobals mg) (a : PySem.W.nsIn K mainGlobals x = some (some (.ref f)))
    (l : K.lookup f = some ⟨oc, od, .func (PySem.W.fnOf x x (defArgs st) (defBody st) (defScope st) .none kV doc pm an cd ct), osl⟩) (c : PySem.W.codeIn K cd x = true) (kp : PySem.W.keepIn K (.ref f) = true)
    (hb : ∀ (kV doc pm : Value) (an : Option Addr) (cdv ct : Value) (us : List Value), us.length = ps.length → bindArgs (PySem.W.fnOf x x (defArgs st) (defBody st) (defScope st) .none kV doc pm an cdv ct) ⟨us, []⟩ = pure (ps.zip us)) : Top K mg x st ps :=
  have F := fun_mk (st := st) l c kp
  ⟨f, _, F, PySem.W.mg_of X G a, F.binds hb⟩
theorem rel_abs : ∀ {u : Value} {y : V}, absV u = some y → RelV y u := fun {u y} e => by
  cases u <;> cases e <;> first | rfl | exact ⟨_, rfl⟩
theorem vals_abs : ∀ {us : List Value} {ys : List V}, us.map absV = ys.map some → Vals ys us
  | [], [], _ => .nil
  | [], _ :: _, e => by cases e
  | _ :: _, [], e => by cases e
  | u :: us, y :: ys, e => by
    injection e with e1 e2
    exact .cons (rel_abs e1) (vals_abs e2)
/-- a tuple of the module -/
theorem tup_mk {a : Addr} {od : Option Addr} {its : Array Value} {n : Nat} {osl : Array (Option Value)} {ys : List V} (l : K.lookup a = some ⟨.type "tuple", od, .seq its n, osl⟩) (z : its.size ≤ 1000) (e : its.toList.map absV = ys.map some) (H : Hp) : SqT K H a ys :=
  .inr ⟨_, its, n, l, rfl, rfl, Nat.le_of_lt (small1000 z), vals_abs e⟩
/-- THE RULE for a def: as Fun.ok -/
theorem Top.ok (T : Top K mg x st ps) (S : FnScope N ps (defScope st)) (len : ∀ vs H Q E, sp vs H Q E → vs.length = ps.length)
    (hbody : ∀ (f : Addr) (cdv : Value) (A : Around) (outer : List Env) (s : Shared) (H : Hp) (vs : List V) (Q : VK) (E : XK), Room k (A.deeper (envOfC x (defScope st) s.heap.objs.size f cdv)) → sp vs H Q E →
      ∃ t, PSs (cxOf CX0 P w K mg base N x (defScope st) f cdv A outer s H E).nox (defBody st) t ∧ t { nx := fun _ H' => Q .non H', rt := Q } (start N vs) H) : Def P w K mg base (k + 1) x ps sp :=
  T.def fun f fd F => F.ok S len (hbody f)
end
section
variable {X : Cx} {x : Str} {p pos : Pos} {e : Expr} {es : List Expr} {t : TA} {k : Nat} {ps : List Str} {sp : Sp}
theorem pe_def (D : Def X.prog X.w X.K X.mg X.base k x ps sp) (hr : Room k X.A) (hg : Gl X x) (ha : PA X (e :: es) t) (hdb : (x == ("__debug__" : Str)) = false := by decide)
    (he : starEach (e :: es) X.env = (false, eval e X.env) :: starEach es X.env := by rfl) (hpl : (backTo pos (starEach es X.env)).any (·.1) = false := by rfl) : PE X (.Call (.Name x p) (e :: es) [] pos) (tCall sp [] E0 t) := by
  obtain ⟨f, fd, F, m, kp, b, _⟩ := D.ex
  exact pe_call F hr hg m kp b .nil pass0 ha hdb he hpl
theorem pe_def0 (D : Def X.prog X.w X.K X.mg X.base k x ps sp) (hr : Room k X.A) (hg : Gl X x) (hdb : (x == ("__debug__" : Str)) = false := by decide) : PE X (.Call (.Name x p) [] [] pos) (tCall sp [] E0 tNil) := by
  obtain ⟨f, fd, F, m, kp, b, _⟩ := D.ex
  exact pe_call0 F hr hg m kp b .nil pass0 hdb
end
/-! rules that name the written part, K told: they serve within a comprehension, too -/
section
variable {X : Cx}
theorem ixL (K : PySem.W.Frag) (h : X.K = K := by rfl) : IxR X (rIxL K) := by subst h; exact ix_list
theorem ixT (K : PySem.W.Frag) (h : X.K = K := by rfl) : IxR X (rIxT K) := by subst h; exact ix_tup
theorem ixQ (K : PySem.W.Frag) (h : X.K = K := by rfl) : IxR X (rIx K) := by subst h; exact ix_seq
theorem slL (K : PySem.W.Frag) (h : X.K = K := by rfl) : SlR X (rSlL K) := by subst h; exact sl_list
theorem slT (K : PySem.W.Frag) (h : X.K = K := by rfl) : SlR X (rSlT K) := by subst h; exact sl_tup
def rLen (K : PySem.W.Frag) : List V → Hp → VK → Prop := fun xs H Q => ∃ p ys, xs = [.ref p] ∧ (SqL K H p ys ∨ SqT K H p ys) ∧ Q (.int ys.length) H
theorem lenQ (K : PySem.W.Frag) (h : X.K = K := by rfl) : CallR X (.builtin "len") (rLen K) := by subst h; exact call_len_seq
def rLstOf (K : PySem.W.Frag) : List V → Hp → VK → Prop := fun xs H Q => ∃ p ys, xs = [.ref p] ∧ (SqL K H p ys ∨ SqT K H p ys) ∧ ∀ l, H l = none → Q (.ref l) (upd H l (.lst ys))
theorem lstQ (K : PySem.W.Frag) (h : X.K = K := by rfl) : CallR X (.type "list") (rLstOf K) := by subst h; exact call_list_of
def rTupOf (K : PySem.W.Frag) : List V → Hp → VK → Prop := fun xs H Q => ∃ p ys, xs = [.ref p] ∧ ((SqL K H p ys ∧ ∀ l, H l = none → Q (.ref l) (upd H l (.tup ys))) ∨ (SqT K H p ys ∧ Q (.ref p) H))
theorem tupQ (K : PySem.W.Frag) (h : X.K = K := by rfl) : CallR X (.type "tuple") (rTupOf K) := by subst h; exact call_tuple_of
theorem inQ (K : PySem.W.Frag) (h : X.K = K := by rfl) : OpR X (compareOp .In) (rIn K false) := by subst h; exact op_in_seq
theorem ninQ (K : PySem.W.Frag) (h : X.K = K := by rfl) : OpR X (compareOp .NotIn) (rIn K true) := by subst h; exact op_notIn_seq
theorem isiQ (K : PySem.W.Frag) (h : X.K = K := by rfl) : CallR X (.builtin "isinstance") (rIsi K) := by subst h; exact call_isi
theorem allQ (K : PySem.W.Frag) (hc : X.calm = true := by rfl) (h : X.K = K := by rfl) : CallR X (.builtin "all") (rAll K) := by subst h; exact cr_all hc
theorem anyQ (K : PySem.W.Frag) (hc : X.calm = true := by rfl) (h : X.K = K := by rfl) : CallR X (.builtin "any") (rAny K) := by subst h; exact cr_any hc
theorem eqQ (K : PySem.W.Frag) (hu : X.A.units + 64 < cLine) (h : X.K = K := by rfl) : OpR X (compareOp .Eq) (rEqD K) := by subst h; exact op_eqD hu
theorem neQ (K : PySem.W.Frag) (hu : X.A.units + 64 < cLine) (h : X.K = K := by rfl) : OpR X (compareOp .NotEq) (rNeD K) := by subst h; exact op_neD hu
end
/-- over a locked dict's keys -/
theorem for_keys {d : Addr} {o : Obj} {kvs : List (Key × V)} {g : TG} {tb : TS} {D : Ends} {σ : L2.St} {H : Hp} (Pv : Nat → L2.St → Hp → Prop) (h0 : Pv 0 σ H) (hl : ∀ i σ H, Pv i σ H → H d = some (.frz o (.dK kvs)))
    (hs : ∀ i k v σ H, kvs[i]? = some (k, v) → Pv i σ H → g (kV k) σ H fun σ2 H2 => tb { D with nx := Pv (i + 1), ct := Pv (i + 1), bk := D.nx } σ2 H2) (hd : ∀ σ H, Pv kvs.length σ H → D.nx σ H) :
    ∃ W : Nat → Nat → L2.St → Hp → Prop, (∃ m, W 0 m σ H) ∧ ∀ i m σ H, W i m σ H → ((Itk d o kvs).stop i H ∧ D.nx σ H) ∨ ((Itk d o kvs).go i H ∧ ∃ N : L2.St → Hp → Prop, (∀ σ' H', N σ' H' → ∃ m', m' < m ∧ W (i + 1) m' σ' H') ∧
      ∀ x H', (Itk d o kvs).yld i H x H' → g x σ H' fun σ2 H2 => tb { D with nx := N, ct := N, bk := D.nx } σ2 H2) := by
  refine ⟨fun i m σ H => m = kvs.length - i ∧ i ≤ kvs.length ∧ Pv i σ H, ⟨_, rfl, Nat.zero_le _, h0⟩, ?_⟩
  rintro i m σ H ⟨rfl, hi, p⟩
  by_cases lt : i < kvs.length
  · refine .inr ⟨⟨hl i σ H p, lt⟩, Pv (i + 1), fun σ' H' p' => ⟨_, by omega, rfl, lt, p'⟩, fun x H' y => ?_⟩
    obtain ⟨rfl, k, v, e, rfl⟩ := y
    exact hs i k v σ H' e p
  · have e : i = kvs.length := Nat.le_antisymm hi (Nat.le_of_not_lt lt)
    exact .inl ⟨⟨hl i σ H p, by omega⟩, hd σ H (e ▸ p)⟩
/-! ### heaps -/
/-- all but p is as it was -/
def Off (p : Addr) (H H' : Hp) : Prop := ∀ b, b ≠ p → H' b = H b
theorem Off.refl {p : Addr} (H : Hp) : Off p H H := fun _ _ => rfl
theorem Off.trans {p : Addr} {H H1 H2 : Hp} (a : Off p H H1) (b : Off p H1 H2) : Off p H H2 := fun c h => (b c h).trans (a c h)
theorem Off.upd {p : Addr} {H : Hp} {o : HO} : Off p H (L2.upd H p o) := fun _ h => upd_ne h
theorem Off.get {p : Addr} {H H' : Hp} (a : Off p H H') {b : Addr} {o : HO} (h : b ≠ p) (e : H b = some o) : H' b = some o := (a b h).trans e
theorem Off.tup {p : Addr} {H H' : Hp} (a : Off p H H') {b : Addr} {xs ys : List V} (hp : H p = some (.lst xs)) (e : H b = some (.tup ys)) : H' b = some (.tup ys) :=
  a.get (fun z => by subst z; rw [hp] at e; cases e) e
theorem sqL_off {K : PySem.W.Frag} {p a : Addr} {H H' : Hp} {xs : List V} (o : Off p H H') (n : a ≠ p) (h : SqL K H a xs) : SqL K H' a xs := by
  rcases h with (h | ⟨u, h⟩) | h
  · exact .inl (.inl (o.get n h))
  · exact .inl (.inr ⟨u, o.get n h⟩)
  · exact .inr h
theorem sqT_off {K : PySem.W.Frag} {p a : Addr} {H H' : Hp} {xs : List V} (o : Off p H H') (n : a ≠ p) (h : SqT K H a xs) : SqT K H' a xs := by
  rcases h with (h | ⟨u, h⟩) | h
  · exact .inl (.inl (o.get n h))
  · exact .inl (.inr ⟨u, o.get n h⟩)
  · exact .inr h
theorem sqL_upd {K : PySem.W.Frag} {p a : Addr} {H : Hp} {o : HO} {xs : List V} (n : a ≠ p) (h : SqL K H a xs) : SqL K (upd H p o) a xs := sqL_off Off.upd n h
theorem sqT_upd {K : PySem.W.Frag} {p a : Addr} {H : Hp} {o : HO} {xs : List V} (n : a ≠ p) (h : SqT K H a xs) : SqT K (upd H p o) a xs := sqT_off Off.upd n h
/-! ### the pool of numbers: [script, place, rest, fills] -/
def poolO (a : Addr) (i : Nat) (n f : Int) : HO := .lst [.ref a, .int i, .int n, .int f]
/-- the script: locked, or an object of the module -/
def Scr (K : PySem.W.Frag) (H : Hp) (a : Addr) (ns : List Int) : Prop :=
  (∃ u, H a = some (.frz u (.lst (ns.map V.int)))) ∨ ∀ H', SqL K H' a (ns.map V.int)
theorem Scr.sq {K : PySem.W.Frag} {H : Hp} {a : Addr} {ns : List Int} (h : Scr K H a ns) : SqL K H a (ns.map V.int) := by
  rcases h with ⟨u, h⟩ | h
  · exact .inl (.inr ⟨u, h⟩)
  · exact h H
theorem Scr.of {K : PySem.W.Frag} {H : Hp} {a : Addr} {ns : List Int} (ho : Only H) (h : SqL K H a (ns.map V.int)) : Scr K H a ns := by
  rcases h with (h | ⟨u, h⟩) | h
  · rcases ho a with e | ⟨o, xs, e⟩ <;> rw [h] at e <;> cases e
  · exact .inl ⟨u, h⟩
  · exact .inr fun _ => .inr h
/-- what may change: nothing that is locked -/
def Fz : Option HO → Prop
  | some (.frz _ _) => False
  | _ => True
theorem Scr.off {K : PySem.W.Frag} {H H' : Hp} {a q : Addr} {ns : List Int} (h : Scr K H a ns) (o : Off q H H') (n : Fz (H q)) : Scr K H' a ns := by
  rcases h with ⟨u, h⟩ | h
  · refine .inl ⟨u, o.get (fun z => ?_) h⟩
    subst z
    rw [h] at n
    exact n
  · exact .inr h
structure PoolAt (K : PySem.W.Frag) (H : Hp) (p a : Addr) : Prop where
  ex : ∃ (i : Nat) (n f : Int), H p = some (poolO a i n f)
  sc : ∃ ns : List Int, ns.length ≤ 63 ∧ Scr K H a ns
theorem PoolAt.off {K : PySem.W.Frag} {H H' : Hp} {p a q : Addr} (h : PoolAt K H p a) (o : Off q H H') (n : p ≠ q) (z : Fz (H q)) : PoolAt K H' p a := by
  obtain ⟨⟨i, y, f, e⟩, ⟨ns, l, s⟩⟩ := h
  exact ⟨⟨i, y, f, o.get n e⟩, ⟨ns, l, s.off o z⟩⟩
/-- a new object beside it -/
theorem PoolAt.new {K : PySem.W.Frag} {H : Hp} {p a q : Addr} {o : HO} (h : PoolAt K H p a) (n : H q = none) : PoolAt K (L2.upd H q o) p a := by
  obtain ⟨i, y, f, e⟩ := h.ex
  exact h.off Off.upd (ne_of_none e n) (by rw [n]; trivial)
theorem PoolAt.upd {K : PySem.W.Frag} {H : Hp} {p a : Addr} {i : Nat} {n f : Int} (h : PoolAt K H p a) : PoolAt K (L2.upd H p (poolO a i n f)) p a := by
  obtain ⟨⟨i', n', f', e⟩, ⟨ns, l, s⟩⟩ := h
  exact ⟨⟨i, n, f, upd_same⟩, ⟨ns, l, s.off Off.upd (by rw [e]; trivial)⟩⟩
/-! ### the promises of the law's own numbers -/
def spMixed : Sp := fun vs H Q _ => ∃ n p : Int, vs = [.int n, .int p] ∧ ∀ v : Int, Q (.int v) H
/-- a rest at a place of the script -/
def spRest (K : PySem.W.Frag) : Sp := fun vs H Q _ => ∃ (a : Addr) (ns : List Int) (i f : Int), vs = [.ref a, .int i, .int f] ∧ Scr K H a ns ∧ ns.length ≤ 63 ∧ ∀ v : Int, Q (.int v) H
def spPool (K : PySem.W.Frag) : Sp := fun vs H Q _ => ∃ (a : Addr) (ns : List Int), vs = [.ref a] ∧ Scr K H a ns ∧ ns.length ≤ 63 ∧ ∀ (p : Addr) (H' : Hp), H p = none → Off p H H' → PoolAt K H' p a → Q (.ref p) H'
def spNext (K : PySem.W.Frag) : Sp := fun vs H Q _ => ∃ p a : Addr, vs = [.ref p] ∧ PoolAt K H p a ∧ ∀ H', Off p H H' → PoolAt K H' p a → Q .non H'
/-- a number below the limit -/
def spDraw (K : PySem.W.Frag) : Sp := fun vs H Q _ => ∃ (p a : Addr) (lim : Int), vs = [.ref p, .int lim] ∧ PoolAt K H p a ∧ 0 < lim ∧ lim < 1073741824 ∧ ∀ (v : Int) (H' : Hp), 0 ≤ v → v < lim → Off p H H' → PoolAt K H' p a → Q (.int v) H'
/-- one of a list's items -/
def spPick (K : PySem.W.Frag) : Sp := fun vs H Q _ => ∃ (p a o : Addr) (xs : List V), vs = [.ref p, .ref o] ∧ PoolAt K H p a ∧ SqL K H o xs ∧ o ≠ p ∧ 0 < xs.length ∧ xs.length ≤ 100000 ∧ ∀ (x : V) (H' : Hp), x ∈ xs → Off p H H' → PoolAt K H' p a → Q x H'
/-- the item of a list at a place that % gives -/
theorem at_mod {α : Type} {xs : List α} {i : Int} (h : 0 < xs.length) : ∃ x, atI xs (i % (xs.length : Int)) = some x ∧ x ∈ xs := by
  have h0 : 0 ≤ i % (xs.length : Int) := Int.emod_nonneg _ (by omega)
  have h1 : i % (xs.length : Int) < (xs.length : Int) := Int.emod_lt_of_pos _ (by omega)
  obtain ⟨j, e⟩ := Int.eq_ofNat_of_zero_le h0
  have hj : j < xs.length := by omega
  rw [e]
  exact ⟨xs[j], atI_nat (List.getElem?_eq_getElem hj), List.getElem_mem hj⟩
theorem at_in {α : Type} {xs : List α} {i : Int} (h0 : 0 ≤ i) (h1 : i < (xs.length : Int)) : ∃ x, atI xs i = some x ∧ x ∈ xs := by
  obtain ⟨j, e⟩ := Int.eq_ofNat_of_zero_le h0
  have hj : j < xs.length := by omega
  rw [e]
  exact ⟨xs[j], atI_nat (List.getElem?_eq_getElem hj), List.getElem_mem hj⟩
theorem emod_abs {i m : Int} {b : Nat} (h : 0 < m) (hm : m ≤ 2 ^ b) : (i % m).natAbs < 2 ^ b := by
  have h0 := Int.emod_nonneg i (Int.ne_of_gt h)
  have h1 := Int.emod_lt_of_pos i h
  have h2 : i % m < ((2 ^ b : Nat) : Int) := Int.lt_of_lt_of_le h1 (by exact_mod_cast hm)
  omega
end My
set_option Elab.async false
set_option linter.all false
set_option maxRecDepth 100000
set_option maxHeartbeats 4000000
/-! Data that the laws compare; small tests; a comprehension over a range with a step; is True -/
namespace My
open PySem PySem.Spec PyProof.Rows L2
theorem ifS {x : Str} {A B : Prop} (h : A) : if decide (V.str x = V.str x) = true then A else B := by
  rw [decide_eq_true rfl]
  exact iteT h
theorem ifN {x y : Str} {A B : Prop} (n : x ≠ y) (h : B) : if decide (V.str x = V.str y) = true then A else B := by
  rw [decide_eq_false fun z => n (V.str.inj z)]
  exact iteF h
theorem ifB {c A B : Prop} [Decidable c] {b : Bool} (h : decide c = b) (k : if b = true then A else B) : if decide c = true then A else B := by
  rw [h]
  exact k
theorem ifnB {c A B : Prop} [Decidable c] {b : Bool} (h : decide c = b) (k : if b = true then B else A) : if (!decide c) = true then A else B := by
  rw [h]
  cases b
  · exact iteT k
  · exact iteF k
theorem ifD {c A B : Prop} [Decidable c] (h : c) (a : A) : if decide c = true then A else B := by
  rw [decide_eq_true h]
  exact iteT a
theorem ifND {c A B : Prop} [Decidable c] (h : ¬ c) (b : B) : if decide c = true then A else B := by
  rw [decide_eq_false h]
  exact iteF b
theorem ifnD {c A B : Prop} [Decidable c] (h : c) (b : B) : if (!decide c) = true then A else B := by
  rw [decide_eq_true h]
  exact iteF b
theorem ifnND {c A B : Prop} [Decidable c] (h : ¬ c) (a : A) : if (!decide c) = true then A else B := by
  rw [decide_eq_false h]
  exact iteT a
/-- any test: by its value -/
theorem ifV {t b : Bool} {A B : Prop} (h : t = b) (k : if b = true then A else B) : if t = true then A else B := by
  rw [h]
  exact k
theorem dec_i (i j : Int) : decide (V.int i = V.int j) = decide (i = j) := by
  by_cases e : i = j
  · subst e
    rw [decide_eq_true rfl, decide_eq_true rfl]
  · rw [decide_eq_false e, decide_eq_false fun z => e (V.int.inj z)]
theorem dec_b (i j : Bool) : decide (V.bl i = V.bl j) = decide (i = j) := by
  by_cases e : i = j
  · subst e
    rw [decide_eq_true rfl, decide_eq_true rfl]
  · rw [decide_eq_false e, decide_eq_false fun z => e (V.bl.inj z)]
theorem sqT_same {K : PySem.W.Frag} {H H' : Hp} {a : Addr} {xs : List V} (s : Same H H') (h : SqT K H a xs) : SqT K H' a xs := by
  rcases h with (h | ⟨u, h⟩) | h
  · exact .inl (.inl (s _ _ h))
  · exact .inl (.inr ⟨u, s _ _ h⟩)
  · exact .inr h
theorem Same.new {H : Hp} {p : Addr} {o : HO} (h : H p = none) : Same H (upd H p o) := fun b x e => by
  rw [upd_ne (ne_of_none e h)]
  exact e
/-- what H does not know may change -/
theorem same_mut {H H' : Hp} {d : Addr} {o : HO} (s : Same H H') (n : H d = none) : Same H (upd H' d o) := fun b x e => by
  rw [upd_ne (ne_of_none e n)]
  exact s b x e
theorem PoolAt.same {K : PySem.W.Frag} {H H' : Hp} {p a : Addr} (h : PoolAt K H p a) (s : Same H H') : PoolAt K H' p a := by
  obtain ⟨⟨i, n, f, e⟩, ns, l, sc⟩ := h
  refine ⟨⟨i, n, f, s _ _ e⟩, ns, l, ?_⟩
  rcases sc with ⟨u, h⟩ | h
  · exact .inl ⟨u, s _ _ h⟩
  · exact .inr h
theorem rd_lst {H : Hp} {q : Addr} {ys : List V} (h : H q = some (.lst ys)) : ∀ xs, ¬ Rd H q (.tup xs) := fun xs r => by
  rcases r with r | ⟨u, r⟩ <;> rw [h] at r <;> cases r
theorem rd_none {H : Hp} {q : Addr} (h : H q = none) : ∀ xs, ¬ Rd H q (.tup xs) := fun xs r => by
  rcases r with r | ⟨u, r⟩ <;> rw [h] at r <;> cases r
theorem sq_len {n : Nat} (h : n ≤ 1000000) : n < sizeLine := by
  rw [sizeLine_eq]
  omega
/-! ### a list of numbers, a list of bits -/
def bv (bs : List Nat) : List V := bs.map fun (n : Nat) => V.int (n : Int)
def bitI (b : Bool) : Int := if b then 1 else 0
def bbv (bs : List Bool) : List V := bs.map fun b => V.int (bitI b)
theorem bv_len (bs : List Nat) : (bv bs).length = bs.length := List.length_map _
theorem bbv_len (bs : List Bool) : (bbv bs).length = bs.length := List.length_map _
theorem bv_app (a b : List Nat) : bv (a ++ b) = bv a ++ bv b := List.map_append
theorem bbv_app (a b : List Bool) : bbv (a ++ b) = bbv a ++ bbv b := List.map_append
theorem bv_get {bs : List Nat} {i n : Nat} (h : bs[i]? = some n) : (bv bs)[i]? = some (.int n) := by
  unfold bv
  rw [List.getElem?_map, h]
  rfl
theorem bv_of {bs : List Nat} {i : Nat} {x : V} (h : (bv bs)[i]? = some x) : ∃ n : Nat, bs[i]? = some n ∧ x = .int n := by
  unfold bv at h
  rw [List.getElem?_map] at h
  cases e : bs[i]? with
  | none => rw [e] at h; cases h
  | some n =>
    rw [e] at h
    exact ⟨n, rfl, (Option.some.inj h).symm⟩
theorem bbv_get {bs : List Bool} {i : Nat} {b : Bool} (h : bs[i]? = some b) : (bbv bs)[i]? = some (.int (bitI b)) := by
  unfold bbv
  rw [List.getElem?_map, h]
  rfl
theorem bbv_of {bs : List Bool} {i : Nat} {x : V} (h : (bbv bs)[i]? = some x) : ∃ b : Bool, bs[i]? = some b ∧ x = .int (bitI b) := by
  unfold bbv at h
  rw [List.getElem?_map] at h
  cases e : bs[i]? with
  | none => rw [e] at h; cases h
  | some n =>
    rw [e] at h
    exact ⟨n, rfl, (Option.some.inj h).symm⟩
/-- slices -/
theorem cut_ge (xs : List V) (n : Nat) : cutV xs (some (n : Int)) none = xs.drop n := by
  unfold cutV
  rw [HT.sIx_nat, HT.sIx_none]
  by_cases h : n ≤ xs.length
  · rw [Nat.min_eq_left h, List.take_of_length_le (by rw [List.length_drop]; omega)]
  · rw [Nat.min_eq_right (by omega), List.drop_eq_nil_of_le (Nat.le_refl _), List.drop_eq_nil_of_le (by omega), List.take_nil]
theorem cut_lt (xs : List V) (n : Nat) : cutV xs none (some (n : Int)) = xs.take n := by
  unfold cutV
  rw [HT.sIx_nat, HT.sIx_none, List.drop_zero, Nat.sub_zero]
  by_cases h : n ≤ xs.length
  · rw [Nat.min_eq_left h]
  · rw [Nat.min_eq_right (by omega), List.take_of_length_le (Nat.le_refl _), List.take_of_length_le (by omega)]
theorem cut_mid (xs : List V) (n m : Nat) : cutV xs (some (n : Int)) (some (m : Int)) = (xs.drop n).take (m - n) := by
  unfold cutV
  rw [HT.sIx_nat, HT.sIx_nat]
  by_cases h : n ≤ xs.length
  · rw [Nat.min_eq_left h]
    by_cases h2 : m ≤ xs.length
    · rw [Nat.min_eq_left h2]
    · rw [Nat.min_eq_right (by omega), List.take_of_length_le (by rw [List.length_drop]; omega), List.take_of_length_le (by rw [List.length_drop]; omega)]
  · rw [Nat.min_eq_right (a := n) (by omega), List.drop_eq_nil_of_le (Nat.le_refl _), List.drop_eq_nil_of_le (by omega), List.take_nil, List.take_nil]
/-- from the end: xs[-n:], xs[:-n] -/
theorem cut_back (xs : List V) (n : Nat) (h : 0 < n) : cutV xs (some (-(n : Int))) none = xs.drop (xs.length - n) := by
  unfold cutV
  have e : HT.sIx xs.length 0 (some (-(n : Int))) = xs.length - n := by
    show (if (-(n : Int)) < 0 then ((-(n : Int)) + (xs.length : Int)).toNat else min (-(n : Int)).toNat xs.length) = _
    rw [if_pos (by omega)]
    omega
  rw [e, HT.sIx_none, List.take_of_length_le (by rw [List.length_drop]; omega)]
theorem cut_front (xs : List V) (n : Nat) (h : 0 < n) : cutV xs none (some (-(n : Int))) = xs.take (xs.length - n) := by
  unfold cutV
  have e : HT.sIx xs.length xs.length (some (-(n : Int))) = xs.length - n := by
    show (if (-(n : Int)) < 0 then ((-(n : Int)) + (xs.length : Int)).toNat else min (-(n : Int)).toNat xs.length) = _
    rw [if_pos (by omega)]
    omega
  rw [e, HT.sIx_none, List.drop_zero, Nat.sub_zero]
theorem bv_drop (bs : List Nat) (n : Nat) : (bv bs).drop n = bv (bs.drop n) := List.map_drop.symm
theorem bv_take (bs : List Nat) (n : Nat) : (bv bs).take n = bv (bs.take n) := List.map_take.symm
theorem bbv_drop (bs : List Bool) (n : Nat) : (bbv bs).drop n = bbv (bs.drop n) := List.map_drop.symm
theorem bbv_take (bs : List Bool) (n : Nat) : (bbv bs).take n = bbv (bs.take n) := List.map_take.symm
/-! ### data, by depth -/
def DW (K : PySem.W.Frag) (H : Hp) : Nat → V → PyData → Prop
  | 0, _, _ => False
  | n + 1, x, d => match d with
    | .none => x = .non
    | .bool b => x = .bl b
    | .int i => x = .int i
    | .str s => x = .str s
    | .list ds => ∃ a xs, x = .ref a ∧ SqL K H a xs ∧ xs.length = ds.length ∧ xs.length ≤ 1000000 ∧ ∀ (i : Nat) y e, xs[i]? = some y → ds[i]? = some e → DW K H n y e
    | .tuple ds => ∃ a xs, x = .ref a ∧ SqT K H a xs ∧ xs.length = ds.length ∧ xs.length ≤ 1000000 ∧ ∀ (i : Nat) y e, xs[i]? = some y → ds[i]? = some e → DW K H n y e
    | .dict _ => False
theorem DW.same {K : PySem.W.Frag} {H H' : Hp} (s : Same H H') : ∀ {n : Nat} {x : V} {d : PyData}, DW K H n x d → DW K H' n x d
  | 0, _, _, h => h
  | n + 1, x, d, h => by
    cases d with
    | none => exact h
    | bool b => exact h
    | int i => exact h
    | str z => exact h
    | dict _ => exact h
    | list ds =>
      obtain ⟨a, xs, e, l, n1, n2, k⟩ := h
      exact ⟨a, xs, e, s.seq l, n1, n2, fun i y e hy he => DW.same s (k i y e hy he)⟩
    | tuple ds =>
      obtain ⟨a, xs, e, l, n1, n2, k⟩ := h
      exact ⟨a, xs, e, sqT_same s l, n1, n2, fun i y e hy he => DW.same s (k i y e hy he)⟩
theorem DW.up {K : PySem.W.Frag} {H : Hp} : ∀ {n m : Nat} {x : V} {d : PyData}, n ≤ m → DW K H n x d → DW K H m x d
  | 0, _, _, _, _, h => h.elim
  | n + 1, 0, _, _, l, _ => by omega
  | n + 1, m + 1, x, d, l, h => by
    cases d with
    | none => exact h
    | bool b => exact h
    | int i => exact h
    | str z => exact h
    | dict _ => exact h
    | list ds =>
      obtain ⟨a, xs, e, l', n1, n2, k⟩ := h
      exact ⟨a, xs, e, l', n1, n2, fun i y e hy he => DW.up (by omega) (k i y e hy he)⟩
    | tuple ds =>
      obtain ⟨a, xs, e, l', n1, n2, k⟩ := h
      exact ⟨a, xs, e, l', n1, n2, fun i y e hy he => DW.up (by omega) (k i y e hy he)⟩
/-- a list of numbers as data -/
def nd (bs : List Nat) : PyData := .list (bs.map fun (n : Nat) => .int (n : Int))
theorem DW.nums {K : PySem.W.Frag} {H : Hp} {a : Addr} {bs : List Nat} (h : SqL K H a (bv bs)) (l : bs.length ≤ 1000000) (n : Nat) : DW K H (n + 2) (.ref a) (nd bs) :=
  ⟨a, bv bs, rfl, h, by rw [bv_len, List.length_map], by rw [bv_len]; exact l, fun i y e hy he => by
    obtain ⟨m, hm, rfl⟩ := bv_of hy
    rw [List.getElem?_map, hm] at he
    obtain rfl := Option.some.inj he
    rfl⟩
/-- what is walked item by item: two lists of the same length -/
theorem DW.items {K : PySem.W.Frag} {H : Hp} {n : Nat} : ∀ {xs : List V} {ds : List PyData}, Paired (DW K H n) xs ds → ∀ (i : Nat) y e, xs[i]? = some y → ds[i]? = some e → DW K H n y e := by
  intro xs ds h
  induction h with
  | nil => intro i y e hy; simp at hy
  | cons h t ih =>
    intro i y e hy he
    cases i with
    | zero =>
      obtain rfl := Option.some.inj hy
      obtain rfl := Option.some.inj he
      exact h
    | succ i => exact ih i y e hy he
theorem paired_len {α β : Type} {F : α → β → Prop} {xs : List α} {ds : List β} (h : Paired F xs ds) : xs.length = ds.length := by
  induction h with
  | nil => rfl
  | cons h t ih => rw [List.length_cons, List.length_cons, ih]
theorem DW.tup {K : PySem.W.Frag} {H : Hp} {n : Nat} {a : Addr} {xs : List V} {ds : List PyData} (h : SqT K H a xs) (l : xs.length ≤ 1000000) (p : Paired (DW K H n) xs ds) : DW K H (n + 1) (.ref a) (.tuple ds) :=
  ⟨a, xs, rfl, h, paired_len p, l, DW.items p⟩
theorem DW.lst {K : PySem.W.Frag} {H : Hp} {n : Nat} {a : Addr} {xs : List V} {ds : List PyData} (h : SqL K H a xs) (l : xs.length ≤ 1000000) (p : Paired (DW K H n) xs ds) : DW K H (n + 1) (.ref a) (.list ds) :=
  ⟨a, xs, rfl, h, paired_len p, l, DW.items p⟩
theorem tyx_list {K : PySem.W.Frag} {H : Hp} {a : Addr} {xs : List V} (h : SqL K H a xs) : TyX K H (.ref a) (.type "list") := by
  rcases h with (h | ⟨u, h⟩) | ⟨o, its, n, h, c, _⟩
  · exact .base (.lst h)
  · exact .base (.frz h)
  · exact .kList h c
theorem tyx_tuple {K : PySem.W.Frag} {H : Hp} {a : Addr} {xs : List V} (h : SqT K H a xs) : TyX K H (.ref a) (.type "tuple") := by
  rcases h with (h | ⟨u, h⟩) | ⟨o, its, n, h, c, _⟩
  · exact .base (.tup h)
  · exact .fTuple h
  · exact .kTuple h c
/-! ### lists of numbers by == -/
theorem dp_nums {K : PySem.W.Frag} {H : Hp} : ∀ bs : List Nat, DpAll K H (bv bs) (bs.map fun (n : Nat) => .int (n : Int))
  | [] => .nil
  | b :: bs => .cons (.int _) (dp_nums bs)
theorem dp_list {K : PySem.W.Frag} {H : Hp} {a : Addr} {bs : List Nat} (h : SqL K H a (bv bs)) : Dp K H (.ref a) (nd bs) := .lst h (dp_nums bs)
theorem lay_nums : ∀ bs : List Nat, PyData.canLayAll0 (bs.map fun (n : Nat) => .int (n : Int)) = true
  | [] => by simp only [List.map_nil, PyData.canLayAll0]
  | b :: bs => by
    simp only [List.map_cons, PyData.canLayAll0, PyData.canLay0, Bool.true_and]
    exact lay_nums bs
theorem deep_nums : ∀ bs : List Nat, PyData.depthAll (bs.map fun (n : Nat) => .int (n : Int)) = 0
  | [] => by simp only [List.map_nil, PyData.depthAll]
  | b :: bs => by
    simp only [List.map_cons, PyData.depthAll, PyData.depth]
    rw [deep_nums bs]
    rfl
theorem shaped_nums (bs : List Nat) : SeqAt.shaped (nd bs) = true := by
  unfold SeqAt.shaped nd
  simp only [PyData.canLay0, PyData.depth, lay_nums, deep_nums]
  rfl
theorem eqvAll_nums : ∀ as bs : List Nat, PyData.eqvAll (as.map fun (n : Nat) => .int (n : Int)) (bs.map fun (n : Nat) => .int (n : Int)) = decide (as = bs)
  | [], [] => by simp only [List.map_nil, PyData.eqvAll]; decide
  | [], b :: bs => by simp only [List.map_nil, List.map_cons, PyData.eqvAll]; exact (decide_eq_false (by simp)).symm
  | a :: as, [] => by simp only [List.map_nil, List.map_cons, PyData.eqvAll]; exact (decide_eq_false (by simp)).symm
  | a :: as, b :: bs => by
    simp only [List.map_cons, PyData.eqvAll, PyData.eqv]
    rw [eqvAll_nums as bs]
    by_cases e : a = b
    · subst e
      simp
    · have e2 : ((a : Int) == (b : Int)) = false := by
        rw [beq_eq_false_iff_ne]
        omega
      rw [e2, Bool.false_and]
      exact (decide_eq_false (by simp [e])).symm
theorem eqv_nums (as bs : List Nat) : PyData.eqv (nd as) (nd bs) = decide (as = bs) := by
  unfold nd
  simp only [PyData.eqv]
  exact eqvAll_nums as bs
/-! ### is True, is False, is None -/
section
variable {X : Cx}
def rIsC : R2 := fun x y H Q => ((∃ b, y = .bl b) ∨ y = .non) ∧ Q (.bl (decide (x = y))) H
theorem op_isC : OpR X (compareOp .Is) rIsC := by
  intro pins s σ H x y v u Q I rx ry h
  obtain ⟨⟨b, rfl⟩ | rfl, q⟩ := h
  · cases (show u = Value.bool b from ry)
    by_cases e : x = .bl b
    · subst e
      cases (show v = Value.bool b from rx)
      rw [decide_eq_true rfl] at q
      exact wpAny_is_self rfl (fin_bl I q rfl)
    · rw [decide_eq_false e] at q
      cases x with
      | non =>
        cases (show v = Value.none from rx)
        exact wpAny_is_other rfl (fun z => by cases z) (fin_bl I q rfl)
      | bl c =>
        cases (show v = Value.bool c from rx)
        exact wpAny_is_other rfl (fun z => e (by cases z; rfl)) (fin_bl I q rfl)
      | int i =>
        obtain ⟨t, rfl⟩ := (show ∃ t, v = Value.int i t from rx)
        exact wpAny_is_other rfl (fun z => by cases z) (fin_bl I q rfl)
      | str i =>
        obtain ⟨t, rfl⟩ := (show ∃ t, v = Value.str i t from rx)
        exact wpAny_is_other rfl (fun z => by cases z) (fin_bl I q rfl)
      | byt i =>
        obtain ⟨t, rfl⟩ := (show ∃ t, v = Value.bytes i t from rx)
        exact wpAny_is_other rfl (fun z => by cases z) (fin_bl I q rfl)
      | flt i =>
        obtain ⟨t, rfl⟩ := (show ∃ t, v = Value.float i t from rx)
        exact wpAny_is_other rfl (fun z => by cases z) (fin_bl I q rfl)
      | ref a =>
        cases (show v = Value.ref a from rx)
        exact wpAny_is_other rfl (fun z => by cases z) (fin_bl I q rfl)
      | ty n =>
        cases (show v = Value.type n from rx)
        exact wpAny_is_other rfl (fun z => by cases z) (fin_bl I q rfl)
  · exact op_isN pins s σ H x .non v u Q I rx ry ⟨rfl, q⟩
end
/-! ### [.. for x in range(i, j, c)] -/
theorem lc_rangeC {lo c : Int} {n : Nat} {g : TG} {tt : TT} {te : TE} {vs : List Nat} {σ : L2.St} {H1 : Hp} {D : Addr} {Qd : Hp → Prop} (Pv : Nat → Hp → Prop) (h0 : Pv 0 (upd H1 D (.lst [])))
    (hs : ∀ i H, i < n → Pv i H → g (.int (lo + (i : Nat) * c)) (wipe σ vs) H fun σ2 H2 => wipe σ2 vs = wipe σ vs ∧ tt σ2 H2 fun b H3 =>
      if b = true then te σ2 H3 fun y H4 => ∃ acc, H4 D = some (.lst acc) ∧ acc.length < sizeLine ∧ Pv (i + 1) (upd H4 D (.lst (acc ++ [y]))) else Pv (i + 1) H3) (hd : ∀ H, Pv n H → Qd H) :
    ∃ W : Nat → Nat → Hp → Prop, (∃ m, W 0 m (upd H1 D (.lst []))) ∧ ∀ i m H, W i m H →
      ((Itc lo c n).stop i H ∧ Qd H) ∨ ((Itc lo c n).go i H ∧ ∃ Nx : Hp → Prop, (∀ H', Nx H' → ∃ m', m' < m ∧ W (i + 1) m' H') ∧ ∀ x H', (Itc lo c n).yld i H x H' → g x (wipe σ vs) H' fun σ2 H2 => wipe σ2 vs = wipe σ vs ∧ tt σ2 H2 fun b H3 =>
        if b = true then te σ2 H3 fun y H4 => ∃ acc, H4 D = some (.lst acc) ∧ acc.length < sizeLine ∧ Nx (upd H4 D (.lst (acc ++ [y]))) else Nx H3) := by
  refine ⟨fun i m G => m = n - i ∧ i ≤ n ∧ Pv i G, ⟨n, rfl, Nat.zero_le _, h0⟩, ?_⟩
  rintro i m G ⟨rfl, hi, p⟩
  by_cases lt : i < n
  · refine .inr ⟨lt, Pv (i + 1), fun G' p' => ⟨n - (i + 1), by omega, rfl, lt, p'⟩, fun x G' y => ?_⟩
    obtain ⟨rfl, rfl⟩ := y
    exact hs i _ lt p
  · have e : i = n := Nat.le_antisymm hi (Nat.le_of_not_lt lt)
    exact .inl ⟨Nat.le_of_not_lt lt, hd G (e ▸ p)⟩
/-- a step below nought -/
theorem RgC.down {i j c : Int} {n : Nat} (h : RgC i j c n) : RgC i j c n := h
end My
set_option linter.all false
namespace My
open PySem
/-- the text by places -/
def topS (i : Nat) : Stmt := PySem.Challenge.pw_playproof_k47_whole_blocks_with_sums.main.body.getD i (.Pass ⟨0, 0, 0, 0⟩)
end My
set_option Elab.async false
set_option linter.all false
set_option maxRecDepth 100000
set_option maxHeartbeats 4000000
/-! The law's own numbers: what the six small defs promise -/
namespace My
open PySem PySem.Spec PyProof.Rows L2
abbrev st_law_mixed : Stmt := topS 14
theorem sc_law_mixed : FnScope ["number", "place", "first", "second", "third"] ["number", "place"] (defScope st_law_mixed) := ⟨rfl, rfl, rfl, by decide +kernel, rfl, by decide +kernel, by decide +kernel⟩
abbrev st_law_rest : Stmt := topS 15
theorem sc_law_rest : FnScope ["script", "place", "fills", "number"] ["script", "place", "fills"] (defScope st_law_rest) := ⟨rfl, rfl, rfl, by decide +kernel, rfl, by decide +kernel, by decide +kernel⟩
abbrev st_law_pool : Stmt := topS 16
theorem sc_law_pool : FnScope ["script"] ["script"] (defScope st_law_pool) := ⟨rfl, rfl, rfl, by decide +kernel, rfl, by decide +kernel, by decide +kernel⟩
abbrev st_law_next : Stmt := topS 17
theorem sc_law_next : FnScope ["pool"] ["pool"] (defScope st_law_next) := ⟨rfl, rfl, rfl, by decide +kernel, rfl, by decide +kernel, by decide +kernel⟩
abbrev st_law_draw : Stmt := topS 18
theorem sc_law_draw : FnScope ["pool", "limit", "value"] ["pool", "limit"] (defScope st_law_draw) := ⟨rfl, rfl, rfl, by decide +kernel, rfl, by decide +kernel, by decide +kernel⟩
section
variable {P : Program} {w : World} {K : PySem.W.Frag} {mg : Str → Option Value} {base : Heap}
theorem ok_mixed (T : Top K mg "_law_mixed" st_law_mixed ["number", "place"]) (z_int : mg "int" = none) : Def P w K mg base 1 "_law_mixed" ["number", "place"] spMixed := by
  refine T.ok sc_law_mixed (fun vs H Q E h => ?_) (fun f cdv A outer s H vs Q E hr h => ?_)
  · obtain ⟨n, p, rfl, _⟩ := h
    rfl
  obtain ⟨n, p, rfl, q⟩ := h
  refine ⟨_, (pss_cons (ps_set (i := 2) sc_law_mixed.nd rfl (Or.inl rfl) (pe_op op_mod (pe_callTy call_int1 rfl z_int (by decide +kernel) (pa_cons (pe_op op_add (pe_op op_add (pe_op op_mul (pv 0) pe_int) (pe_op op_mul (pv 1) pe_int)) pe_int) pa_nil)) pe_int))
    (pss_cons (ps_set (i := 3) sc_law_mixed.nd rfl (Or.inl rfl) (pe_op op_mod (pe_callTy call_int1 rfl z_int (by decide +kernel) (pa_cons (pe_op op_add (pe_op op_add (pe_op op_mulW (pv 2) (pv 2)) (pe_op op_mul pe_int (pv 2))) (pv 1)) pa_nil)) pe_int))
    (pss_cons (ps_set (i := 4) sc_law_mixed.nd rfl (Or.inl rfl) (pe_op op_mod (pe_callTy call_int1 rfl z_int (by decide +kernel) (pa_cons (pe_op op_add (pe_op op_mulW (pv 3) (pv 3)) (pv 2)) pa_nil)) pe_int))
    (pss_one (ps_ret (pe_op op_add (pe_op op_mulW (pv 3) pe_int) (pv 4))))))), ?_⟩
  have g1 : ∀ i : Int, (i % 618970019642690137449562111).natAbs < 2 ^ 100 := fun i => emod_abs (by decide) (by decide)
  have g2 : ∀ i : Int, (i % 162259276829213363391578010288127).natAbs < 2 ^ 110 := fun i => emod_abs (by decide) (by decide)
  refine ⟨_, rfl, _, _, rfl, rfl, .inr ⟨by decide, by decide⟩, _, rfl, _, _, rfl, rfl, .inr ⟨by decide, by decide⟩, _, _, rfl, rfl, _, _, rfl, rfl, .inl ⟨_, rfl, ?_⟩⟩
  refine ⟨_, _, rfl, rfl, (by show (0:Int) < _; decide), ?_⟩
  refine ⟨_, rfl, _, rfl, _, _, rfl, rfl, wide_mul (g1 _) (g1 _) (by decide) (by decide) (by decide), ?_⟩
  refine ⟨_, rfl, _, _, rfl, rfl, .inl ⟨by decide, by decide⟩, _, _, rfl, rfl, _, rfl, _, _, rfl, rfl, .inl ⟨_, rfl, ?_⟩⟩
  refine ⟨_, _, rfl, rfl, (by show (0:Int) < _; decide), ?_⟩
  refine ⟨_, rfl, _, rfl, _, _, rfl, rfl, wide_mul (g2 _) (g2 _) (by decide) (by decide) (by decide), ?_⟩
  refine ⟨_, rfl, _, _, rfl, rfl, .inl ⟨_, rfl, ?_⟩⟩
  refine ⟨_, _, rfl, rfl, (by show (0:Int) < _; decide), ?_⟩
  refine ⟨_, rfl, _, _, rfl, rfl, wide_mul (b := 100) (g2 _) (by decide) (by decide) (by decide) (by decide), ?_⟩
  refine ⟨_, rfl, _, _, rfl, rfl, q _⟩
theorem ok_rest (T : Top K mg "_law_rest" st_law_rest ["script", "place", "fills"]) (D_law_mixed : Def P w K mg base 1 "_law_mixed" ["number", "place"] spMixed) (z_int : mg "int" = none) (z_len : mg "len" = none) :
    Def P w K mg base 2 "_law_rest" ["script", "place", "fills"] (spRest K) := by
  refine T.ok sc_law_rest (fun vs H Q E h => ?_) (fun f cdv A outer s H vs Q E hr h => ?_)
  · obtain ⟨a, ns, i, f, rfl, _⟩ := h
    rfl
  obtain ⟨a, ns, i, f, rfl, hC, hl, q⟩ := h
  have hS := hC.sq
  refine ⟨_, (pss_cons (ps_set (i := 3) sc_law_rest.nd rfl (Or.inl rfl) pe_int)
    (Evl.pss_cut (ps_if (pt_cmpR op_gt (pe_callB (lenQ K) rfl z_len (by decide +kernel) (pa_cons (pv 0) pa_nil)) pe_int (nomark _))
    (pss_one (ps_set (i := 3) sc_law_rest.nd rfl (Or.inl rfl) (pe_callTy call_int1 rfl z_int (by decide +kernel) (pa_cons (pe_ix (ixL K) (pv 0) (pe_op op_mod (pe_callTy call_int1 rfl z_int (by decide +kernel) (pa_cons (pv 1) pa_nil)) (pe_callB (lenQ K) rfl z_len (by decide +kernel) (pa_cons (pv 0) pa_nil))) (fun _ _ => rfl)) pa_nil))))
    pss_nil)
    (Evl.pss_cut (ps_if (pt_cmpR op_lt (pv 3) pe_int (nomark _))
    (pss_one (ps_set (i := 3) sc_law_rest.nd rfl (Or.inl rfl) (pe_op op_sub pe_int (pe_op op_mul pe_int (pv 3)))))
    pss_nil)
    (Evl.pss_cut (ps_if (PW.pt (pw_and (pt_cmpR op_eq (pv 2) pe_int (nomark _)) (pw_and (pt_cmpR op_lt (pv 1) (pe_callB (lenQ K) rfl z_len (by decide +kernel) (pa_cons (pv 0) pa_nil)) (nomark _)) (pw_and1 (pt_cmpR op_ge (pv 3) (pe_op op_pow pe_int pe_int) (nomark _))))))
    (pss_one (ps_ret (pe_op op_sub (pv 3) (pe_op op_pow pe_int pe_int))))
    pss_nil)
    (pss_one (ps_ret (pe_def D_law_mixed (hr.mono (by decide)) rfl (pa_cons (pe_op op_add (pv 3) (pe_op op_mul (pv 2) pe_int)) (pa_cons (pv 1) pa_nil))))))))), ?_⟩
  have el : (ns.map V.int).length = ns.length := List.length_map _
  -- number = 0; if len(script) > 0
  refine ⟨fun σ' H' => ∃ z : Int, σ' = [some (.ref a), some (.int i), some (.int f), some (.int z)] ∧ H' = H, ?_, ?_⟩
  · refine ⟨.ref a, rfl, a, _, rfl, .inl hS, _, _, rfl, rfl, _, rfl, ?_⟩
    refine ite2 (fun c => ?_) (fun c => ⟨0, rfl, rfl⟩)
    have h0 : 0 < (ns.map V.int).length := by
      have := of_decide_eq_true c
      omega
    obtain ⟨x, e, hx⟩ := at_mod (xs := ns.map V.int) (i := i) h0
    obtain ⟨z, _, rfl⟩ := List.mem_map.mp hx
    refine ⟨.ref a, rfl, _, rfl, .inl ⟨_, rfl, .ref a, rfl, a, _, rfl, .inl hS, _, _, rfl, rfl, by omega, a, _, _, V.int z, rfl, rfl, hS, e, .inl ⟨z, rfl, z, rfl, rfl⟩⟩⟩
  rintro σ' H' ⟨z, rfl, rfl⟩
  -- if number < 0
  refine ⟨fun σ' H1 => ∃ z : Int, σ' = [some (.ref a), some (.int i), some (.int f), some (.int z)] ∧ H1 = H', ?_, ?_⟩
  · refine ⟨_, rfl, _, _, rfl, rfl, _, rfl, ite2 (fun c => ?_) (fun c => ⟨z, rfl, rfl⟩)⟩
    refine ⟨_, rfl, _, _, rfl, rfl, .inl ⟨by decide, by decide⟩, _, _, rfl, rfl, _, rfl, rfl⟩
  rintro σ' H1 ⟨y, rfl, rfl⟩
  refine ⟨fun σ' H1' => ∃ z : Int, σ' = [some (.ref a), some (.int i), some (.int f), some (.int z)] ∧ H1' = H1, ?_, ?_⟩
  · refine ⟨_, rfl, rfl, _, rfl, ite2 (fun c => ?_) (fun c => iteF ⟨y, rfl, rfl⟩)⟩
    refine ⟨_, rfl, .ref a, rfl, a, _, rfl, .inl hS, _, _, rfl, rfl, _, rfl, ite2 (fun c => ?_) (fun c => iteF ⟨y, rfl, rfl⟩)⟩
    refine ⟨_, rfl, _, _, rfl, rfl, (by unfold CPow; decide), _, _, rfl, rfl, _, rfl, ite2 (fun c => ?_) (fun c => ⟨y, rfl, rfl⟩)⟩
    refine ⟨_, rfl, _, _, rfl, rfl, (by unfold CPow; decide), _, _, rfl, rfl, q _⟩
  rintro σ' H2 ⟨y', rfl, rfl⟩
  refine ⟨_, rfl, _, rfl, _, _, rfl, rfl, .inr ⟨by decide, by decide⟩, _, _, rfl, rfl, _, rfl, _, _, rfl, fun v => q v⟩
theorem ok_pool (T : Top K mg "_law_pool" st_law_pool ["script"]) (D_law_rest : Def P w K mg base 2 "_law_rest" ["script", "place", "fills"] (spRest K)) :
    Def P w K mg base 3 "_law_pool" ["script"] (spPool K) := by
  refine T.ok sc_law_pool (fun vs H Q E h => ?_) (fun f cdv A outer s H vs Q E hr h => ?_)
  · obtain ⟨a, ns, rfl, _⟩ := h
    rfl
  obtain ⟨a, ns, rfl, hS, hl, q⟩ := h
  refine ⟨_, (pss_one (ps_ret (pe_lst (pa_cons (pv 0) (pa_cons pe_int (pa_cons (pe_def D_law_rest (hr.mono (by decide)) rfl (pa_cons (pv 0) (pa_cons pe_int (pa_cons pe_int pa_nil)))) (pa_cons pe_int pa_nil))))))), ?_⟩
  refine ⟨_, rfl, _, rfl, a, ns, 0, 0, rfl, hS, hl, fun v => ⟨by show 4 ≤ sizeLine; decide, fun p hp => ?_⟩⟩
  exact q p _ hp Off.upd ⟨⟨0, v, 0, upd_same⟩, ⟨ns, hl, hS.off Off.upd (by rw [hp]; trivial)⟩⟩
theorem ok_next (T : Top K mg "_law_next" st_law_next ["pool"]) (D_law_rest : Def P w K mg base 2 "_law_rest" ["script", "place", "fills"] (spRest K)) :
    Def P w K mg base 3 "_law_next" ["pool"] (spNext K) := by
  refine T.ok sc_law_next (fun vs H Q E h => ?_) (fun f cdv A outer s H vs Q E hr h => ?_)
  · obtain ⟨p, a, rfl, _⟩ := h
    rfl
  obtain ⟨p, a, rfl, hP, q⟩ := h
  obtain ⟨⟨i, n, g, hp⟩, ⟨ns, hl, hS⟩⟩ := id hP
  refine ⟨_, (pss_cons (ps_asg (pe_op op_add (pe_ix (ixL K) (pv 0) pe_int (fun _ _ => rfl)) pe_int) (pg_sub (pv 0) pe_int set_list))
    (pss_cons (ps_asg (pe_def D_law_rest (hr.mono (by decide)) rfl (pa_cons (pe_ix (ixL K) (pv 0) pe_int (fun _ _ => rfl)) (pa_cons (pe_ix (ixL K) (pv 0) pe_int (fun _ _ => rfl)) (pa_cons pe_int pa_nil)))) (pg_sub (pv 0) pe_int set_list))
    (pss_one (ps_asg pe_int (pg_sub (pv 0) pe_int set_list))))), ?_⟩
  have up : ∀ {H' : Hp} {i' n' g' i2 n2 g2 : Int}, H' = upd H p (.lst [.ref a, .int i', .int n', .int g']) → upd H' p (.lst [.ref a, .int i2, .int n2, .int g2]) = upd H p (.lst [.ref a, .int i2, .int n2, .int g2]) := fun e => by rw [e, upd_upd]
  -- pool[1] = pool[1] + 1
  refine ⟨.ref p, rfl, _, _, _, _, rfl, rfl, SqL.of hp, atI_nat (j := 1) rfl, _, _, rfl, rfl, .ref p, rfl, p, _, 1, 1, rfl, rfl, hp, rfl, ?_⟩
  -- pool[2] = _law_rest(pool[0], pool[1], 0)
  refine ⟨.ref p, rfl, _, _, _, _, rfl, rfl, SqL.of upd_same, atI_nat (j := 0) rfl, .ref p, rfl, _, _, _, _, rfl, rfl, SqL.of upd_same, atI_nat (j := 1) rfl, a, ns, _, 0, rfl, hS.off Off.upd (by rw [hp]; trivial), hl, fun v => ?_⟩
  refine ⟨.ref p, rfl, p, _, 2, 2, rfl, rfl, upd_same, rfl, ?_⟩
  rw [upd_upd]
  refine ⟨.ref p, rfl, p, _, 3, 3, rfl, rfl, upd_same, rfl, ?_⟩
  rw [upd_upd]
  exact q _ Off.upd (hP.upd (i := i + 1) (n := v) (f := 0))
theorem ok_draw (T : Top K mg "_law_draw" st_law_draw ["pool", "limit"]) (D_law_rest : Def P w K mg base 2 "_law_rest" ["script", "place", "fills"] (spRest K)) (z_int : mg "int" = none) :
    Def P w K mg base 3 "_law_draw" ["pool", "limit"] (spDraw K) := by
  refine T.ok sc_law_draw (fun vs H Q E h => ?_) (fun f cdv A outer s H vs Q E hr h => ?_)
  · obtain ⟨p, a, l, rfl, _⟩ := h
    rfl
  obtain ⟨p, a, l, rfl, hP, h0, h1, q⟩ := h
  refine ⟨_, (Evl.pss_cut (ps_if (pt_cmpR op_le (pe_ix (ixL K) (pv 0) pe_int (fun _ _ => rfl)) pe_int (nomark _))
    (pss_cons (ps_asg (pe_op op_add (pe_ix (ixL K) (pv 0) pe_int (fun _ _ => rfl)) pe_int) (pg_sub (pv 0) pe_int set_list))
      (pss_one (ps_asg (pe_def D_law_rest (hr.mono (by decide)) rfl (pa_cons (pe_ix (ixL K) (pv 0) pe_int (fun _ _ => rfl)) (pa_cons (pe_ix (ixL K) (pv 0) pe_int (fun _ _ => rfl)) (pa_cons (pe_ix (ixL K) (pv 0) pe_int (fun _ _ => rfl)) pa_nil)))) (pg_sub (pv 0) pe_int set_list))))
    pss_nil)
    (pss_cons (ps_set (i := 2) sc_law_draw.nd rfl (Or.inl rfl) (pe_op op_mod (pe_callTy call_int1 rfl z_int (by decide +kernel) (pa_cons (pe_ix (ixL K) (pv 0) pe_int (fun _ _ => rfl)) pa_nil)) (pv 1)))
    (pss_cons (ps_asg (pe_op op_fdiv (pe_callTy call_int1 rfl z_int (by decide +kernel) (pa_cons (pe_ix (ixL K) (pv 0) pe_int (fun _ _ => rfl)) pa_nil)) (pv 1)) (pg_sub (pv 0) pe_int set_list))
    (pss_one (ps_ret (pv 2)))))), ?_⟩
  refine ⟨fun σ' H' => σ' = [some (.ref p), some (.int l), none] ∧ Off p H H' ∧ PoolAt K H' p a, ?_, ?_⟩
  · obtain ⟨⟨i, n, g, hp⟩, ⟨ns, hl, hS⟩⟩ := id hP
    refine ⟨.ref p, rfl, _, _, _, _, rfl, rfl, SqL.of hp, atI_nat (j := 2) rfl, _, _, rfl, rfl, _, rfl, ite2 (fun c => ?_) (fun c => ⟨rfl, Off.refl _, hP⟩)⟩
    refine ⟨.ref p, rfl, _, _, _, _, rfl, rfl, SqL.of hp, atI_nat (j := 3) rfl, _, _, rfl, rfl, .ref p, rfl, p, _, 3, 3, rfl, rfl, hp, rfl, ?_⟩
    refine ⟨.ref p, rfl, _, _, _, _, rfl, rfl, SqL.of upd_same, atI_nat (j := 0) rfl, .ref p, rfl, _, _, _, _, rfl, rfl, SqL.of upd_same, atI_nat (j := 1) rfl, .ref p, rfl, _, _, _, _, rfl, rfl, SqL.of upd_same, atI_nat (j := 3) rfl, a, ns, _, _, rfl, hS.off Off.upd (by rw [hp]; trivial), hl, fun v => ?_⟩
    refine ⟨.ref p, rfl, p, _, 2, 2, rfl, rfl, upd_same, rfl, ?_⟩
    rw [upd_upd]
    exact ⟨rfl, Off.upd, hP.upd (i := i)⟩
  rintro σ' H' ⟨rfl, o, hP'⟩
  obtain ⟨⟨i, n, g, hp⟩, ⟨ns, hl, hS⟩⟩ := id hP'
  refine ⟨.ref p, rfl, _, _, _, _, rfl, rfl, SqL.of hp, atI_nat (j := 2) rfl, .inl ⟨n, rfl, _, rfl, _, _, rfl, rfl, h0, ?_⟩⟩
  refine ⟨.ref p, rfl, _, _, _, _, rfl, rfl, SqL.of hp, atI_nat (j := 2) rfl, .inl ⟨n, rfl, _, rfl, _, _, rfl, rfl, ⟨h0, h1⟩, ?_⟩⟩
  refine ⟨.ref p, rfl, p, _, 2, 2, rfl, rfl, hp, rfl, ?_⟩
  exact ⟨_, rfl, q _ _ (Int.emod_nonneg _ (by omega)) (Int.emod_lt_of_pos _ h0) (o.trans Off.upd) (hP'.upd (i := i))⟩
end
end My
set_option Elab.async false
set_option linter.all false
set_option maxRecDepth 100000
set_option maxHeartbeats 4000000
/-! _law_same(answer, due): True of the same data -/
namespace My
open PySem PySem.Spec PyProof.Rows L2
abbrev st_law_same : Stmt := topS 19
theorem sc_law_same : FnScope ["answer", "due", "key", "k"] ["answer", "due"] (defScope st_law_same) := ⟨rfl, rfl, rfl, by decide +kernel, rfl, by decide +kernel, by decide +kernel⟩
def spSame (K : PySem.W.Frag) (n : Nat) : Sp := fun vs H Q _ => ∃ (x y : V) (d : PyData), vs = [x, y] ∧ DW K H n x d ∧ DW K H n y d ∧ ∀ H', Same H H' → Q (.bl true) H'
section
variable {P : Program} {w : World} {K : PySem.W.Frag} {mg : Str → Option Value} {base : Heap}
structure ZSame (mg : Str → Option Value) : Prop where
  isi : mg "isinstance" = none
  dict : mg "dict" = none
  list : mg "list" = none
  tuple : mg "tuple" = none
  bool : mg "bool" = none
  str : mg "str" = none
  int : mg "int" = none
  len : mg "len" = none
  range : mg "range" = none
  all : mg "all" = none
theorem ok_same0 (T : Top K mg "_law_same" st_law_same ["answer", "due"]) : Def P w K mg base 0 "_law_same" ["answer", "due"] (spSame K 0) :=
  T.def fun f fd F => ⟨fun vs H Q E h => by
    obtain ⟨x, y, d, _, h, _⟩ := h
    exact h.elim, fun A outer s H args us vs Q E _ _ _ _ h => by
    obtain ⟨x, y, d, _, h, _⟩ := h
    exact h.elim⟩
theorem ok_same_up (T : Top K mg "_law_same" st_law_same ["answer", "due"]) (Z : ZSame mg) {n : Nat} (D_law_same : Def P w K mg base n "_law_same" ["answer", "due"] (spSame K n)) : Def P w K mg base (n + 1) "_law_same" ["answer", "due"] (spSame K (n + 1)) := by
  have ⟨z_isinstance, z_dict, z_list, z_tuple, z_bool, z_str, z_int, z_len, z_range, z_all⟩ := Z
  refine T.ok sc_law_same (fun vs H Q E h => ?_) (fun f cdv A outer s H vs Q E hr h => ?_)
  · obtain ⟨x, y, d, rfl, _⟩ := h
    rfl
  have hu := hu_of hr
  obtain ⟨x, y, d, rfl, hx, hy, q⟩ := h
  refine ⟨_, (pss_cons (ps_if (pt_val (pe_callB (isiQ K) rfl z_isinstance (by decide +kernel) (pa_cons (pv 1) (pa_cons (pe_bltn (v := .ty "dict") rfl z_dict (by decide +kernel) rfl) pa_nil))))
    pss_never
    pss_nil)
    (pss_cons (ps_if (PW.pt (pw_or (pt_val (pe_callB (isiQ K) rfl z_isinstance (by decide +kernel) (pa_cons (pv 1) (pa_cons (pe_bltn (v := .ty "list") rfl z_list (by decide +kernel) rfl) pa_nil)))) (pw_or1 (pt_val (pe_callB (isiQ K) rfl z_isinstance (by decide +kernel) (pa_cons (pv 1) (pa_cons (pe_bltn (v := .ty "tuple") rfl z_tuple (by decide +kernel) rfl) pa_nil)))))))
    (pss_cons (ps_if (PW.pt (pw_or (pt_cmpR op_ne (pe_callB (isiQ K) rfl z_isinstance (by decide +kernel) (pa_cons (pv 1) (pa_cons (pe_bltn (v := .ty "list") rfl z_list (by decide +kernel) rfl) pa_nil))) (pe_callB (isiQ K) rfl z_isinstance (by decide +kernel) (pa_cons (pv 0) (pa_cons (pe_bltn (v := .ty "list") rfl z_list (by decide +kernel) rfl) pa_nil))) (nomark _)) (pw_or1 (pt_cmpR op_ne (pe_callB (isiQ K) rfl z_isinstance (by decide +kernel) (pa_cons (pv 1) (pa_cons (pe_bltn (v := .ty "tuple") rfl z_tuple (by decide +kernel) rfl) pa_nil))) (pe_callB (isiQ K) rfl z_isinstance (by decide +kernel) (pa_cons (pv 0) (pa_cons (pe_bltn (v := .ty "tuple") rfl z_tuple (by decide +kernel) rfl) pa_nil))) (nomark _)))))
      (pss_one (ps_ret pe_bl))
      pss_nil)
      (pss_one (ps_ret (pe_and (pe_cmpR op_eq (pe_callB (lenQ K) rfl z_len (by decide +kernel) (pa_cons (pv 0) pa_nil)) (pe_callB (lenQ K) rfl z_len (by decide +kernel) (pa_cons (pv 1) pa_nil)) (nomark _)) (pe_one (pe_callB (allQ K) rfl z_all (by decide +kernel) (pa_cons (pe_lc (own := [("k", 3)]) (g := gName 3) (tt := tYes) rfl sc_law_same.nd (pi_range1 rfl z_range (pa_cons (pe_callB (lenQ K) rfl z_len (by decide +kernel) (pa_cons (pv 1) pa_nil)) pa_nil)) (blkOk_by (own := [("k", 3)]) (N := ["answer", "due", "key", "k"]) (sc := defScope st_law_same) (by decide +kernel)) (fun _ _ _ _ _ => (pg_name (i := 3) sc_law_same.nd rfl (Or.inl rfl))) (fun _ _ _ _ _ => pts_nil) (fun _ _ _ _ _ => (pe_def D_law_same hr rfl (pa_cons (pe_ix (ixQ K) (pv 0) (pv 3) (fun _ _ => rfl)) (pa_cons (pe_ix (ixQ K) (pv 1) (pv 3) (fun _ _ => rfl)) pa_nil))))) pa_nil)))))))
    pss_nil)
    (pss_cons (ps_if (pt_val (pe_callB (isiQ K) rfl z_isinstance (by decide +kernel) (pa_cons (pv 1) (pa_cons (pe_bltn (v := .ty "str") rfl z_str (by decide +kernel) rfl) pa_nil))))
    (pss_one (ps_ret (pe_and (pe_callB (isiQ K) rfl z_isinstance (by decide +kernel) (pa_cons (pv 0) (pa_cons (pe_bltn (v := .ty "str") rfl z_str (by decide +kernel) rfl) pa_nil))) (pe_one (pe_cmpR op_eq (pv 0) (pv 1) (nomark _))))))
    pss_nil)
    (pss_cons (ps_if (PW.pt (pw_or (pt_cmpR op_isN (pv 1) pe_non (nomark _)) (pw_or (pt_cmpR op_isC (pv 1) pe_bl (nomark _)) (pw_or1 (pt_cmpR op_isC (pv 1) pe_bl (nomark _))))))
    (pss_one (ps_ret (pe_or (pe_and (pe_cmpR op_isN (pv 1) pe_non (nomark _)) (pe_one (pe_cmpR op_isN (pv 0) pe_non (nomark _)))) (pe_or (pe_and (pe_cmpR op_isC (pv 1) pe_bl (nomark _)) (pe_one (pe_cmpR op_isC (pv 0) pe_bl (nomark _)))) (pe_one (pe_and (pe_cmpR op_isC (pv 1) pe_bl (nomark _)) (pe_one (pe_cmpR op_isC (pv 0) pe_bl (nomark _)))))))))
    pss_nil)
    (pss_one (ps_ret (pe_and (pe_callB (isiQ K) rfl z_isinstance (by decide +kernel) (pa_cons (pv 0) (pa_cons (pe_bltn (v := .ty "int") rfl z_int (by decide +kernel) rfl) pa_nil))) (pe_and (pe_not (pe_callB (isiQ K) rfl z_isinstance (by decide +kernel) (pa_cons (pv 0) (pa_cons (pe_bltn (v := .ty "bool") rfl z_bool (by decide +kernel) rfl) pa_nil)))) (pe_one (pe_cmpR op_eq (pv 0) (pv 1) (nomark _))))))))))), ?_⟩
  cases d with
  | dict _ => exact hx.elim
  | none =>
    obtain rfl : x = .non := hx
    obtain rfl : y = .non := hy
    refine ⟨_, rfl, _, _, _, _, false, rfl, .ty _, .base .non, kit_ty (by decide +kernel), _, rfl, iteF ?_⟩
    refine ⟨_, rfl, _, _, _, _, false, rfl, .ty _, .base .non, kit_ty (by decide +kernel), _, rfl, iteF ⟨_, rfl, _, _, _, _, false, rfl, .ty _, .base .non, kit_ty (by decide +kernel), _, rfl, iteF ?_⟩⟩
    refine ⟨_, rfl, _, _, _, _, false, rfl, .ty _, .base .non, kit_ty (by decide +kernel), _, rfl, iteF ?_⟩
    refine ⟨_, rfl, rfl, _, rfl, iteT ?_⟩
    exact ⟨_, rfl, rfl, _, rfl, iteT ⟨_, rfl, rfl, _, rfl, iteT (q _ (Same.refl _))⟩⟩
  | int i =>
    obtain rfl : x = .int i := hx
    obtain rfl : y = .int i := hy
    refine ⟨_, rfl, _, _, _, _, false, rfl, .ty _, (.base (.int i)), kit_ty (by decide +kernel), _, rfl, iteF ?_⟩
    refine ⟨_, rfl, _, _, _, _, false, rfl, .ty _, (.base (.int i)), kit_ty (by decide +kernel), _, rfl, iteF ⟨_, rfl, _, _, _, _, false, rfl, .ty _, (.base (.int i)), kit_ty (by decide +kernel), _, rfl, iteF ?_⟩⟩
    refine ⟨_, rfl, _, _, _, _, false, rfl, .ty _, (.base (.int i)), kit_ty (by decide +kernel), _, rfl, iteF ?_⟩
    refine ⟨_, rfl, rfl, _, rfl, iteF ⟨_, rfl, .inl ⟨_, rfl⟩, _, rfl, iteF ⟨_, rfl, .inl ⟨_, rfl⟩, _, rfl, iteF ?_⟩⟩⟩
    refine ⟨_, rfl, _, _, _, _, true, rfl, .ty _, (.base (.int i)), kit_ty (by decide +kernel), _, rfl, iteT ⟨_, rfl, _, _, _, _, false, rfl, .ty _, (.base (.int i)), kit_ty (by decide +kernel), _, rfl, _, rfl, iteT ⟨_, rfl, _, rfl, rfl, ?_⟩⟩⟩
    rw [decide_eq_true rfl]
    exact q _ (Same.refl _)
  | bool b =>
    obtain rfl : x = .bl b := hx
    obtain rfl : y = .bl b := hy
    refine ⟨_, rfl, _, _, _, _, false, rfl, .ty _, (.base (.bl b)), kit_ty (by decide +kernel), _, rfl, iteF ?_⟩
    refine ⟨_, rfl, _, _, _, _, false, rfl, .ty _, (.base (.bl b)), kit_ty (by decide +kernel), _, rfl, iteF ⟨_, rfl, _, _, _, _, false, rfl, .ty _, (.base (.bl b)), kit_ty (by decide +kernel), _, rfl, iteF ?_⟩⟩
    refine ⟨_, rfl, _, _, _, _, false, rfl, .ty _, (.base (.bl b)), kit_ty (by decide +kernel), _, rfl, iteF ?_⟩
    refine ⟨_, rfl, rfl, _, rfl, iteF ⟨_, rfl, .inl ⟨_, rfl⟩, _, rfl, ?_⟩⟩
    have two : (V.bl b = V.bl true ∧ b = true) ∨ b = false := by cases b <;> simp
    cases b with
    | true =>
      refine iteT (iteT ?_)
      exact ⟨_, rfl, rfl, _, rfl, iteF ⟨_, rfl, iteF ⟨_, rfl, .inl ⟨_, rfl⟩, _, rfl, iteT ⟨_, rfl, .inl ⟨_, rfl⟩, _, rfl, iteT (q _ (Same.refl _))⟩⟩⟩⟩
    | false =>
      refine iteF ⟨_, rfl, .inl ⟨_, rfl⟩, _, rfl, iteT ?_⟩
      exact ⟨_, rfl, rfl, _, rfl, iteF ⟨_, rfl, iteF ⟨_, rfl, .inl ⟨_, rfl⟩, _, rfl, iteF ⟨_, rfl, iteF ⟨_, rfl, .inl ⟨_, rfl⟩, _, rfl, iteT ⟨_, rfl, .inl ⟨_, rfl⟩, q _ (Same.refl _)⟩⟩⟩⟩⟩⟩
  | str s =>
    obtain rfl : x = .str s := hx
    obtain rfl : y = .str s := hy
    refine ⟨_, rfl, _, _, _, _, false, rfl, .ty _, (.base (.str s)), kit_ty (by decide +kernel), _, rfl, iteF ?_⟩
    refine ⟨_, rfl, _, _, _, _, false, rfl, .ty _, (.base (.str s)), kit_ty (by decide +kernel), _, rfl, iteF ⟨_, rfl, _, _, _, _, false, rfl, .ty _, (.base (.str s)), kit_ty (by decide +kernel), _, rfl, iteF ?_⟩⟩
    refine ⟨_, rfl, _, _, _, _, true, rfl, .ty _, (.base (.str s)), kit_ty (by decide +kernel), _, rfl, iteT ?_⟩
    refine ⟨_, rfl, _, _, _, _, true, rfl, .ty _, (.base (.str s)), kit_ty (by decide +kernel), _, rfl, iteT ⟨_, rfl, _, rfl, rfl, ?_⟩⟩
    rw [decide_eq_true rfl]
    exact q _ (Same.refl _)
  | list ds =>
    obtain ⟨a, xs, rfl, ha, l1, l2, ka⟩ := hx
    obtain ⟨b, ys, rfl, hb, m1, m2, kb⟩ := hy
    refine ⟨_, rfl, _, _, _, _, false, rfl, .ty _, (tyx_list hb), kit_ty (by decide +kernel), _, rfl, iteF ?_⟩
    refine ⟨_, rfl, _, _, _, _, true, rfl, .ty _, (tyx_list hb), kit_ty (by decide +kernel), _, rfl, iteT ?_⟩
    refine ⟨_, rfl, _, _, _, _, true, rfl, .ty _, (tyx_list hb), kit_ty (by decide +kernel), _, rfl, _, _, _, _, true, rfl, .ty _, (tyx_list ha), kit_ty (by decide +kernel), rfl, _, rfl, iteF ?_⟩
    refine ⟨_, rfl, _, _, _, _, false, rfl, .ty _, (tyx_list hb), kit_ty (by decide +kernel), _, rfl, _, _, _, _, false, rfl, .ty _, (tyx_list ha), kit_ty (by decide +kernel), rfl, _, rfl, iteF ?_⟩
    refine ⟨.ref a, rfl, a, xs, rfl, .inl ha, .ref b, rfl, b, ys, rfl, .inl hb, rfl, ?_⟩
    have el : (xs.length : Int) = ys.length := by omega
    rw [el, decide_eq_true rfl]
    refine ⟨true, rfl, iteT ?_⟩
    -- all([..])
    refine ⟨.ref b, rfl, b, ys, rfl, .inl hb, ys.length, rfl, by omega, by omega, fun D hD => lc_range (lo := 0) (n := ys.length) (fun i H' => Same H H' ∧ H' D = some (.lst (List.replicate i (.bl true)))) ⟨Same.new hD, upd_same⟩ ?_ ?_⟩
    · rintro i H' hi ⟨s, e⟩
      obtain ⟨x, hx⟩ : ∃ x, xs[i]? = some x := ⟨_, List.getElem?_eq_getElem (by omega)⟩
      obtain ⟨y, hy⟩ : ∃ y, ys[i]? = some y := ⟨_, List.getElem?_eq_getElem hi⟩
      obtain ⟨d, hd⟩ : ∃ d, ds[i]? = some d := ⟨_, List.getElem?_eq_getElem (by omega)⟩
      have e0 : (0 : Int) + (i : Int) = (i : Int) := Int.zero_add _
      rw [e0]
      refine ⟨rfl, .ref a, rfl, _, rfl, .inl ⟨_, _, _, _, rfl, rfl, (s.seq ha), atI_nat hx, ?_⟩⟩
      refine ⟨.ref b, rfl, _, rfl, .inl ⟨_, _, _, _, rfl, rfl, (s.seq hb), atI_nat hy, ?_⟩⟩
      refine ⟨x, y, d, rfl, DW.same s (ka i x d hx hd), DW.same s (kb i y d hy hd), fun G sg => ⟨_, sg _ _ e, sq_len (by rw [List.length_replicate]; omega), same_mut (s.trans sg) hD, ?_⟩⟩
      rw [upd_same, List.replicate_succ']
    · rintro H' ⟨s, e⟩
      have e1 : List.replicate ys.length (V.bl true) = (List.replicate ys.length true).map V.bl := List.map_replicate.symm
      have e2 : (List.replicate ys.length true).all id = true := by simp
      rw [e1] at e
      refine ⟨D, _, rfl, SqL.of e, ?_⟩
      rw [e2]
      exact q _ s
  | tuple ds =>
    obtain ⟨a, xs, rfl, ha, l1, l2, ka⟩ := hx
    obtain ⟨b, ys, rfl, hb, m1, m2, kb⟩ := hy
    refine ⟨_, rfl, _, _, _, _, false, rfl, .ty _, (tyx_tuple hb), kit_ty (by decide +kernel), _, rfl, iteF ?_⟩
    refine ⟨_, rfl, _, _, _, _, false, rfl, .ty _, (tyx_tuple hb), kit_ty (by decide +kernel), _, rfl, iteF ⟨_, rfl, _, _, _, _, true, rfl, .ty _, (tyx_tuple hb), kit_ty (by decide +kernel), _, rfl, iteT ?_⟩⟩
    refine ⟨_, rfl, _, _, _, _, false, rfl, .ty _, (tyx_tuple hb), kit_ty (by decide +kernel), _, rfl, _, _, _, _, false, rfl, .ty _, (tyx_tuple ha), kit_ty (by decide +kernel), rfl, _, rfl, iteF ?_⟩
    refine ⟨_, rfl, _, _, _, _, true, rfl, .ty _, (tyx_tuple hb), kit_ty (by decide +kernel), _, rfl, _, _, _, _, true, rfl, .ty _, (tyx_tuple ha), kit_ty (by decide +kernel), rfl, _, rfl, iteF ?_⟩
    refine ⟨.ref a, rfl, a, xs, rfl, .inr ha, .ref b, rfl, b, ys, rfl, .inr hb, rfl, ?_⟩
    have el : (xs.length : Int) = ys.length := by omega
    rw [el, decide_eq_true rfl]
    refine ⟨true, rfl, iteT ?_⟩
    -- all([..])
    refine ⟨.ref b, rfl, b, ys, rfl, .inr hb, ys.length, rfl, by omega, by omega, fun D hD => lc_range (lo := 0) (n := ys.length) (fun i H' => Same H H' ∧ H' D = some (.lst (List.replicate i (.bl true)))) ⟨Same.new hD, upd_same⟩ ?_ ?_⟩
    · rintro i H' hi ⟨s, e⟩
      obtain ⟨x, hx⟩ : ∃ x, xs[i]? = some x := ⟨_, List.getElem?_eq_getElem (by omega)⟩
      obtain ⟨y, hy⟩ : ∃ y, ys[i]? = some y := ⟨_, List.getElem?_eq_getElem hi⟩
      obtain ⟨d, hd⟩ : ∃ d, ds[i]? = some d := ⟨_, List.getElem?_eq_getElem (by omega)⟩
      have e0 : (0 : Int) + (i : Int) = (i : Int) := Int.zero_add _
      rw [e0]
      refine ⟨rfl, .ref a, rfl, _, rfl, .inr (.inl ⟨_, _, _, _, rfl, rfl, (sqT_same s ha), atI_nat hx, ?_⟩)⟩
      refine ⟨.ref b, rfl, _, rfl, .inr (.inl ⟨_, _, _, _, rfl, rfl, (sqT_same s hb), atI_nat hy, ?_⟩)⟩
      refine ⟨x, y, d, rfl, DW.same s (ka i x d hx hd), DW.same s (kb i y d hy hd), fun G sg => ⟨_, sg _ _ e, sq_len (by rw [List.length_replicate]; omega), same_mut (s.trans sg) hD, ?_⟩⟩
      rw [upd_same, List.replicate_succ']
    · rintro H' ⟨s, e⟩
      have e1 : List.replicate ys.length (V.bl true) = (List.replicate ys.length true).map V.bl := List.map_replicate.symm
      have e2 : (List.replicate ys.length true).all id = true := by simp
      rw [e1] at e
      refine ⟨D, _, rfl, SqL.of e, ?_⟩
      rw [e2]
      exact q _ s
theorem ok_same (T : Top K mg "_law_same" st_law_same ["answer", "due"]) (Z : ZSame mg) : ∀ n : Nat, Def P w K mg base n "_law_same" ["answer", "due"] (spSame K n)
  | 0 => ok_same0 T
  | n + 1 => ok_same_up T Z (ok_same T Z n)
end
end My
set_option Elab.async false
set_option linter.all false
/-! for i, x in enumerate(a list) -/
namespace My
open PySem PySem.Spec PyProof.Rows L2
theorem for_enum {K : PySem.W.Frag} {a : Addr} {xs : List V} {g : TG} {tb : TS} {D : Ends} {σ : L2.St} {H : Hp} (Pv : Nat → L2.St → Hp → Prop) (h0 : Pv 0 σ H) (hl : ∀ i σ H, i ≤ xs.length → Pv i σ H → SqL K H a xs)
    (hs : ∀ i x σ H T, xs[i]? = some x → Pv i σ H → H T = none → g (.ref T) σ (upd H T (.tup [.int (i : Nat), x])) fun σ2 H2 => tb { D with nx := Pv (i + 1), ct := Pv (i + 1), bk := D.nx } σ2 H2) (hd : ∀ σ H, Pv xs.length σ H → D.nx σ H) :
    ∃ W : Nat → Nat → L2.St → Hp → Prop, (∃ m, W 0 m σ H) ∧ ∀ i m σ H, W i m σ H →
      ((Ite K a).stop i H ∧ D.nx σ H) ∨ ((Ite K a).go i H ∧ ∃ N : L2.St → Hp → Prop, (∀ σ' H', N σ' H' → ∃ m', m' < m ∧ W (i + 1) m' σ' H') ∧ ∀ x H', (Ite K a).yld i H x H' → g x σ H' fun σ2 H2 => tb { D with nx := N, ct := N, bk := D.nx } σ2 H2) := by
  refine ⟨fun i m σ H => m = xs.length - i ∧ i ≤ xs.length ∧ Pv i σ H, ⟨xs.length, by simp, Nat.zero_le _, h0⟩, ?_⟩
  rintro i m σ H ⟨rfl, hi, p⟩
  have q := hl i σ H hi p
  by_cases hlt : i < xs.length
  · refine .inr ⟨⟨xs, xs[i], q, by simp [hlt]⟩, Pv (i + 1), fun σ' H' p' => ⟨xs.length - (i + 1), by omega, rfl, hlt, p'⟩, fun v H' y => ?_⟩
    obtain ⟨T, x, rfl, hT, rfl, y⟩ := y
    exact hs i x σ H T (y xs q) p hT
  · have e : i = xs.length := by omega
    subst e
    exact .inl ⟨⟨xs, q, Nat.le_refl _⟩, hd σ H p⟩
end My
set_option linter.all false
/-! All but one object as it was; new ones may have come -/
namespace My
open PySem PySem.Spec PyProof.Rows L2
def But (p : Addr) (H H' : Hp) : Prop := ∀ b o, b ≠ p → H b = some o → H' b = some o
section
variable {p : Addr} {H H1 H2 H' : Hp} {K : PySem.W.Frag}
theorem But.refl (H : Hp) : But p H H := fun _ _ _ h => h
theorem But.trans (a : But p H H1) (b : But p H1 H2) : But p H H2 := fun c o n h => b c o n (a c o n h)
theorem Off.but (a : Off p H H') : But p H H' := fun c o n h => (a c n).trans h
theorem Same.but (a : Same H H') : But p H H' := fun c o _ h => a c o h
theorem But.get {b : Addr} {o : HO} (a : But p H H') (n : b ≠ p) (h : H b = some o) : H' b = some o := a b o n h
theorem But.mut {d : Addr} {o : HO} (a : But p H H') (n : H d = none) : But p H (upd H' d o) := fun c x nc e => by
  have : c ≠ d := ne_of_none e n
  exact (upd_ne this).trans (a c x nc e)
theorem But.seq {a : Addr} {xs : List V} (o : But p H H') (n : a ≠ p) (h : SqL K H a xs) : SqL K H' a xs := by
  rcases h with (h | ⟨u, h⟩) | h
  · exact .inl (.inl (o.get n h))
  · exact .inl (.inr ⟨u, o.get n h⟩)
  · exact .inr h
theorem But.tup {a : Addr} {xs : List V} (o : But p H H') (n : a ≠ p) (h : SqT K H a xs) : SqT K H' a xs := by
  rcases h with (h | ⟨u, h⟩) | h
  · exact .inl (.inl (o.get n h))
  · exact .inl (.inr ⟨u, o.get n h⟩)
  · exact .inr h
theorem But.free {l : Addr} {a : Addr} (o : But p H H') (e : PoolAt K H' p a) (h : H' l = none) : H l = none := by
  cases x : H l with
  | none => rfl
  | some y =>
    by_cases z : l = p
    · subst z
      obtain ⟨_, _, _, e⟩ := e.ex
      rw [h] at e
      cases e
    · rw [o l y z x] at h
      cases h
theorem PoolAt.ne {q a : Addr} (h : PoolAt K H p a) (n : H q = none) : q ≠ p := fun z => by
  obtain ⟨_, _, _, e⟩ := h.ex
  rw [z, e] at n
  cases n
/-- a list that another than the pool's holds -/
theorem PoolAt.put {q a : Addr} {xs ys : List V} (h : PoolAt K H p a) (n : q ≠ p) (e : H q = some (.lst xs)) : PoolAt K (L2.upd H q (.lst ys)) p a :=
  h.off Off.upd (Ne.symm n) (by rw [e]; trivial)
end
end My
set_option linter.all false
/-! Facts of an older heap in a newer one -/
namespace My
open PySem PySem.Spec PyProof.Rows L2
theorem new_of {H G : Hp} {p : Addr} {o : HO} (n : H p = none) (h : upd H p o = G) : Same H G := h ▸ Same.new n
theorem at_of {H G : Hp} {p : Addr} {o : HO} (h : upd H p o = G) : G p = some o := h ▸ upd_same
theorem same_get {H G : Hp} {b : Addr} {o : HO} (s : Same H G) (h : H b = some o) : G b = some o := s _ _ h
theorem off_get {p : Addr} {H G : Hp} {b : Addr} {o : HO} (s : Off p H G) (n : b ≠ p) (h : H b = some o) : G b = some o := s.get n h
theorem but_get {p : Addr} {H G : Hp} {b : Addr} {o : HO} (s : But p H G) (n : b ≠ p) (h : H b = some o) : G b = some o := s.get n h
theorem seq_at {K : PySem.W.Frag} {G : Hp} {b : Addr} {xs : List V} (h : G b = some (.lst xs)) : SqL K G b xs := SqL.of h
theorem tup_at {K : PySem.W.Frag} {G : Hp} {b : Addr} {xs : List V} (h : G b = some (.tup xs)) : SqT K G b xs := SqT.of h
theorem pool_same {K : PySem.W.Frag} {H G : Hp} {p a : Addr} (s : Same H G) (h : PoolAt K H p a) : PoolAt K G p a := h.same s
end My
set_option linter.all false
/-! The sum of a block: a register of 32 bits, what it makes of runs of changed bits -/
namespace Crc
def fac : BitVec 32 := 79764919#32
def stp (r : BitVec 32) (b : Bool) : BitVec 32 := (r <<< 1) ^^^ (if r.msb != b then fac else 0#32)
def run (r : BitVec 32) (bits : List Bool) : BitVec 32 := bits.foldl stp r
def crc (bits : List Bool) : BitVec 32 := run 0#32 bits
def regBits (r : BitVec 32) : List Bool := (List.range 32).map fun i => r.getMsbD i
theorem run_nil (r : BitVec 32) : run r [] = r := rfl
theorem run_cons (r : BitVec 32) (b : Bool) (s : List Bool) : run r (b :: s) = run (stp r b) s := rfl
theorem run_append (r : BitVec 32) (s t : List Bool) : run r (s ++ t) = run (run r s) t := List.foldl_append
/-- step by step a sum of two is the two's sum -/
theorem stp_lin (r s : BitVec 32) (b c : Bool) : stp (r ^^^ s) (b ^^ c) = stp r b ^^^ stp s c := by
  unfold stp
  rw [BitVec.shiftLeft_xor_distrib, BitVec.msb_xor]
  have e : (if ((r.msb ^^ s.msb) != (b ^^ c)) = true then fac else 0#32) = (if (r.msb != b) = true then fac else 0#32) ^^^ (if (s.msb != c) = true then fac else 0#32) := by
    cases r.msb <;> cases s.msb <;> cases b <;> cases c <;> decide
  rw [e]
  ac_rfl
theorem run_lin : ∀ (u v : List Bool) (r s : BitVec 32), u.length = v.length → run (r ^^^ s) (List.zipWith (· ^^ ·) u v) = run r u ^^^ run s v
  | [], [], r, s, _ => rfl
  | [], _ :: _, _, _, h => by cases h
  | _ :: _, [], _, _, h => by cases h
  | b :: u, c :: v, r, s, h => by
    rw [List.zipWith_cons_cons, run_cons, run_cons, run_cons, stp_lin]
    exact run_lin u v _ _ (Nat.succ.inj h)
theorem getMsb_shl (r : BitVec 32) (i : Nat) : (r <<< 1).getMsbD i = (decide (i < 31) && r.getMsbD (i + 1)) := by
  rw [BitVec.getMsbD_shiftLeft, BitVec.getMsbD_eq_getLsbD]
  by_cases h : i < 31
  · have h2 : i + 1 < 32 := by omega
    have h3 : i + 1 ≤ 31 := by omega
    simp [h, h2]
  · have h2 : ¬ i + 1 < 32 := by omega
    simp [h, h2]
theorem regBits_length (r : BitVec 32) : (regBits r).length = 32 := by unfold regBits; simp
theorem regBits_get (r : BitVec 32) (i : Nat) (h : i < 32) : (regBits r)[i]? = some (r.getMsbD i) := by
  unfold regBits
  rw [List.getElem?_map, List.getElem?_range h]
  rfl
theorem regBits_inj {r s : BitVec 32} (h : regBits r = regBits s) : r = s := by
  apply BitVec.eq_of_getMsbD_eq
  intro i hi
  have e : (regBits r)[i]? = (regBits s)[i]? := by rw [h]
  rw [regBits_get r i hi, regBits_get s i hi] at e
  exact Option.some.inj e
theorem regBits_shl (r : BitVec 32) : regBits (r <<< 1) = (regBits r).tail ++ [false] := by
  apply List.ext_getElem?
  intro i
  by_cases h : i < 31
  · rw [regBits_get _ i (by omega), getMsb_shl, List.getElem?_append_left (by rw [List.length_tail, regBits_length]; omega), List.getElem?_tail, regBits_get r (i + 1) (by omega)]
    simp [h]
  · by_cases h2 : i = 31
    · subst h2
      rw [regBits_get _ 31 (by omega), getMsb_shl, List.getElem?_append_right (by rw [List.length_tail, regBits_length]; omega), List.length_tail, regBits_length]
      simp
    · rw [List.getElem?_eq_none (by rw [regBits_length]; omega), List.getElem?_eq_none (by rw [List.length_append, List.length_tail, regBits_length]; simp; omega)]
theorem regBits_head (r : BitVec 32) : regBits r = r.msb :: (regBits r).tail := by
  have h : (regBits r)[0]? = some (r.getMsbD 0) := regBits_get r 0 (by omega)
  cases e : regBits r with
  | nil =>
    rw [e] at h
    cases h
  | cons b l =>
    rw [e] at h
    obtain rfl := Option.some.inj h
    rw [← BitVec.msb_eq_getMsbD_zero]
    rfl
theorem regBits_xor (r s : BitVec 32) : regBits (r ^^^ s) = List.zipWith (· ^^ ·) (regBits r) (regBits s) := by
  apply List.ext_getElem?
  intro i
  rw [List.getElem?_zipWith]
  by_cases h : i < 32
  · rw [regBits_get _ i h, regBits_get _ i h, regBits_get _ i h, BitVec.getMsbD_xor]
  · rw [List.getElem?_eq_none (by rw [regBits_length]; omega), List.getElem?_eq_none (by rw [regBits_length]; omega)]
theorem regBits_zero : regBits 0#32 = List.replicate 32 false := by decide
/-- the last bit of the register behind a step tells whether the factors were put in -/
theorem stp_low (r : BitVec 32) (b : Bool) : (regBits (stp r b))[31]? = some (r.msb != b) := by
  rw [regBits_get _ 31 (by omega)]
  unfold stp
  rw [BitVec.getMsbD_xor, getMsb_shl]
  have e1 : fac.getMsbD 31 = true := by decide
  have e2 : (0#32).getMsbD 31 = false := by decide
  cases r.msb <;> cases b <;> simp [e1, e2]
/-- a register that is run down by at most 32 bits held just these -/
theorem run_down : ∀ (s : List Bool) (r : BitVec 32), s.length ≤ 32 → (run r s = 0#32 ↔ regBits r = s ++ List.replicate (32 - s.length) false)
  | [], r, _ => by
    rw [run_nil]
    constructor
    · intro h
      rw [h]
      exact regBits_zero
    · intro h
      exact regBits_inj (h.trans regBits_zero.symm)
  | b :: s, r, h => by
    rw [List.length_cons] at h
    rw [run_cons, run_down s (stp r b) (by omega), List.length_cons]
    have e32 : 32 - s.length = (32 - (s.length + 1)) + 1 := by omega
    rw [e32, List.replicate_succ', ← List.append_assoc]
    constructor
    · intro e
      have low := stp_low r b
      rw [e, List.getElem?_append_right (by rw [List.length_append, List.length_replicate]; omega)] at low
      have i0 : 31 - (s ++ List.replicate (32 - (s.length + 1)) false).length = 0 := by
        rw [List.length_append, List.length_replicate]
        omega
      rw [i0] at low
      have same : r.msb = b := by
        have := Option.some.inj low
        revert this
        cases r.msb <;> cases b <;> decide
      have st : stp r b = r <<< 1 := by
        unfold stp
        rw [same]
        cases b <;> simp
      rw [st, regBits_shl] at e
      rw [regBits_head r, same, List.append_cancel_right e]
      rfl
    · intro e
      have same : r.msb = b := by
        rw [regBits_head r] at e
        injection e
      have tl : (regBits r).tail = s ++ List.replicate (32 - (s.length + 1)) false := by
        rw [e]
        rfl
      have st : stp r b = r <<< 1 := by
        unfold stp
        rw [same]
        cases b <;> simp
      rw [st, regBits_shl, tl]
theorem run_held {s : List Bool} {r : BitVec 32} (h : s.length = 32) : run r s = 0#32 ↔ regBits r = s := by
  rw [run_down s r (by omega), h]
  simp
theorem stp_zero {r : BitVec 32} (h : stp r false = 0#32) : r = 0#32 := by
  have z := (run_down [false] r (by decide)).mp h
  apply regBits_inj
  rw [z]
  decide
theorem run_zero : ∀ (n : Nat) (r : BitVec 32), run r (List.replicate n false) = 0#32 → r = 0#32
  | 0, r, h => h
  | n + 1, r, h => by
    rw [List.replicate_succ, run_cons] at h
    exact stp_zero (run_zero n _ h)
theorem zip_self : ∀ t : List Bool, List.zipWith (· ^^ ·) t t = List.replicate t.length false
  | [] => rfl
  | b :: t => by
    rw [List.zipWith_cons_cons, zip_self t, List.length_cons, List.replicate_succ, Bool.xor_self]
theorem zip_false : ∀ (u v : List Bool), u.length = v.length → List.zipWith (· ^^ ·) u v = List.replicate u.length false → u = v
  | [], [], _, _ => rfl
  | [], _ :: _, h, _ => by cases h
  | _ :: _, [], h, _ => by cases h
  | b :: u, c :: v, h, e => by
    rw [List.zipWith_cons_cons, List.length_cons, List.replicate_succ] at e
    injection e with e1 e2
    have : b = c := by revert e1; cases b <;> cases c <;> decide
    rw [this, zip_false u v (Nat.succ.inj h) e2]
/-- two lists of bits that differ within a run of at most 32 have different sums -/
theorem run_parts {p u v t : List Bool} (l : u.length = v.length) (l32 : u.length ≤ 32) (ne : u ≠ v) : crc (p ++ u ++ t) ≠ crc (p ++ v ++ t) := by
  intro e
  unfold crc at e
  rw [run_append, run_append, run_append, run_append] at e
  have e1 : run (run (run 0#32 p) u ^^^ run (run 0#32 p) v) (List.zipWith (· ^^ ·) t t) = 0#32 := by
    rw [run_lin t t _ _ rfl, e, BitVec.xor_self]
  rw [zip_self] at e1
  have e2 := run_zero _ _ e1
  rw [← run_lin u v _ _ l, BitVec.xor_self] at e2
  have e3 := (run_down _ _ (by rw [List.length_zipWith]; omega)).mp e2
  rw [regBits_zero] at e3
  apply ne
  apply zip_false u v l
  have lz : (List.zipWith (· ^^ ·) u v).length = u.length := by rw [List.length_zipWith]; omega
  have e4 := congrArg (List.take u.length) e3
  rw [List.take_replicate, List.take_append_of_le_length (by omega), List.take_of_length_le (by omega)] at e4
  rw [← e4]
  congr 1
  omega
end Crc
set_option linter.all false
/-! Bytes, bits and blocks -/
namespace Crc
def byteBits (n : Nat) : List Bool := (List.range 8).map fun i => n.testBit (7 - i)
def bitsOf (bs : List Nat) : List Bool := bs.flatMap byteBits
def sumB (r : BitVec 32) : List Nat := [r.toNat / 2 ^ 24 % 256, r.toNat / 2 ^ 16 % 256, r.toNat / 2 ^ 8 % 256, r.toNat % 256]
def sumOf (bs : List Nat) : List Nat := sumB (crc (bitsOf bs))
def num (bits : List Bool) : Nat := bits.foldl (fun n b => 2 * n + (if b then 1 else 0)) 0
def Bytes (bs : List Nat) : Prop := ∀ b ∈ bs, b < 256
theorem byteBits_length (n : Nat) : (byteBits n).length = 8 := by unfold byteBits; simp
theorem byteBits_get (n i : Nat) (h : i < 8) : (byteBits n)[i]? = some (n.testBit (7 - i)) := by
  unfold byteBits
  rw [List.getElem?_map, List.getElem?_range h]
  rfl
theorem bitsOf_nil : bitsOf [] = [] := rfl
theorem bitsOf_cons (b : Nat) (bs : List Nat) : bitsOf (b :: bs) = byteBits b ++ bitsOf bs := rfl
theorem bitsOf_append (a b : List Nat) : bitsOf (a ++ b) = bitsOf a ++ bitsOf b := List.flatMap_append
theorem bitsOf_length : ∀ bs : List Nat, (bitsOf bs).length = 8 * bs.length
  | [] => rfl
  | b :: bs => by
    rw [bitsOf_cons, List.length_append, byteBits_length, bitsOf_length bs, List.length_cons]
    omega
theorem num_byteBits : ∀ n, n < 256 → num (byteBits n) = n := by decide +kernel
theorem byteBits_inj {a b : Nat} (ha : a < 256) (hb : b < 256) (h : byteBits a = byteBits b) : a = b := by
  rw [← num_byteBits a ha, ← num_byteBits b hb, h]
theorem bitsOf_inj : ∀ {a b : List Nat}, Bytes a → Bytes b → bitsOf a = bitsOf b → a = b
  | [], [], _, _, _ => rfl
  | [], b :: bs, _, _, h => by
    have := congrArg List.length h
    rw [bitsOf_length, bitsOf_length] at this
    simp at this
  | a :: as, [], _, _, h => by
    have := congrArg List.length h
    rw [bitsOf_length, bitsOf_length] at this
    simp at this
  | a :: as, b :: bs, ha, hb, h => by
    rw [bitsOf_cons, bitsOf_cons] at h
    have h1 := List.append_inj h (by rw [byteBits_length, byteBits_length])
    rw [byteBits_inj (ha a List.mem_cons_self) (hb b List.mem_cons_self) h1.1, bitsOf_inj (fun x hx => ha x (List.mem_cons_of_mem _ hx)) (fun x hx => hb x (List.mem_cons_of_mem _ hx)) h1.2]
theorem sumB_bytes (r : BitVec 32) : Bytes (sumB r) := by
  intro b hb
  unfold sumB at hb
  simp only [List.mem_cons, List.not_mem_nil, or_false] at hb
  omega
theorem byteBits_part (r k : Nat) : byteBits (r / 2 ^ k % 256) = (List.range 8).map fun i => r.testBit (k + (7 - i)) := by
  unfold byteBits
  apply List.map_congr_left
  intro i hi
  have hi := List.mem_range.mp hi
  rw [show (256 : Nat) = 2 ^ 8 from rfl, Nat.testBit_mod_two_pow, Nat.testBit_div_two_pow]
  have : 7 - i < 8 := by omega
  simp only [this, decide_true, Bool.true_and]
  congr 1
  omega
theorem bits_sumB (r : BitVec 32) : bitsOf (sumB r) = regBits r := by
  have e4 : byteBits (r.toNat % 256) = (List.range 8).map fun i => r.toNat.testBit (0 + (7 - i)) := by
    have := byteBits_part r.toNat 0
    rw [Nat.pow_zero, Nat.div_one] at this
    exact this
  unfold sumB
  rw [bitsOf_cons, bitsOf_cons, bitsOf_cons, bitsOf_cons, bitsOf_nil, List.append_nil, byteBits_part, byteBits_part, byteBits_part, e4]
  unfold regBits
  have g : ∀ i, i < 32 → r.getMsbD i = r.toNat.testBit (31 - i) := fun i hi => by
    rw [BitVec.getMsbD_eq_getLsbD]
    simp only [hi, decide_true, Bool.true_and]
    rfl
  have e : (List.range 32).map (fun i => r.getMsbD i) = (List.range 32).map fun i => r.toNat.testBit (31 - i) := List.map_congr_left fun i hi => g i (List.mem_range.mp hi)
  rw [e]
  rfl
/-- a block of 64 bytes bears its sum if all its bits leave nothing -/
theorem block_sum {b : List Nat} (hb : Bytes b) (h : b.length = 64) : b.drop 60 = sumOf (b.take 60) ↔ crc (bitsOf b) = 0#32 := by
  have e : crc (bitsOf b) = run (crc (bitsOf (b.take 60))) (bitsOf (b.drop 60)) := by
    conv => lhs; rw [← List.take_append_drop 60 b]
    rw [bitsOf_append]
    exact run_append _ _ _
  have l32 : (bitsOf (b.drop 60)).length = 32 := by
    rw [bitsOf_length, List.length_drop, h]
  rw [e, run_held l32]
  constructor
  · intro z
    rw [z]
    exact (bits_sumB _).symm
  · intro z
    apply bitsOf_inj (fun x hx => hb x (List.mem_of_mem_drop hx)) (sumB_bytes _)
    rw [← z]
    exact (bits_sumB _).symm
/-! ### dividing bit by bit -/
def xor32 (r : List Bool) (l : List Bool) : List Bool := List.zipWith (· ^^ ·) r (l.take r.length) ++ l.drop r.length
def facBits : List Bool := true :: regBits fac
def dv (r : BitVec 32) (l : List Bool) : List Bool := xor32 (regBits r) l
theorem xor32_length (r l : List Bool) (h : r.length ≤ l.length) : (xor32 r l).length = l.length := by
  unfold xor32
  rw [List.length_append, List.length_zipWith, List.length_take, List.length_drop]
  omega
theorem dv_zero (l : List Bool) : dv 0#32 l = l := by
  unfold dv xor32
  rw [regBits_zero, List.length_replicate]
  have e : ∀ (n : Nat) (t : List Bool), t.length ≤ n → List.zipWith (· ^^ ·) (List.replicate n false) t = t := by
    intro n
    induction n with
    | zero =>
      intro t ht
      cases t with
      | nil => rfl
      | cons a b => simp at ht
    | succ n ih =>
      intro t ht
      cases t with
      | nil => simp
      | cons a b =>
        rw [List.replicate_succ, List.zipWith_cons_cons, ih b (by simpa using ht), Bool.false_xor]
  rw [e 32 _ (by rw [List.length_take]; omega), List.take_append_drop]
theorem dv_end (r : BitVec 32) : dv r (List.replicate 32 false) = regBits r := by
  unfold dv xor32
  rw [regBits_length, List.take_replicate, List.drop_replicate]
  have e : ∀ t : List Bool, List.zipWith (· ^^ ·) t (List.replicate t.length false) = t := by
    intro t
    induction t with
    | nil => rfl
    | cons a b ih => rw [List.length_cons, List.replicate_succ, List.zipWith_cons_cons, ih, Bool.xor_false]
  have e2 := e (regBits r)
  rw [regBits_length] at e2
  simpa using e2
theorem zip_assoc : ∀ a b c : List Bool, List.zipWith (· ^^ ·) a (List.zipWith (· ^^ ·) b c) = List.zipWith (· ^^ ·) (List.zipWith (· ^^ ·) a b) c
  | [], _, _ => by simp
  | _ :: _, [], _ => by simp
  | _ :: _, _ :: _, [] => by simp
  | a :: as, b :: bs, c :: cs => by
    rw [List.zipWith_cons_cons, List.zipWith_cons_cons, List.zipWith_cons_cons, List.zipWith_cons_cons, zip_assoc as bs cs, Bool.xor_assoc]
theorem dv_head (r : BitVec 32) (b : Bool) (l : List Bool) : dv r (b :: l) = (r.msb ^^ b) :: (List.zipWith (· ^^ ·) (regBits r).tail (l.take 31) ++ l.drop 31) := by
  unfold dv xor32
  rw [regBits_length]
  conv => lhs; rw [regBits_head r]
  rfl
theorem zip_snoc {r : List Bool} {l : List Bool} {n : Nat} (h : r.length = n) (hl : n < l.length) : List.zipWith (· ^^ ·) (r ++ [false]) (l.take (n + 1)) ++ l.drop (n + 1) = List.zipWith (· ^^ ·) r (l.take n) ++ l.drop n := by
  have e1 : l.take (n + 1) = l.take n ++ [l[n]] := by rw [List.take_succ_eq_append_getElem hl]
  have e2 : l.drop n = l[n] :: l.drop (n + 1) := List.drop_eq_getElem_cons hl
  rw [e1, e2, List.zipWith_append (by rw [List.length_take, h]; omega), List.append_assoc]
  simp
theorem dv_no {r : BitVec 32} {b : Bool} {l : List Bool} (hl : 32 ≤ l.length) (h : (r.msb ^^ b) = false) : (dv r (b :: l)).tail = dv (stp r b) l := by
  have same : r.msb = b := by revert h; cases r.msb <;> cases b <;> decide
  have st : stp r b = r <<< 1 := by
    unfold stp
    rw [same]
    cases b <;> simp
  rw [dv_head, List.tail_cons, st]
  unfold dv xor32
  rw [regBits_length, regBits_shl]
  exact (zip_snoc (by rw [List.length_tail, regBits_length]) (by omega)).symm
theorem dv_yes {r : BitVec 32} {b : Bool} {l : List Bool} (hl : 32 ≤ l.length) (h : (r.msb ^^ b) = true) : (xor32 facBits (dv r (b :: l))).tail = dv (stp r b) l := by
  have other : (r.msb != b) = true := by revert h; cases r.msb <;> cases b <;> decide
  have st : stp r b = (r <<< 1) ^^^ fac := by
    unfold stp
    rw [other]
    rfl
  rw [dv_head, st]
  have z := zip_snoc (r := (regBits r).tail) (l := l) (n := 31) (by rw [List.length_tail, regBits_length]) (by omega)
  rw [← z]
  unfold xor32 facBits
  rw [List.length_cons, regBits_length]
  show List.zipWith (· ^^ ·) (regBits fac) (List.take 32 _) ++ List.drop 32 _ = _
  have len : (List.zipWith (· ^^ ·) ((regBits r).tail ++ [false]) (List.take (31 + 1) l)).length = 32 := by
    rw [List.length_zipWith, List.length_append, List.length_tail, regBits_length, List.length_take]
    simp
    omega
  rw [List.take_left' len, List.drop_left' len, zip_assoc]
  unfold dv xor32
  rw [regBits_length, regBits_xor, regBits_shl]
  congr 2
  apply List.ext_getElem?
  intro i
  rw [List.getElem?_zipWith, List.getElem?_zipWith]
  cases (regBits fac)[i]? <;> cases ((regBits r).tail ++ [false])[i]? <;> simp [Bool.xor_comm]
end Crc
set_option linter.all false
/-! Blocks, and what they tell -/
namespace Crc
inductive Told where
  | block (n : Nat)
  | data (l : List Nat)
  deriving DecidableEq
def cnt (here : List Nat) : Nat := 256 * here.getD 2 0 + here.getD 3 0
def IsBlk (here : List Nat) (number : Nat) (count : Option Nat) : Prop :=
  here.length = 64 ∧ here.drop 60 = sumOf (here.take 60) ∧ 256 * here.getD 0 0 + here.getD 1 0 = number ∧ number ≤ cnt here ∧ (count = none ∨ count = some (cnt here))
instance (here : List Nat) (number : Nat) (count : Option Nat) : Decidable (IsBlk here number count) := by unfold IsBlk; infer_instance
/-- without the 1 and the noughts behind it -/
def wend (l : List Nat) : Option (List Nat) := match l.reverse.dropWhile (· == 0) with
  | 1 :: t => some t.reverse
  | _ => none
def chunk (told : List Nat) (n : Nat) : List Nat := (told.drop (64 * n)).take 64
def fin (told : List Nat) (number count : Nat) (data : List Nat) : Told := match wend (data.drop (data.length - 56)) with
  | none => .block number
  | some l => if told.length > 64 * count then .block (count + 1) else .data (data.take (data.length - 56) ++ l)
def go (told : List Nat) : Nat → Nat → Option Nat → List Nat → Told
  | 0, _, _, _ => .block 0
  | m + 1, number, count, data =>
    if count = none ∨ number < count.getD 0 then
      if IsBlk (chunk told number) (number + 1) count then go told m (number + 1) (some (cnt (chunk told number))) (data ++ ((chunk told number).drop 4).take 56)
      else .block (number + 1)
    else fin told number (count.getD 0) data
def dataOf (told : List Nat) : Told := go told (told.length + 2) 0 none []
theorem go_more {told : List Nat} {m number : Nat} {count : Option Nat} {data : List Nat} (h : count = none ∨ number < count.getD 0) (b : IsBlk (chunk told number) (number + 1) count) :
    go told (m + 1) number count data = go told m (number + 1) (some (cnt (chunk told number))) (data ++ ((chunk told number).drop 4).take 56) := by
  rw [go, if_pos h, if_pos b]
theorem go_bad {told : List Nat} {m number : Nat} {count : Option Nat} {data : List Nat} (h : count = none ∨ number < count.getD 0) (b : ¬ IsBlk (chunk told number) (number + 1) count) :
    go told (m + 1) number count data = .block (number + 1) := by
  rw [go, if_pos h, if_neg b]
theorem go_end {told : List Nat} {m number : Nat} {count : Option Nat} {data : List Nat} (h : ¬ (count = none ∨ number < count.getD 0)) : go told (m + 1) number count data = fin told number (count.getD 0) data := by
  rw [go, if_neg h]
/-! ### writing -/
def blk (k count : Nat) (data : List Nat) : List Nat := let h := [k / 256, k % 256, count / 256, count % 256] ++ data; h ++ sumOf h
def cntOf (told : List Nat) : Nat := (told.length + 1 + 55) / 56
def padded (told : List Nat) : List Nat := told ++ [1] ++ List.replicate (56 * cntOf told - (told.length + 1)) 0
def part (told : List Nat) (k : Nat) : List Nat := ((padded told).drop (56 * k)).take 56
def blocksOf (told : List Nat) : List Nat := (List.range (cntOf told)).flatMap fun k => blk (k + 1) (cntOf told) (part told k)
theorem cnt_pos (told : List Nat) : 0 < cntOf told := by unfold cntOf; omega
theorem cnt_le (told : List Nat) : told.length + 1 ≤ 56 * cntOf told := by unfold cntOf; omega
theorem padded_length (told : List Nat) : (padded told).length = 56 * cntOf told := by
  have := cnt_le told
  unfold padded
  rw [List.length_append, List.length_append, List.length_replicate, List.length_singleton]
  omega
theorem part_length {told : List Nat} {k : Nat} (h : k < cntOf told) : (part told k).length = 56 := by
  unfold part
  rw [List.length_take, List.length_drop, padded_length]
  omega
theorem sumOf_length (l : List Nat) : (sumOf l).length = 4 := rfl
theorem blk_length {k c : Nat} {d : List Nat} (h : d.length = 56) : (blk k c d).length = 64 := by
  unfold blk
  simp only [List.length_append, sumOf_length, h, List.length_cons, List.length_nil]
theorem blk_is {k c : Nat} {d : List Nat} (h : d.length = 56) (hk : k ≤ c) (hc : c < 65536) (o : Option Nat) (ho : o = none ∨ o = some c) : IsBlk (blk k c d) k o ∧ cnt (blk k c d) = c ∧ ((blk k c d).drop 4).take 56 = d := by
  have l60 : ([k / 256, k % 256, c / 256, c % 256] ++ d).length = 60 := by
    rw [List.length_append, h]
    rfl
  have ec : cnt (blk k c d) = c := by
    show 256 * (c / 256) + c % 256 = c
    omega
  refine ⟨⟨blk_length h, ?_, ?_, by rw [ec]; exact hk, by rw [ec]; exact ho⟩, ec, ?_⟩
  · unfold blk
    simp only []
    rw [List.drop_left' l60, List.take_left' l60]
  · show 256 * (k / 256) + k % 256 = k
    omega
  · show List.take 56 (d ++ sumOf _) = d
    rw [List.take_left' h]
theorem flat_length {f : Nat → List Nat} (n : Nat) (h : ∀ k, k < n → (f k).length = 64) : ((List.range n).flatMap f).length = 64 * n := by
  induction n with
  | zero => rfl
  | succ n ih =>
    rw [List.range_succ, List.flatMap_append, List.length_append, ih fun k hk => h k (by omega)]
    simp only [List.flatMap_cons, List.flatMap_nil, List.append_nil]
    rw [h n (by omega)]
    omega
theorem flat_chunk {f : Nat → List Nat} (n : Nat) (h : ∀ k, k < n → (f k).length = 64) (t : List Nat) (j : Nat) (hj : j < n) : chunk ((List.range n).flatMap f ++ t) j = f j := by
  induction n generalizing t with
  | zero => omega
  | succ n ih =>
    rw [List.range_succ, List.flatMap_append, List.append_assoc]
    by_cases e : j < n
    · exact ih (fun k hk => h k (by omega)) _ e
    · obtain rfl : j = n := by omega
      unfold chunk
      have l := flat_length (f := f) j fun k hk => h k (by omega)
      rw [List.drop_left' l]
      simp only [List.flatMap_cons, List.flatMap_nil, List.append_nil]
      exact List.take_left' (h j (by omega))
theorem blocks_length (told : List Nat) : (blocksOf told).length = 64 * cntOf told := flat_length _ fun k hk => blk_length (part_length hk)
theorem blocks_chunk (told : List Nat) (t : List Nat) (j : Nat) (hj : j < cntOf told) : chunk (blocksOf told ++ t) j = blk (j + 1) (cntOf told) (part told j) :=
  flat_chunk _ (fun k hk => blk_length (part_length hk)) t j hj
/-- the first j blocks are read -/
theorem go_first {x : List Nat} {told : List Nat} (hc : cntOf told < 65536) : ∀ (j m : Nat), j ≤ cntOf told → (∀ i, i < j → chunk x i = blk (i + 1) (cntOf told) (part told i)) →
    go x (m + j) 0 none [] = go x m j (if j = 0 then none else some (cntOf told)) ((padded told).take (56 * j))
  | 0, m, _, _ => by rw [if_pos rfl]; rfl
  | j + 1, m, hj, h => by
    have e : m + (j + 1) = (m + 1) + j := by omega
    rw [e, go_first hc j (m + 1) (by omega) fun i hi => h i (by omega)]
    have hb := blk_is (k := j + 1) (c := cntOf told) (part_length (told := told) (k := j) (by omega)) (by omega) hc (if j = 0 then none else some (cntOf told)) (by split <;> simp)
    have hx := h j (by omega)
    rw [← hx] at hb
    rw [go_more ?_ hb.1, hb.2.1, hb.2.2, if_neg (by omega)]
    · congr 1
      unfold part
      rw [show 56 * (j + 1) = 56 * j + 56 by omega, List.take_add]
    · split
      · exact .inl rfl
      · exact .inr (by show j < cntOf told; omega)
theorem dropWhile_zero : ∀ (n : Nat) (l : List Nat), (List.replicate n 0 ++ l).dropWhile (· == 0) = l.dropWhile (· == 0)
  | 0, _ => rfl
  | n + 1, l => by
    rw [List.replicate_succ, List.cons_append, List.dropWhile_cons, if_pos (beq_self_eq_true 0)]
    exact dropWhile_zero n l
theorem wend_of (l : List Nat) (n : Nat) : wend (l ++ [1] ++ List.replicate n 0) = some l := by
  unfold wend
  rw [List.reverse_append, List.reverse_append, List.reverse_replicate, dropWhile_zero]
  simp
theorem wend_zero (n : Nat) : wend (List.replicate n 0) = none := by
  have := dropWhile_zero n []
  rw [List.append_nil] at this
  unfold wend
  rw [List.reverse_replicate, this]
  rfl
theorem fin_whole {x told : List Nat} (hx : x.length ≥ 64 * cntOf told) : fin x (cntOf told) (cntOf told) (padded told) = if x.length > 64 * cntOf told then .block (cntOf told + 1) else .data told := by
  have l := padded_length told
  have h1 := cnt_le told
  have h2 := cnt_pos told
  have h3 : 56 * (cntOf told - 1) ≤ told.length := by unfold cntOf; omega
  unfold fin
  rw [l]
  have e : padded told = told.take (56 * (cntOf told - 1)) ++ (told.drop (56 * (cntOf told - 1)) ++ [1] ++ List.replicate (56 * cntOf told - (told.length + 1)) 0) := by
    unfold padded
    rw [← List.append_assoc, ← List.append_assoc, List.take_append_drop]
  have lt : (told.take (56 * (cntOf told - 1))).length = 56 * cntOf told - 56 := by
    rw [List.length_take]
    omega
  rw [e, List.drop_left' lt, wend_of, List.take_left' lt]
  simp only [List.take_append_drop]
theorem data_whole {told t : List Nat} (hc : cntOf told < 65536) : dataOf (blocksOf told ++ t) = if t = [] then .data told else .block (cntOf told + 1) := by
  have lx : (blocksOf told ++ t).length = 64 * cntOf told + t.length := by rw [List.length_append, blocks_length]
  unfold dataOf
  have e : (blocksOf told ++ t).length + 2 = ((blocksOf told ++ t).length + 1 - cntOf told) + 1 + cntOf told := by omega
  rw [e, go_first hc _ _ (Nat.le_refl _) fun i hi => blocks_chunk told t i hi, if_neg (by have := cnt_pos told; omega), go_end (by simp)]
  rw [List.take_of_length_le (by rw [padded_length]; omega)]
  show fin _ _ (cntOf told) _ = _
  rw [fin_whole (by omega), lx]
  cases t with
  | nil => simp
  | cons a b => simp
/-- a wrong block behind j right ones -/
theorem data_wrong {x told : List Nat} (hc : cntOf told < 65536) {j : Nat} (hj : j < cntOf told) (hx : j ≤ x.length) (h : ∀ i, i < j → chunk x i = blk (i + 1) (cntOf told) (part told i)) (hw : ∀ o, ¬ IsBlk (chunk x j) (j + 1) o) : dataOf x = .block (j + 1) := by
  unfold dataOf
  have e : x.length + 2 = (x.length + 1 - j) + 1 + j := by omega
  rw [e, go_first hc j _ (by omega) h]
  refine go_bad ?_ (hw _)
  split
  · exact .inl rfl
  · exact .inr (by show j < cntOf told; omega)
theorem data_first {x : List Nat} (hw : ¬ IsBlk (chunk x 0) 1 none) : dataOf x = .block 1 := by
  unfold dataOf
  exact go_bad (.inl rfl) hw
theorem chunk_prefix {a b : List Nat} {i : Nat} (h : 64 * (i + 1) ≤ a.length) : chunk (a ++ b) i = chunk a i := by
  unfold chunk
  rw [List.drop_append_of_le_length (by omega), List.take_append_of_le_length (by rw [List.length_drop]; omega)]
theorem data_cut {told : List Nat} (hc : cntOf told < 65536) {j r : Nat} (hj : j < cntOf told) (hr : r < 64) : dataOf ((blocksOf told).take (64 * j + r)) = .block (j + 1) := by
  have l := blocks_length told
  have lt : ((blocksOf told).take (64 * j + r)).length = 64 * j + r := by
    rw [List.length_take]
    omega
  refine data_wrong hc hj (by omega) (fun i hi => ?_) fun o b => ?_
  · have := blocks_chunk told [] i (by omega)
    rw [List.append_nil] at this
    rw [← this]
    conv => rhs; rw [← List.take_append_drop (64 * j + r) (blocksOf told)]
    exact (chunk_prefix (by omega)).symm
  · have := b.1
    unfold chunk at this
    rw [List.length_take, List.length_drop, lt] at this
    omega
/-! ### changed bits -/
/-- alike outside a run of w from a on -/
def Agree (x y : List Bool) (a w : Nat) : Prop := x.length = y.length ∧ ∀ i, (i < a ∨ a + w ≤ i) → x[i]? = y[i]?
theorem Agree.run {x y : List Bool} {a w : Nat} (h : Agree x y a w) (w32 : w ≤ 32) (ne : x ≠ y) : crc x ≠ crc y := by
  have ex : x = x.take a ++ (x.drop a).take w ++ x.drop (a + w) := by
    rw [List.append_assoc, ← List.drop_drop, List.take_append_drop, List.take_append_drop]
  have ey : y = x.take a ++ (y.drop a).take w ++ x.drop (a + w) := by
    have e1 : y.take a = x.take a := by
      apply List.ext_getElem?
      intro i
      rw [List.getElem?_take, List.getElem?_take]
      split
      · rename_i hi
        exact (h.2 i (.inl hi)).symm
      · rfl
    have e2 : y.drop (a + w) = x.drop (a + w) := by
      apply List.ext_getElem?
      intro i
      rw [List.getElem?_drop, List.getElem?_drop]
      exact (h.2 _ (.inr (by omega))).symm
    rw [← e1, ← e2, List.append_assoc, ← List.drop_drop, List.take_append_drop, List.take_append_drop]
  have ll : ((x.drop a).take w).length = ((y.drop a).take w).length := by
    rw [List.length_take, List.length_take, List.length_drop, List.length_drop, h.1]
  intro e
  have := run_parts (p := x.take a) (u := (x.drop a).take w) (v := (y.drop a).take w) (t := x.drop (a + w)) ll (by rw [List.length_take]; omega) (fun z => ne (by
    rw [ey, ← z]
    exact ex))
  apply this
  rw [← ex, ← ey]
  exact e
theorem Agree.sub {x y : List Bool} {a w s n : Nat} (h : Agree x y a w) : ∃ a' w', w' ≤ w ∧ Agree ((x.drop s).take n) ((y.drop s).take n) a' w' := by
  refine ⟨a - s, w - (s - a), by omega, by rw [List.length_take, List.length_take, List.length_drop, List.length_drop, h.1], fun i hi => ?_⟩
  rw [List.getElem?_take, List.getElem?_take, List.getElem?_drop, List.getElem?_drop]
  split
  · exact h.2 _ (by omega)
  · rfl
theorem bits_drop : ∀ (n : Nat) (l : List Nat), bitsOf (l.drop n) = (bitsOf l).drop (8 * n)
  | 0, l => by rw [Nat.mul_zero]; rfl
  | n + 1, [] => by simp [bitsOf_nil]
  | n + 1, b :: l => by
    rw [List.drop_succ_cons, bits_drop n l, bitsOf_cons, List.drop_append, byteBits_length, List.drop_eq_nil_of_le (as := byteBits b) (by rw [byteBits_length]; omega), List.nil_append]
    congr 1
theorem bits_take : ∀ (n : Nat) (l : List Nat), bitsOf (l.take n) = (bitsOf l).take (8 * n)
  | 0, l => by rw [Nat.mul_zero]; rfl
  | n + 1, [] => by simp [bitsOf_nil]
  | n + 1, b :: l => by
    rw [List.take_succ_cons, bitsOf_cons, bits_take n l, bitsOf_cons, List.take_append, byteBits_length, List.take_of_length_le (l := byteBits b) (by rw [byteBits_length]; omega)]
    congr 2
theorem bits_chunk (l : List Nat) (j : Nat) : bitsOf (chunk l j) = ((bitsOf l).drop (512 * j)).take 512 := by
  unfold chunk
  rw [bits_take, bits_drop]
  congr 2
  omega
theorem bytes_part {told : List Nat} (h : Bytes told) (k : Nat) : Bytes (part told k) := by
  intro b hb
  unfold part padded at hb
  have hb := List.mem_of_mem_drop (List.mem_of_mem_take hb)
  rcases List.mem_append.mp hb with hb | hb
  · rcases List.mem_append.mp hb with hb | hb
    · exact h b hb
    · rw [List.mem_singleton.mp hb]
      decide
  · rw [List.eq_of_mem_replicate hb]
    decide
theorem bytes_blk {k c : Nat} {d : List Nat} (h : Bytes d) (hk : k < 65536) (hc : c < 65536) : Bytes (blk k c d) := by
  intro b hb
  unfold blk at hb
  rcases List.mem_append.mp hb with hb | hb
  · rcases List.mem_append.mp hb with hb | hb
    · simp only [List.mem_cons, List.not_mem_nil, or_false] at hb
      omega
    · exact h b hb
  · exact sumB_bytes _ b hb
theorem bytes_blocks {told : List Nat} (h : Bytes told) (hc : cntOf told < 65536) : Bytes (blocksOf told) := by
  intro b hb
  obtain ⟨k, hk, hb⟩ := List.mem_flatMap.mp hb
  have hk := List.mem_range.mp hk
  exact bytes_blk (bytes_part h k) (by omega) hc b hb
/-- bytes whose bits part from those of blocks within a run of 32: the first changed block is wrong -/
theorem data_changed {told y : List Nat} (h : Bytes told) (hc : cntOf told < 65536) (hy : Bytes y) {a w p : Nat} (ag : Agree (bitsOf (blocksOf told)) (bitsOf y) a w) (w32 : w ≤ 32)
    (hp : p < y.length) (first : ∀ i, i < p → y[i]? = (blocksOf told)[i]?) (ne : y[p]? ≠ (blocksOf told)[p]?) : dataOf y = .block (p / 64 + 1) := by
  have ly : y.length = 64 * cntOf told := by
    have := ag.1
    rw [bitsOf_length, bitsOf_length, blocks_length] at this
    omega
  have chunk_get : ∀ (l : List Nat) (j i : Nat), i < 64 → (chunk l j)[i]? = l[64 * j + i]? := fun l j i hi => by
    unfold chunk
    rw [List.getElem?_take, if_pos hi, List.getElem?_drop]
  have lc : ∀ (l : List Nat) (j : Nat), l.length = 64 * cntOf told → j < cntOf told → (chunk l j).length = 64 := fun l j hl hj => by
    unfold chunk
    rw [List.length_take, List.length_drop]
    omega
  have lb := blocks_length told
  have hj : p / 64 < cntOf told := by omega
  have bc := fun i hi => blocks_chunk told [] i hi
  simp only [List.append_nil] at bc
  refine data_wrong hc hj (by omega) (fun i hi => ?_) fun o b => ?_
  · rw [← bc i (by omega)]
    apply List.ext_getElem?
    intro k
    by_cases hk : k < 64
    · rw [chunk_get _ _ _ hk, chunk_get _ _ _ hk]
      exact first _ (by omega)
    · rw [List.getElem?_eq_none (by rw [lc y i ly (by omega)]; omega), List.getElem?_eq_none (by rw [lc _ i lb (by omega)]; omega)]
  · have by_ : Bytes (chunk y (p / 64)) := fun x hx => hy x (List.mem_of_mem_drop (List.mem_of_mem_take hx))
    have bb : Bytes (chunk (blocksOf told) (p / 64)) := fun x hx => bytes_blocks h hc x (List.mem_of_mem_drop (List.mem_of_mem_take hx))
    have c1 := (block_sum by_ (lc y _ ly hj)).mp b.2.1
    have ok := (blk_is (k := p / 64 + 1) (c := cntOf told) (part_length (told := told) (k := p / 64) hj) (by omega) hc none (.inl rfl)).1
    rw [← bc _ hj] at ok
    have c2 := (block_sum bb (lc _ _ lb hj)).mp ok.2.1
    have parts : chunk (blocksOf told) (p / 64) ≠ chunk y (p / 64) := fun z => by
      have e := congrArg (fun l => l[p % 64]?) z
      have e : (chunk (blocksOf told) (p / 64))[p % 64]? = (chunk y (p / 64))[p % 64]? := e
      rw [chunk_get _ _ _ (by omega), chunk_get _ _ _ (by omega), show 64 * (p / 64) + p % 64 = p by omega] at e
      exact ne e.symm
    obtain ⟨a', w', hw, ag'⟩ := ag.sub (s := 512 * (p / 64)) (n := 512)
    rw [← bits_chunk, ← bits_chunk] at ag'
    exact ag'.run (by omega) (fun z => parts (bitsOf_inj bb by_ z)) (c2.trans c1.symm)
end Crc
set_option linter.all false
/-! What the law's own helpers do -/
namespace Crc
theorem num_bits : ∀ bits : List Bool, bits.length = 8 → num bits < 256 ∧ byteBits (num bits) = bits
  | [a, b, c, d, e, f, g, h], _ => by
    cases a <;> cases b <;> cases c <;> cases d <;> cases e <;> cases f <;> cases g <;> cases h <;> decide
def bytesOf (bits : List Bool) : List Nat := (List.range (bits.length / 8)).map fun k => num ((bits.drop (8 * k)).take 8)
theorem bytesOf_length (bits : List Bool) : (bytesOf bits).length = bits.length / 8 := by
  unfold bytesOf
  rw [List.length_map, List.length_range]
theorem bytesOf_cons {a b : List Bool} (h : a.length = 8) : bytesOf (a ++ b) = num a :: bytesOf b := by
  unfold bytesOf
  rw [List.length_append, h, show (8 + b.length) / 8 = b.length / 8 + 1 by omega, List.range_succ_eq_map, List.map_cons, List.map_map]
  congr 1
  · rw [Nat.mul_zero, List.drop_zero, List.take_left' h]
  · apply List.map_congr_left
    intro k _
    show num (((a ++ b).drop (8 * (k + 1))).take 8) = _
    rw [show 8 * (k + 1) = a.length + 8 * k by omega, List.drop_append, List.drop_eq_nil_of_le (as := a) (by omega), List.nil_append, Nat.add_sub_cancel_left]
theorem bytes_bytesOf {bits : List Bool} {n : Nat} (h : bits.length = 8 * n) : Bytes (bytesOf bits) := by
  intro b hb
  obtain ⟨k, hk, rfl⟩ := List.mem_map.mp hb
  have hk := List.mem_range.mp hk
  exact (num_bits _ (by rw [List.length_take, List.length_drop]; omega)).1
theorem bits_bytesOf : ∀ (n : Nat) {bits : List Bool}, bits.length = 8 * n → bitsOf (bytesOf bits) = bits
  | 0, bits, h => by
    have : bits = [] := List.eq_nil_of_length_eq_zero (by omega)
    subst this
    rfl
  | n + 1, bits, h => by
    have l8 : (bits.take 8).length = 8 := by rw [List.length_take]; omega
    have e := bytesOf_cons (b := bits.drop 8) l8
    rw [List.take_append_drop] at e
    rw [e, bitsOf_cons, (num_bits _ l8).2, bits_bytesOf n (by rw [List.length_drop]; omega), List.take_append_drop]
theorem bytesOf_bits {bs : List Nat} (h : Bytes bs) : bytesOf (bitsOf bs) = bs :=
  bitsOf_inj (bytes_bytesOf (bitsOf_length bs)) h (bits_bytesOf _ (bitsOf_length bs))
theorem bytesOf_reg (r : BitVec 32) : bytesOf (regBits r) = sumB r := by
  rw [← bits_sumB]
  exact bytesOf_bits (sumB_bytes r)
/-! ### one step of dividing -/
theorem xor_set {pre F M : List Bool} {k : Nat} {f m : Bool} (hf : F[k]? = some f) (hm : M[k]? = some m) :
    (pre ++ xor32 (F.take k) M)[pre.length + k]? = some m ∧ (pre ++ xor32 (F.take k) M).set (pre.length + k) (m != f) = pre ++ xor32 (F.take (k + 1)) M := by
  have kf : k < F.length := (List.getElem?_eq_some_iff.mp hf).1
  have km : k < M.length := (List.getElem?_eq_some_iff.mp hm).1
  have lk : (F.take k).length = k := by rw [List.length_take]; omega
  have lz : (List.zipWith (· ^^ ·) (F.take k) (M.take k)).length = k := by
    rw [List.length_zipWith, List.length_take, List.length_take]
    omega
  have x1 : xor32 (F.take k) M = List.zipWith (· ^^ ·) (F.take k) (M.take k) ++ (m :: M.drop (k + 1)) := by
    unfold xor32
    rw [lk, List.drop_eq_getElem_cons km]
    rw [List.getElem?_eq_getElem km] at hm
    rw [Option.some.inj hm]
  have x2 : xor32 (F.take (k + 1)) M = List.zipWith (· ^^ ·) (F.take k) (M.take k) ++ ((m != f) :: M.drop (k + 1)) := by
    have t1 : F.take (k + 1) = F.take k ++ [f] := by
      rw [List.take_add_one, hf]
      rfl
    have t2 : M.take (k + 1) = M.take k ++ [m] := by
      rw [List.take_add_one, hm]
      rfl
    unfold xor32
    rw [List.length_take, show min (k + 1) F.length = k + 1 by omega, t1, t2, List.zipWith_append (by rw [lk, List.length_take]; omega), List.append_assoc]
    congr 1
    show ((f ^^ m) :: _) = _
    congr 1
    cases f <;> cases m <;> rfl
  refine ⟨?_, ?_⟩
  · rw [x1, List.getElem?_append_right (by omega), Nat.add_sub_cancel_left, List.getElem?_append_right (by omega), lz, Nat.sub_self]
    rfl
  · rw [x1, x2, List.set_append_right _ _ (by omega), Nat.add_sub_cancel_left, List.set_append_right _ _ (by omega), lz, Nat.sub_self]
    rfl
/-- where dividing stands -/
def Div (bits : List Bool) (i : Nat) (l : List Bool) : Prop := ∃ pre : List Bool, pre.length = i ∧ l = pre ++ dv (crc (bits.take i)) (bits.drop i ++ List.replicate 32 false)
theorem Div.start (bits : List Bool) : Div bits 0 (bits ++ List.replicate 32 false) := ⟨[], rfl, by rw [List.take_zero]; exact (dv_zero _).symm⟩
theorem Div.stop {bits l : List Bool} (h : Div bits bits.length l) : l.drop (l.length - 32) = regBits (crc bits) := by
  obtain ⟨pre, hp, rfl⟩ := h
  rw [List.take_length, List.drop_length, List.nil_append, dv_end, List.length_append, regBits_length, Nat.add_sub_cancel, List.drop_left' rfl]
theorem Div.length {bits l : List Bool} {i : Nat} (h : Div bits i l) (hi : i ≤ bits.length) : l.length = bits.length + 32 := by
  obtain ⟨pre, hp, rfl⟩ := h
  unfold dv
  rw [List.length_append, xor32_length _ _ (by rw [regBits_length, List.length_append, List.length_replicate]; omega), List.length_append, List.length_replicate, List.length_drop]
  omega
theorem Div.next {bits l : List Bool} {i : Nat} (h : Div bits i l) (hi : i < bits.length) : ∃ (x : Bool) (pre M : List Bool), pre.length = i ∧ l = pre ++ M ∧ M.length = bits.length - i + 32 ∧ l[i]? = some x ∧
    (x = false → Div bits (i + 1) l) ∧ (x = true → Div bits (i + 1) (pre ++ xor32 facBits M)) := by
  have hl := h.length (Nat.le_of_lt hi)
  obtain ⟨pre, hp, rfl⟩ := h
  have ed : bits.drop i ++ List.replicate 32 false = bits[i] :: (bits.drop (i + 1) ++ List.replicate 32 false) := by
    rw [List.drop_eq_getElem_cons hi]
    rfl
  have et : bits.take (i + 1) = bits.take i ++ [bits[i]] := List.take_succ_eq_append_getElem hi
  have er : crc (bits.take (i + 1)) = stp (crc (bits.take i)) bits[i] := by
    rw [et]
    unfold crc
    rw [run_append]
    rfl
  have l32 : 32 ≤ (bits.drop (i + 1) ++ List.replicate 32 false).length := by
    rw [List.length_append, List.length_replicate]
    omega
  rw [ed] at hl ⊢
  rw [List.length_append] at hl
  have one : ∀ M : List Bool, M ≠ [] → pre ++ M = (pre ++ [M.headD false]) ++ M.tail := fun M hM => by
    cases M with
    | nil => exact absurd rfl hM
    | cons a b => simp
  refine ⟨(crc (bits.take i)).msb ^^ bits[i], pre, _, hp, rfl, by omega, ?_, fun x => ?_, fun x => ?_⟩
  · rw [dv_head, List.getElem?_append_right (by omega), hp, Nat.sub_self]
    rfl
  · refine ⟨pre ++ [(dv (crc (bits.take i)) (bits[i] :: (bits.drop (i + 1) ++ List.replicate 32 false))).headD false], by rw [List.length_append, hp]; rfl, ?_⟩
    rw [er, ← dv_no l32 x]
    exact one _ fun z => by rw [z] at hl; simp at hl; omega
  · refine ⟨pre ++ [(xor32 facBits (dv (crc (bits.take i)) (bits[i] :: (bits.drop (i + 1) ++ List.replicate 32 false)))).headD false], by rw [List.length_append, hp]; rfl, ?_⟩
    rw [er, ← dv_yes l32 x]
    refine one _ fun z => ?_
    have := xor32_length facBits (dv (crc (bits.take i)) (bits[i] :: (bits.drop (i + 1) ++ List.replicate 32 false))) (by show 1 + 32 ≤ _; omega)
    rw [z, List.length_nil] at this
    omega
/-! ### differences -/
def diffs (x y : List Bool) : List Nat := (List.range x.length).filter fun i => decide (x[i]? ≠ y[i]?)
def wrongs (x y : List Nat) : List Nat := (List.range x.length).filter fun i => decide (y[i]? ≠ x[i]?)
theorem filter_first (p : Nat → Bool) : ∀ n, (∀ i, i < n → p i = false) ∨ ∃ f rest, (List.range n).filter p = f :: rest ∧ f < n ∧ p f = true ∧ ∀ i, i < f → p i = false
  | 0 => .inl fun i h => by omega
  | n + 1 => by
    rw [List.range_succ, List.filter_append]
    rcases filter_first p n with h | ⟨f, rest, e, lt, pf, all⟩
    · have none : (List.range n).filter p = [] := List.filter_eq_nil_iff.mpr fun a ha => by rw [h a (List.mem_range.mp ha)]; exact Bool.false_ne_true
      cases e : p n with
      | false =>
        refine .inl fun i hi => ?_
        rcases Nat.lt_or_ge i n with g | g
        · exact h i g
        · rw [show i = n by omega]
          exact e
      | true => exact .inr ⟨n, [], by rw [none]; simp [e], by omega, e, h⟩
    · exact .inr ⟨f, rest ++ (List.filter p [n]), by rw [e]; rfl, by omega, pf, all⟩
theorem bits_at : ∀ {bs : List Nat} {i b : Nat}, bs[i]? = some b → ∀ {j : Nat}, j < 8 → (bitsOf bs)[8 * i + j]? = some (b.testBit (7 - j))
  | c :: bs, 0, b, h, j, hj => by
    obtain rfl : c = b := Option.some.inj h
    rw [bitsOf_cons, Nat.mul_zero, Nat.zero_add, List.getElem?_append_left (by rw [byteBits_length]; exact hj)]
    exact byteBits_get c j hj
  | c :: bs, i + 1, b, h, j, hj => by
    rw [bitsOf_cons, List.getElem?_append_right (by rw [byteBits_length]; omega), byteBits_length, show 8 * (i + 1) + j - 8 = 8 * i + j by omega]
    exact bits_at (bs := bs) h hj
end Crc
set_option linter.all false
/-! What the law asks -/
namespace Crc
theorem data_swap {told : List Nat} (hc : 1 < cntOf told) (hc2 : cntOf told < 65536) : dataOf ((blocksOf told).drop 64 ++ (blocksOf told).take 64) = .block 1 := by
  have l := blocks_length told
  refine data_first fun b => ?_
  have e : chunk ((blocksOf told).drop 64 ++ (blocksOf told).take 64) 0 = chunk (blocksOf told) 1 := by
    rw [chunk_prefix (by rw [List.length_drop]; omega)]
    unfold chunk
    rw [Nat.mul_zero, List.drop_zero]
  have e2 := blocks_chunk told [] 1 hc
  rw [List.append_nil] at e2
  rw [e, e2] at b
  have b : IsBlk (blk 2 (cntOf told) (part told 1)) 1 none := b
  have b2 := (blk_is (k := 2) (c := cntOf told) (part_length (told := told) (k := 1) hc) (by omega) hc2 none (.inl rfl)).1
  have := b.2.2.1
  have := b2.2.2.1
  omega
def oneHead : List Nat := [0, 1, 0, 1] ++ List.replicate 56 0
theorem data_head : dataOf (oneHead ++ sumOf oneHead) = .block 1 := by decide +kernel
theorem data_none : dataOf [] = .block 1 := by decide +kernel
theorem sum_none : sumOf (List.replicate 60 0) = [0, 0, 0, 0] := by decide +kernel
theorem data_full {told : List Nat} (hc : cntOf told < 65536) : dataOf (blocksOf told) = .data told := by
  have := data_whole (told := told) (t := []) hc
  rw [List.append_nil] at this
  exact this
theorem changed_first {told y : List Nat} (h : Bytes told) (hc : cntOf told < 65536) (hy : Bytes y) {a w f : Nat} (ly : y.length = (blocksOf told).length) (ag : Agree (bitsOf (blocksOf told)) (bitsOf y) a w) (w32 : w ≤ 32)
    (ne : (bitsOf y)[f]? ≠ (bitsOf (blocksOf told))[f]?) : (∃ p rest, wrongs (blocksOf told) y = p :: rest ∧ dataOf y = .block (p / 64 + 1)) ∧ ∃ b rest, diffs (bitsOf (blocksOf told)) (bitsOf y) = b :: rest := by
  have sy := bitsOf_length y
  have sb := bitsOf_length (blocksOf told)
  refine ⟨?_, ?_⟩
  · rcases filter_first (fun i => decide (y[i]? ≠ (blocksOf told)[i]?)) (blocksOf told).length with z | ⟨p, rest, e, lt, pp, all⟩
    · refine absurd ?_ ne
      have : y = blocksOf told := by
        apply List.ext_getElem?
        intro i
        by_cases hi : i < (blocksOf told).length
        · have := z i hi
          exact Decidable.of_not_not (of_decide_eq_false this)
        · rw [List.getElem?_eq_none (by omega), List.getElem?_eq_none (by omega)]
      rw [this]
    · refine ⟨p, rest, e, data_changed h hc hy ag w32 (by omega) (fun i hi => Decidable.of_not_not (of_decide_eq_false (all i hi))) (of_decide_eq_true pp)⟩
  · rcases filter_first (fun i => decide ((bitsOf (blocksOf told))[i]? ≠ (bitsOf y)[i]?)) (bitsOf (blocksOf told)).length with z | ⟨p, rest, e, _⟩
    · refine absurd ?_ ne
      by_cases hi : f < (bitsOf (blocksOf told)).length
      · exact (Decidable.of_not_not (of_decide_eq_false (z f hi))).symm
      · rw [List.getElem?_eq_none (by omega), List.getElem?_eq_none (by omega)]
    · exact ⟨p, rest, e⟩
theorem diffs_self (x : List Bool) : diffs x x = [] := by
  unfold diffs
  exact List.filter_eq_nil_iff.mpr fun a _ => by simp
end Crc
set_option Elab.async false
set_option linter.all false
set_option maxRecDepth 100000
set_option maxHeartbeats 4000000
/-! The program's blocks -/
namespace My
open PySem PySem.Spec PyProof.Rows L2 Crc
abbrev st_sum_of_bits : Stmt := topS 5
theorem sc_sum_of_bits : FnScope ["told", "rest", "byte", "place", "bit", "lead"] ["told"] (defScope st_sum_of_bits) := ⟨rfl, rfl, rfl, by decide +kernel, rfl, by decide +kernel, by decide +kernel⟩
abbrev st_block : Stmt := topS 6
theorem sc_block : FnScope ["number", "count", "data", "told"] ["number", "count", "data"] (defScope st_block) := ⟨rfl, rfl, rfl, by decide +kernel, rfl, by decide +kernel, by decide +kernel⟩
abbrev st_blocks_of : Stmt := topS 7
theorem sc_blocks_of : FnScope ["told", "data", "count", "found", "at"] ["told"] (defScope st_blocks_of) := ⟨rfl, rfl, rfl, by decide +kernel, rfl, by decide +kernel, by decide +kernel⟩
abbrev st_is_block : Stmt := topS 8
theorem sc_is_block : FnScope ["told", "number", "count", "many"] ["told", "number", "count"] (defScope st_is_block) := ⟨rfl, rfl, rfl, by decide +kernel, rfl, by decide +kernel, by decide +kernel⟩
abbrev st_without_end : Stmt := topS 9
theorem sc_without_end : FnScope ["data", "at"] ["data"] (defScope st_without_end) := ⟨rfl, rfl, rfl, by decide +kernel, rfl, by decide +kernel, by decide +kernel⟩
abbrev st_data_of : Stmt := topS 10
theorem sc_data_of : FnScope ["told", "data", "count", "number", "here", "last"] ["told"] (defScope st_data_of) := ⟨rfl, rfl, rfl, by decide +kernel, rfl, by decide +kernel, by decide +kernel⟩
/-- a list is made -/
def Made (H : Hp) (xs : List V) (Q : VK) : Prop := ∀ p H', Same H H' → H p = none → H' p = some (.lst xs) → Q (.ref p) H'
/-- the module's numbers -/
structure Consts (mg : Str → Option Value) : Prop where
  SIZE : ∃ t, mg "SIZE" = some (.int 64 t)
  DATA : ∃ t, mg "DATA" = some (.int 56 t)
  FACTORS : ∃ t, mg "FACTORS" = some (.int 79764919 t)
  TOP : ∃ t, mg "TOP" = some (.int 4294967296 t)
def spSum (K : PySem.W.Frag) : Sp := fun vs H Q _ => ∃ (a : Addr) (bs : List Nat), vs = [.ref a] ∧ SqL K H a (bv bs) ∧ Made H (bv (sumOf bs)) Q
def spBlock : Sp := fun vs H Q _ => ∃ (a : Addr) (n c : Nat) (d : List Nat), vs = [.int n, .int c, .ref a] ∧ H a = some (.lst (bv d)) ∧ d.length ≤ 1000 ∧ Made H (bv (blk n c d)) Q
def spBlocksOf : Sp := fun vs H Q _ => ∃ (a : Addr) (bs : List Nat), vs = [.ref a] ∧ H a = some (.lst (bv bs)) ∧ bs.length ≤ 100000 ∧ Made H (bv (blocksOf bs)) Q
def cV (o : Option Nat) : V := match o with | none => .non | some c => .int c
def spIsBlock (K : PySem.W.Frag) : Sp := fun vs H Q _ => ∃ (a : Addr) (here : List Nat) (n : Nat) (o : Option Nat), vs = [.ref a, .int n, cV o] ∧ SqL K H a (bv here) ∧ ∀ H', Same H H' → Q (.bl (decide (IsBlk here n o))) H'
def WendAt (H H' : Hp) (o : Option (List Nat)) (v : V) : Prop := match o with
  | none => v = .non
  | some l => ∃ p, v = .ref p ∧ H p = none ∧ H' p = some (.lst (bv l))
def spWend (K : PySem.W.Frag) : Sp := fun vs H Q _ => ∃ (a : Addr) (l : List Nat), vs = [.ref a] ∧ SqL K H a (bv l) ∧ ∀ v H', Same H H' → WendAt H H' (wend l) v → Q v H'
def ToldAt (H : Hp) (r : Told) (v : V) : Prop := match r with
  | .block n => ∃ t, v = .ref t ∧ H t = some (.tup [.str "block", .int (n : Int)])
  | .data l => ∃ t q, v = .ref t ∧ H t = some (.tup [.str "data", .ref q]) ∧ H q = some (.lst (bv l))
def spDataOf (K : PySem.W.Frag) : Sp := fun vs H Q _ => ∃ (a : Addr) (l : List Nat), vs = [.ref a] ∧ SqL K H a (bv l) ∧ l.length ≤ 100000 ∧ ∀ v H', Same H H' → ToldAt H' (dataOf l) v → Q v H'
/-! ### the register as a number -/
theorem reg_lead (r : BitVec 32) : (r.toNat : Int) / 2 ^ 31 = bitI r.msb := by
  have e : r.msb = decide (2 ^ 31 ≤ r.toNat) := BitVec.msb_eq_decide r
  have lt := r.isLt
  rw [e]
  unfold bitI
  by_cases h : 2 ^ 31 ≤ r.toNat
  · rw [decide_eq_true h, if_pos rfl]
    omega
  · rw [decide_eq_false h, if_neg Bool.false_ne_true]
    omega
theorem reg_shl (r : BitVec 32) : (2 * (r.toNat : Int)) % 4294967296 = ((r <<< 1).toNat : Int) := by
  rw [BitVec.toNat_shiftLeft, Nat.shiftLeft_eq]
  have e : r.toNat * 2 ^ 1 % 2 ^ 32 = (2 * r.toNat) % 4294967296 := by
    rw [Nat.pow_one, Nat.mul_comm]
  rw [e]
  omega
theorem reg_xor (r : BitVec 32) : Builtin.bitXor (r.toNat : Int) 79764919 = ((r ^^^ fac).toNat : Int) := by
  rw [Bits.bitXor_pp (Int.natCast_nonneg _) (by decide), BitVec.toNat_xor]
  rfl
theorem bit_is (n p : Nat) : Builtin.bitAnd ((n : Int) / 2 ^ p) 1 = bitI (n.testBit p) := by
  have e : Builtin.bitAnd ((n : Int) / 2 ^ p) 1 = ((n : Int) / 2 ^ p) % 2 := PySem.W.kbt_mask _ 1
  rw [e, Nat.testBit_eq_decide_div_mod_eq]
  have e2 : ((n : Int) / 2 ^ p) % 2 = ((n / 2 ^ p % 2 : Nat) : Int) := by
    rw [Int.natCast_emod, Int.natCast_ediv, Int.natCast_pow]
    rfl
  rw [e2]
  unfold bitI
  have lt : n / 2 ^ p % 2 < 2 := Nat.mod_lt _ (by decide)
  by_cases h : n / 2 ^ p % 2 = 1
  · rw [decide_eq_true h, if_pos rfl, h]
    rfl
  · rw [decide_eq_false h, if_neg Bool.false_ne_true]
    have : n / 2 ^ p % 2 = 0 := by omega
    rw [this]
    rfl
theorem byte_is (n k : Nat) : Builtin.bitAnd ((n : Int) / 2 ^ k) 255 = ((n / 2 ^ k % 256 : Nat) : Int) := by
  have e : Builtin.bitAnd ((n : Int) / 2 ^ k) 255 = ((n : Int) / 2 ^ k) % 2 ^ 8 := PySem.W.kbt_mask _ 8
  rw [e, Int.natCast_emod, Int.natCast_ediv, Int.natCast_pow]
  rfl
theorem bitI_eq (a b : Bool) : decide (V.int (bitI a) = V.int (bitI b)) = (a == b) := by
  cases a <;> cases b <;> decide
section
variable {P : Program} {w : World} {K : PySem.W.Frag} {mg : Str → Option Value} {base : Heap}
theorem ok_sum (T : Top K mg "sum_of_bits" st_sum_of_bits ["told"]) (C : Consts mg) (z_range : mg "range" = none) : Def P w K mg base 1 "sum_of_bits" ["told"] (spSum K) := by
  obtain ⟨_, m_TOP⟩ := C.TOP
  obtain ⟨_, m_FACTORS⟩ := C.FACTORS
  refine T.ok sc_sum_of_bits (fun vs H Q E h => ?_) (fun f cdv A outer s H vs Q E hr h => ?_)
  · obtain ⟨a, bs, rfl, _⟩ := h
    rfl
  obtain ⟨a, bs, rfl, ha, q⟩ := h
  refine ⟨_, (pss_cons (ps_set (i := 1) sc_sum_of_bits.nd rfl (Or.inr rfl) pe_int)
    (pss_cons (ps_for PassesOwn.never rfl (pi_list (pv 0)) (pg_name (i := 2) sc_sum_of_bits.nd rfl (Or.inl rfl))
    (pss_one (ps_for PassesOwn.never rfl (pi_range3 rfl z_range (pa_cons pe_int (pa_cons (pe_un un_neg pe_int) (pa_cons (pe_un un_neg pe_int) pa_nil)))) (pg_name (i := 3) sc_sum_of_bits.nd rfl (Or.inl rfl))
      (pss_cons (ps_set (i := 4) sc_sum_of_bits.nd rfl (Or.inl rfl) (pe_op op_and (pe_op op_shr (pv 2) (pv 3)) pe_int))
        (pss_cons (ps_set (i := 5) sc_sum_of_bits.nd rfl (Or.inl rfl) (pe_op op_shr (pv 1) pe_int))
        (pss_cons (ps_set (i := 1) sc_sum_of_bits.nd rfl (Or.inr rfl) (pe_op op_mod (pe_op op_mul pe_int (pv 1)) (pe_glob (v := .int 4294967296) rfl m_TOP ⟨_, rfl⟩)))
        (pss_one (ps_if (pt_cmpR op_ne (pv 5) (pv 4) (nomark _))
        (pss_one (ps_set (i := 1) sc_sum_of_bits.nd rfl (Or.inr rfl) (pe_op op_xor (pv 1) (pe_glob (v := .int 79764919) rfl m_FACTORS ⟨_, rfl⟩))))
        pss_nil))))))))
    (pss_one (ps_ret (pe_lc (own := [("place", 3)]) (g := gName 3) (tt := tYes) rfl sc_sum_of_bits.nd (pi_tup (pe_tup (pa_cons pe_int (pa_cons pe_int (pa_cons pe_int (pa_cons pe_int pa_nil)))))) (blkOk_by (own := [("place", 3)]) (N := ["told", "rest", "byte", "place", "bit", "lead"]) (sc := defScope st_sum_of_bits) (by decide +kernel)) (fun _ _ _ _ _ => (pg_name (i := 3) sc_sum_of_bits.nd rfl (Or.inl rfl))) (fun _ _ _ _ _ => pts_nil) (fun _ _ _ _ _ => (pe_op op_and (pe_op op_shr (pv 1) (pe_op op_mul pe_int (pv 3))) pe_int))))))), ?_⟩
  -- rest = 0; for byte in told
  refine ⟨.ref a, rfl, a, rfl, ⟨_, ha⟩, for_list (K := K) (a := a) (xs := bv bs) (fun i σ H' => ∃ x2 x3 x4 x5 : Option V, σ = [some (.ref a), some (.int ((crc (bitsOf (bs.take i))).toNat : Int)), x2, x3, x4, x5] ∧ H' = H) ⟨_, _, _, _, rfl, rfl⟩ (fun _ _ _ _ ⟨_, _, _, _, _, e⟩ => by rw [e]; exact ha) ?_ ?_⟩
  · rintro i x σ H' hx ⟨x2, x3, x4, x5, rfl, rfl⟩
    obtain ⟨b, hb, rfl⟩ := bv_of hx
    -- for place in range(7, -1, -1)
    refine ⟨1, rfl, 1, rfl, 7, -1, -1, 8, rfl, RgC.neg (by decide) (by decide) (by decide) (by decide), for_rangeC (lo := 7) (c := -1) (n := 8) (fun j σ G => ∃ y3 y4 y5 : Option V, σ = [some (.ref a), some (.int ((run (crc (bitsOf (bs.take i))) ((byteBits b).take j)).toNat : Int)), some (.int b), y3, y4, y5] ∧ G = H') ⟨_, _, _, rfl, rfl⟩ ?_ ?_⟩
    · rintro j σ G hj ⟨y3, y4, y5, rfl, rfl⟩
      have e7 : (7 : Int) + (j : Int) * -1 = ((7 - j : Nat) : Int) := by omega
      rw [e7]
      -- bit, lead, rest
      refine ⟨_, rfl, _, rfl, _, _, rfl, rfl, Int.natCast_nonneg _, _, _, rfl, rfl, ?_⟩
      refine ⟨_, rfl, _, _, rfl, rfl, (by show (0 : Int) ≤ 31; decide), ?_⟩
      refine ⟨_, rfl, _, _, rfl, rfl, .inl ⟨by decide, by decide⟩, _, _, rfl, rfl, (by show (0 : Int) < 4294967296; decide), ?_⟩
      have got : (byteBits b)[j]? = some (b.testBit (7 - j)) := byteBits_get b j hj
      have next : run (crc (bitsOf (bs.take i))) ((byteBits b).take (j + 1)) = stp (run (crc (bitsOf (bs.take i))) ((byteBits b).take j)) (b.testBit (7 - j)) := by
        rw [List.take_add_one, got, run_append]
        rfl
      rw [next]
      generalize run (crc (bitsOf (bs.take i))) ((byteBits b).take j) = R
      have lead := reg_lead R
      have bit : Builtin.bitAnd ((b : Int) / 2 ^ (((7 - j : Nat) : Int)).toNat) 1 = bitI (b.testBit (7 - j)) := by
        rw [Int.toNat_natCast]
        exact bit_is b (7 - j)
      have cond : decide (V.int ((R.toNat : Int) / 2 ^ (31 : Int).toNat) = V.int (Builtin.bitAnd ((b : Int) / 2 ^ (((7 - j : Nat) : Int)).toNat) 1)) = (R.msb == b.testBit (7 - j)) := by
        rw [bit]
        show decide (V.int ((R.toNat : Int) / 2 ^ 31) = _) = _
        rw [lead]
        exact bitI_eq _ _
      have shl := reg_shl R
      refine ⟨_, rfl, _, rfl, rfl, _, rfl, ifnB cond ?_⟩
      cases eq : (R.msb == b.testBit (7 - j)) with
      | true =>
        refine iteT ?_
        have st : stp R (b.testBit (7 - j)) = R <<< 1 := by
          unfold stp
          rw [eq_of_beq eq]
          simp
        exact ⟨_, _, _, by rw [st, ← shl]; rfl, rfl⟩
      | false =>
        refine iteF ⟨_, rfl, _, _, rfl, rfl, ?_⟩
        have st : stp R (b.testBit (7 - j)) = (R <<< 1) ^^^ fac := by
          unfold stp
          rw [show (R.msb != b.testBit (7 - j)) = true by unfold bne; rw [eq]; rfl]
          rfl
        exact ⟨_, _, _, by rw [st, ← reg_xor, ← shl]; rfl, rfl⟩
    · rintro σ G ⟨y3, y4, y5, rfl, rfl⟩
      have e : run (crc (bitsOf (bs.take i))) ((byteBits b).take 8) = crc (bitsOf (bs.take (i + 1))) := by
        rw [List.take_of_length_le (l := byteBits b) (by rw [byteBits_length]; omega), List.take_add_one (l := bs), hb, bitsOf_append]
        unfold crc
        rw [run_append]
        show _ = run _ (byteBits b ++ [])
        rw [List.append_nil]
      rw [e]
      exact ⟨_, _, _, _, rfl, rfl⟩
  · rintro σ H' ⟨x2, x3, x4, x5, rfl, rfl⟩
    rw [bv_len, List.take_of_length_le (Nat.le_refl _)]
    generalize er : crc (bitsOf bs) = R
    have es : sumOf bs = sumB R := by rw [← er]; rfl
    rw [es] at q
    -- the four bytes
    refine ⟨(by show 4 ≤ sizeLine; decide), fun t nt => ⟨t, rfl, ⟨_, SqT.of upd_same⟩, fun D nD => lc_tup (K := K) (a := t) (xs := [.int 3, .int 2, .int 1, .int 0]) (fun i G => Same (upd H' t (.tup [.int 3, .int 2, .int 1, .int 0])) G ∧ G D = some (.lst (bv ((sumB R).take i)))) ⟨Same.new nD, upd_same⟩ (fun i G _ ⟨s, _⟩ => SqT.of (s _ _ upd_same)) ?_ ?_⟩⟩
    · rintro i x G hx ⟨s, e⟩
      obtain ⟨k, hk, rfl, hi⟩ : ∃ k : Nat, (sumB R)[i]? = some (R.toNat / 2 ^ (8 * k) % 256) ∧ x = .int k ∧ i < 4 := by
        match i, hx with
        | 0, hx => exact ⟨3, rfl, (Option.some.inj hx).symm, by decide⟩
        | 1, hx => exact ⟨2, rfl, (Option.some.inj hx).symm, by decide⟩
        | 2, hx => exact ⟨1, rfl, (Option.some.inj hx).symm, by decide⟩
        | 3, hx => exact ⟨0, by show some _ = some _; rw [Nat.mul_zero, Nat.pow_zero, Nat.div_one], (Option.some.inj hx).symm, by decide⟩
        | i + 4, hx => cases hx
      have n0 : (upd H' t (.tup [.int 3, .int 2, .int 1, .int 0])) D = none := nD
      refine ⟨rfl, _, rfl, _, rfl, _, _, rfl, rfl, .inl ⟨by decide, by decide⟩, _, _, rfl, rfl, (by omega), _, _, rfl, rfl, _, e, sq_len (by rw [bv_len, List.length_take]; omega), same_mut s n0, ?_⟩
      have v : Builtin.bitAnd ((R.toNat : Int) / 2 ^ ((8 : Int) * (k : Int)).toNat) 255 = ((R.toNat / 2 ^ (8 * k) % 256 : Nat) : Int) := by
        rw [show ((8 : Int) * (k : Int)).toNat = 8 * k by omega]
        exact byte_is _ _
      rw [upd_same, List.take_add_one, hk, bv_app]
      show some (HO.lst (_ ++ [V.int (Builtin.bitAnd ((R.toNat : Int) / 2 ^ ((8 : Int) * (k : Int)).toNat) 255)])) = _
      rw [v]
      rfl
    · rintro G ⟨s, e⟩
      exact q D G ((Same.new nt).trans s) ((Same.new nt).free nD) e
theorem ok_block (T : Top K mg "block" st_block ["number", "count", "data"]) (D_sum_of_bits : Def P w K mg base 1 "sum_of_bits" ["told"] (spSum K)) : Def P w K mg base 2 "block" ["number", "count", "data"] spBlock := by
  refine T.ok sc_block (fun vs H Q E h => ?_) (fun f cdv A outer s H vs Q E hr h => ?_)
  · obtain ⟨a, n, c, d, rfl, _⟩ := h
    rfl
  obtain ⟨a, n, c, d, rfl, ha, hl, q⟩ := h
  refine ⟨_, (pss_cons (ps_set (i := 3) sc_block.nd rfl (Or.inl rfl) (pe_op op_cat (pe_lst (pa_cons (pe_op op_fdiv (pv 0) pe_int) (pa_cons (pe_op op_mod (pv 0) pe_int) (pa_cons (pe_op op_fdiv (pv 1) pe_int) (pa_cons (pe_op op_mod (pv 1) pe_int) pa_nil))))) (pv 2)))
    (pss_one (ps_ret (pe_op op_cat (pv 3) (pe_def D_sum_of_bits (hr.mono (by decide)) rfl (pa_cons (pv 3) pa_nil)))))), ?_⟩
  have big : ∀ {n : Nat}, n ≤ 1100 → n ≤ sizeLine := fun h => Nat.le_of_lt (sq_len (by omega))
  refine ⟨_, rfl, _, _, rfl, rfl, ⟨by decide, by decide⟩, _, rfl, _, _, rfl, rfl, (by show (0 : Int) < 256; decide), _, rfl, _, _, rfl, rfl, ⟨by decide, by decide⟩, _, rfl, _, _, rfl, rfl, (by show (0 : Int) < 256; decide), (by show 4 ≤ sizeLine; decide), fun o no => ?_⟩
  have sa : (upd H o (.lst [.int ((n : Int) / 256), .int ((n : Int) % 256), .int ((c : Int) / 256), .int ((c : Int) % 256)])) a = some (.lst (bv d)) := Same.new no _ _ ha
  refine ⟨.ref a, rfl, o, a, _, _, rfl, rfl, upd_same, sa, big (by rw [bv_len]; show 4 + d.length ≤ 1100; omega), fun p np => ?_⟩
  have e : (V.int ((n : Int) / 256) :: .int ((n : Int) % 256) :: .int ((c : Int) / 256) :: .int ((c : Int) % 256) :: bv d) = bv ([n / 256, n % 256, c / 256, c % 256] ++ d) := rfl
  have s1 : Same H (upd (upd H o (.lst [.int ((n : Int) / 256), .int ((n : Int) % 256), .int ((c : Int) / 256), .int ((c : Int) % 256)])) p (.lst (bv ([n / 256, n % 256, c / 256, c % 256] ++ d)))) := (Same.new no).trans (Same.new np)
  refine ⟨.ref p, rfl, .ref p, rfl, p, [n / 256, n % 256, c / 256, c % 256] ++ d, rfl, SqL.of upd_same, fun r H2 s2 nr er => ?_⟩
  have ep := s2 _ _ (upd_same (H := upd H o (.lst [.int ((n : Int) / 256), .int ((n : Int) % 256), .int ((c : Int) / 256), .int ((c : Int) % 256)])) (a := p) (o := .lst (bv ([n / 256, n % 256, c / 256, c % 256] ++ d))))
  refine ⟨p, r, _, _, rfl, rfl, ep, er, big (by rw [bv_len, bv_len, sumOf_length, List.length_append]; show 4 + d.length + 4 ≤ 1100; omega), fun z nz => ?_⟩
  refine q z _ (same_mut (s1.trans s2) ((s1.trans s2).free nz)) ((s1.trans s2).free nz) ?_
  rw [upd_same, ← bv_app]
  rfl
theorem ok_blocks_of (T : Top K mg "blocks_of" st_blocks_of ["told"]) (C : Consts mg) (D_block : Def P w K mg base 2 "block" ["number", "count", "data"] spBlock) (z_len : mg "len" = none) (z_range : mg "range" = none) : Def P w K mg base 3 "blocks_of" ["told"] spBlocksOf := by
  obtain ⟨_, m_DATA⟩ := C.DATA
  refine T.ok sc_blocks_of (fun vs H Q E h => ?_) (fun f cdv A outer s H vs Q E hr h => ?_)
  · obtain ⟨a, bs, rfl, _⟩ := h
    rfl
  obtain ⟨a, bs, rfl, ha, hl, q⟩ := h
  refine ⟨_, (pss_cons (ps_set (i := 1) sc_blocks_of.nd rfl (Or.inl rfl) (pe_op op_cat (pv 0) (pe_lst (pa_cons pe_int pa_nil))))
    (pss_cons (ps_set (i := 2) sc_blocks_of.nd rfl (Or.inl rfl) (pe_un un_neg (pe_op op_fdiv (pe_un un_neg (pe_callB (lenQ K) rfl z_len (by decide +kernel) (pa_cons (pv 1) pa_nil))) (pe_glob (v := .int 56) rfl m_DATA ⟨_, rfl⟩))))
    (pss_cons (ps_set (i := 1) sc_blocks_of.nd rfl (Or.inl rfl) (pe_op op_cat (pv 1) (pe_op op_rep (pe_lst (pa_cons pe_int pa_nil)) (pe_op op_sub (pe_op op_mul (pv 2) (pe_glob (v := .int 56) rfl m_DATA ⟨_, rfl⟩)) (pe_callB (lenQ K) rfl z_len (by decide +kernel) (pa_cons (pv 1) pa_nil))))))
    (pss_cons (ps_set (i := 3) sc_blocks_of.nd rfl (Or.inl rfl) (pe_lst pa_nil))
    (pss_cons (ps_for PassesOwn.never rfl (pi_range1 rfl z_range (pa_cons (pv 2) pa_nil)) (pg_name (i := 4) sc_blocks_of.nd rfl (Or.inl rfl))
    (pss_one (ps_expr (pe_bm PySem.F.plainAttrs_list PySem.F.slot_list_extend PySem.F.type_list_extend mt_extend (pv 3) (pa_cons (pe_def D_block (hr.mono (by decide)) rfl (pa_cons (pe_op op_add (pv 4) pe_int) (pa_cons (pv 2) (pa_cons (pe_slice (slL K) (pv 1) (po_some (pe_op op_mul (pv 4) (pe_glob (v := .int 56) rfl m_DATA ⟨_, rfl⟩))) (po_some (pe_op op_mul (pe_op op_add (pv 4) pe_int) (pe_glob (v := .int 56) rfl m_DATA ⟨_, rfl⟩)))) pa_nil)))) pa_nil)))))
    (pss_one (ps_ret (pv 3)))))))), ?_⟩
  have big : ∀ {n : Nat}, n ≤ 900000 → n ≤ sizeLine := fun h => Nat.le_of_lt (sq_len (by omega))
  -- data = told + [1]
  refine ⟨.ref a, rfl, (by show 1 ≤ sizeLine; decide), fun o no => ?_⟩
  have s1 : Same H (upd H o (.lst [.int 1])) := Same.new no
  refine ⟨a, o, bv bs, [.int 1], rfl, rfl, s1 _ _ ha, upd_same, big (by rw [bv_len]; show bs.length + 1 ≤ 900000; omega), fun d nd => ?_⟩
  have s2 := s1.trans (Same.new (o := .lst (bv (bs ++ [1]))) nd)
  have e1 : bv bs ++ [V.int 1] = bv (bs ++ [1]) := (bv_app bs [1]).symm
  rw [e1]
  generalize hG : upd (upd H o (.lst [.int 1])) d (.lst (bv (bs ++ [1]))) = G at s2
  have ed : G d = some (.lst (bv (bs ++ [1]))) := by rw [← hG]; exact upd_same
  -- count = -(-len(data) // DATA)
  refine ⟨.ref d, rfl, d, _, rfl, .inl (SqL.of ed), _, rfl, _, _, rfl, rfl, ⟨by decide, by decide⟩, _, rfl, ?_⟩
  have ec : -(-(((bv (bs ++ [1])).length : Nat) : Int) / 56) = ((cntOf bs : Nat) : Int) := by
    rw [bv_len, List.length_append, List.length_singleton]
    unfold cntOf
    omega
  dsimp only
  rw [ec]
  have cp := cnt_pos bs
  have cl := cnt_le bs
  have cu : 56 * cntOf bs ≤ bs.length + 56 := by unfold cntOf; omega
  -- data = data + [0] * (count * DATA - len(data))
  refine ⟨.ref d, rfl, (by show 1 ≤ sizeLine; decide), fun z nz => ?_⟩
  have s3 := s2.trans (Same.new (o := .lst [.int 0]) nz)
  have ed3 : (upd G z (.lst [.int 0])) d = some (.lst (bv (bs ++ [1]))) := by
    rw [upd_ne (ne_of_none ed nz)]
    exact ed
  have ek : (cntOf bs : Int) * 56 - ((bv (bs ++ [1])).length : Int) = ((56 * cntOf bs - (bs.length + 1) : Nat) : Int) := by
    rw [bv_len, List.length_append, List.length_singleton]
    omega
  refine ⟨_, rfl, _, _, rfl, rfl, .inr ⟨by decide, by decide⟩, .ref d, rfl, d, _, rfl, .inl (SqL.of ed3), _, _, rfl, rfl, ?_⟩
  dsimp only
  rw [ek]
  refine ⟨z, _, [.int 0], rfl, rfl, upd_same, by omega, by omega, big (by rw [Int.toNat_natCast]; show 1 * _ ≤ 900000; omega), fun y ny => ?_⟩
  have er : (List.replicate ((56 * cntOf bs - (bs.length + 1) : Nat) : Int).toNat [V.int 0]).flatten = bv (List.replicate (56 * cntOf bs - (bs.length + 1)) 0) := by
    rw [Int.toNat_natCast]
    generalize 56 * cntOf bs - (bs.length + 1) = m
    unfold bv
    rw [List.map_replicate]
    induction m with
    | zero => rfl
    | succ m ih => rw [List.replicate_succ, List.flatten_cons, ih, List.replicate_succ]; rfl
  rw [er]
  generalize hG2 : upd (upd G z (.lst [.int 0])) y (.lst (bv (List.replicate (56 * cntOf bs - (bs.length + 1)) 0))) = G2
  have s4 : Same H G2 := by rw [← hG2]; exact s3.trans (Same.new ny)
  have ed4 : G2 d = some (.lst (bv (bs ++ [1]))) := by rw [← hG2, upd_ne (ne_of_none ed3 ny)]; exact ed3
  have ey : G2 y = some (.lst (bv (List.replicate (56 * cntOf bs - (bs.length + 1)) 0))) := by rw [← hG2]; exact upd_same
  refine ⟨d, y, _, _, rfl, rfl, ed4, ey, big (by rw [bv_len, bv_len, List.length_append, List.length_replicate, List.length_singleton]; omega), fun x nx => ?_⟩
  rw [← bv_app]
  generalize hG3 : upd G2 x (.lst (bv (bs ++ [1] ++ List.replicate (56 * cntOf bs - (bs.length + 1)) 0))) = G3
  have s5 : Same H G3 := by rw [← hG3]; exact s4.trans (Same.new nx)
  have ex : G3 x = some (.lst (bv (padded bs))) := by rw [← hG3]; exact upd_same
  -- found = []
  refine ⟨Nat.zero_le _, fun fo nfo => ?_⟩
  have nf0 : H fo = none := s5.free nfo
  have nxf : x ≠ fo := ne_of_none ex nfo
  -- for at in range(count)
  refine ⟨_, rfl, (cntOf bs : Int), rfl, by omega, by omega, for_range (lo := 0) (n := ((cntOf bs : Int)).toNat) (fun i σ H' => ∃ y4 : Option V, σ = [some (.ref a), some (.ref x), some (.int (cntOf bs)), some (.ref fo), y4] ∧ Same H H' ∧ H' x = some (.lst (bv (padded bs))) ∧
    H' fo = some (.lst (bv ((List.range i).flatMap fun k => blk (k + 1) (cntOf bs) (Crc.part bs k))))) ⟨_, rfl, same_mut s5 nf0, by rw [upd_ne nxf]; exact ex, upd_same⟩ ?_ ?_⟩
  · rintro i σ H' hi ⟨y4, rfl, sm, ex', ef⟩
    rw [Int.toNat_natCast] at hi
    have lf := flat_length (f := fun k => blk (k + 1) (cntOf bs) (Crc.part bs k)) i fun k hk => blk_length (part_length (by omega))
    refine ⟨.ref fo, rfl, .inl ⟨rfl, _, SqL.of ef⟩, _, rfl, _, _, rfl, rfl, _, rfl, .ref x, rfl, _, rfl, _, _, rfl, rfl, .inr ⟨by decide, by decide⟩, _, rfl, _, rfl, _, _, rfl, rfl, _, _, rfl, rfl, .inr ⟨by decide, by decide⟩, _, rfl, x, _, rfl, SqL.of ex', fun pt npt => ?_⟩
    have e0 : (0 : Int) + (i : Int) + 1 = ((i + 1 : Nat) : Int) := by omega
    have e2 : ((0 : Int) + (i : Int)) * 56 = ((56 * i : Nat) : Int) := by omega
    have e3 : ((0 : Int) + (i : Int) + 1) * 56 = ((56 * (i + 1) : Nat) : Int) := by omega
    have ecut : cutV (bv (padded bs)) (some (((0 : Int) + (i : Int)) * 56)) (some (((0 : Int) + (i : Int) + 1) * 56)) = bv (Crc.part bs i) := by
      rw [e2, e3, cut_mid, bv_drop, bv_take]
      unfold Crc.part
      rw [show 56 * (i + 1) - 56 * i = 56 by omega]
    refine ⟨pt, i + 1, cntOf bs, Crc.part bs i, (by show [V.int ((0 : Int) + (i : Int) + 1), V.int (cntOf bs), V.ref pt] ++ [] = _; rw [e0]; rfl), upd_same.trans (congrArg (fun l => some (HO.lst l)) ecut), by rw [part_length hi]; decide, fun b H2 s2' nb eb => ?_⟩
    have s6 : Same H' H2 := (Same.new npt).trans s2'
    refine ⟨fo, b, _, _, rfl, rfl, s6 _ _ ef, eb, big (by rw [bv_len, bv_len, lf, blk_length (part_length hi)]; omega), ?_⟩
    refine ⟨_, rfl, same_mut (sm.trans s6) nf0, ?_, ?_⟩
    · rw [upd_ne nxf]
      exact s6 _ _ ex'
    · rw [upd_same, ← bv_app, List.range_succ, List.flatMap_append]
      simp only [List.flatMap_cons, List.flatMap_nil, List.append_nil]
  · rintro σ H' ⟨y4, rfl, sm, ex', ef⟩
    rw [Int.toNat_natCast] at ef
    exact ⟨_, rfl, q fo H' sm nf0 ef⟩
theorem bv_at {l : List Nat} {i : Nat} (h : i < l.length) : atI (bv l) (i : Int) = some (.int (l.getD i 0 : Nat)) := by
  refine atI_nat (bv_get ?_)
  rw [List.getD_eq_getElem?_getD, List.getElem?_eq_getElem h]
  rfl
theorem inV_c (o : Option Nat) (m : Nat) : inV (cV o) [.non, .int (m : Int)] = decide (o = none ∨ o = some m) := by
  cases o with
  | none => exact (decide_eq_true (.inl rfl)).symm
  | some c =>
    show (eqV .non (.int c) || (eqV (.int m) (.int c) || false)) = _
    by_cases e : m = c
    · subst e
      rw [decide_eq_true (.inr rfl)]
      show (false || (((m : Int) == (m : Int)) || false)) = true
      rw [beq_self_eq_true]
      rfl
    · rw [decide_eq_false (fun z => by
        rcases z with z | z
        · cases z
        · exact e (Option.some.inj z).symm)]
      show (false || (((m : Int) == (c : Int)) || false)) = false
      rw [beq_eq_false_iff_ne.mpr (by omega)]
      rfl
theorem flat_c (o : Option Nat) : flatV (cV o) = true := by cases o <;> rfl
theorem ok_is_block (T : Top K mg "is_block" st_is_block ["told", "number", "count"]) (C : Consts mg) (D_sum_of_bits : Def P w K mg base 1 "sum_of_bits" ["told"] (spSum K)) (z_len : mg "len" = none) : Def P w K mg base 2 "is_block" ["told", "number", "count"] (spIsBlock K) := by
  obtain ⟨_, m_SIZE⟩ := C.SIZE
  refine T.ok sc_is_block (fun vs H Q E h => ?_) (fun f cdv A outer s H vs Q E hr h => ?_)
  · obtain ⟨a, l, n, o, rfl, _⟩ := h
    rfl
  obtain ⟨a, l, n, o, rfl, ha, q⟩ := h
  refine ⟨_, (pss_cons (ps_if (PW.pt (pw_or (pt_cmpR op_ne (pe_callB (lenQ K) rfl z_len (by decide +kernel) (pa_cons (pv 0) pa_nil)) (pe_glob (v := .int 64) rfl m_SIZE ⟨_, rfl⟩) (nomark _)) (pw_or1 (pt_cmpR (neQ K hr.units) (pe_slice (slL K) (pv 0) (po_some pe_int) po_none) (pe_def D_sum_of_bits (hr.mono (by decide)) rfl (pa_cons (pe_slice (slL K) (pv 0) po_none (po_some pe_int)) pa_nil)) (nomark _)))))
    (pss_one (ps_ret pe_bl))
    pss_nil)
    (pss_cons (ps_set (i := 3) sc_is_block.nd rfl (Or.inl rfl) (pe_op op_add (pe_op op_mul pe_int (pe_ix (ixL K) (pv 0) pe_int (fun _ _ => rfl))) (pe_ix (ixL K) (pv 0) pe_int (fun _ _ => rfl))))
    (pss_one (ps_ret (pe_and (pe_cmpR op_eq (pe_op op_add (pe_op op_mul pe_int (pe_ix (ixL K) (pv 0) pe_int (fun _ _ => rfl))) (pe_ix (ixL K) (pv 0) pe_int (fun _ _ => rfl))) (pv 1) (nomark _)) (pe_and (pe_cmpR op_ge (pv 3) (pv 1) (nomark _)) (pe_one (pe_cmpR (inQ K) (pv 2) (pe_tup (pa_cons pe_non (pa_cons (pv 3) pa_nil))) (by with_unfolding_all rfl))))))))), ?_⟩
  refine ⟨.ref a, rfl, a, _, rfl, .inl ha, rfl, _, rfl, ?_⟩
  by_cases l64 : ¬ l.length = 64
  · refine ifnND (fun z => l64 ?_) (iteT ?_)
    · have := V.int.inj z
      rw [bv_len] at this
      omega
    · rw [show false = decide (IsBlk l n o) from (decide_eq_false fun z => l64 z.1).symm]
      exact q _ (Same.refl _)
  have l64 : l.length = 64 := Decidable.of_not_not l64
  refine ifnD (by rw [bv_len, l64]; rfl) ?_
  refine ⟨.ref a, rfl, 60, rfl, a, _, rfl, ha, fun p np => ?_⟩
  have ep : cutV (bv l) (some 60) none = bv (l.drop 60) := (cut_ge _ 60).trans (bv_drop _ _)
  have eq : cutV (bv l) none (some 60) = bv (l.take 60) := (cut_lt _ 60).trans (bv_take _ _)
  rw [ep]
  refine ⟨.ref a, rfl, 60, rfl, a, _, rfl, (Same.new np).seq ha, fun p2 np2 => ?_⟩
  rw [eq]
  refine ⟨p2, l.take 60, rfl, SqL.of upd_same, fun r H2 s2 nr er => ?_⟩
  have s3 : Same H H2 := ((Same.new np).trans (Same.new np2)).trans s2
  have e1 : SqL K H2 p (bv (l.drop 60)) := s2.seq ((Same.new np2).seq (SqL.of upd_same))
  have a2 := s3.seq ha
  refine ⟨nd (l.drop 60), nd (sumOf (l.take 60)), dp_list e1, dp_list (SqL.of er), shaped_nums _, shaped_nums _, _, rfl, ?_⟩
  rw [eqv_nums]
  by_cases sm : ¬ l.drop 60 = sumOf (l.take 60)
  · refine ifnND sm ?_
    rw [show false = decide (IsBlk l n o) from (decide_eq_false fun z => sm z.2.1).symm]
    exact q _ s3
  have sm := Decidable.of_not_not sm
  refine ifnD sm ?_
  have at_ : ∀ i : Nat, i < 64 → atI (bv l) (i : Int) = some (.int (l.getD i 0 : Nat)) := fun i hi => bv_at (by omega)
  refine ⟨.ref a, rfl, a, _, _, _, rfl, rfl, a2, at_ 2 (by decide), _, _, rfl, rfl, .inl ⟨by decide, by decide⟩, .ref a, rfl, a, _, _, _, rfl, rfl, a2, at_ 3 (by decide), _, _, rfl, rfl, ?_⟩
  refine ⟨.ref a, rfl, a, _, _, _, rfl, rfl, a2, at_ 0 (by decide), _, _, rfl, rfl, .inl ⟨by decide, by decide⟩, .ref a, rfl, a, _, _, _, rfl, rfl, a2, at_ 1 (by decide), _, _, rfl, rfl, _, rfl, rfl, _, rfl, ?_⟩
  have c0 : (256 : Int) * (l.getD 2 0 : Nat) + (l.getD 3 0 : Nat) = ((Crc.cnt l : Nat) : Int) := by
    unfold Crc.cnt
    omega
  by_cases nm : ¬ 256 * l.getD 0 0 + l.getD 1 0 = n
  · refine ifND (fun z => nm ?_) ?_
    · have := V.int.inj z
      omega
    · rw [show false = decide (IsBlk l n o) from (decide_eq_false fun z => nm z.2.2.1).symm]
      exact q _ s3
  have nm := Decidable.of_not_not nm
  refine ifD (congrArg V.int (by omega)) ?_
  refine ⟨_, rfl, _, rfl, _, _, rfl, rfl, _, rfl, ?_⟩
  by_cases le : ¬ n ≤ Crc.cnt l
  · refine ifND (by omega) ?_
    rw [show false = decide (IsBlk l n o) from (decide_eq_false fun z => le z.2.2.2.1).symm]
    exact q _ s3
  have le := Decidable.of_not_not le
  refine ifD (by omega) ?_
  refine ⟨_, rfl, _, rfl, (by show 2 ≤ sizeLine; decide), fun t nt => ⟨t, _, rfl, .inr (SqT.of upd_same), flat_c o, rfl, ?_⟩⟩
  rw [if_neg Bool.false_ne_true]
  have ei : inV (cV o) [.non, .int ((256 : Int) * (l.getD 2 0 : Nat) + (l.getD 3 0 : Nat))] = decide (IsBlk l n o) := by
    rw [c0, inV_c]
    refine decide_eq_decide.mpr ⟨fun z => ⟨l64, sm, nm, le, z⟩, fun z => z.2.2.2.2⟩
  have z := q _ (s3.trans (Same.new (o := .tup [.non, .int ((256 : Int) * (l.getD 2 0 : Nat) + (l.getD 3 0 : Nat))]) nt))
  rw [← ei] at z
  exact z
theorem wend_snoc (l : List Nat) : wend (l ++ [0]) = wend l := by
  unfold wend
  rw [List.reverse_append]
  rfl
theorem wend_last {l : List Nat} {x : Nat} (h : x ≠ 0) : wend (l ++ [x]) = if x = 1 then some l else none := by
  unfold wend
  rw [List.reverse_append]
  show (match List.dropWhile (· == 0) (x :: l.reverse) with | 1 :: t => some t.reverse | _ => none) = _
  rw [List.dropWhile_cons, if_neg (by simpa using h)]
  by_cases e : x = 1
  · subst e
    rw [if_pos rfl]
    simp
  · rw [if_neg e]
    match x, e, h with
    | 0, _, h => exact absurd rfl h
    | 1, e, _ => exact absurd rfl e
    | x + 2, _, _ => rfl
def WendW (H : Hp) (a : Addr) (l : List Nat) (m : Nat) (σ : L2.St) (H' : Hp) : Prop := σ = [some (.ref a), some (.int ((m : Int) - 1))] ∧ H' = H ∧ m ≤ l.length ∧ wend l = wend (l.take m)
theorem ok_without_end (T : Top K mg "without_end" st_without_end ["data"]) (z_len : mg "len" = none) : Def P w K mg base 1 "without_end" ["data"] (spWend K) := by
  refine T.ok sc_without_end (fun vs H Q E h => ?_) (fun f cdv A outer s H vs Q E hr h => ?_)
  · obtain ⟨a, l, rfl, _⟩ := h
    rfl
  obtain ⟨a, l, rfl, ha, q⟩ := h
  refine ⟨_, (pss_cons (ps_set (i := 1) sc_without_end.nd rfl (Or.inl rfl) (pe_op op_sub (pe_callB (lenQ K) rfl z_len (by decide +kernel) (pa_cons (pv 0) pa_nil)) pe_int))
    (pss_cons (ps_while PassesOwn.never (PW.pt (pw_and (pt_cmpR op_ge (pv 1) pe_int (nomark _)) (pw_and1 (pt_cmpR op_eq (pe_ix (ixL K) (pv 0) (pv 1) (fun _ _ => rfl)) pe_int (nomark _)))))
    (pss_one (ps_set (i := 1) sc_without_end.nd rfl (Or.inl rfl) (pe_op op_sub (pv 1) pe_int))))
    (pss_one (ps_ret (pe_ifExp (PW.pt (pw_and (pt_cmpR op_ge (pv 1) pe_int (nomark _)) (pw_and1 (pt_cmpR op_eq (pe_ix (ixL K) (pv 0) (pv 1) (fun _ _ => rfl)) pe_int (nomark _))))) (pe_slice (slL K) (pv 0) po_none (po_some (pv 1))) pe_non))))), ?_⟩
  refine ⟨.ref a, rfl, a, _, rfl, .inl ha, _, _, rfl, rfl, ?_⟩
  refine ⟨WendW H a l, ⟨l.length, by rw [bv_len]; rfl, rfl, Nat.le_refl _, by rw [List.take_length]⟩, ?_⟩
  rintro m σ H' ⟨rfl, rfl, hm, ew⟩
  refine ⟨_, rfl, _, _, rfl, rfl, _, rfl, ?_⟩
  cases m with
  | zero =>
    refine ifND (by omega) (iteF ?_)
    refine ⟨_, rfl, _, _, rfl, rfl, _, rfl, ifND (by omega) (iteF ?_)⟩
    exact q .non _ (Same.refl _) (by rw [ew]; rfl)
  | succ k =>
    have lt : k < l.length := by omega
    have e1 : ((k + 1 : Nat) : Int) - 1 = (k : Int) := by omega
    have et : l.take (k + 1) = l.take k ++ [l.getD k 0] := by
      rw [List.take_succ_eq_append_getElem lt, List.getD_eq_getElem?_getD, List.getElem?_eq_getElem lt]
      rfl
    refine ifD (by omega) ⟨.ref a, rfl, _, rfl, a, _, _, _, rfl, rfl, ha, (by rw [e1]; exact bv_at lt), rfl, _, rfl, ?_⟩
    by_cases z : l.getD k 0 = 0
    · refine ifD (by rw [z]; rfl) ?_
      refine ⟨WendW H' a l k, fun σ' G w => ⟨k, by omega, w⟩, ?_⟩
      refine ⟨_, rfl, _, _, rfl, rfl, by rw [e1]; rfl, rfl, by omega, ?_⟩
      rw [ew, et, z, wend_snoc]
    · refine ifND (fun y => z (by have := V.int.inj y; omega)) ?_
      rw [et, wend_last z] at ew
      refine ⟨_, rfl, _, _, rfl, rfl, _, rfl, ifD (by omega) ⟨.ref a, rfl, _, rfl, a, _, _, _, rfl, rfl, ha, (by rw [e1]; exact bv_at lt), rfl, _, rfl, ?_⟩⟩
      by_cases one : l.getD k 0 = 1
      · refine ifD (by rw [one]; rfl) ?_
        refine ⟨.ref a, rfl, _, rfl, _, rfl, a, _, rfl, ha, fun p np => ?_⟩
        have ec : cutV (bv l) none (some (((k + 1 : Nat) : Int) - 1)) = bv (l.take k) := by
          rw [e1, cut_lt, bv_take]
        rw [if_pos one] at ew
        refine q (.ref p) _ (Same.new np) ?_
        rw [ew]
        exact ⟨p, rfl, np, by rw [upd_same, ec]⟩
      · refine ifND (fun y => one (by have := V.int.inj y; omega)) ?_
        rw [if_neg one] at ew
        exact q .non _ (Same.refl _) (by rw [ew]; rfl)
def DataW (H : Hp) (a : Addr) (q : Addr) (told : List Nat) (m : Nat) (σ : L2.St) (G : Hp) : Prop := ∃ (x4 x5 : Option V) (number : Nat) (o : Option Nat) (data : List Nat), σ = [some (.ref a), some (.ref q), some (cV o), some (.int (number : Int)), x4, x5] ∧ Same H G ∧ G q = some (.lst (bv data)) ∧ 64 * number ≤ told.length ∧ data.length = 56 * number ∧ m + number = told.length + 1 ∧ (o = none → number = 0) ∧ go told (m + 1) number o data = dataOf told
theorem wend_length {l ll : List Nat} (h : wend l = some ll) : ll.length < l.length := by
  unfold wend at h
  have le : (l.reverse.dropWhile (· == 0)).length ≤ l.length := by
    have := (List.dropWhile_sublist (l := l.reverse) (· == 0)).length_le
    rw [List.length_reverse] at this
    exact this
  split at h
  · rename_i t e
    rw [e] at le
    cases h
    rw [List.length_reverse]
    exact le
  · cases h
theorem count_test {x0 x1 x4 x5 : Option V} {o : Option Nat} {n : Nat} {G : Hp} {F : Bool → Hp → Prop} (h1 : (o = none ∨ n < o.getD 0) → F true G) (h2 : ¬ (o = none ∨ n < o.getD 0) → F false G) :
    tOr (tTest (tOp (fun x y H Q => y = V.non ∧ Q (V.bl (decide (x = V.non))) H) (tVar 2) (tC V.non))) (tTest (tOp (rI0 fun i j => V.bl (decide (i < j))) (tVar 3) (tVar 2))) [x0, x1, some (cV o), some (.int (n : Int)), x4, x5] G F := by
  refine ⟨cV o, rfl, rfl, _, rfl, ?_⟩
  cases o with
  | none => exact ifD rfl (h1 (.inl rfl))
  | some c =>
    refine ifND (fun z => by cases z) ⟨_, rfl, _, rfl, _, _, rfl, rfl, _, rfl, ?_⟩
    by_cases h : n < c
    · rw [decide_eq_true (show (n : Int) < (c : Int) by omega)]
      exact h1 (.inr h)
    · rw [decide_eq_false (show ¬ (n : Int) < (c : Int) by omega)]
      exact h2 fun z => z.elim (fun z => by cases z) h
theorem ok_data_of (T : Top K mg "data_of" st_data_of ["told"]) (C : Consts mg) (z_len : mg "len" = none) (D_is_block : Def P w K mg base 2 "is_block" ["told", "number", "count"] (spIsBlock K)) (D_without_end : Def P w K mg base 1 "without_end" ["data"] (spWend K)) : Def P w K mg base 3 "data_of" ["told"] (spDataOf K) := by
  have big : ∀ {n : Nat}, n ≤ 900000 → n ≤ sizeLine := fun h => Nat.le_trans h (by decide)
  obtain ⟨_, m_SIZE⟩ := C.SIZE
  obtain ⟨_, m_DATA⟩ := C.DATA
  refine T.ok sc_data_of (fun vs H Q E h => ?_) (fun f cdv A outer s H vs Q E hr h => ?_)
  · obtain ⟨a, l, rfl, _⟩ := h
    rfl
  obtain ⟨a, l, rfl, ha, hl, q⟩ := h
  refine ⟨_, (pss_cons (ps_set (i := 1) sc_data_of.nd rfl (Or.inl rfl) (pe_lst pa_nil))
    (pss_cons (ps_set (i := 2) sc_data_of.nd rfl (Or.inl rfl) pe_non)
    (pss_cons (ps_set (i := 3) sc_data_of.nd rfl (Or.inl rfl) pe_int)
    (pss_cons (ps_while PassesOwn.never (PW.pt (pw_or (pt_cmpR op_isN (pv 2) pe_non (nomark _)) (pw_or1 (pt_cmpR op_lt (pv 3) (pv 2) (nomark _)))))
    (pss_cons (ps_set (i := 4) sc_data_of.nd rfl (Or.inl rfl) (pe_slice (slL K) (pv 0) (po_some (pe_op op_mul (pe_glob (v := .int 64) rfl m_SIZE ⟨_, rfl⟩) (pv 3))) (po_some (pe_op op_mul (pe_glob (v := .int 64) rfl m_SIZE ⟨_, rfl⟩) (pe_op op_add (pv 3) pe_int)))))
      (pss_cons (ps_set (i := 3) sc_data_of.nd rfl (Or.inl rfl) (pe_op op_add (pv 3) pe_int))
      (pss_cons (ps_if (pt_not (pt_val (pe_def D_is_block (hr.mono (by decide)) rfl (pa_cons (pv 4) (pa_cons (pv 3) (pa_cons (pv 2) pa_nil))))))
      (pss_one (ps_ret (pe_tup (pa_cons pe_str (pa_cons (pv 3) pa_nil)))))
      pss_nil)
      (pss_cons (ps_set (i := 2) sc_data_of.nd rfl (Or.inl rfl) (pe_op op_add (pe_op op_mul pe_int (pe_ix (ixL K) (pv 4) pe_int (fun _ _ => rfl))) (pe_ix (ixL K) (pv 4) pe_int (fun _ _ => rfl))))
      (pss_one (ps_expr (pe_bm PySem.F.plainAttrs_list PySem.F.slot_list_extend PySem.F.type_list_extend mt_extend (pv 1) (pa_cons (pe_slice (slL K) (pv 4) (po_some pe_int) (po_some pe_int)) pa_nil)))))))))
    (pss_cons (ps_set (i := 5) sc_data_of.nd rfl (Or.inl rfl) (pe_def D_without_end (hr.mono (by decide)) rfl (pa_cons (pe_slice (slL K) (pv 1) (po_some (pe_un un_neg (pe_glob (v := .int 56) rfl m_DATA ⟨_, rfl⟩))) po_none) pa_nil)))
    (pss_cons (ps_if (pt_cmpR op_isN (pv 5) pe_non (nomark _))
    (pss_one (ps_ret (pe_tup (pa_cons pe_str (pa_cons (pv 3) pa_nil)))))
    pss_nil)
    (pss_cons (ps_if (pt_cmpR op_gt (pe_callB (lenQ K) rfl z_len (by decide +kernel) (pa_cons (pv 0) pa_nil)) (pe_op op_mul (pe_glob (v := .int 64) rfl m_SIZE ⟨_, rfl⟩) (pv 2)) (nomark _))
    (pss_one (ps_ret (pe_tup (pa_cons pe_str (pa_cons (pe_op op_add (pv 2) pe_int) pa_nil)))))
    pss_nil)
    (pss_one (ps_ret (pe_tup (pa_cons pe_str (pa_cons (pe_op op_cat (pe_slice (slL K) (pv 1) po_none (po_some (pe_un un_neg (pe_glob (v := .int 56) rfl m_DATA ⟨_, rfl⟩)))) (pv 5)) pa_nil)))))))))))), ?_⟩
  refine ⟨Nat.zero_le _, fun p np => ?_⟩
  refine ⟨DataW H a p l, ⟨l.length + 1, none, none, 0, none, [], rfl, Same.new np, upd_same, Nat.zero_le _, rfl, rfl, fun _ => rfl, rfl⟩, ?_⟩
  rintro m σ G ⟨x4, x5, number, o, data, rfl, sm, hp, hn, hd, hm, ho, hgo⟩
  have ha' := sm.seq ha
  refine count_test (fun c => iteT ?_) fun c => iteF ?_
  · refine ⟨fun σ' G' => DataW H a p l (m - 1) σ' G', fun σ' G' w => ⟨m - 1, by omega, w⟩, ?_⟩
    -- here
    refine ⟨.ref a, rfl, _, rfl, _, _, rfl, rfl, .inl ⟨by decide, by decide⟩, _, rfl, _, rfl, _, _, rfl, rfl, _, _, rfl, rfl, .inl ⟨by decide, by decide⟩, _, rfl, a, _, rfl, ha', fun h nh => ?_⟩
    have ecut : cutV (bv l) (some (64 * (number : Int))) (some (64 * ((number : Int) + 1))) = bv (chunk l number) := by
      rw [show (64 : Int) * (number : Int) = ((64 * number : Nat) : Int) by omega, show (64 : Int) * ((number : Int) + 1) = ((64 * number + 64 : Nat) : Int) by omega, cut_mid, bv_drop, bv_take]
      unfold chunk
      rw [show 64 * number + 64 - 64 * number = 64 by omega]
    dsimp only
    rw [ecut]
    generalize hG1 : upd G h (.lst (bv (chunk l number))) = G1
    have s1 : Same G G1 := by rw [← hG1]; exact Same.new nh
    have eh : G1 h = some (.lst (bv (chunk l number))) := by rw [← hG1]; exact upd_same
    have e1 : (number : Int) + 1 = ((number + 1 : Nat) : Int) := by omega
    refine ⟨_, rfl, _, _, rfl, rfl, ?_⟩
    refine ⟨_, rfl, _, rfl, _, rfl, h, chunk l number, number + 1, o, (by show [V.ref h, V.int ((number : Int) + 1), cV o] ++ [] = _; rw [e1]; rfl), SqL.of eh, fun G2 s2 => ?_⟩
    have s3 := (sm.trans s1).trans s2
    refine ⟨_, rfl, ?_⟩
    by_cases b : IsBlk (chunk l number) (number + 1) o
    · rw [decide_eq_true b]
      refine iteF ?_
      have l64 := b.1
      have at_ : ∀ i : Nat, i < 64 → atI (bv (chunk l number)) (i : Int) = some (.int ((chunk l number).getD i 0 : Nat)) := fun i hi => bv_at (by omega)
      have eh2 := s2 _ _ eh
      refine ⟨.ref h, rfl, h, _, _, _, rfl, rfl, SqL.of eh2, at_ 2 (by decide), _, _, rfl, rfl, .inl ⟨by decide, by decide⟩, .ref h, rfl, h, _, _, _, rfl, rfl, SqL.of eh2, at_ 3 (by decide), _, _, rfl, rfl, ?_⟩
      have c0 : (256 : Int) * ((chunk l number).getD 2 0 : Nat) + ((chunk l number).getD 3 0 : Nat) = ((Crc.cnt (chunk l number) : Nat) : Int) := by
        unfold Crc.cnt
        omega
      dsimp only
      rw [c0]
      have hp2 := s2 _ _ (s1 _ _ hp)
      refine ⟨.ref p, rfl, .inl ⟨rfl, _, SqL.of hp2⟩, .ref h, rfl, _, rfl, _, rfl, h, _, rfl, SqL.of eh2, fun z nz => ?_⟩
      have ec2 : cutV (bv (chunk l number)) (some 4) (some 60) = bv (((chunk l number).drop 4).take 56) := by
        rw [show (4 : Int) = ((4 : Nat) : Int) from rfl, show (60 : Int) = ((60 : Nat) : Int) from rfl, cut_mid, bv_drop, bv_take]
      rw [ec2]
      have npz : p ≠ z := ne_of_none hp2 nz
      have cl : (((chunk l number).drop 4).take 56).length = 56 := by
        rw [List.length_take, List.length_drop, l64]
        rfl
      refine ⟨p, z, _, _, rfl, rfl, by rw [upd_ne npz]; exact hp2, upd_same, big (by rw [bv_len, bv_len, cl]; omega), ?_⟩
      rw [← bv_app]
      have lc : 64 * (number + 1) ≤ l.length := by
        unfold chunk at l64
        rw [List.length_take, List.length_drop] at l64
        omega
      refine ⟨_, _, number + 1, some (Crc.cnt (chunk l number)), _, rfl, same_mut (s3.trans (Same.new nz)) np, upd_same, lc, by rw [List.length_append, cl, hd]; omega, by omega, fun z => (by cases z), ?_⟩
      obtain ⟨k, rfl⟩ : ∃ k, m = k + 1 := ⟨m - 1, by omega⟩
      rw [← hgo, go_more c b]
      rfl
    · rw [decide_eq_false b]
      refine iteT ?_
      refine ⟨_, rfl, (by show 2 ≤ sizeLine; decide), fun t nt => ?_⟩
      refine q (.ref t) _ (s3.trans (Same.new nt)) ?_
      rw [← hgo, go_bad c b]
      exact ⟨t, rfl, upd_same⟩
  · obtain ⟨cc, rfl⟩ : ∃ cc, o = some cc := by
      cases o with
      | none => exact absurd (.inl rfl) c
      | some cc => exact ⟨cc, rfl⟩
    have hgo : fin l number cc data = Crc.dataOf l := by rw [← hgo, go_end c]; rfl
    -- last
    refine ⟨.ref p, rfl, _, rfl, _, rfl, p, _, rfl, SqL.of hp, fun x nx => ?_⟩
    have ec : cutV (bv data) (some (-56)) none = bv (data.drop (data.length - 56)) := by
      rw [show (-56 : Int) = -((56 : Nat) : Int) from rfl, cut_back _ _ (by decide), bv_len, bv_drop]
    rw [ec]
    refine ⟨x, data.drop (data.length - 56), rfl, SqL.of upd_same, fun v G2 s2 hv => ?_⟩
    have s3 := (Same.new nx).trans s2
    have s4 := sm.trans s3
    unfold fin at hgo
    refine ⟨v, rfl, rfl, _, rfl, ?_⟩
    cases ew : wend (data.drop (data.length - 56)) with
    | none =>
      rw [ew] at hv hgo
      subst hv
      refine ifD rfl ?_
      refine ⟨_, rfl, (by show 2 ≤ sizeLine; decide), fun t nt => ?_⟩
      refine q (.ref t) _ (s4.trans (Same.new nt)) ?_
      rw [← hgo]
      exact ⟨t, rfl, upd_same⟩
    | some ll =>
      rw [ew] at hv hgo
      obtain ⟨r, rfl, nr, er⟩ := hv
      refine ifND (fun z => by cases z) ?_
      refine ⟨.ref a, rfl, a, _, rfl, .inl (s3.seq ha'), _, rfl, _, _, rfl, rfl, .inl ⟨by decide, by decide⟩, _, _, rfl, rfl, _, rfl, ?_⟩
      by_cases gt : l.length > 64 * cc
      · refine ifD (by rw [bv_len]; omega) ?_
        refine ⟨_, rfl, _, _, rfl, rfl, (by show 2 ≤ sizeLine; decide), fun t nt => ?_⟩
        refine q (.ref t) _ (s4.trans (Same.new nt)) ?_
        rw [← hgo]
        dsimp only
        rw [if_pos gt]
        exact ⟨t, rfl, upd_same⟩
      · refine ifND (by rw [bv_len]; omega) ?_
        have hp3 := s3 _ _ hp
        refine ⟨.ref p, rfl, _, rfl, _, rfl, p, _, rfl, SqL.of hp3, fun y ny => ?_⟩
        have ec2 : cutV (bv data) none (some (-56)) = bv (data.take (data.length - 56)) := by
          rw [show (-56 : Int) = -((56 : Nat) : Int) from rfl, cut_front _ _ (by decide), bv_len, bv_take]
        rw [ec2]
        refine ⟨.ref r, rfl, y, r, _, _, rfl, rfl, upd_same, by rw [upd_ne (ne_of_none er ny)]; exact er, big (by
          have := wend_length ew
          rw [List.length_drop] at this
          rw [bv_len, bv_len, List.length_take]
          omega), fun u nu => ?_⟩
        rw [← bv_app]
        have s5 := (s4.trans (Same.new ny)).trans (Same.new (o := .lst (bv (data.take (data.length - 56) ++ ll))) nu)
        refine ⟨by show 2 ≤ sizeLine; decide, fun t nt => ?_⟩
        refine q (.ref t) _ (s5.trans (Same.new nt)) ?_
        rw [← hgo]
        dsimp only
        rw [if_neg gt]
        exact ⟨t, u, rfl, upd_same, by rw [upd_ne (ne_of_none upd_same nt)]; exact upd_same⟩
end
end My
set_option Elab.async false
set_option linter.all false
set_option maxRecDepth 100000
set_option maxHeartbeats 4000000
/-! The law's own helpers of k47 -/
namespace My
open PySem PySem.Spec PyProof.Rows L2 Crc
abbrev st_law_sum : Stmt := topS 20
theorem sc_law_sum : FnScope ["told", "factors", "power", "bits", "at", "k"] ["told"] (defScope st_law_sum) := ⟨rfl, rfl, rfl, by decide +kernel, rfl, by decide +kernel, by decide +kernel⟩
abbrev st_law_bits : Stmt := topS 21
theorem sc_law_bits : FnScope ["told", "found", "byte", "rest", "row", "k"] ["told"] (defScope st_law_bits) := ⟨rfl, rfl, rfl, by decide +kernel, rfl, by decide +kernel, by decide +kernel⟩
abbrev st_law_bytes_of_bits : Stmt := topS 22
theorem sc_law_bytes_of_bits : FnScope ["bits", "found", "at", "number", "bit"] ["bits"] (defScope st_law_bytes_of_bits) := ⟨rfl, rfl, rfl, by decide +kernel, rfl, by decide +kernel, by decide +kernel⟩
abbrev st_law_blocks : Stmt := topS 23
theorem sc_law_blocks : FnScope ["told", "data", "count", "found", "k", "head"] ["told"] (defScope st_law_blocks) := ⟨rfl, rfl, rfl, by decide +kernel, rfl, by decide +kernel, by decide +kernel⟩
abbrev st_law_changed : Stmt := topS 24
theorem sc_law_changed : FnScope ["pool", "told", "first", "wide", "bits", "last", "at"] ["pool", "told", "first", "wide"] (defScope st_law_changed) := ⟨rfl, rfl, rfl, by decide +kernel, rfl, by decide +kernel, by decide +kernel⟩
abbrev st_changed_run : Stmt := topS 12
theorem sc_changed_run : FnScope ["one", "other", "found", "at", "byte", "place"] ["one", "other"] (defScope st_changed_run) := ⟨rfl, rfl, rfl, by decide +kernel, rfl, by decide +kernel, by decide +kernel⟩
def spBits (K : PySem.W.Frag) : Sp := fun vs H Q _ => ∃ (a : Addr) (bs : List Nat), vs = [.ref a] ∧ SqL K H a (bv bs) ∧ bs.length ≤ 100000 ∧ Made H (bbv (bitsOf bs)) Q
def spUnbits (K : PySem.W.Frag) : Sp := fun vs H Q _ => ∃ (a : Addr) (bits : List Bool), vs = [.ref a] ∧ SqL K H a (bbv bits) ∧ bits.length ≤ 900000 ∧ 8 ∣ bits.length ∧ Made H (bv (bytesOf bits)) Q
def spLSum (K : PySem.W.Frag) : Sp := fun vs H Q _ => ∃ (a : Addr) (bs : List Nat), vs = [.ref a] ∧ SqL K H a (bv bs) ∧ bs.length ≤ 1000 ∧ Made H (bv (sumOf bs)) Q
def spRun (K : PySem.W.Frag) : Sp := fun vs H Q _ => ∃ (a b : Addr) (x y : List Nat), vs = [.ref a, .ref b] ∧ SqL K H a (bv x) ∧ SqL K H b (bv y) ∧ x.length ≤ 100000 ∧ x.length = y.length ∧
  ∀ v H', Same H H' → ((diffs (bitsOf x) (bitsOf y) = [] → v = .non) ∧ (∀ f l, (diffs (bitsOf x) (bitsOf y)).head? = some f → (diffs (bitsOf x) (bitsOf y)).getLast? = some l → ∃ t, v = .ref t ∧ H' t = some (.tup [.int (f : Nat), .int (l : Nat)]))) → Q v H'
section
variable {P : Program} {w : World} {K : PySem.W.Frag} {mg : Str → Option Value} {base : Heap}
theorem ok_bits (T : Top K mg "_law_bits" st_law_bits ["told"]) (z_range : mg "range" = none) (z_int : mg "int" = none) : Def P w K mg base 1 "_law_bits" ["told"] (spBits K) := by
  refine T.ok sc_law_bits (fun vs H Q E h => ?_) (fun f cdv A outer s H vs Q E hr h => ?_)
  · obtain ⟨a, bs, rfl, _⟩ := h
    rfl
  obtain ⟨a, bs, rfl, ha, hl, q⟩ := h
  have big : ∀ {n : Nat}, n ≤ 900000 → n ≤ sizeLine := fun h => Nat.le_trans h (by decide)
  refine ⟨_, (pss_cons (ps_set (i := 1) sc_law_bits.nd rfl (Or.inl rfl) (pe_lst pa_nil))
    (pss_cons (ps_for PassesOwn.never rfl (pi_list (pv 0)) (pg_name (i := 2) sc_law_bits.nd rfl (Or.inl rfl))
    (pss_cons (ps_set (i := 3) sc_law_bits.nd rfl (Or.inl rfl) (pv 2))
      (pss_cons (ps_set (i := 4) sc_law_bits.nd rfl (Or.inl rfl) (pe_lst pa_nil))
      (pss_cons (ps_for PassesOwn.never rfl (pi_range1 rfl z_range (pa_cons pe_int pa_nil)) (pg_name (i := 5) sc_law_bits.nd rfl (Or.inl rfl))
      (pss_cons (ps_set (i := 4) sc_law_bits.nd rfl (Or.inl rfl) (pe_op op_cat (pe_lst (pa_cons (pe_op op_mod (pe_callTy call_int1 rfl z_int (by decide +kernel) (pa_cons (pv 3) pa_nil)) pe_int) pa_nil)) (pv 4)))
        (pss_one (ps_set (i := 3) sc_law_bits.nd rfl (Or.inl rfl) (pe_op op_fdiv (pv 3) pe_int)))))
      (pss_one (ps_set (i := 1) sc_law_bits.nd rfl (Or.inl rfl) (pe_op op_cat (pv 1) (pv 4))))))))
    (pss_one (ps_ret (pv 1))))), ?_⟩
  refine ⟨Nat.zero_le _, fun fo nfo => ?_⟩
  refine ⟨.ref a, rfl, a, rfl, ⟨_, (Same.new nfo).seq ha⟩, for_list (K := K) (a := a) (xs := bv bs) (fun i σ H' => ∃ (fo : Addr) (x2 x3 x4 x5 : Option V), σ = [some (.ref a), some (.ref fo), x2, x3, x4, x5] ∧ Same H H' ∧ H fo = none ∧ H' fo = some (.lst (bbv (bitsOf (bs.take i))))) ⟨fo, _, _, _, _, rfl, Same.new nfo, nfo, upd_same⟩ (fun _ _ _ _ ⟨_, _, _, _, _, _, s, _⟩ => s.seq ha) ?_ ?_⟩
  · rintro i x σ H' hx ⟨fo, x2, x3, x4, x5, rfl, sm, nf, ef⟩
    obtain ⟨b, hb, rfl⟩ := bv_of hx
    refine ⟨_, rfl, Nat.zero_le _, fun ro nro => ?_⟩
    have ifl : i < bs.length := (List.getElem?_eq_some_iff.mp hb).1
    refine ⟨8, rfl, by decide, by decide, for_range (lo := 0) (n := 8) (fun j σ G => ∃ (ro : Addr) (y5 : Option V), σ = [some (.ref a), some (.ref fo), some (.int b), some (.int ((b / 2 ^ j : Nat) : Int)), some (.ref ro), y5] ∧ Same H G ∧ H ro = none ∧ G fo = some (.lst (bbv (bitsOf (bs.take i)))) ∧ G ro = some (.lst (bbv ((byteBits b).drop (8 - j)))))
      ⟨ro, _, by rw [Nat.pow_zero, Nat.div_one]; rfl, sm.trans (Same.new nro), sm.free nro, by rw [upd_ne (ne_of_none ef nro)]; exact ef, by rw [upd_same, List.drop_eq_nil_of_le (by rw [byteBits_length]; exact Nat.le_refl _)]; rfl⟩ ?_ ?_⟩
    · rintro j σ G hj ⟨ro, y5, rfl, sg, nr, eg, er⟩
      refine ⟨_, rfl, .inl ⟨_, rfl, _, _, rfl, rfl, (by show (0 : Int) < 2; decide), (by show 1 ≤ sizeLine; decide), fun o no => ?_⟩⟩
      have nor := ne_of_none er no
      refine ⟨.ref ro, rfl, o, ro, _, _, rfl, rfl, upd_same, by rw [upd_ne nor]; exact er, big (by
        show 1 + (bbv _).length ≤ _
        rw [bbv_len, List.length_drop, byteBits_length]
        omega), fun p np => ?_⟩
      have e1 : [V.int (((b / 2 ^ j : Nat) : Int) % 2)] ++ bbv ((byteBits b).drop (8 - j)) = bbv ((byteBits b).drop (8 - (j + 1))) := by
        have lt : 8 - (j + 1) < (byteBits b).length := by rw [byteBits_length]; omega
        have g := byteBits_get b (8 - (j + 1)) (by omega)
        rw [List.getElem?_eq_getElem lt] at g
        rw [List.drop_eq_getElem_cons lt, Option.some.inj g, show 7 - (8 - (j + 1)) = j by omega, show 8 - (j + 1) + 1 = 8 - j by omega]
        show V.int _ :: _ = V.int (bitI (b.testBit j)) :: _
        congr 2
        rw [Nat.testBit_eq_decide_div_mod_eq]
        unfold bitI
        have lt2 : b / 2 ^ j % 2 < 2 := Nat.mod_lt _ (by decide)
        by_cases h : b / 2 ^ j % 2 = 1
        · rw [decide_eq_true h, if_pos rfl]
          omega
        · rw [decide_eq_false h, if_neg Bool.false_ne_true]
          omega
      rw [e1]
      refine ⟨_, rfl, _, _, rfl, rfl, ⟨by decide, by decide⟩, p, some (.int (0 + (j : Int))), ?_, sg.trans ((Same.new no).trans (Same.new np)), ?_, ?_, upd_same⟩
      · have e2 : ((b / 2 ^ j : Nat) : Int) / 2 = ((b / 2 ^ (j + 1) : Nat) : Int) := by
          rw [Nat.pow_succ, ← Nat.div_div_eq_div_mul]
          omega
        show [_, _, _, some (V.int (((b / 2 ^ j : Nat) : Int) / 2)), _, _] = _
        rw [e2]
      · exact (sg.trans (Same.new no)).free np
      · have e3 : (upd G o (.lst [.int (((b / 2 ^ j : Nat) : Int) % 2)])) fo = _ := (upd_ne (ne_of_none eg no)).trans eg
        exact (upd_ne (ne_of_none e3 np)).trans e3
    · rintro σ G ⟨ro, y5, rfl, sg, nr, eg, er⟩
      refine ⟨.ref fo, rfl, .ref ro, rfl, fo, ro, _, _, rfl, rfl, eg, er, big (by
        rw [bbv_len, bbv_len, bitsOf_length, List.length_drop, byteBits_length, List.length_take]
        omega), fun p np => ?_⟩
      refine ⟨p, _, _, _, _, rfl, sg.trans (Same.new np), sg.free np, ?_⟩
      rw [upd_same, ← bbv_app, List.take_add_one (l := bs), hb, bitsOf_append]
      show some (HO.lst (bbv (_ ++ List.drop 0 (byteBits b)))) = some (HO.lst (bbv (_ ++ (byteBits b ++ []))))
      rw [List.drop_zero, List.append_nil]
  · rintro σ H' ⟨fo, x2, x3, x4, x5, rfl, sm, nf, ef⟩
    refine ⟨_, rfl, q fo H' sm nf ?_⟩
    rw [ef, List.take_of_length_le (by rw [bv_len]; exact Nat.le_refl _)]
theorem small_up {a b c : Int} {n : Nat} (e : Builtin.Range.rangeSize a b c = (n : Int)) (hn : n < 2 ^ 62) (hc : 0 < c) (hc2 : c < 2 ^ 30) (ha : -(2 ^ 62) ≤ a) (ha' : a < 2 ^ 62) (hb : -(2 ^ 62) ≤ b) (hb' : b < 2 ^ 62) : Builtin.Range.small a b c = true := by
  unfold Builtin.Range.small
  rw [e]
  simp only [Builtin.Range.rangeFitsLong, Bool.and_eq_true, Bool.or_eq_true, decide_eq_true_eq, beq_iff_eq, hc, gt_iff_lt, if_true]
  omega
theorem rg8 {n : Nat} (h : n < 2 ^ 40) : RgC 0 ((8 * n : Nat) : Int) 8 n := by
  have e : Builtin.Range.rangeSize 0 ((8 * n : Nat) : Int) 8 = (n : Int) := by
    unfold Builtin.Range.rangeSize
    rw [if_pos (by decide)]
    split <;> omega
  exact ⟨by decide, by decide, small_up e (by omega) (by decide) (by decide) (by decide) (by decide) (by omega) (by omega), e⟩
theorem num_snoc (l : List Bool) (b : Bool) : (num (l ++ [b]) : Int) = 2 * (num l : Int) + bitI b := by
  unfold num
  rw [List.foldl_append]
  show ((2 * _ + (if b then 1 else 0) : Nat) : Int) = _
  unfold bitI
  cases b <;> simp
theorem ok_unbits (T : Top K mg "_law_bytes_of_bits" st_law_bytes_of_bits ["bits"]) (z_range : mg "range" = none) (z_len : mg "len" = none) : Def P w K mg base 1 "_law_bytes_of_bits" ["bits"] (spUnbits K) := by
  refine T.ok sc_law_bytes_of_bits (fun vs H Q E h => ?_) (fun f cdv A outer s H vs Q E hr h => ?_)
  · obtain ⟨a, bs, rfl, _⟩ := h
    rfl
  obtain ⟨a, bits, rfl, ha, hl, h8, q⟩ := h
  have big : ∀ {n : Nat}, n ≤ 900000 → n ≤ sizeLine := fun h => Nat.le_trans h (by decide)
  refine ⟨_, (pss_cons (ps_set (i := 1) sc_law_bytes_of_bits.nd rfl (Or.inl rfl) (pe_lst pa_nil))
    (pss_cons (ps_for PassesOwn.never rfl (pi_range3 rfl z_range (pa_cons pe_int (pa_cons (pe_callB (lenQ K) rfl z_len (by decide +kernel) (pa_cons (pv 0) pa_nil)) (pa_cons pe_int pa_nil)))) (pg_name (i := 2) sc_law_bytes_of_bits.nd rfl (Or.inl rfl))
    (pss_cons (ps_set (i := 3) sc_law_bytes_of_bits.nd rfl (Or.inl rfl) pe_int)
      (pss_cons (ps_for PassesOwn.never rfl (pi_list (pe_slice (slL K) (pv 0) (po_some (pv 2)) (po_some (pe_op op_add (pv 2) pe_int)))) (pg_name (i := 4) sc_law_bytes_of_bits.nd rfl (Or.inl rfl))
      (pss_one (ps_set (i := 3) sc_law_bytes_of_bits.nd rfl (Or.inl rfl) (pe_op op_add (pe_op op_mul pe_int (pv 3)) (pv 4)))))
      (pss_one (ps_expr (pe_bm PySem.F.plainAttrs_list PySem.F.slot_list_append PySem.F.type_list_append mt_append (pv 1) (pa_cons (pv 3) pa_nil)))))))
    (pss_one (ps_ret (pv 1))))), ?_⟩
  refine ⟨Nat.zero_le _, fun fo nfo => ?_⟩
  obtain ⟨n, hn⟩ := h8
  have e8 : bits.length / 8 = n := by omega
  have hlen : ((bbv bits).length : Int) = ((8 * n : Nat) : Int) := by rw [bbv_len, hn]
  refine ⟨.ref a, rfl, a, _, rfl, .inl ((Same.new nfo).seq ha), _, _, _, n, rfl, by rw [hlen]; exact rg8 (by omega), for_rangeC (lo := 0) (c := 8) (n := n) (fun i σ H' => ∃ x2 x3 x4 : Option V, σ = [some (.ref a), some (.ref fo), x2, x3, x4] ∧ Same H H' ∧ H' fo = some (.lst (bv ((List.range i).map fun k => num ((bits.drop (8 * k)).take 8))))) ⟨_, _, _, rfl, Same.new nfo, upd_same⟩ ?_ ?_⟩
  · rintro i σ H' hi ⟨x2, x3, x4, rfl, sm, ef⟩
    have ei : (0 : Int) + (i : Int) * 8 = ((8 * i : Nat) : Int) := by omega
    rw [ei]
    refine ⟨.ref a, rfl, _, rfl, _, rfl, _, rfl, _, _, rfl, rfl, _, rfl, a, _, rfl, sm.seq ha, fun t nt => ?_⟩
    have ec : cutV (bbv bits) (some ((8 * i : Nat) : Int)) (some (((8 * i : Nat) : Int) + 8)) = bbv ((bits.drop (8 * i)).take 8) := by
      rw [show ((8 * i : Nat) : Int) + 8 = ((8 * i + 8 : Nat) : Int) by omega, cut_mid, bbv_drop, bbv_take, Nat.add_sub_cancel_left]
    rw [ec]
    generalize hcc : (bits.drop (8 * i)).take 8 = cc
    have nt' := ne_of_none ef nt
    refine ⟨t, rfl, ⟨_, SqL.of upd_same⟩, for_list (K := K) (a := t) (xs := bbv cc) (fun j σ G => ∃ y4 : Option V, σ = [some (.ref a), some (.ref fo), some (.int ((8 * i : Nat) : Int)), some (.int ((num (cc.take j) : Nat) : Int)), y4] ∧ G = upd H' t (.lst (bbv cc))) ⟨_, rfl, rfl⟩ (fun _ _ _ _ ⟨_, _, e⟩ => by rw [e]; exact SqL.of upd_same) ?_ ?_⟩
    · rintro j x σ G hx ⟨y4, rfl, rfl⟩
      obtain ⟨b, hb, rfl⟩ := bbv_of hx
      refine ⟨_, rfl, _, _, rfl, rfl, .inl ⟨by decide, by decide⟩, _, rfl, _, _, rfl, rfl, some (.int (bitI b)), ?_, rfl⟩
      rw [List.take_add_one, hb]
      show _ = [_, _, _, some (V.int ((num (cc.take j ++ [b]) : Nat) : Int)), _]
      rw [num_snoc]
      rfl
    · rintro σ G ⟨y4, rfl, rfl⟩
      rw [show cc.take (bbv cc).length = cc from List.take_of_length_le (by rw [bbv_len]; exact Nat.le_refl _)]
      have ef' : (upd H' t (.lst (bbv cc))) fo = _ := (upd_ne nt').trans ef
      refine ⟨.ref fo, rfl, .inl ⟨rfl, _, SqL.of ef'⟩, _, rfl, fo, _, _, rfl, rfl, ef', ?_, ?_⟩
      · rw [bv_len, List.length_map, List.length_range]
        exact sq_len (by omega)
      · refine ⟨_, _, _, rfl, same_mut (sm.trans (Same.new nt)) nfo, ?_⟩
        rw [upd_same, List.range_succ, List.map_append, bv_app, List.map_singleton, hcc]
        rfl
  · rintro σ H' ⟨x2, x3, x4, rfl, sm, ef⟩
    refine ⟨_, rfl, q fo H' sm nfo ?_⟩
    rw [ef]
    unfold bytesOf
    rw [e8]
theorem bbv_set (l : List Bool) (j : Nat) (b : Bool) : (bbv l).set j (.int (bitI b)) = bbv (l.set j b) := List.map_set.symm
theorem ne_bit (m f : Bool) : V.int (if (!decide (V.int (bitI m) = V.int (bitI f))) = true then 1 else 0) = V.int (bitI (m != f)) := by
  cases m <;> cases f <;> decide
def facIn : List V := [.int 26, .int 23, .int 22, .int 16, .int 12, .int 11, .int 10, .int 8, .int 7, .int 5, .int 4, .int 2, .int 1, .int 0]
theorem fac_in : ∀ i, i < 32 → V.int (if inV (.int (31 + (i : Nat) * -1)) facIn = true then 1 else 0) = V.int (bitI (fac.getMsbD i)) := by decide +kernel
theorem ok_lsum (T : Top K mg "_law_sum" st_law_sum ["told"]) (D_law_bits : Def P w K mg base 1 "_law_bits" ["told"] (spBits K)) (D_law_bytes_of_bits : Def P w K mg base 1 "_law_bytes_of_bits" ["bits"] (spUnbits K)) (z_range : mg "range" = none) (z_len : mg "len" = none) (z_int : mg "int" = none) : Def P w K mg base 2 "_law_sum" ["told"] (spLSum K) := by
  refine T.ok sc_law_sum (fun vs H Q E h => ?_) (fun f cdv A outer s H vs Q E hr h => ?_)
  · obtain ⟨a, bs, rfl, _⟩ := h
    rfl
  obtain ⟨a, bs, rfl, ha, hl, q⟩ := h
  have big : ∀ {n : Nat}, n ≤ 900000 → n ≤ sizeLine := fun h => Nat.le_trans h (by decide)
  refine ⟨_, (pss_cons (ps_set (i := 1) sc_law_sum.nd rfl (Or.inl rfl) (pe_op op_cat (pe_lst (pa_cons pe_int pa_nil)) (pe_lc (own := [("power", 2)]) (g := gName 2) (tt := tYes) rfl sc_law_sum.nd (pi_range3 rfl z_range (pa_cons pe_int (pa_cons (pe_un un_neg pe_int) (pa_cons (pe_un un_neg pe_int) pa_nil)))) (blkOk_by (own := [("power", 2)]) (N := ["told", "factors", "power", "bits", "at", "k"]) (sc := defScope st_law_sum) (by decide +kernel)) (fun _ _ _ _ _ => (pg_name (i := 2) sc_law_sum.nd rfl (Or.inl rfl))) (fun _ _ _ _ _ => pts_nil) (fun _ _ _ _ _ => (pe_ifExp (pt_cmpR (inQ K) (pv 2) (pe_tup (pa_cons pe_int (pa_cons pe_int (pa_cons pe_int (pa_cons pe_int (pa_cons pe_int (pa_cons pe_int (pa_cons pe_int (pa_cons pe_int (pa_cons pe_int (pa_cons pe_int (pa_cons pe_int (pa_cons pe_int (pa_cons pe_int (pa_cons pe_int pa_nil))))))))))))))) (by with_unfolding_all rfl)) pe_int pe_int)))))
    (pss_cons (ps_set (i := 3) sc_law_sum.nd rfl (Or.inl rfl) (pe_op op_cat (pe_def D_law_bits (hr.mono (by decide)) rfl (pa_cons (pv 0) pa_nil)) (pe_op op_rep (pe_lst (pa_cons pe_int pa_nil)) pe_int)))
    (pss_cons (ps_for PassesOwn.never rfl (pi_range1 rfl z_range (pa_cons (pe_op op_sub (pe_callB (lenQ K) rfl z_len (by decide +kernel) (pa_cons (pv 3) pa_nil)) pe_int) pa_nil)) (pg_name (i := 4) sc_law_sum.nd rfl (Or.inl rfl))
    (pss_one (ps_if (pt_cmpR op_eq (pe_ix (ixL K) (pv 3) (pv 4) (fun _ _ => rfl)) pe_int (nomark _))
      (pss_one (ps_for PassesOwn.never rfl (pi_range1 rfl z_range (pa_cons pe_int pa_nil)) (pg_name (i := 5) sc_law_sum.nd rfl (Or.inl rfl))
        (pss_one (ps_asg (pe_callTy call_int1 rfl z_int (by decide +kernel) (pa_cons (pe_cmpR op_ne (pe_ix (ixL K) (pv 3) (pe_op op_add (pv 4) (pv 5)) (fun _ _ => rfl)) (pe_ix (ixL K) (pv 1) (pv 5) (fun _ _ => rfl)) (nomark _)) pa_nil)) (pg_sub (pv 3) (pe_op op_add (pv 4) (pv 5)) set_list)))))
      pss_nil)))
    (pss_one (ps_ret (pe_def D_law_bytes_of_bits (hr.mono (by decide)) rfl (pa_cons (pe_slice (slL K) (pv 3) (po_some (pe_un un_neg pe_int)) po_none) pa_nil))))))), ?_⟩
  have le8 := bitsOf_length bs
  refine ⟨by show 1 ≤ sizeLine; decide, fun o no => ?_⟩
  have s1 : Same H (upd H o (.lst [.int 1])) := Same.new no
  refine ⟨_, rfl, _, rfl, 31, -1, -1, 32, rfl, RgC.neg (by decide) (by decide) (by decide) (by decide), fun D nD => lc_rangeC (lo := 31) (c := -1) (n := 32) (fun i G => Same H G ∧ G o = some (.lst [.int 1]) ∧ G D = some (.lst (bbv ((regBits fac).take i)))) ⟨s1.trans (Same.new nD), by rw [upd_ne (ne_of_none upd_same nD)]; exact upd_same, upd_same⟩ ?_ ?_⟩
  · rintro i G hi ⟨sg, eo, ed⟩
    refine ⟨rfl, ?_⟩
    dsimp only [tYes]
    refine iteT ⟨_, rfl, (by show 14 ≤ sizeLine; decide), fun t nt => ⟨t, facIn, rfl, .inr (SqT.of upd_same), rfl, rfl, ?_⟩⟩
    have e := fac_in i hi
    have fin : ∀ y, y = V.int (bitI (fac.getMsbD i)) → ∃ acc, (upd G t (.tup facIn)) D = some (.lst acc) ∧ acc.length < sizeLine ∧ Same H (upd (upd G t (.tup facIn)) D (.lst (acc ++ [y]))) ∧ (upd (upd G t (.tup facIn)) D (.lst (acc ++ [y]))) o = some (.lst [.int 1]) ∧ (upd (upd G t (.tup facIn)) D (.lst (acc ++ [y]))) D = some (.lst (bbv ((regBits fac).take (i + 1)))) := by
      rintro y rfl
      refine ⟨_, (upd_ne (ne_of_none ed nt)).trans ed, by rw [bbv_len, List.length_take, regBits_length]; exact sq_len (by omega), same_mut (sg.trans (Same.new nt)) (s1.free nD), ?_, ?_⟩
      · have od : o ≠ D := ne_of_none upd_same nD
        rw [upd_ne od, upd_ne (ne_of_none eo nt)]
        exact eo
      · rw [upd_same, List.take_add_one, regBits_get fac i hi, bbv_app]
        rfl
    refine ⟨_, rfl, ite2 (fun c => fin _ ?_) (fun c => fin _ ?_)⟩
    · have c' : inV (.int (31 + (i : Nat) * -1)) facIn = true := c
      rw [if_pos c'] at e
      exact e
    · have c' : ¬ inV (.int (31 + (i : Nat) * -1)) facIn = true := c
      rw [if_neg c'] at e
      exact e
  · rintro G ⟨sg, eo, ed⟩
    have nD0 : H D = none := s1.free nD
    refine ⟨o, D, _, _, rfl, rfl, eo, ed, big (by rw [bbv_len]; decide), fun fa nfa => ?_⟩
    generalize hG1 : upd G fa (.lst ([.int 1] ++ bbv ((regBits fac).take 32))) = G1
    have efa : G1 fa = some (.lst (bbv facBits)) := by rw [← hG1]; exact upd_same
    have s2 : Same H G1 := by rw [← hG1]; exact sg.trans (Same.new nfa)
    have nfa0 : H fa = none := sg.free nfa
    refine ⟨.ref a, rfl, a, bs, rfl, s2.seq ha, by omega, fun b G2 s3 nb eb => ?_⟩
    have nb0 : H b = none := s2.free nb
    refine ⟨by show 1 ≤ sizeLine; decide, fun z nz => ?_⟩
    refine ⟨z, _, [.int 0], rfl, rfl, upd_same, by decide, by decide, by decide, fun y ny => ?_⟩
    have er : (List.replicate (32 : Int).toNat [V.int 0]).flatten = bbv (List.replicate 32 false) := by decide +kernel
    rw [er]
    have eb2 : (upd G2 z (.lst [.int 0])) b = _ := (upd_ne (ne_of_none eb nz)).trans eb
    have eb3 := (upd_ne (o := HO.lst (bbv (List.replicate 32 false))) (ne_of_none eb2 ny)).trans eb2
    refine ⟨b, y, _, _, rfl, rfl, eb3, upd_same, big (by rw [bbv_len, bbv_len, le8, List.length_replicate]; omega), fun x nx => ?_⟩
    rw [← bbv_app]
    have s4 := ((s2.trans s3).trans (Same.new (o := .lst [.int 0]) nz)).trans (Same.new (o := .lst (bbv (List.replicate 32 false))) ny)
    have efa4 := Same.new (o := .lst (bbv (List.replicate 32 false))) ny _ _ (Same.new (o := .lst [.int 0]) nz _ _ (s3 _ _ efa))
    generalize upd (upd G2 z (.lst [.int 0])) y (.lst (bbv (List.replicate 32 false))) = G4 at *
    have nx0 : H x = none := s4.free nx
    have s5 : Same H (upd G4 x (.lst (bbv (bitsOf bs ++ List.replicate 32 false)))) := s4.trans (Same.new nx)
    have nfx : fa ≠ x := ne_of_none efa4 nx
    have efa5 : (upd G4 x (.lst (bbv (bitsOf bs ++ List.replicate 32 false)))) fa = some (.lst (bbv facBits)) := (upd_ne nfx).trans efa4
    have ex5 : (upd G4 x (.lst (bbv (bitsOf bs ++ List.replicate 32 false)))) x = some (.lst (bbv (bitsOf bs ++ List.replicate 32 false))) := upd_same
    generalize upd G4 x (.lst (bbv (bitsOf bs ++ List.replicate 32 false))) = G5 at *
    -- for at in range(len(bits) - 32)
    refine ⟨.ref x, rfl, x, _, rfl, .inl (SqL.of ex5), _, _, rfl, rfl, ?_⟩
    have en : ((bbv (bitsOf bs ++ List.replicate 32 false)).length : Int) - 32 = ((bitsOf bs).length : Int) := by
      rw [bbv_len, List.length_append, List.length_replicate]
      omega
    refine ⟨((bitsOf bs).length : Int), (by show [V.int (((bbv (bitsOf bs ++ List.replicate 32 false)).length : Int) - 32)] = _; rw [en]), by omega, by omega, for_range (lo := 0) (n := (((bitsOf bs).length : Nat) : Int).toNat) (fun i σ G => ∃ (x2 x4 x5 : Option V) (l : List Bool), σ = [some (.ref a), some (.ref fa), x2, some (.ref x), x4, x5] ∧ Same H G ∧ G fa = some (.lst (bbv facBits)) ∧ Div (bitsOf bs) i l ∧ G x = some (.lst (bbv l)))
      ⟨_, _, _, _, rfl, s5, efa5, Div.start _, ex5⟩ ?_ ?_⟩
    · rintro i σ G hi ⟨x2, x4, x5, l, rfl, sg, eg, dv, ex⟩
      rw [Int.toNat_natCast] at hi
      have ll := dv.length (Nat.le_of_lt hi)
      obtain ⟨c, pre, M, lp, rfl, lM, at_, no_, yes_⟩ := dv.next hi
      have e0 : (0 : Int) + (i : Int) = (i : Int) := by omega
      refine ⟨.ref x, rfl, _, rfl, x, _, _, _, rfl, rfl, SqL.of ex, (by rw [e0]; exact atI_nat (bbv_get at_)), rfl, _, rfl, ?_⟩
      cases c with
      | false => exact ifND (by decide) ⟨_, _, _, _, rfl, sg, eg, no_ rfl, ex⟩
      | true =>
        refine ifD (by decide) ?_
        refine ⟨33, rfl, by decide, by decide, for_range (lo := 0) (n := 33) (fun k σ G' => ∃ y5 : Option V, σ = [some (.ref a), some (.ref fa), x2, some (.ref x), some (.int (0 + i)), y5] ∧ Same H G' ∧ G' fa = some (.lst (bbv facBits)) ∧ G' x = some (.lst (bbv (pre ++ xor32 (facBits.take k) M)))) ⟨_, rfl, sg, eg, ex⟩ ?_ ?_⟩
        · rintro k σ G' hk ⟨y5, rfl, sg', eg', ex'⟩
          obtain ⟨f1, hf1⟩ : ∃ f1, facBits[k]? = some f1 := ⟨_, List.getElem?_eq_getElem (show k < facBits.length from hk)⟩
          obtain ⟨m1, hm1⟩ : ∃ m1, M[k]? = some m1 := ⟨_, List.getElem?_eq_getElem (by omega)⟩
          obtain ⟨g1, g2⟩ := xor_set (pre := pre) hf1 hm1
          rw [lp] at g1 g2
          have ek : (0 : Int) + (i : Int) + (0 + (k : Int)) = ((i + k : Nat) : Int) := by omega
          have ek0 : (0 : Int) + (k : Int) = (k : Int) := by omega
          refine ⟨.ref x, rfl, _, rfl, _, rfl, _, _, rfl, rfl, x, _, _, _, rfl, rfl, SqL.of ex', (by rw [ek]; exact atI_nat (bbv_get g1)), .ref fa, rfl, _, rfl, fa, _, _, _, rfl, rfl, SqL.of eg', (by rw [ek0]; exact atI_nat (bbv_get hf1)), rfl, .inr ⟨_, rfl, ?_⟩⟩
          refine ⟨.ref x, rfl, _, rfl, _, rfl, _, _, rfl, rfl, x, _, _, i + k, rfl, rfl, ex', (by rw [ek]; exact Evl.ixN_nat (by rw [bbv_len]; exact (List.getElem?_eq_some_iff.mp g1).1)), ?_⟩
          rw [ne_bit, bbv_set, g2]
          exact ⟨_, rfl, same_mut sg' nx0, (upd_ne nfx).trans eg', upd_same⟩
        · rintro σ G' ⟨y5, rfl, sg', eg', ex'⟩
          exact ⟨_, _, _, _, rfl, sg', eg', yes_ rfl, ex'⟩
    · rintro σ G ⟨x2, x4, x5, l, rfl, sg, eg, dv, ex⟩
      rw [Int.toNat_natCast] at dv
      refine ⟨.ref x, rfl, _, rfl, _, rfl, x, _, rfl, SqL.of ex, fun u nu => ?_⟩
      have ec : cutV (bbv l) (some (-32)) none = bbv (regBits (crc (bitsOf bs))) := by
        rw [show (-32 : Int) = -((32 : Nat) : Int) from rfl, cut_back _ _ (by decide), bbv_len, bbv_drop, dv.stop]
      rw [ec]
      refine ⟨u, regBits (crc (bitsOf bs)), rfl, SqL.of upd_same, by rw [regBits_length]; decide, ⟨4, by rw [regBits_length]⟩, fun p G' s' np ep => ?_⟩
      rw [bytesOf_reg] at ep
      exact q p G' (sg.trans ((Same.new nu).trans s')) ((sg.trans (Same.new nu)).free np) ep
theorem ok_lblocks (T : Top K mg "_law_blocks" st_law_blocks ["told"]) (D_law_sum : Def P w K mg base 2 "_law_sum" ["told"] (spLSum K)) (z_range : mg "range" = none) (z_len : mg "len" = none) (z_int : mg "int" = none) : Def P w K mg base 3 "_law_blocks" ["told"] spBlocksOf := by
  refine T.ok sc_law_blocks (fun vs H Q E h => ?_) (fun f cdv A outer s H vs Q E hr h => ?_)
  · obtain ⟨a, bs, rfl, _⟩ := h
    rfl
  obtain ⟨a, bs, rfl, ha, hl, q⟩ := h
  have big : ∀ {n : Nat}, n ≤ 900000 → n ≤ sizeLine := fun h => Nat.le_trans h (by decide)
  refine ⟨_, (pss_cons (ps_set (i := 1) sc_law_blocks.nd rfl (Or.inl rfl) (pe_op op_cat (pv 0) (pe_lst (pa_cons pe_int pa_nil))))
    (pss_cons (ps_set (i := 2) sc_law_blocks.nd rfl (Or.inl rfl) (pe_op op_fdiv (pe_op op_add (pe_callB (lenQ K) rfl z_len (by decide +kernel) (pa_cons (pv 1) pa_nil)) pe_int) pe_int))
    (pss_cons (ps_set (i := 1) sc_law_blocks.nd rfl (Or.inl rfl) (pe_op op_cat (pv 1) (pe_op op_rep (pe_lst (pa_cons pe_int pa_nil)) (pe_op op_sub (pe_op op_mul pe_int (pv 2)) (pe_callB (lenQ K) rfl z_len (by decide +kernel) (pa_cons (pv 1) pa_nil))))))
    (pss_cons (ps_set (i := 3) sc_law_blocks.nd rfl (Or.inl rfl) (pe_lst pa_nil))
    (pss_cons (ps_for PassesOwn.never rfl (pi_range1 rfl z_range (pa_cons (pv 2) pa_nil)) (pg_name (i := 4) sc_law_blocks.nd rfl (Or.inl rfl))
    (pss_cons (ps_set (i := 5) sc_law_blocks.nd rfl (Or.inl rfl) (pe_op op_cat (pe_lst (pa_cons (pe_op op_fdiv (pe_op op_add (pv 4) pe_int) pe_int) (pa_cons (pe_op op_mod (pe_callTy call_int1 rfl z_int (by decide +kernel) (pa_cons (pe_op op_add (pv 4) pe_int) pa_nil)) pe_int) (pa_cons (pe_op op_fdiv (pv 2) pe_int) (pa_cons (pe_op op_mod (pe_callTy call_int1 rfl z_int (by decide +kernel) (pa_cons (pv 2) pa_nil)) pe_int) pa_nil))))) (pe_slice (slL K) (pv 1) (po_some (pe_op op_mul pe_int (pv 4))) (po_some (pe_op op_add (pe_op op_mul pe_int (pv 4)) pe_int)))))
      (pss_one (ps_set (i := 3) sc_law_blocks.nd rfl (Or.inl rfl) (pe_op op_cat (pe_op op_cat (pv 3) (pv 5)) (pe_def D_law_sum (hr.mono (by decide)) rfl (pa_cons (pv 5) pa_nil)))))))
    (pss_one (ps_ret (pv 3)))))))), ?_⟩
  -- data = told + [1]
  refine ⟨.ref a, rfl, (by show 1 ≤ sizeLine; decide), fun o no => ?_⟩
  have s1 : Same H (upd H o (.lst [.int 1])) := Same.new no
  refine ⟨a, o, bv bs, [.int 1], rfl, rfl, s1 _ _ ha, upd_same, big (by rw [bv_len]; show bs.length + 1 ≤ 900000; omega), fun d nd => ?_⟩
  have s2 := s1.trans (Same.new (o := .lst (bv (bs ++ [1]))) nd)
  have e1 : bv bs ++ [V.int 1] = bv (bs ++ [1]) := (bv_app bs [1]).symm
  rw [e1]
  generalize hG : upd (upd H o (.lst [.int 1])) d (.lst (bv (bs ++ [1]))) = G at s2
  have ed : G d = some (.lst (bv (bs ++ [1]))) := by rw [← hG]; exact upd_same
  -- count = (len(data) + 55) // 56
  have ec : (((bv (bs ++ [1])).length : Int) + 55) / 56 = ((cntOf bs : Nat) : Int) := by
    rw [bv_len, List.length_append, List.length_singleton]
    unfold cntOf
    omega
  refine ⟨.ref d, rfl, d, _, rfl, .inl (SqL.of ed), _, _, rfl, rfl, _, _, rfl, rfl, ⟨by decide, by decide⟩, ?_⟩
  have cp := cnt_pos bs
  have cl := cnt_le bs
  have cu : 56 * cntOf bs ≤ bs.length + 56 := by unfold cntOf; omega
  -- data = data + [0] * (56 * count - len(data))
  refine ⟨.ref d, rfl, (by show 1 ≤ sizeLine; decide), fun z nz => ?_⟩
  have s3 := s2.trans (Same.new (o := .lst [.int 0]) nz)
  have ed3 : (upd G z (.lst [.int 0])) d = some (.lst (bv (bs ++ [1]))) := (upd_ne (ne_of_none ed nz)).trans ed
  have ek : (56 : Int) * ((((bv (bs ++ [1])).length : Int) + 55) / 56) - ((bv (bs ++ [1])).length : Int) = ((56 * cntOf bs - (bs.length + 1) : Nat) : Int) := by
    rw [ec, bv_len, List.length_append, List.length_singleton]
    omega
  refine ⟨_, rfl, _, _, rfl, rfl, .inl ⟨by decide, by decide⟩, .ref d, rfl, d, _, rfl, .inl (SqL.of ed3), _, _, rfl, rfl, ?_⟩
  refine ⟨z, ((56 * cntOf bs - (bs.length + 1) : Nat) : Int), [.int 0], rfl, (by show V.int ((56 : Int) * ((((bv (bs ++ [1])).length : Int) + 55) / 56) - ((bv (bs ++ [1])).length : Int)) = _; rw [ek]), upd_same, by omega, by omega, big (by rw [Int.toNat_natCast]; show 1 * _ ≤ 900000; omega), fun y ny => ?_⟩
  have er : (List.replicate ((56 * cntOf bs - (bs.length + 1) : Nat) : Int).toNat [V.int 0]).flatten = bv (List.replicate (56 * cntOf bs - (bs.length + 1)) 0) := by
    rw [Int.toNat_natCast]
    generalize 56 * cntOf bs - (bs.length + 1) = m
    unfold bv
    rw [List.map_replicate]
    induction m with
    | zero => rfl
    | succ m ih => rw [List.replicate_succ, List.flatten_cons, ih, List.replicate_succ]; rfl
  rw [er]
  generalize hG2 : upd (upd G z (.lst [.int 0])) y (.lst (bv (List.replicate (56 * cntOf bs - (bs.length + 1)) 0))) = G2
  have s4 : Same H G2 := by rw [← hG2]; exact s3.trans (Same.new ny)
  have ed4 : G2 d = some (.lst (bv (bs ++ [1]))) := by rw [← hG2, upd_ne (ne_of_none ed3 ny)]; exact ed3
  have ey : G2 y = some (.lst (bv (List.replicate (56 * cntOf bs - (bs.length + 1)) 0))) := by rw [← hG2]; exact upd_same
  refine ⟨d, y, _, _, rfl, rfl, ed4, ey, big (by rw [bv_len, bv_len, List.length_append, List.length_replicate, List.length_singleton]; omega), fun x nx => ?_⟩
  rw [← bv_app]
  generalize hG3 : upd G2 x (.lst (bv (bs ++ [1] ++ List.replicate (56 * cntOf bs - (bs.length + 1)) 0))) = G3
  have s5 : Same H G3 := by rw [← hG3]; exact s4.trans (Same.new nx)
  have ex : G3 x = some (.lst (bv (padded bs))) := by rw [← hG3]; exact upd_same
  -- found = []
  refine ⟨Nat.zero_le _, fun fo nfo => ?_⟩
  have nf0 : H fo = none := s5.free nfo
  have nxf : x ≠ fo := ne_of_none ex nfo
  -- for k in range(count)
  refine ⟨_, rfl, (cntOf bs : Int), (by show [V.int ((((bv (bs ++ [1])).length : Int) + 55) / 56)] = _; rw [ec]), by omega, by omega, for_range (lo := 0) (n := ((cntOf bs : Int)).toNat) (fun i σ H' => ∃ (fo : Addr) (y4 y5 : Option V), σ = [some (.ref a), some (.ref x), some (.int (cntOf bs)), some (.ref fo), y4, y5] ∧ Same H H' ∧ H fo = none ∧ H' x = some (.lst (bv (padded bs))) ∧
    H' fo = some (.lst (bv ((List.range i).flatMap fun k => blk (k + 1) (cntOf bs) (Crc.part bs k))))) ⟨fo, _, _, by rw [← ec]; rfl, s5.trans (Same.new nfo), nf0, by rw [upd_ne nxf]; exact ex, upd_same⟩ ?_ ?_⟩
  · rintro i σ H' hi ⟨fo, y4, y5, rfl, sm, nf, ex', ef⟩
    rw [Int.toNat_natCast] at hi
    have lf := flat_length (f := fun k => blk (k + 1) (cntOf bs) (Crc.part bs k)) i fun k hk => blk_length (part_length (by omega))
    have e0 : (0 : Int) + (i : Int) = (i : Int) := by omega
    rw [e0]
    refine ⟨_, rfl, _, _, rfl, rfl, _, _, rfl, rfl, ⟨by decide, by decide⟩, _, rfl, _, _, rfl, rfl, .inl ⟨_, rfl, _, _, rfl, rfl, (by show (0 : Int) < 256; decide), ?_⟩⟩
    refine ⟨_, rfl, _, _, rfl, rfl, ⟨by decide, by decide⟩, _, rfl, .inl ⟨_, rfl, _, _, rfl, rfl, (by show (0 : Int) < 256; decide), (by show 4 ≤ sizeLine; decide), fun h4 nh4 => ?_⟩⟩
    have ecut : cutV (bv (padded bs)) (some (56 * (i : Int))) (some (56 * (i : Int) + 56)) = bv (Crc.part bs i) := by
      rw [show (56 : Int) * (i : Int) = ((56 * i : Nat) : Int) by omega, show ((56 * i : Nat) : Int) + 56 = ((56 * i + 56 : Nat) : Int) by omega, cut_mid, bv_drop, bv_take]
      unfold Crc.part
      rw [show 56 * i + 56 - 56 * i = 56 by omega]
    have ex4 := (upd_ne (o := HO.lst [.int (((i : Int) + 1) / 256), .int (((i : Int) + 1) % 256), .int ((cntOf bs : Int) / 256), .int ((cntOf bs : Int) % 256)]) (ne_of_none ex' nh4)).trans ex'
    refine ⟨.ref x, rfl, _, rfl, _, _, rfl, rfl, .inl ⟨by decide, by decide⟩, _, rfl, _, rfl, _, _, rfl, rfl, .inl ⟨by decide, by decide⟩, _, _, rfl, rfl, _, rfl, x, _, rfl, SqL.of ex4, fun pt npt => ?_⟩
    have eh4 := (upd_ne (H := upd H' h4 (.lst [.int (((i : Int) + 1) / 256), .int (((i : Int) + 1) % 256), .int ((cntOf bs : Int) / 256), .int ((cntOf bs : Int) % 256)])) (o := HO.lst (cutV (bv (padded bs)) (some (56 * (i : Int))) (some (56 * (i : Int) + 56)))) (ne_of_none upd_same npt)).trans upd_same
    refine ⟨h4, pt, _, _, rfl, rfl, eh4, upd_same, big (by
      rw [ecut, bv_len, part_length hi]
      show 4 + 56 ≤ _
      decide), fun hp nhp => ?_⟩
    have eh : [V.int (((i : Int) + 1) / 256), V.int (((i : Int) + 1) % 256), V.int ((cntOf bs : Int) / 256), V.int ((cntOf bs : Int) % 256)] ++ cutV (bv (padded bs)) (some (56 * (i : Int))) (some (56 * (i : Int) + 56)) = bv ([(i + 1) / 256, (i + 1) % 256, cntOf bs / 256, cntOf bs % 256] ++ Crc.part bs i) := by
      rw [ecut, bv_app]
      rfl
    rw [eh]
    have lh : ([(i + 1) / 256, (i + 1) % 256, cntOf bs / 256, cntOf bs % 256] ++ Crc.part bs i).length = 60 := by
      rw [List.length_append, part_length hi]
      rfl
    have s6 := (Same.new (o := HO.lst [.int (((i : Int) + 1) / 256), .int (((i : Int) + 1) % 256), .int ((cntOf bs : Int) / 256), .int ((cntOf bs : Int) % 256)]) nh4).trans (Same.new (o := HO.lst (cutV (bv (padded bs)) (some (56 * (i : Int))) (some (56 * (i : Int) + 56)))) npt)
    generalize upd (upd H' h4 (.lst [.int (((i : Int) + 1) / 256), .int (((i : Int) + 1) % 256), .int ((cntOf bs : Int) / 256), .int ((cntOf bs : Int) % 256)])) pt (.lst (cutV (bv (padded bs)) (some (56 * (i : Int))) (some (56 * (i : Int) + 56)))) = H6 at *
    generalize hhd : [(i + 1) / 256, (i + 1) % 256, cntOf bs / 256, cntOf bs % 256] ++ Crc.part bs i = hd at *
    have s7 := s6.trans (Same.new (o := HO.lst (bv hd)) nhp)
    refine ⟨.ref fo, rfl, .ref hp, rfl, fo, hp, _, _, rfl, rfl, s7 _ _ ef, upd_same, big (by rw [bv_len, bv_len, lf, lh]; omega), fun u nu => ?_⟩
    rw [← bv_app]
    have ehp : (upd H6 hp (.lst (bv hd))) hp = some (.lst (bv hd)) := upd_same
    have s8 := s7.trans (Same.new (o := HO.lst (bv (((List.range i).flatMap fun k => blk (k + 1) (cntOf bs) (Crc.part bs k)) ++ hd))) nu)
    have ehp8 := (upd_ne (o := HO.lst (bv (((List.range i).flatMap fun k => blk (k + 1) (cntOf bs) (Crc.part bs k)) ++ hd))) (ne_of_none ehp nu)).trans ehp
    refine ⟨.ref hp, rfl, hp, hd, rfl, SqL.of ehp8, by rw [lh]; decide, fun v G2 sv nv ev => ?_⟩
    have eu : G2 u = _ := sv _ _ upd_same
    refine ⟨u, v, _, _, rfl, rfl, eu, ev, big (by rw [bv_len, bv_len, List.length_append, lf, lh]; show _ + 4 ≤ _; omega), fun y ny => ?_⟩
    rw [← bv_app]
    have s9 := (s8.trans sv).trans (Same.new (o := HO.lst (bv (((List.range i).flatMap fun k => blk (k + 1) (cntOf bs) (Crc.part bs k)) ++ hd ++ sumOf hd))) ny)
    refine ⟨y, _, _, rfl, sm.trans s9, sm.free ((s8.trans sv).free ny), s9 _ _ ex', ?_⟩
    rw [upd_same, List.range_succ, List.flatMap_append]
    simp only [List.flatMap_cons, List.flatMap_nil, List.append_nil]
    rw [List.append_assoc, ← hhd]
    rfl
  · rintro σ H' ⟨fo, y4, y5, rfl, sm, nf, ex', ef⟩
    rw [Int.toNat_natCast] at ef
    exact ⟨_, rfl, q fo H' sm nf ef⟩
theorem ok_run (T : Top K mg "changed_run" st_changed_run ["one", "other"]) (z_range : mg "range" = none) (z_enumerate : mg "enumerate" = none) : Def P w K mg base 1 "changed_run" ["one", "other"] (spRun K) := by
  refine T.ok sc_changed_run (fun vs H Q E h => ?_) (fun f cdv A outer s H vs Q E hr h => ?_)
  · obtain ⟨a, b, x, y, rfl, _⟩ := h
    rfl
  obtain ⟨a, b, x, y, rfl, ha, hb, hl, hxy, q⟩ := h
  have big : ∀ {n : Nat}, n ≤ 900000 → n ≤ sizeLine := fun h => Nat.le_trans h (by decide)
  have P0 : Nat → Bool := fun j => decide ((bitsOf x)[j]? ≠ (bitsOf y)[j]?)
  refine ⟨_, (pss_cons (ps_set (i := 2) sc_changed_run.nd rfl (Or.inl rfl) (pe_lst pa_nil))
    (pss_cons (ps_for PassesOwn.never rfl (pi_enum rfl z_enumerate (pa_cons (pv 0) pa_nil)) (pg_tup rfl (pgs_cons (pg_name (i := 3) sc_changed_run.nd rfl (Or.inl rfl)) (pgs_cons (pg_name (i := 4) sc_changed_run.nd rfl (Or.inl rfl)) pgs_nil)))
    (pss_one (ps_for PassesOwn.never rfl (pi_range1 rfl z_range (pa_cons pe_int pa_nil)) (pg_name (i := 5) sc_changed_run.nd rfl (Or.inl rfl))
      (pss_one (ps_if (pt_cmpR op_ne (pe_op op_and (pe_op op_shr (pv 4) (pe_op op_sub pe_int (pv 5))) pe_int) (pe_op op_and (pe_op op_shr (pe_ix (ixL K) (pv 1) (pv 3) (fun _ _ => rfl)) (pe_op op_sub pe_int (pv 5))) pe_int) (nomark _))
        (pss_one (ps_expr (pe_bm PySem.F.plainAttrs_list PySem.F.slot_list_append PySem.F.type_list_append mt_append (pv 2) (pa_cons (pe_op op_add (pe_op op_mul pe_int (pv 3)) (pv 5)) pa_nil))))
        pss_nil)))))
    (pss_one (ps_ret (pe_ifExp (pt_truth (pv 2) (by intro _; rfl)) (pe_tup (pa_cons (pe_ix (ixL K) (pv 2) pe_int (fun _ _ => rfl)) (pa_cons (pe_ix (ixL K) (pv 2) (pe_un un_neg pe_int) (fun _ _ => rfl)) pa_nil))) pe_non))))), ?_⟩
  refine ⟨Nat.zero_le _, fun fo nfo => ?_⟩
  refine ⟨.ref a, rfl, a, _, rfl, (Same.new nfo).seq ha, for_enum (K := K) (a := a) (xs := bv x) (fun i σ H' => ∃ x3 x4 x5 : Option V, σ = [some (.ref a), some (.ref b), some (.ref fo), x3, x4, x5] ∧ Same H H' ∧ H' fo = some (.lst (bv ((List.range (8 * i)).filter fun j => decide ((bitsOf x)[j]? ≠ (bitsOf y)[j]?))))) ⟨_, _, _, rfl, Same.new nfo, upd_same⟩ (fun _ _ _ _ ⟨_, _, _, _, s, _⟩ => s.seq ha) ?_ ?_⟩
  · rintro i v σ H' T hx ⟨x3, x4, x5, rfl, sm, ef⟩ nT
    obtain ⟨n, hn, rfl⟩ := bv_of hx
    have ilt := (List.getElem?_eq_some_iff.mp hn).1
    obtain ⟨m, hm⟩ : ∃ m, y[i]? = some m := ⟨_, List.getElem?_eq_getElem (by omega)⟩
    refine ⟨T, _, rfl, SqT.of upd_same, rfl, _, _, rfl, _, _, rfl, rfl, ?_⟩
    have s1 := sm.trans (Same.new (o := .tup [.int (i : Nat), .int (n : Nat)]) nT)
    have ef1 := (upd_ne (o := HO.tup [.int (i : Nat), .int (n : Nat)]) (ne_of_none ef nT)).trans ef
    refine ⟨8, rfl, by decide, by decide, for_range (lo := 0) (n := 8) (fun j σ G => ∃ y5 : Option V, σ = [some (.ref a), some (.ref b), some (.ref fo), some (.int (i : Nat)), some (.int (n : Nat)), y5] ∧ Same H G ∧ G fo = some (.lst (bv ((List.range (8 * i + j)).filter fun j => decide ((bitsOf x)[j]? ≠ (bitsOf y)[j]?))))) ⟨_, rfl, s1, ef1⟩ ?_ ?_⟩
    · rintro j σ G hj ⟨y5, rfl, sg, eg⟩
      have g1 := bits_at hn hj
      have g2 := bits_at hm hj
      have e7 : (7 : Int) - (0 + (j : Int)) = ((7 - j : Nat) : Int) := by omega
      have bit : ∀ k : Nat, Builtin.bitAnd ((k : Int) / 2 ^ ((7 : Int) - (0 + (j : Int))).toNat) 1 = bitI (k.testBit (7 - j)) := fun k => by
        rw [e7, Int.toNat_natCast]
        exact bit_is k (7 - j)
      have cond : decide (V.int (Builtin.bitAnd ((n : Int) / 2 ^ ((7 : Int) - (0 + (j : Int))).toNat) 1) = V.int (Builtin.bitAnd ((m : Int) / 2 ^ ((7 : Int) - (0 + (j : Int))).toNat) 1)) = (n.testBit (7 - j) == m.testBit (7 - j)) := by
        rw [bit n, bit m]
        exact bitI_eq _ _
      have pos : (0 : Int) ≤ 7 - (0 + (j : Int)) := by omega
      refine ⟨_, rfl, _, rfl, _, _, rfl, rfl, _, _, rfl, rfl, pos, _, _, rfl, rfl, .ref b, rfl, _, rfl, b, _, _, _, rfl, rfl, sg.seq hb, atI_nat (bv_get hm), _, rfl, _, _, rfl, rfl, _, _, rfl, rfl, pos, _, _, rfl, rfl, rfl, _, rfl, ifnB cond ?_⟩
      have next : ∀ c : Bool, (n.testBit (7 - j) == m.testBit (7 - j)) = c → (List.range (8 * i + (j + 1))).filter (fun j => decide ((bitsOf x)[j]? ≠ (bitsOf y)[j]?)) = (List.range (8 * i + j)).filter (fun j => decide ((bitsOf x)[j]? ≠ (bitsOf y)[j]?)) ++ (if c then [] else [8 * i + j]) := by
        rintro c rfl
        rw [← Nat.add_assoc, List.range_succ, List.filter_append]
        congr 1
        rw [List.filter_cons, List.filter_nil, g1, g2]
        cases n.testBit (7 - j) <;> cases m.testBit (7 - j) <;> rfl
      cases eq : (n.testBit (7 - j) == m.testBit (7 - j)) with
      | true =>
        refine iteT ⟨_, rfl, sg, ?_⟩
        rw [next true eq, if_pos rfl, List.append_nil]
        exact eg
      | false =>
        refine iteF ?_
        have lf : ((List.range (8 * i + j)).filter fun j => decide ((bitsOf x)[j]? ≠ (bitsOf y)[j]?)).length ≤ 8 * i + j := by
          have := List.length_filter_le (fun j => decide ((bitsOf x)[j]? ≠ (bitsOf y)[j]?)) (List.range (8 * i + j))
          rw [List.length_range] at this
          exact this
        refine ⟨.ref fo, rfl, .inl ⟨rfl, _, SqL.of eg⟩, _, rfl, _, _, rfl, rfl, .inl ⟨by decide, by decide⟩, _, rfl, _, _, rfl, rfl, fo, _, _, rfl, rfl, eg, by rw [bv_len]; exact sq_len (by omega), ?_⟩
        refine ⟨_, rfl, same_mut sg nfo, ?_⟩
        rw [upd_same, next false eq, bv_app]
        have e8 : (8 : Int) * (i : Nat) + (0 + (j : Int)) = ((8 * i + j : Nat) : Int) := by omega
        show some (HO.lst (_ ++ [V.int ((8 : Int) * (i : Nat) + (0 + (j : Int)))])) = _
        rw [e8]
        rfl
    · rintro σ G ⟨y5, rfl, sg, eg⟩
      exact ⟨_, _, _, rfl, sg, eg⟩
  · rintro σ H' ⟨x3, x4, x5, rfl, sm, ef⟩
    have ed : (List.range (8 * (bv x).length)).filter (fun j => decide ((bitsOf x)[j]? ≠ (bitsOf y)[j]?)) = diffs (bitsOf x) (bitsOf y) := by
      unfold diffs
      rw [bv_len, bitsOf_length]
    rw [ed] at ef
    refine ⟨.ref fo, rfl, _, .inl ⟨_, SqL.of ef, rfl⟩, ?_⟩
    cases hd : diffs (bitsOf x) (bitsOf y) with
    | nil =>
      refine iteF ?_
      refine q .non H' sm ⟨fun _ => rfl, fun f l hf _ => ?_⟩
      rw [hd] at hf
      cases hf
    | cons f rest =>
      refine iteT ?_
      rw [hd] at ef
      obtain ⟨l, hlast⟩ : ∃ l, (f :: rest).getLast? = some l := ⟨_, List.getLast?_eq_some_getLast (List.cons_ne_nil f rest)⟩
      have at0 : atI (bv (f :: rest)) 0 = some (.int (f : Nat)) := atI_nat (j := 0) rfl
      have at1 : atI (bv (f :: rest)) (-1) = some (.int (l : Nat)) := by
        unfold atI ixN
        rw [if_neg (by decide), if_pos (by rw [bv_len, List.length_cons]; omega)]
        show (bv (f :: rest))[(-1 + ((bv (f :: rest)).length : Int)).toNat]? = _
        refine bv_get ?_
        rw [List.getLast?_eq_getElem?] at hlast
        rw [bv_len, show (-1 + ((f :: rest).length : Int)).toNat = (f :: rest).length - 1 by rw [List.length_cons]; omega]
        exact hlast
      refine ⟨.ref fo, rfl, fo, _, _, _, rfl, rfl, SqL.of ef, at0, .ref fo, rfl, _, rfl, fo, _, _, _, rfl, rfl, SqL.of ef, at1, (by show 2 ≤ sizeLine; decide), fun t nt => ?_⟩
      refine q (.ref t) _ (sm.trans (Same.new nt)) ⟨fun z => ?_, fun f' l' hf hl' => ?_⟩
      · rw [hd] at z
        cases z
      · rw [hd] at hf hl'
        rw [hlast] at hl'
        obtain rfl := Option.some.inj hl'
        obtain rfl : f = f' := Option.some.inj hf
        exact ⟨t, rfl, upd_same⟩
end
end My
set_option Elab.async false
set_option linter.all false
set_option maxRecDepth 100000
set_option maxHeartbeats 4000000
/-! Bits changed -/
namespace My
open PySem PySem.Spec PyProof.Rows L2 Crc
def spChanged (K : PySem.W.Frag) : Sp := fun vs H Q _ => ∃ (p a t : Addr) (x : List Nat) (first wide : Nat), vs = [.ref p, .ref t, .int (first : Int), .int (wide : Int)] ∧ PoolAt K H p a ∧ t ≠ p ∧ H t = some (.lst (bv x)) ∧ x.length ≤ 100000 ∧ first < 8 * x.length ∧ 1 ≤ wide ∧
  ∀ (v : Addr) (y : List Nat) (H' : Hp), But p H H' → PoolAt K H' p a → H v = none → H' v = some (.lst (bv y)) → y.length = x.length → Bytes y → Agree (bitsOf x) (bitsOf y) first wide → (bitsOf y)[first]? ≠ (bitsOf x)[first]? → Q (.ref v) H'
def ChW (K : PySem.W.Frag) (H : Hp) (p a t b : Addr) (x : List Nat) (first wide L : Nat) (i : Nat) (σ : L2.St) (G : Hp) : Prop := ∃ (y6 : Option V) (l : List Bool), σ = [some (.ref p), some (.ref t), some (.int (first : Int)), some (.int (wide : Int)), some (.ref b), some (.int (L : Int)), y6] ∧
  But p H G ∧ PoolAt K G p a ∧ G b = some (.lst (bbv l)) ∧ l.length = 8 * x.length ∧ (∀ j, (j < first ∨ first + i ≤ j) → l[j]? = (bitsOf x)[j]?) ∧ (0 < i → l[first]? ≠ (bitsOf x)[first]?)
section
variable {P : Program} {w : World} {K : PySem.W.Frag} {mg : Str → Option Value} {base : Heap}
theorem ok_changed (T : Top K mg "_law_changed" st_law_changed ["pool", "told", "first", "wide"]) (D_law_bits : Def P w K mg base 1 "_law_bits" ["told"] (spBits K)) (D_law_bytes_of_bits : Def P w K mg base 1 "_law_bytes_of_bits" ["bits"] (spUnbits K)) (D_law_next : Def P w K mg base 3 "_law_next" ["pool"] (spNext K)) (D_law_draw : Def P w K mg base 3 "_law_draw" ["pool", "limit"] (spDraw K))
    (z_range : mg "range" = none) (z_len : mg "len" = none) (z_int : mg "int" = none) (z_min : mg "min" = none) : Def P w K mg base 4 "_law_changed" ["pool", "told", "first", "wide"] (spChanged K) := by
  refine T.ok sc_law_changed (fun vs H Q E h => ?_) (fun f cdv A outer s H vs Q E hr h => ?_)
  · obtain ⟨p, a, t, x, first, wide, rfl, _⟩ := h
    rfl
  obtain ⟨p, a, t, x, first, wide, rfl, hP, ntp, ht, hl, hf, hw, q⟩ := h
  have big : ∀ {n : Nat}, n ≤ 900000 → n ≤ sizeLine := fun h => Nat.le_trans h (by decide)
  refine ⟨_, (pss_cons (ps_set (i := 4) sc_law_changed.nd rfl (Or.inl rfl) (pe_def D_law_bits (hr.mono (by decide)) rfl (pa_cons (pv 1) pa_nil)))
    (pss_cons (ps_set (i := 5) sc_law_changed.nd rfl (Or.inl rfl) (pe_op op_sub (pe_callB (call_min2 rfl) rfl z_min (by decide +kernel) (pa_cons (pe_op op_add (pv 2) (pv 3)) (pa_cons (pe_callB (lenQ K) rfl z_len (by decide +kernel) (pa_cons (pv 4) pa_nil)) pa_nil))) pe_int))
    (pss_cons (ps_for PassesOwn.never rfl (pi_range2 rfl z_range (pa_cons (pv 2) (pa_cons (pe_op op_add (pv 5) pe_int) pa_nil))) (pg_name (i := 6) sc_law_changed.nd rfl (Or.inl rfl))
    (Evl.pss_cut (ps_if (pt_cmpR op_eq (pe_op op_mod (pe_callTy call_int1 rfl z_int (by decide +kernel) (pa_cons (pv 6) pa_nil)) pe_int) pe_int (nomark _))
      (pss_one (ps_expr (pe_def D_law_next (hr.mono (by decide)) rfl (pa_cons (pv 0) pa_nil))))
      pss_nil)
      (pss_one (ps_if (PW.pt (pw_or (pt_cmpR (inQ K) (pv 6) (pe_tup (pa_cons (pv 2) (pa_cons (pv 5) pa_nil))) (by with_unfolding_all rfl)) (pw_or1 (pt_cmpR op_eq (pe_def D_law_draw (hr.mono (by decide)) rfl (pa_cons (pv 0) (pa_cons pe_int pa_nil))) pe_int (nomark _)))))
      (pss_one (ps_asg (pe_op op_sub pe_int (pe_ix (ixL K) (pv 4) (pv 6) (fun _ _ => rfl))) (pg_sub (pv 4) (pv 6) set_list)))
      pss_nil))))
    (pss_one (ps_ret (pe_def D_law_bytes_of_bits (hr.mono (by decide)) rfl (pa_cons (pv 4) pa_nil))))))), ?_⟩
  have le8 := bitsOf_length x
  refine ⟨.ref t, rfl, t, x, rfl, SqL.of ht, hl, fun b G1 s1 nb eb => ?_⟩
  have P1 := hP.same s1
  have nbp := hP.ne nb
  obtain ⟨L, hL⟩ : ∃ L : Nat, L + 1 = min (first + wide) (8 * x.length) := ⟨min (first + wide) (8 * x.length) - 1, by omega⟩
  have eL : (if ((bbv (bitsOf x)).length : Int) < (first : Int) + (wide : Int) then ((bbv (bitsOf x)).length : Int) else (first : Int) + (wide : Int)) - 1 = (L : Int) := by
    rw [bbv_len, le8]
    split <;> omega
  refine ⟨_, rfl, _, rfl, _, _, rfl, rfl, .ref b, rfl, b, _, rfl, .inl (SqL.of eb), _, _, rfl, _, _, rfl, rfl, ?_⟩
  refine ⟨_, rfl, _, rfl, _, _, rfl, rfl, (first : Int), (L : Int) + 1, (by
    show [V.int (first : Int), V.int ((if ((bbv (bitsOf x)).length : Int) < (first : Int) + (wide : Int) then ((bbv (bitsOf x)).length : Int) else (first : Int) + (wide : Int)) - 1 + 1)] = _
    rw [eL]), ⟨by omega, by omega, by omega, by omega⟩, for_range (lo := (first : Int)) (n := ((L : Int) + 1 - (first : Int)).toNat) (ChW K H p a t b x first wide L) ⟨_, bitsOf x, (by rw [← eL]; rfl), Same.but s1, P1, eb, le8, fun _ _ => rfl, fun z => absurd z (Nat.lt_irrefl 0)⟩ ?_ ?_⟩
  · rintro i σ G hi ⟨y6, l, rfl, bt, PG, el, ll, alike, ch⟩
    have at_ : (first : Int) + (i : Int) = ((first + i : Nat) : Int) := by omega
    rw [at_]
    have lt : first + i < l.length := by omega
    refine ⟨fun σ' G' => σ' = [some (.ref p), some (.ref t), some (.int (first : Int)), some (.int (wide : Int)), some (.ref b), some (.int (L : Int)), some (.int ((first + i : Nat) : Int))] ∧ But p H G' ∧ PoolAt K G' p a ∧ G' b = some (.lst (bbv l)), ?_, ?_⟩
    · refine ⟨_, rfl, .inl ⟨_, rfl, _, _, rfl, rfl, (by show (0 : Int) < 12; decide), rfl, _, rfl, ite2 (fun _ => ?_) (fun _ => ?_)⟩⟩
      · refine ⟨.ref p, rfl, p, a, rfl, PG, fun G2 o2 P2 => ⟨rfl, bt.trans o2.but, P2, o2.get nbp el⟩⟩
      · exact ⟨rfl, bt, PG, el⟩
    rintro σ' G2 ⟨rfl, bt2, P2, el2⟩
    obtain ⟨c, hc⟩ : ∃ c, l[first + i]? = some c := ⟨_, List.getElem?_eq_getElem lt⟩
    have ixn : ixN (bbv l).length ((first + i : Nat) : Int) = some (first + i) := Evl.ixN_nat (by rw [bbv_len]; exact lt)
    have flip : ∀ G3 : Hp, But p H G3 → PoolAt K G3 p a → G3 b = some (.lst (bbv l)) → ChW K H p a t b x first wide L (i + 1) [some (.ref p), some (.ref t), some (.int (first : Int)), some (.int (wide : Int)), some (.ref b), some (.int (L : Int)), some (.int ((first + i : Nat) : Int))] (upd G3 b (.lst ((bbv l).set (first + i) (.int (1 - bitI c))))) := by
      intro G3 b3 P3 e3
      have ev : V.int (1 - bitI c) = V.int (bitI (!c)) := by cases c <;> rfl
      refine ⟨_, l.set (first + i) (!c), rfl, b3.mut nb, P3.put nbp e3, by rw [upd_same, ev, bbv_set], by rw [List.length_set]; exact ll, fun j hj => ?_, fun _ => ?_⟩
      · rw [List.getElem?_set_ne (by omega)]
        exact alike j (by omega)
      · by_cases z : i = 0
        · subst z
          rw [Nat.add_zero, List.getElem?_set_self (by omega), ← alike first (by omega), show l[first]? = some c by rw [← hc, Nat.add_zero]]
          cases c <;> decide
        · rw [List.getElem?_set_ne (by omega)]
          exact ch (by omega)
    have stay : i ≠ 0 → ∀ G3 : Hp, But p H G3 → PoolAt K G3 p a → G3 b = some (.lst (bbv l)) → ChW K H p a t b x first wide L (i + 1) [some (.ref p), some (.ref t), some (.int (first : Int)), some (.int (wide : Int)), some (.ref b), some (.int (L : Int)), some (.int ((first + i : Nat) : Int))] G3 := by
      intro z G3 b3 P3 e3
      exact ⟨_, l, rfl, b3, P3, e3, ll, fun j hj => alike j (by omega), fun _ => ch (by omega)⟩
    refine ⟨_, rfl, _, rfl, _, rfl, (by show 2 ≤ sizeLine; decide), fun tt ntt => ⟨tt, _, rfl, .inr (SqT.of upd_same), rfl, rfl, _, rfl, ite2 (fun _ => ?_) (fun c0 => ?_)⟩⟩
    · refine iteT ⟨.ref b, rfl, _, rfl, b, _, _, _, rfl, rfl, SqL.of ((upd_ne (ne_of_none el2 ntt)).trans el2), atI_nat (bbv_get hc), _, _, rfl, rfl, .ref b, rfl, _, rfl, b, _, _, _, rfl, rfl, (upd_ne (ne_of_none el2 ntt)).trans el2, ixn, ?_⟩
      exact flip _ (bt2.trans (Same.but (Same.new ntt))) (P2.new ntt) ((upd_ne (ne_of_none el2 ntt)).trans el2)
    · have ne0 : i ≠ 0 := fun z => c0 (by
        subst z
        show (eqV (V.int (first : Int)) (V.int ((first + 0 : Nat) : Int)) || _) = true
        rw [show eqV (V.int (first : Int)) (V.int ((first + 0 : Nat) : Int)) = true from beq_self_eq_true _, Bool.true_or])
      refine ⟨.ref p, rfl, p, a, 2, rfl, P2.new ntt, by decide, by decide, fun v G3 v0 v1 o3 P3 => ⟨rfl, _, rfl, ?_⟩⟩
      have el3 : G3 b = some (.lst (bbv l)) := o3.get nbp ((upd_ne (ne_of_none el2 ntt)).trans el2)
      have bt3 := (bt2.trans (Same.but (Same.new (o := .tup [.int (first : Int), .int (L : Int)]) ntt))).trans o3.but
      refine ite2 (fun _ => ?_) (fun _ => ?_)
      · refine ⟨.ref b, rfl, _, rfl, b, _, _, _, rfl, rfl, SqL.of el3, atI_nat (bbv_get hc), _, _, rfl, rfl, .ref b, rfl, _, rfl, b, _, _, _, rfl, rfl, el3, ixn, ?_⟩
        exact flip _ bt3 P3 el3
      · exact stay ne0 _ bt3 P3 el3
  · rintro σ G ⟨y6, l, rfl, bt, PG, el, ll, alike, ch⟩
    refine ⟨.ref b, rfl, b, l, rfl, SqL.of el, by omega, ⟨x.length, ll⟩, fun v G2 s2 nv ev => ?_⟩
    have eb2 := bits_bytesOf _ ll
    refine q v (bytesOf l) G2 (bt.trans (Same.but s2)) (PG.same s2) (bt.free PG nv) ev (by rw [bytesOf_length, ll]; omega) (bytes_bytesOf ll) ⟨by rw [eb2, ll, le8], fun j hj => ?_⟩ (by rw [eb2]; exact ch (by omega))
    rw [eb2]
    by_cases lt : j < 8 * x.length
    · exact (alike j (by omega)).symm
    · rw [List.getElem?_eq_none (by omega), List.getElem?_eq_none (by omega)]
end
end My
set_option Elab.async false
set_option linter.all false
set_option maxRecDepth 100000
set_option maxHeartbeats 4000000
/-! The law of the blocks -/
namespace My
open PySem PySem.Spec PyProof.Rows L2 Crc
local macro_rules
  | `(tactic| nofun) => `(tactic| (apply tup_at; nofun))
local macro_rules
  | `(tactic| nofun) => `(tactic| (apply seq_at; nofun))
local macro_rules
  | `(tactic| nofun) => `(tactic| (apply pool_same; assumption; nofun))
local macro_rules
  | `(tactic| nofun) => `(tactic| (apply but_get; assumption; assumption; nofun))
local macro_rules
  | `(tactic| nofun) => `(tactic| (apply off_get; assumption; assumption; nofun))
local macro_rules
  | `(tactic| nofun) => `(tactic| (apply same_get; assumption; nofun))
local macro_rules
  | `(tactic| nofun) => `(tactic| assumption)
abbrev st_law : Stmt := topS 25
theorem sc_law : FnScope ["script", "pool", "told", "k", "some", "whole_blocks", "handed", "first", "bent", "wrong", "at", "bits", "many", "cut", "head"] ["script"] (defScope st_law) := ⟨rfl, rfl, rfl, by decide +kernel, rfl, by decide +kernel, by decide +kernel⟩
def spLaw (K : PySem.W.Frag) : Sp := fun vs H Q _ => ∃ (a : Addr) (ns : List Int), vs = [.ref a] ∧ Scr K H a ns ∧ ns.length ≤ 63 ∧ ∀ H', Q (.bl true) H'
section
variable {P : Program} {w : World} {K : PySem.W.Frag} {mg : Str → Option Value} {base : Heap}
structure Defs (P : Program) (w : World) (K : PySem.W.Frag) (mg : Str → Option Value) (base : Heap) : Prop where
  pool : Def P w K mg base 3 "_law_pool" ["script"] (spPool K)
  next : Def P w K mg base 3 "_law_next" ["pool"] (spNext K)
  draw : Def P w K mg base 3 "_law_draw" ["pool", "limit"] (spDraw K)
  same : Def P w K mg base 4 "_law_same" ["answer", "due"] (spSame K 4)
  sum : Def P w K mg base 1 "sum_of_bits" ["told"] (spSum K)
  lsum : Def P w K mg base 2 "_law_sum" ["told"] (spLSum K)
  blocks : Def P w K mg base 3 "blocks_of" ["told"] spBlocksOf
  lblocks : Def P w K mg base 3 "_law_blocks" ["told"] spBlocksOf
  data : Def P w K mg base 3 "data_of" ["told"] (spDataOf K)
  changed : Def P w K mg base 4 "_law_changed" ["pool", "told", "first", "wide"] (spChanged K)
  bits : Def P w K mg base 1 "_law_bits" ["told"] (spBits K)
  crun : Def P w K mg base 1 "changed_run" ["one", "other"] (spRun K)
theorem slice_one {y : List Nat} {q yb : Nat} (h : y[q]? = some yb) : cutV (bv y) (some ((q : Nat) : Int)) (some (((q : Nat) : Int) + 1)) = bv [yb] := by
  rw [show ((q : Nat) : Int) + 1 = ((q + 1 : Nat) : Int) by omega, cut_mid, bv_drop, bv_take, Nat.add_sub_cancel_left]
  congr 1
  obtain ⟨lt, e⟩ := List.getElem?_eq_some_iff.mp h
  rw [List.drop_eq_getElem_cons lt, e]
  rfl
theorem filter_one (p : Nat → Bool) (i : Nat) : (List.range (i + 1)).filter p = (List.range i).filter p ++ (if p i = true then [i] else []) := by
  rw [List.range_succ, List.filter_append, List.filter_cons, List.filter_nil]
theorem at_last {l : List Nat} {x : Nat} (h : l.getLast? = some x) : atI (bv l) (-1) = some (.int (x : Nat)) := by
  have ne : 0 < l.length := by
    cases l with
    | nil => cases h
    | cons a b => exact Nat.succ_pos _
  unfold atI ixN
  rw [if_neg (by decide), if_pos (by rw [bv_len]; omega)]
  show (bv l)[(-1 + ((bv l).length : Int)).toNat]? = _
  refine bv_get ?_
  rw [List.getLast?_eq_getElem?] at h
  rw [bv_len, show (-1 + (l.length : Int)).toNat = l.length - 1 by omega]
  exact h
theorem ok_law (T : Top K mg "law" st_law ["script"]) (F : Defs P w K mg base) (z_range : mg "range" = none) (z_len : mg "len" = none) (z_int : mg "int" = none) (z_list : mg "list" = none) (z_max : mg "max" = none) : Def P w K mg base 5 "law" ["script"] (spLaw K) := by
  have ⟨D_law_pool, D_law_next, D_law_draw, D_law_same, D_sum_of_bits, D_law_sum, D_blocks_of, D_law_blocks, D_data_of, D_law_changed, D_law_bits, D_changed_run⟩ := F
  refine T.ok sc_law (fun vs H Q E h => ?_) (fun f cdv A outer s H vs Q E hr h => ?_)
  · obtain ⟨a, ns, rfl, _⟩ := h
    rfl
  obtain ⟨a, ns, rfl, hC, hl, q⟩ := h
  have big : ∀ {n : Nat}, n ≤ 900000 → n ≤ sizeLine := fun h => Nat.le_trans h (by decide)
  have hu := hu_of hr
  refine ⟨_, (pss_cons (ps_set (i := 1) sc_law.nd rfl (Or.inl rfl) (pe_def D_law_pool (hr.mono (by decide)) rfl (pa_cons (pv 0) pa_nil)))
    (pss_cons (ps_set (i := 2) sc_law.nd rfl (Or.inl rfl) (pe_lst pa_nil))
    (pss_cons (ps_for PassesOwn.never rfl (pi_range1 rfl z_range (pa_cons (pe_def D_law_draw (hr.mono (by decide)) rfl (pa_cons (pv 1) (pa_cons pe_int pa_nil))) pa_nil)) (pg_name (i := 3) sc_law.nd rfl (Or.inl rfl))
    (Evl.pss_cut (ps_if (pt_cmpR op_eq (pe_op op_mod (pe_callTy call_int1 rfl z_int (by decide +kernel) (pa_cons (pv 3) pa_nil)) pe_int) pe_int (nomark _))
      (pss_one (ps_expr (pe_def D_law_next (hr.mono (by decide)) rfl (pa_cons (pv 1) pa_nil))))
      pss_nil)
      (pss_one (ps_expr (pe_bm PySem.F.plainAttrs_list PySem.F.slot_list_append PySem.F.type_list_append mt_append (pv 2) (pa_cons (pe_def D_law_draw (hr.mono (by decide)) rfl (pa_cons (pv 1) (pa_cons pe_int pa_nil))) pa_nil))))))
    (pss_cons (ps_set (i := 4) sc_law.nd rfl (Or.inl rfl) (pe_op op_cat (pe_slice (slL K) (pv 2) po_none (po_some pe_int)) (pe_op op_rep (pe_lst (pa_cons pe_int pa_nil)) (pe_op op_sub pe_int (pe_callB (lenQ K) rfl z_len (by decide +kernel) (pa_cons (pe_slice (slL K) (pv 2) po_none (po_some pe_int)) pa_nil))))))
    (pss_cons (ps_if (pt_not (pt_val (pe_def D_law_same (hr.mono (by decide)) rfl (pa_cons (pe_lst (pa_cons (pe_def D_sum_of_bits (hr.mono (by decide)) rfl (pa_cons (pe_callTy (lstQ K) rfl z_list (by decide +kernel) (pa_cons (pv 4) pa_nil)) pa_nil)) (pa_cons (pe_def D_sum_of_bits (hr.mono (by decide)) rfl (pa_cons (pe_op op_rep (pe_lst (pa_cons pe_int pa_nil)) pe_int) pa_nil)) pa_nil))) (pa_cons (pe_lst (pa_cons (pe_def D_law_sum (hr.mono (by decide)) rfl (pa_cons (pv 4) pa_nil)) (pa_cons (pe_lst (pa_cons pe_int (pa_cons pe_int (pa_cons pe_int (pa_cons pe_int pa_nil))))) pa_nil))) pa_nil)))))
    (pss_one (ps_ret pe_bl))
    pss_nil)
    (pss_cons (ps_set (i := 5) sc_law.nd rfl (Or.inr rfl) (pe_def D_law_blocks (hr.mono (by decide)) rfl (pa_cons (pv 2) pa_nil)))
    (pss_cons (ps_set (i := 6) sc_law.nd rfl (Or.inl rfl) (pe_callTy (lstQ K) rfl z_list (by decide +kernel) (pa_cons (pv 2) pa_nil)))
    (pss_cons (ps_if (PW.pt (pw_or (pt_not (pt_val (pe_def D_law_same (hr.mono (by decide)) rfl (pa_cons (pe_lst (pa_cons (pe_def D_blocks_of (hr.mono (by decide)) rfl (pa_cons (pv 6) pa_nil)) (pa_cons (pe_def D_data_of (hr.mono (by decide)) rfl (pa_cons (pe_callTy (lstQ K) rfl z_list (by decide +kernel) (pa_cons (pv 5) pa_nil)) pa_nil)) pa_nil))) (pa_cons (pe_lst (pa_cons (pv 5) (pa_cons (pe_tup (pa_cons pe_str (pa_cons (pv 2) pa_nil))) pa_nil))) pa_nil))))) (pw_or1 (pt_cmpR (neQ K hr.units) (pv 6) (pv 2) (nomark _)))))
    (pss_one (ps_ret pe_bl))
    pss_nil)
    (pss_cons (ps_for PassesOwn.never rfl (pi_range1 rfl z_range (pa_cons pe_int pa_nil)) (pg_name (i := 3) sc_law.nd rfl (Or.inl rfl))
    (pss_cons (ps_expr (pe_def D_law_next (hr.mono (by decide)) rfl (pa_cons (pv 1) pa_nil)))
      (pss_cons (ps_set (i := 7) sc_law.nd rfl (Or.inl rfl) (pe_def D_law_draw (hr.mono (by decide)) rfl (pa_cons (pv 1) (pa_cons (pe_op op_mul pe_int (pe_callB (lenQ K) rfl z_len (by decide +kernel) (pa_cons (pv 5) pa_nil))) pa_nil))))
      (Evl.pss_cut (ps_if (pt_cmpR op_eq (pv 3) pe_int (nomark _))
      (pss_one (ps_set (i := 7) sc_law.nd rfl (Or.inl rfl) (pe_callB (call_max2 rfl) rfl z_max (by decide +kernel) (pa_cons (pe_op op_sub (pe_op op_sub (pe_op op_mul pe_int (pe_op op_add pe_int (pe_def D_law_draw (hr.mono (by decide)) rfl (pa_cons (pv 1) (pa_cons (pe_op op_fdiv (pe_callB (lenQ K) rfl z_len (by decide +kernel) (pa_cons (pv 5) pa_nil)) pe_int) pa_nil))))) pe_int) (pe_def D_law_draw (hr.mono (by decide)) rfl (pa_cons (pv 1) (pa_cons pe_int pa_nil)))) (pa_cons pe_int pa_nil)))))
      pss_nil)
      (pss_cons (ps_set (i := 8) sc_law.nd rfl (Or.inr rfl) (pe_def D_law_changed (hr.mono (by decide)) rfl (pa_cons (pv 1) (pa_cons (pv 5) (pa_cons (pv 7) (pa_cons (pe_op op_add pe_int (pe_def D_law_draw (hr.mono (by decide)) rfl (pa_cons (pv 1) (pa_cons pe_int pa_nil)))) pa_nil))))))
      (pss_cons (ps_setLc (i := 9) (own := [("at", 10)]) (g := gName 10) rfl sc_law.nd rfl rfl (sw_true rfl rfl rfl (by decide +kernel)) (pi_range1 rfl z_range (pa_cons (pe_callB (lenQ K) rfl z_len (by decide +kernel) (pa_cons (pv 5) pa_nil)) pa_nil)) (blkOk_by (own := [("at", 10)]) (N := ["script", "pool", "told", "k", "some", "whole_blocks", "handed", "first", "bent", "wrong", "at", "bits", "many", "cut", "head"]) (sc := defScope st_law) (by decide +kernel)) (fun _ _ _ _ _ => (pg_name (i := 10) sc_law.nd rfl (Or.inl rfl))) (fun _ _ _ _ _ => pts_one (pt_cmpR op_ne (pe_ix (ixL K) (pv 8) (pv 10) (fun _ _ => rfl)) (pe_ix (ixL K) (pv 5) (pv 10) (fun _ _ => rfl)) (nomark _))) (fun _ _ _ _ _ => (pv 10)))
      (Evl.pss_cut (ps_set (i := 11) sc_law.nd rfl (Or.inl rfl) (pe_ifExp (pt_cmpR op_lt (pv 3) pe_int (nomark _)) (pe_lc (own := [("at", 10)]) (g := gName 10) rfl sc_law.nd (pi_range1 rfl z_range (pa_cons (pe_op op_mul pe_int (pe_callB (lenQ K) rfl z_len (by decide +kernel) (pa_cons (pv 5) pa_nil))) pa_nil)) (blkOk_by (own := [("at", 10)]) (N := ["script", "pool", "told", "k", "some", "whole_blocks", "handed", "first", "bent", "wrong", "at", "bits", "many", "cut", "head"]) (sc := defScope st_law) (by decide +kernel)) (fun _ _ _ _ _ => (pg_name (i := 10) sc_law.nd rfl (Or.inl rfl))) (fun _ _ _ _ _ => pts_one (pt_cmpR op_ne (pe_ix (ixL K) (pe_def D_law_bits (hr.mono (by decide)) rfl (pa_cons (pe_slice (slL K) (pv 8) (po_some (pe_op op_fdiv (pv 10) pe_int)) (po_some (pe_op op_add (pe_op op_fdiv (pv 10) pe_int) pe_int))) pa_nil)) (pe_op op_mod (pe_callTy call_int1 rfl z_int (by decide +kernel) (pa_cons (pv 10) pa_nil)) pe_int) (fun _ _ => rfl)) (pe_ix (ixL K) (pe_def D_law_bits (hr.mono (by decide)) rfl (pa_cons (pe_slice (slL K) (pv 5) (po_some (pe_op op_fdiv (pv 10) pe_int)) (po_some (pe_op op_add (pe_op op_fdiv (pv 10) pe_int) pe_int))) pa_nil)) (pe_op op_mod (pe_callTy call_int1 rfl z_int (by decide +kernel) (pa_cons (pv 10) pa_nil)) pe_int) (fun _ _ => rfl)) (nomark _))) (fun _ _ _ _ _ => (pv 10))) (pe_lst pa_nil)))
      (pss_cons (ps_if (pt_not (pt_val (pe_def D_law_same (hr.mono (by decide)) rfl (pa_cons (pe_def D_data_of (hr.mono (by decide)) rfl (pa_cons (pe_callTy (lstQ K) rfl z_list (by decide +kernel) (pa_cons (pv 8) pa_nil)) pa_nil)) (pa_cons (pe_tup (pa_cons pe_str (pa_cons (pe_op op_add (pe_op op_fdiv (pe_ix (ixL K) (pv 9) pe_int (fun _ _ => rfl)) pe_int) pe_int) pa_nil))) pa_nil)))))
      (pss_one (ps_ret pe_bl))
      pss_nil)
      (pss_one (ps_if (PW.pt (pw_and (pt_cmpR op_lt (pv 3) pe_int (nomark _)) (pw_and1 (pt_not (pt_val (pe_def D_law_same (hr.mono (by decide)) rfl (pa_cons (pe_def D_changed_run (hr.mono (by decide)) rfl (pa_cons (pe_callTy (lstQ K) rfl z_list (by decide +kernel) (pa_cons (pv 5) pa_nil)) (pa_cons (pe_callTy (lstQ K) rfl z_list (by decide +kernel) (pa_cons (pv 8) pa_nil)) pa_nil))) (pa_cons (pe_tup (pa_cons (pe_ix (ixL K) (pv 11) pe_int (fun _ _ => rfl)) (pa_cons (pe_ix (ixL K) (pv 11) (pe_un un_neg pe_int) (fun _ _ => rfl)) pa_nil))) pa_nil))))))))
      (pss_one (ps_ret pe_bl))
      pss_nil))))))))))
    (pss_cons (ps_set (i := 12) sc_law.nd rfl (Or.inl rfl) (pe_op op_fdiv (pe_callB (lenQ K) rfl z_len (by decide +kernel) (pa_cons (pv 5) pa_nil)) pe_int))
    (pss_cons (ps_set (i := 10) sc_law.nd rfl (Or.inl rfl) (pe_def D_law_draw (hr.mono (by decide)) rfl (pa_cons (pv 1) (pa_cons (pv 12) pa_nil))))
    (pss_cons (ps_set (i := 13) sc_law.nd rfl (Or.inl rfl) (pe_slice (slL K) (pv 5) po_none (po_some (pe_op op_add (pe_op op_mul pe_int (pv 10)) (pe_def D_law_draw (hr.mono (by decide)) rfl (pa_cons (pv 1) (pa_cons pe_int pa_nil)))))))
    (pss_cons (ps_if (pt_not (pt_val (pe_def D_law_same (hr.mono (by decide)) rfl (pa_cons (pe_lst (pa_cons (pe_def D_data_of (hr.mono (by decide)) rfl (pa_cons (pv 13) pa_nil)) (pa_cons (pe_def D_data_of (hr.mono (by decide)) rfl (pa_cons (pe_op op_cat (pv 5) (pe_lst (pa_cons pe_int pa_nil))) pa_nil)) (pa_cons (pe_def D_data_of (hr.mono (by decide)) rfl (pa_cons (pe_lst pa_nil) pa_nil)) pa_nil)))) (pa_cons (pe_lst (pa_cons (pe_tup (pa_cons pe_str (pa_cons (pe_op op_add (pv 10) pe_int) pa_nil))) (pa_cons (pe_tup (pa_cons pe_str (pa_cons (pe_op op_add (pv 12) pe_int) pa_nil))) (pa_cons (pe_tup (pa_cons pe_str (pa_cons pe_int pa_nil))) pa_nil)))) pa_nil)))))
    (pss_one (ps_ret pe_bl))
    pss_nil)
    (Evl.pss_cut (ps_if (PW.pt (pw_and (pt_cmpR op_gt (pv 12) pe_int (nomark _)) (pw_and1 (pt_not (pt_val (pe_def D_law_same (hr.mono (by decide)) rfl (pa_cons (pe_def D_data_of (hr.mono (by decide)) rfl (pa_cons (pe_op op_cat (pe_slice (slL K) (pv 5) (po_some pe_int) po_none) (pe_slice (slL K) (pv 5) po_none (po_some pe_int))) pa_nil)) (pa_cons (pe_tup (pa_cons pe_str (pa_cons pe_int pa_nil))) pa_nil))))))))
    (pss_one (ps_ret pe_bl))
    pss_nil)
    (pss_cons (ps_set (i := 14) sc_law.nd rfl (Or.inl rfl) (pe_op op_cat (pe_lst (pa_cons pe_int (pa_cons pe_int (pa_cons pe_int (pa_cons pe_int pa_nil))))) (pe_op op_rep (pe_lst (pa_cons pe_int pa_nil)) pe_int)))
    (pss_one (ps_ret (pe_and (pe_def D_law_same (hr.mono (by decide)) rfl (pa_cons (pe_def D_data_of (hr.mono (by decide)) rfl (pa_cons (pe_op op_cat (pv 14) (pe_def D_law_sum (hr.mono (by decide)) rfl (pa_cons (pv 14) pa_nil))) pa_nil)) (pa_cons (pe_tup (pa_cons pe_str (pa_cons pe_int pa_nil))) pa_nil))) (pe_one (pe_cmpR op_isN (pe_def D_changed_run (hr.mono (by decide)) rfl (pa_cons (pv 5) (pa_cons (pe_callTy (lstQ K) rfl z_list (by decide +kernel) (pa_cons (pv 5) pa_nil)) pa_nil))) pe_non (nomark _))))))))))))))))))))), ?_⟩
  refine ⟨.ref a, rfl, a, ns, rfl, hC, hl, fun p H0 np o0 hP0 => ?_⟩
  refine ⟨Nat.zero_le _, fun t nt => ?_⟩
  have ntp : t ≠ p := hP0.ne nt
  -- told
  refine ⟨.ref p, rfl, p, a, 300, rfl, hP0.new nt, by decide, by decide, fun n H1 n0 n1 o1 P1 => ?_⟩
  refine ⟨n, rfl, by omega, by omega, for_range (lo := 0) (n := n.toNat) (fun i σ G => ∃ (x3 : Option V) (bs : List Nat), σ = [some (.ref a), some (.ref p), some (.ref t), x3, none, none, none, none, none, none, none, none, none, none, none] ∧ PoolAt K G p a ∧ G t = some (.lst (bv bs)) ∧ bs.length = i ∧ Bytes bs) ⟨_, [], rfl, P1, o1.get ntp upd_same, rfl, fun b hb => by cases hb⟩ ?_ ?_⟩
  · rintro i σ G hi ⟨x3, bs, rfl, PG, et, lb, by_⟩
    refine ⟨fun σ' G' => σ' = [some (.ref a), some (.ref p), some (.ref t), some (.int (0 + i)), none, none, none, none, none, none, none, none, none, none, none] ∧ PoolAt K G' p a ∧ G' t = some (.lst (bv bs)), ?_, ?_⟩
    · refine ⟨_, rfl, .inl ⟨_, rfl, _, _, rfl, rfl, (by show (0 : Int) < 7; decide), rfl, _, rfl, ite2 (fun _ => ?_) (fun _ => ?_)⟩⟩
      · exact ⟨.ref p, rfl, p, a, rfl, PG, fun G2 o2 P2 => ⟨rfl, P2, o2.get ntp et⟩⟩
      · exact ⟨rfl, PG, et⟩
    rintro σ' G2 ⟨rfl, P2, et2⟩
    refine ⟨.ref t, rfl, .inl ⟨rfl, _, SqL.of et2⟩, .ref p, rfl, p, a, 256, rfl, P2, by decide, by decide, fun v G3 v0 v1 o3 P3 => ?_⟩
    obtain ⟨b, rfl⟩ := Int.eq_ofNat_of_zero_le v0
    have et3 := o3.get ntp et2
    refine ⟨t, _, _, rfl, rfl, et3, by rw [bv_len]; exact sq_len (by omega), ?_⟩
    refine ⟨_, bs ++ [b], rfl, P3.put ntp et3, by rw [upd_same, bv_app]; rfl, by rw [List.length_append, lb]; rfl, fun c hc => ?_⟩
    rcases List.mem_append.mp hc with hc | hc
    · exact by_ c hc
    · rw [List.mem_singleton.mp hc]
      omega
  rintro σ G2 ⟨x3, bs, rfl, P2, et, lb, by_⟩
  have lb3 : bs.length < 300 := by omega
  -- some
  refine ⟨.ref t, rfl, _, rfl, t, _, rfl, SqL.of et, fun u n3 => ?_⟩
  generalize h3 : L2.upd G2 u _ = G3
  have s3 := new_of n3 h3
  have e3 := at_of h3
  try dsimp only at e3
  clear h3
  have ec : cutV (bv bs) none (some 60) = bv (bs.take 60) := by
    rw [show (60 : Int) = ((60 : Nat) : Int) from rfl, cut_lt, bv_take]
  rw [ec] at e3
  have l60 : (bs.take 60).length ≤ 60 := by rw [List.length_take]; omega
  refine ⟨by show 1 ≤ sizeLine; decide, fun z n4 => ?_⟩
  generalize h4 : L2.upd G3 z _ = G4
  have s4 := new_of n4 h4
  have e4 := at_of h4
  try dsimp only at e4
  clear h4
  refine ⟨.ref t, rfl, _, rfl, t, _, rfl, by nofun, fun u2 n5 => ?_⟩
  generalize h5 : L2.upd G4 u2 _ = G5
  have s5 := new_of n5 h5
  have e5 := at_of h5
  try dsimp only at e5
  clear h5
  rw [ec] at e5
  refine ⟨u2, _, rfl, .inl (SqL.of e5), _, _, rfl, rfl, ?_⟩
  refine ⟨z, ((60 - (bs.take 60).length : Nat) : Int), [.int 0], rfl, (by
    show V.int (60 - ((bv (bs.take 60)).length : Int)) = _
    rw [bv_len]
    congr 1
    omega), by nofun, by omega, by omega, big (by rw [Int.toNat_natCast]; show 1 * _ ≤ 900000; omega), fun y n6 => ?_⟩
  generalize h6 : L2.upd G5 y _ = G6
  have s6 := new_of n6 h6
  have e6 := at_of h6
  try dsimp only at e6
  clear h6
  have er : ∀ m : Nat, (List.replicate ((m : Nat) : Int).toNat [V.int 0]).flatten = bv (List.replicate m 0) := fun m => by
    rw [Int.toNat_natCast]
    unfold bv
    rw [List.map_replicate]
    induction m with
    | zero => rfl
    | succ m ih => rw [List.replicate_succ, List.flatten_cons, ih, List.replicate_succ]; rfl
  rw [er] at e6
  refine ⟨u, y, _, _, rfl, rfl, by nofun, e6, big (by rw [bv_len, bv_len, List.length_replicate]; omega), fun so n7 => ?_⟩
  generalize h7 : L2.upd G6 so _ = G7
  have s7 := new_of n7 h7
  have e7 := at_of h7
  try dsimp only at e7
  clear h7
  rw [← bv_app] at e7
  obtain ⟨sm, hsm, lsm⟩ : ∃ sm, sm = bs.take 60 ++ List.replicate (60 - (bs.take 60).length) 0 ∧ sm.length = 60 := ⟨_, rfl, by rw [List.length_append, List.length_replicate]; omega⟩
  rw [← hsm] at e7
  -- the sums
  refine ⟨.ref so, rfl, so, _, rfl, .inl (SqL.of e7), fun q1 n8 => ?_⟩
  generalize h8 : L2.upd G7 q1 _ = G8
  have s8 := new_of n8 h8
  have e8 := at_of h8
  try dsimp only at e8
  clear h8
  refine ⟨q1, sm, rfl, SqL.of e8, fun r1 G9 s9 n9 e9 => ?_⟩
  refine ⟨by show 1 ≤ sizeLine; decide, fun z1 n10 => ?_⟩
  generalize h10 : L2.upd G9 z1 _ = G10
  have s10 := new_of n10 h10
  have e10 := at_of h10
  try dsimp only at e10
  clear h10
  refine ⟨z1, ((60 : Nat) : Int), [.int 0], rfl, rfl, e10, by decide, by decide, by decide, fun y1 n11 => ?_⟩
  generalize h11 : L2.upd G10 y1 _ = G11
  have s11 := new_of n11 h11
  have e11 := at_of h11
  try dsimp only at e11
  clear h11
  rw [er] at e11
  refine ⟨y1, _, rfl, SqL.of e11, fun r2 G12 s12 n12 e12 => ?_⟩
  rw [sum_none] at e12
  refine ⟨by show 2 ≤ sizeLine; decide, fun Z1 n13 => ?_⟩
  generalize h13 : L2.upd G12 Z1 _ = G13
  have s13 := new_of n13 h13
  have e13 := at_of h13
  try dsimp only at e13
  clear h13
  refine ⟨.ref so, rfl, so, sm, rfl, by nofun, by omega, fun r3 G14 s14 n14 e14 => ?_⟩
  refine ⟨by show 4 ≤ sizeLine; decide, fun r4 n15 => ?_⟩
  generalize h15 : L2.upd G14 r4 _ = G15
  have s15 := new_of n15 h15
  have e15 := at_of h15
  try dsimp only at e15
  clear h15
  refine ⟨by show 2 ≤ sizeLine; decide, fun Z2 n16 => ?_⟩
  generalize h16 : L2.upd G15 Z2 _ = G16
  have s16 := new_of n16 h16
  have e16 := at_of h16
  try dsimp only at e16
  clear h16
  have lsum : (sumOf sm).length ≤ 1000000 := by show 4 ≤ _; decide
  refine ⟨.ref Z1, .ref Z2, .list [nd (sumOf sm), nd [0, 0, 0, 0]], rfl, DW.lst (by nofun) (by show 2 ≤ 1000000; decide) (.cons (DW.nums (by nofun) lsum 1) (.cons (DW.nums (by nofun) (by decide) 1) .nil)), DW.lst (by nofun) (by show 2 ≤ 1000000; decide) (.cons (DW.nums (by nofun) lsum 1) (.cons (DW.nums (bs := [0, 0, 0, 0]) (by nofun) (by decide) 1) .nil)), fun G17 s17 => ⟨_, rfl, iteF ?_⟩⟩
  -- the blocks
  have hcnt : cntOf bs < 65536 := by unfold cntOf; omega
  have hcnt7 : cntOf bs ≤ 6 := by unfold cntOf; omega
  have hcnt0 := cnt_pos bs
  have lW := blocks_length bs
  have bW := bytes_blocks by_ hcnt
  have dW := data_full hcnt
  have chg : ∀ y : List Nat, Bytes y → ∀ a w f : Nat, y.length = (blocksOf bs).length → Agree (bitsOf (blocksOf bs)) (bitsOf y) a w → w ≤ 32 → (bitsOf y)[f]? ≠ (bitsOf (blocksOf bs))[f]? →
      (∃ p rest, wrongs (blocksOf bs) y = p :: rest ∧ Crc.dataOf y = Told.block (p / 64 + 1)) ∧ ∃ b rest, diffs (bitsOf (blocksOf bs)) (bitsOf y) = b :: rest := fun y hy a w f ly ag w32 ne => changed_first by_ hcnt hy ly ag w32 ne
  have cut_ : ∀ j r : Nat, j < cntOf bs → r < 64 → Crc.dataOf ((blocksOf bs).take (64 * j + r)) = Told.block (j + 1) := fun j r hj hr => data_cut hcnt hj hr
  have more_ : Crc.dataOf (blocksOf bs ++ [7]) = Told.block (cntOf bs + 1) := by rw [data_whole hcnt, if_neg (by simp)]
  have swap_ : 1 < cntOf bs → Crc.dataOf ((blocksOf bs).drop 64 ++ (blocksOf bs).take 64) = Told.block 1 := fun h => data_swap h hcnt
  refine ⟨.ref t, rfl, t, bs, rfl, by nofun, by omega, fun wb G18 s18 n18 e18 => ?_⟩
  refine ⟨.ref t, rfl, t, bv bs, rfl, .inl (by nofun), fun hd n19 => ?_⟩
  generalize h19 : L2.upd G18 hd _ = G19
  have s19 := new_of n19 h19
  have e19 := at_of h19
  try dsimp only at e19
  clear h19
  refine ⟨.ref hd, rfl, hd, bs, rfl, e19, by omega, fun r5 G20 s20 n20 e20 => ?_⟩
  generalize blocksOf bs = W at *
  refine ⟨.ref wb, rfl, wb, bv W, rfl, .inl (by nofun), fun l1 n21 => ?_⟩
  generalize h21 : L2.upd G20 l1 _ = G21
  have s21 := new_of n21 h21
  have e21 := at_of h21
  try dsimp only at e21
  clear h21
  refine ⟨l1, W, rfl, SqL.of e21, by omega, fun v G22 s22 hv => ?_⟩
  rw [dW] at hv
  obtain ⟨d1, d2, rfl, e22, e22'⟩ := hv
  refine ⟨by show 2 ≤ sizeLine; decide, fun Z3 n23 => ?_⟩
  generalize h23 : L2.upd G22 Z3 _ = G23
  have s23 := new_of n23 h23
  have e23 := at_of h23
  try dsimp only at e23
  clear h23
  refine ⟨.ref wb, rfl, .ref t, rfl, (by show 2 ≤ sizeLine; decide), fun d3 n24 => ?_⟩
  generalize h24 : L2.upd G23 d3 _ = G24
  have s24 := new_of n24 h24
  have e24 := at_of h24
  try dsimp only at e24
  clear h24
  refine ⟨by show 2 ≤ sizeLine; decide, fun Z4 n25 => ?_⟩
  generalize h25 : L2.upd G24 Z4 _ = G25
  have s25 := new_of n25 h25
  have e25 := at_of h25
  try dsimp only at e25
  clear h25
  have lW1 : W.length ≤ 1000000 := by omega
  have lb1 : bs.length ≤ 1000000 := by omega
  refine ⟨.ref Z3, .ref Z4, .list [nd W, .tuple [.str "data", nd bs]], rfl,
    DW.lst (by nofun) (by show 2 ≤ 1000000; decide) (.cons (DW.nums (by nofun) lW1 1) (.cons (DW.tup (by nofun) (by show 2 ≤ 1000000; decide) (.cons rfl (.cons (DW.nums (by nofun) lb1 0) .nil))) .nil)),
    DW.lst (by nofun) (by show 2 ≤ 1000000; decide) (.cons (DW.nums (by nofun) lW1 1) (.cons (DW.tup (by nofun) (by show 2 ≤ 1000000; decide) (.cons rfl (.cons (DW.nums (by nofun) lb1 0) .nil))) .nil)), fun G26 s26 => ⟨_, rfl, iteF ?_⟩⟩
  refine ⟨.ref hd, rfl, .ref t, rfl, nd bs, nd bs, dp_list (by nofun), dp_list (by nofun), shaped_nums bs, shaped_nums bs, _, rfl, ifV (b := false) (by rw [eqv_nums, decide_eq_true rfl]; rfl) (iteF ?_)⟩
  have nwp : wb ≠ p := PoolAt.ne (H := G17) (by nofun) n18
  have ew26 : G26 wb = some (.lst (bv W)) := by nofun
  have P26 : PoolAt K G26 p a := by nofun
  clear e3 e4 e5 e6 e7 e8 e9 e10 e11 e12 e13 e14 e15 e16 e18 e19 e20 e21 e22 e22' e23 e24 e25 s3 s4 s5 s6 s7 s8 s9 s10 s11 s12 s13 s14 s15 s16 s17 s18 s19 s20 s21 s22 s23 s24 s25 s26 et P2
  have lWi : ((bv W).length : Int) = ((64 * cntOf bs : Nat) : Int) := by rw [bv_len, lW]
  -- for k in range(6)
  refine ⟨6, rfl, by decide, by decide, for_range (lo := 0) (n := 6) (fun i σ G => ∃ x3 x7 x8 x9 x10 x11 : Option V, σ = [some (.ref a), some (.ref p), some (.ref t), x3, some (.ref so), some (.ref wb), some (.ref hd), x7, x8, x9, x10, x11, none, none, none] ∧ PoolAt K G p a ∧ G wb = some (.lst (bv W))) ⟨_, _, _, _, _, _, rfl, P26, ew26⟩ ?_ ?_⟩
  · rintro k σ G hk ⟨x3, x7, x8, x9, x10, x11, rfl, PG, ew⟩
    refine ⟨.ref p, rfl, p, a, rfl, PG, fun G1 o1 P1 => ?_⟩
    have ew1 := o1.get nwp ew
    refine ⟨.ref p, rfl, .ref wb, rfl, wb, _, rfl, .inl (SqL.of ew1), _, _, rfl, rfl, .inl ⟨by decide, by decide⟩, p, a, _, rfl, P1, by omega, by omega, fun v G2 v0 v1 o2 P2 => ?_⟩
    have ew2 := o2.get nwp ew1
    obtain ⟨fi0, rfl⟩ := Int.eq_ofNat_of_zero_le v0
    refine ⟨fun σ' G' => ∃ fi : Nat, fi < 8 * W.length ∧ σ' = [some (.ref a), some (.ref p), some (.ref t), some (.int (0 + k)), some (.ref so), some (.ref wb), some (.ref hd), some (.int (fi : Nat)), x8, x9, x10, x11, none, none, none] ∧ PoolAt K G' p a ∧ G' wb = some (.lst (bv W)), ?_, ?_⟩
    · refine ⟨_, rfl, rfl, _, rfl, ite2 (fun _ => ?_) (fun _ => ?_)⟩
      · refine ⟨.ref p, rfl, .ref wb, rfl, wb, _, rfl, .inl (SqL.of ew2), _, _, rfl, rfl, ⟨by decide, by decide⟩, p, a, _, rfl, P2, by omega, by omega, fun d1 G3 d10 d11 o3 P3 => ⟨_, _, rfl, rfl, _, _, rfl, rfl, .inl ⟨by decide, by decide⟩, _, _, rfl, rfl, .ref p, rfl, p, a, 20, rfl, P3, by decide, by decide, fun d2 G4 d20 d21 o4 P4 => ⟨_, _, rfl, rfl, _, _, rfl, ?_⟩⟩⟩
        obtain ⟨fi, efi, hfi⟩ : ∃ fi : Nat, (if (0 : Int) > 512 * (1 + d1) - 1 - d2 then (0 : Int) else 512 * (1 + d1) - 1 - d2) = (fi : Int) ∧ fi < 8 * W.length := by
          refine ⟨(if (0 : Int) > 512 * (1 + d1) - 1 - d2 then (0 : Int) else 512 * (1 + d1) - 1 - d2).toNat, ?_, ?_⟩ <;> split <;> omega
        exact ⟨fi, hfi, by rw [← efi]; rfl, P4, o4.get nwp (o3.get nwp ew2)⟩
      · exact ⟨fi0, by omega, rfl, P2, ew2⟩
    rintro σ' G4 ⟨fi, hfi, rfl, P4, ew4⟩
    -- bent
    refine ⟨.ref p, rfl, .ref wb, rfl, _, rfl, .ref p, rfl, p, a, 32, rfl, P4, by decide, by decide, fun d G5 d0 d1 o5 P5 => ?_⟩
    obtain ⟨wide, rfl⟩ := Int.eq_ofNat_of_zero_le d0
    have ew5 := o5.get nwp ew4
    refine ⟨_, _, rfl, rfl, p, a, wb, W, fi, 1 + wide, (by
      show [V.ref p, V.ref wb, V.int (fi : Nat), V.int (1 + (wide : Int))] ++ [] = _
      rw [show (1 : Int) + (wide : Int) = ((1 + wide : Nat) : Int) by omega]
      rfl), P5, nwp, ew5, by omega, hfi, by omega, fun be y G6 b6 P6 nbe ebe ly by6 ag ne6 => ?_⟩
    have ew6 := b6.get nwp ew5
    -- wrong
    refine ⟨.ref wb, rfl, wb, _, rfl, .inl (SqL.of ew6), _, rfl, by omega, by omega, fun D nD => lc_range (lo := 0) (n := ((bv W).length : Int).toNat) (fun i G => Same G6 G ∧ G D = some (.lst (bv ((List.range i).filter fun j => decide (y[j]? ≠ W[j]?))))) ⟨Same.new nD, upd_same⟩ ?_ ?_⟩
    · rintro i G hi ⟨sg, ed⟩
      have hi : i < W.length := by rw [Int.toNat_natCast, bv_len] at hi; exact hi
      refine ⟨rfl, ?_⟩
      obtain ⟨yi, hy⟩ : ∃ yi, y[i]? = some yi := ⟨_, List.getElem?_eq_getElem (by omega)⟩
      obtain ⟨wi, hw⟩ : ∃ wi, W[i]? = some wi := ⟨_, List.getElem?_eq_getElem hi⟩
      have e0 : (0 : Int) + (i : Int) = (i : Int) := by omega
      have lf := List.length_filter_le (fun j => decide (y[j]? ≠ W[j]?)) (List.range i)
      rw [List.length_range] at lf
      refine ⟨.ref be, rfl, _, rfl, be, _, _, _, rfl, rfl, by nofun, (by rw [e0]; exact atI_nat (bv_get hy)), .ref wb, rfl, _, rfl, wb, _, _, _, rfl, rfl, by nofun, (by rw [e0]; exact atI_nat (bv_get hw)), rfl, _, rfl, ?_⟩
      by_cases eq : yi = wi
      · refine ifnD (by rw [eq]) ⟨sg, ?_⟩
        rw [filter_one, hy, hw, eq, if_neg (by simp), List.append_nil]
        exact ed
      · refine ifnND (fun z => eq (by have := V.int.inj z; omega)) ⟨_, rfl, _, ed, by rw [bv_len]; exact sq_len (by omega), same_mut sg nD, ?_⟩
        rw [upd_same, filter_one, hy, hw, if_pos (by simp [eq]), bv_app]
        show some (HO.lst (_ ++ [V.int (0 + (i : Int))])) = _
        rw [e0]
        rfl
    rintro G7 ⟨s7, ed⟩
    rw [Int.toNat_natCast, bv_len] at ed
    -- bits
    refine ⟨fun σ' G' => ∃ bi : Addr, σ' = [some (.ref a), some (.ref p), some (.ref t), some (.int (0 + k)), some (.ref so), some (.ref wb), some (.ref hd), some (.int (fi : Nat)), some (.ref be), some (.ref D), x10, some (.ref bi), none, none, none] ∧ Same G7 G' ∧ (k < 2 → G' bi = some (.lst (bv (diffs (bitsOf W) (bitsOf y))))), ?_, ?_⟩
    · refine ⟨_, rfl, _, _, rfl, rfl, _, rfl, ite2 (fun c => ?_) (fun c => ?_)⟩
      · have l8 : ((bv W).length : Int) * 8 = ((8 * W.length : Nat) : Int) := by rw [bv_len]; omega
        refine ⟨.ref wb, rfl, wb, _, rfl, .inl (by nofun), _, _, rfl, rfl, .inl ⟨by decide, by decide⟩, ((8 * W.length : Nat) : Int), (by show [V.int (8 * ((bv W).length : Int))] = _; rw [Int.mul_comm, l8]), by omega, by omega, fun D2 nD2 => lc_range (lo := 0) (n := ((8 * W.length : Nat) : Int).toNat) (fun i G => Same G7 G ∧ G D2 = some (.lst (bv ((List.range i).filter fun j => decide ((bitsOf W)[j]? ≠ (bitsOf y)[j]?))))) ⟨Same.new nD2, upd_same⟩ ?_ ?_⟩
        · rintro i G8 hi ⟨s8, ed2⟩
          rw [Int.toNat_natCast] at hi
          obtain ⟨yb, hyb⟩ : ∃ yb, y[i / 8]? = some yb := ⟨_, List.getElem?_eq_getElem (by omega)⟩
          obtain ⟨wb', hwb⟩ : ∃ wb', W[i / 8]? = some wb' := ⟨_, List.getElem?_eq_getElem (by omega)⟩
          have e0 : (0 : Int) + (i : Int) = (i : Int) := by omega
          have eq8 : ((i : Nat) : Int) / 8 = ((i / 8 : Nat) : Int) := by omega
          have em8 : ((i : Nat) : Int) % 8 = ((i % 8 : Nat) : Int) := by omega
          have ei : 8 * (i / 8) + i % 8 = i := by omega
          have lt8 : i % 8 < 8 := by omega
          have by1 := bits_at hyb lt8
          have bw1 := bits_at hwb lt8
          rw [ei] at by1 bw1
          have one : ∀ b : Nat, (bbv (bitsOf [b]))[i % 8]? = some (.int (bitI (b.testBit (7 - i % 8)))) := fun b => bbv_get (by
            have := bits_at (bs := [b]) (i := 0) rfl lt8
            rw [Nat.mul_zero, Nat.zero_add] at this
            exact this)
          have lf := List.length_filter_le (fun j => decide ((bitsOf W)[j]? ≠ (bitsOf y)[j]?)) (List.range i)
          rw [List.length_range] at lf
          refine ⟨rfl, ?_⟩
          rw [e0]
          refine ⟨.ref be, rfl, _, rfl, _, _, rfl, rfl, ⟨by decide, by decide⟩, _, rfl, _, rfl, _, _, rfl, rfl, ⟨by decide, by decide⟩, _, _, rfl, rfl, _, rfl, be, _, rfl, by nofun, fun c1 n9 => ?_⟩
          generalize h9 : L2.upd G8 c1 _ = G9
          have s9 := new_of n9 h9
          have e9 := at_of h9
          try dsimp only at e9
          clear h9
          rw [eq8, slice_one hyb] at e9
          refine ⟨c1, [yb], rfl, SqL.of e9, by show 1 ≤ 100000; decide, fun c2 G10 s10 n10 e10 => ?_⟩
          refine ⟨_, rfl, .inl ⟨_, rfl, _, _, rfl, rfl, (by show (0 : Int) < 8; decide), c2, _, _, _, rfl, rfl, SqL.of e10, (by rw [em8]; exact atI_nat (one yb)), ?_⟩⟩
          refine ⟨.ref wb, rfl, _, rfl, _, _, rfl, rfl, ⟨by decide, by decide⟩, _, rfl, _, rfl, _, _, rfl, rfl, ⟨by decide, by decide⟩, _, _, rfl, rfl, _, rfl, wb, _, rfl, by nofun, fun c3 n11 => ?_⟩
          generalize h11 : L2.upd G10 c3 _ = G11
          have s11 := new_of n11 h11
          have e11 := at_of h11
          try dsimp only at e11
          clear h11
          rw [eq8, slice_one hwb] at e11
          refine ⟨c3, [wb'], rfl, SqL.of e11, by show 1 ≤ 100000; decide, fun c4 G12 s12 n12 e12 => ?_⟩
          refine ⟨_, rfl, .inl ⟨_, rfl, _, _, rfl, rfl, (by show (0 : Int) < 8; decide), c4, _, _, _, rfl, rfl, SqL.of e12, (by rw [em8]; exact atI_nat (one wb')), rfl, _, rfl, ?_⟩⟩
          have s13 := (((s8.trans s9).trans s10).trans s11).trans s12
          have ed12 : G12 D2 = some (.lst (bv ((List.range i).filter fun j => decide ((bitsOf W)[j]? ≠ (bitsOf y)[j]?)))) := by
            have := (((s9.trans s10).trans s11).trans s12) _ _ ed2
            exact this
          refine ifnB (bitI_eq _ _) ?_
          cases eb : (yb.testBit (7 - i % 8) == wb'.testBit (7 - i % 8)) with
          | true =>
            refine iteT ⟨s13, ?_⟩
            rw [filter_one, by1, bw1, eq_of_beq eb, if_neg (by simp), List.append_nil]
            exact ed12
          | false =>
            refine iteF ⟨_, rfl, _, ed12, by rw [bv_len]; exact sq_len (by omega), same_mut s13 nD2, ?_⟩
            rw [upd_same, filter_one, by1, bw1, if_pos (by
              revert eb
              cases yb.testBit (7 - i % 8) <;> cases wb'.testBit (7 - i % 8) <;> decide), bv_app]
            rfl
        · rintro G8 ⟨s8, ed2⟩
          rw [Int.toNat_natCast] at ed2
          refine ⟨D2, rfl, s8, fun _ => ?_⟩
          rw [ed2]
          unfold diffs
          rw [bitsOf_length]
      · refine ⟨Nat.zero_le _, fun bi n8 => ⟨bi, rfl, Same.new n8, fun lt => ?_⟩⟩
        exact absurd (decide_eq_true (show (0 : Int) + (k : Int) < 2 by omega)) c
    rintro σ' G8 ⟨bi, rfl, s8, ebi⟩
    obtain ⟨⟨p0, rest, ewr, ey⟩, b0, rest2, edf⟩ := chg y by6 fi (1 + wide) fi ly ag (by omega) ne6
    have ed : G7 D = some (.lst (bv (wrongs W y))) := ed
    rw [ewr] at ed
    have two : ∀ a b : V, [a, b].length ≤ 1000000 := fun _ _ => by show 2 ≤ 1000000; decide
    refine ⟨.ref be, rfl, be, bv y, rfl, .inl (by nofun), fun l2 n9 => ?_⟩
    generalize h9 : L2.upd G8 l2 _ = G9
    have s9 := new_of n9 h9
    have e9 := at_of h9
    try dsimp only at e9
    clear h9
    refine ⟨l2, y, rfl, SqL.of e9, by omega, fun v G10 s10 hv => ?_⟩
    rw [ey] at hv
    obtain ⟨d1, rfl, e10⟩ := hv
    refine ⟨.ref D, rfl, D, bv (p0 :: rest), _, _, rfl, rfl, by nofun, atI_nat (j := 0) rfl, _, _, rfl, rfl, ⟨by decide, by decide⟩, _, _, rfl, rfl, (by show 2 ≤ sizeLine; decide), fun d2 n11 => ?_⟩
    generalize h11 : L2.upd G10 d2 _ = G11
    have s11 := new_of n11 h11
    have e11 := at_of h11
    try dsimp only at e11
    clear h11
    rw [show ((p0 : Nat) : Int) / 64 + 1 = ((p0 / 64 + 1 : Nat) : Int) by omega] at e11
    refine ⟨.ref d1, .ref d2, .tuple [.str "block", .int ((p0 / 64 + 1 : Nat) : Int)], rfl, DW.tup (by nofun) (two _ _) (.cons rfl (.cons rfl .nil)), DW.tup (by nofun) (two _ _) (.cons rfl (.cons rfl .nil)), fun G12 s12 => ⟨_, rfl, iteF ?_⟩⟩
    refine ⟨_, rfl, _, _, rfl, rfl, _, rfl, ite2 (fun c => ?_) (fun c => iteF ?_)⟩
    · have lt : k < 2 := by have := of_decide_eq_true c; omega
      have ebi := ebi lt
      obtain ⟨la, hla⟩ : ∃ la, (diffs (bitsOf W) (bitsOf y)).getLast? = some la := by rw [edf]; exact ⟨_, List.getLast?_eq_some_getLast (List.cons_ne_nil b0 rest2)⟩
      refine ⟨.ref wb, rfl, wb, bv W, rfl, .inl (by nofun), fun l3 n13 => ?_⟩
      generalize h13 : L2.upd G12 l3 _ = G13
      have s13 := new_of n13 h13
      have e13 := at_of h13
      try dsimp only at e13
      clear h13
      refine ⟨.ref be, rfl, be, bv y, rfl, .inl (by nofun), fun l4 n14 => ?_⟩
      generalize h14 : L2.upd G13 l4 _ = G14
      have s14 := new_of n14 h14
      have e14 := at_of h14
      try dsimp only at e14
      clear h14
      refine ⟨l3, l4, W, y, rfl, by nofun, by nofun, by omega, by omega, fun v G15 s15 hv => ?_⟩
      obtain ⟨d3, rfl, e15⟩ := hv.2 b0 la (by rw [edf]; rfl) hla
      refine ⟨.ref bi, rfl, bi, bv (diffs (bitsOf W) (bitsOf y)), _, _, rfl, rfl, by nofun, (by rw [edf]; exact atI_nat (j := 0) rfl), .ref bi, rfl, _, rfl, bi, bv (diffs (bitsOf W) (bitsOf y)), _, _, rfl, rfl, by nofun, at_last hla, (by show 2 ≤ sizeLine; decide), fun d4 n16 => ?_⟩
      generalize h16 : L2.upd G15 d4 _ = G16
      have s16 := new_of n16 h16
      have e16 := at_of h16
      try dsimp only at e16
      clear h16
      refine ⟨.ref d3, .ref d4, .tuple [.int (b0 : Nat), .int (la : Nat)], rfl, DW.tup (by nofun) (two _ _) (.cons rfl (.cons rfl .nil)), DW.tup (by nofun) (two _ _) (.cons rfl (.cons rfl .nil)), fun G17 s17 => ⟨_, rfl, iteF ?_⟩⟩
      exact ⟨_, _, _, _, _, _, rfl, by nofun, by nofun⟩
    · exact ⟨_, _, _, _, _, _, rfl, by nofun, by nofun⟩
  rintro σ G0 ⟨x3, x7, x8, x9, x10, x11, rfl, P0, ew0⟩
  have two : ∀ a b : V, [a, b].length ≤ 1000000 := fun _ _ => by show 2 ≤ 1000000; decide
  have three : ∀ a b c : V, [a, b, c].length ≤ 1000000 := fun _ _ _ => by show 3 ≤ 1000000; decide
  have eMany : ((bv W).length : Int) / 64 = ((cntOf bs : Nat) : Int) := by omega
  refine ⟨.ref wb, rfl, wb, _, rfl, .inl (SqL.of ew0), _, _, rfl, rfl, ⟨by decide, by decide⟩, ?_⟩
  refine ⟨.ref p, rfl, _, rfl, p, a, ((cntOf bs : Nat) : Int), (by show [V.ref p, V.int (((bv W).length : Int) / 64)] ++ [] = _; rw [eMany]; rfl), P0, by omega, by omega, fun v G1 v0 v1 o1 P1 => ?_⟩
  obtain ⟨j, rfl⟩ := Int.eq_ofNat_of_zero_le v0
  have ew1 := o1.get nwp ew0
  refine ⟨.ref wb, rfl, _, rfl, _, _, rfl, rfl, .inl ⟨by decide, by decide⟩, .ref p, rfl, p, a, 64, rfl, P1, by decide, by decide, fun v G2 v0 v1 o2 P2 => ?_⟩
  obtain ⟨r, rfl⟩ := Int.eq_ofNat_of_zero_le v0
  have ew2 := o2.get nwp ew1
  refine ⟨_, _, rfl, rfl, _, rfl, wb, _, rfl, SqL.of ew2, fun cu n3 => ?_⟩
  generalize h3 : L2.upd G2 cu _ = G3
  have s3 := new_of n3 h3
  have e3 := at_of h3
  try dsimp only at e3
  clear h3
  have ec : cutV (bv W) none (some (64 * (j : Int) + (r : Int))) = bv (W.take (64 * j + r)) := by
    rw [show 64 * (j : Int) + (r : Int) = ((64 * j + r : Nat) : Int) by omega, cut_lt, bv_take]
  rw [ec] at e3
  have eyc := cut_ j r (by omega) (by omega)
  -- cut, longer, none
  refine ⟨.ref cu, rfl, cu, _, rfl, SqL.of e3, by rw [List.length_take]; omega, fun v G4 s4 hv => ?_⟩
  rw [eyc] at hv
  obtain ⟨d1, rfl, e4⟩ := hv
  refine ⟨.ref wb, rfl, (by show 1 ≤ sizeLine; decide), fun z n5 => ?_⟩
  generalize h5 : L2.upd G4 z _ = G5
  have s5 := new_of n5 h5
  have e5 := at_of h5
  try dsimp only at e5
  clear h5
  refine ⟨wb, z, _, _, rfl, rfl, by nofun, e5, big (by rw [bv_len]; show W.length + 1 ≤ _; omega), fun y n6 => ?_⟩
  generalize h6 : L2.upd G5 y _ = G6
  have s6 := new_of n6 h6
  have e6 := at_of h6
  try dsimp only at e6
  clear h6
  have e6 : G6 y = some (.lst (bv (W ++ [7]))) := by rw [e6, bv_app]; rfl
  refine ⟨y, W ++ [7], rfl, SqL.of e6, by rw [List.length_append]; show W.length + 1 ≤ _; omega, fun v G7 s7 hv => ?_⟩
  rw [more_] at hv
  obtain ⟨d2, rfl, e7⟩ := hv
  refine ⟨Nat.zero_le _, fun em n8 => ?_⟩
  generalize h8 : L2.upd G7 em _ = G8
  have s8 := new_of n8 h8
  have e8 := at_of h8
  try dsimp only at e8
  clear h8
  refine ⟨em, [], rfl, SqL.of e8, Nat.zero_le _, fun v G9 s9 hv => ?_⟩
  rw [data_none] at hv
  obtain ⟨d3, rfl, e9⟩ := hv
  refine ⟨by show 3 ≤ sizeLine; decide, fun Z1 n10 => ?_⟩
  generalize h10 : L2.upd G9 Z1 _ = G10
  have s10 := new_of n10 h10
  have e10 := at_of h10
  try dsimp only at e10
  clear h10
  refine ⟨_, rfl, _, _, rfl, rfl, (by show 2 ≤ sizeLine; decide), fun d4 n11 => ?_⟩
  generalize h11 : L2.upd G10 d4 _ = G11
  have s11 := new_of n11 h11
  have e11 := at_of h11
  try dsimp only at e11
  clear h11
  refine ⟨_, rfl, _, _, rfl, rfl, (by show 2 ≤ sizeLine; decide), fun d5 n12 => ?_⟩
  generalize h12 : L2.upd G11 d5 _ = G12
  have s12 := new_of n12 h12
  have e12 := at_of h12
  try dsimp only at e12
  clear h12
  refine ⟨by show 2 ≤ sizeLine; decide, fun d6 n13 => ?_⟩
  generalize h13 : L2.upd G12 d6 _ = G13
  have s13 := new_of n13 h13
  have e13 := at_of h13
  try dsimp only at e13
  clear h13
  refine ⟨by show 3 ≤ sizeLine; decide, fun Z2 n14 => ?_⟩
  generalize h14 : L2.upd G13 Z2 _ = G14
  have s14 := new_of n14 h14
  have e14 := at_of h14
  try dsimp only at e14
  clear h14
  have e12 : G12 d5 = some (.tup [.str "block", .int ((cntOf bs + 1 : Nat) : Int)]) := by
    rw [e12]
    show some (HO.tup [.str "block", .int (((bv W).length : Int) / 64 + 1)]) = _
    rw [eMany]
    rfl
  have blk1 : ∀ (G : Hp) (d : Addr) (n : Int), G d = some (.tup [.str "block", .int n]) → DW K G 3 (.ref d) (.tuple [.str "block", .int n]) := fun G d n h => DW.tup (SqT.of h) (two _ _) (.cons rfl (.cons rfl .nil))
  refine ⟨.ref Z1, .ref Z2, .list [.tuple [.str "block", .int ((j + 1 : Nat) : Int)], .tuple [.str "block", .int ((cntOf bs + 1 : Nat) : Int)], .tuple [.str "block", .int ((1 : Nat) : Int)]], rfl,
    DW.lst (by nofun) (three _ _ _) (.cons (blk1 _ _ _ (by nofun)) (.cons (blk1 _ _ _ (by nofun)) (.cons (blk1 _ _ _ (by nofun)) .nil))),
    DW.lst (by nofun) (three _ _ _) (.cons (blk1 _ _ _ (by nofun)) (.cons (blk1 _ _ _ (by nofun)) (.cons (blk1 _ _ _ (by nofun)) .nil))), fun G15 s15 => ⟨_, rfl, iteF ?_⟩⟩
  have ew15 : G15 wb = some (.lst (bv W)) := by nofun
  clear e3 e4 e5 e6 e7 e8 e9 e10 e11 e12 e13 e14 s4 s5 s7 s8 s9 s10 s11 s12 s13 s14 s15
  have blk2 : ∀ (G : Hp) (d : Addr) (n : Int), G d = some (.tup [.str "block", .int n]) → DW K G 4 (.ref d) (.tuple [.str "block", .int n]) := fun G d n h => DW.tup (SqT.of h) (two _ _) (.cons rfl (.cons rfl .nil))
  refine ⟨fun σ' G' => σ' = [some (.ref a), some (.ref p), some (.ref t), x3, some (.ref so), some (.ref wb), some (.ref hd), x7, x8, x9, some (.int (j : Nat)), x11, some (.int (((bv W).length : Int) / 64)), some (.ref cu), none] ∧ Same G15 G', ?_, ?_⟩
  · refine ⟨_, rfl, _, _, rfl, rfl, _, rfl, ite2 (fun c => ?_) (fun c => iteF ⟨rfl, Same.refl _⟩)⟩
    have c1 : 1 < cntOf bs := by
      have := of_decide_eq_true c
      omega
    have eys := swap_ c1
    refine ⟨.ref wb, rfl, _, rfl, wb, _, rfl, SqL.of ew15, fun u n16 => ?_⟩
    generalize h16 : L2.upd G15 u _ = G16
    have s16 := new_of n16 h16
    have e16 := at_of h16
    try dsimp only at e16
    clear h16
    rw [show cutV (bv W) (some 64) none = bv (W.drop 64) by rw [show (64 : Int) = ((64 : Nat) : Int) from rfl, cut_ge, bv_drop]] at e16
    refine ⟨.ref wb, rfl, _, rfl, wb, _, rfl, by nofun, fun u2 n17 => ?_⟩
    generalize h17 : L2.upd G16 u2 _ = G17
    have s17 := new_of n17 h17
    have e17 := at_of h17
    try dsimp only at e17
    clear h17
    rw [show cutV (bv W) none (some 64) = bv (W.take 64) by rw [show (64 : Int) = ((64 : Nat) : Int) from rfl, cut_lt, bv_take]] at e17
    refine ⟨u, u2, _, _, rfl, rfl, by nofun, e17, big (by rw [bv_len, bv_len, List.length_drop, List.length_take]; omega), fun x n18 => ?_⟩
    generalize h18 : L2.upd G17 x _ = G18
    have s18 := new_of n18 h18
    have e18 := at_of h18
    try dsimp only at e18
    clear h18
    rw [← bv_app] at e18
    refine ⟨x, _, rfl, SqL.of e18, by rw [List.length_append, List.length_drop, List.length_take]; omega, fun v G19 s19 hv => ?_⟩
    rw [eys] at hv
    obtain ⟨d1, rfl, e19⟩ := hv
    refine ⟨by show 2 ≤ sizeLine; decide, fun d2 n20 => ?_⟩
    generalize h20 : L2.upd G19 d2 _ = G20
    have s20 := new_of n20 h20
    have e20 := at_of h20
    try dsimp only at e20
    clear h20
    refine ⟨.ref d1, .ref d2, .tuple [.str "block", .int ((1 : Nat) : Int)], rfl, blk2 _ _ _ (by nofun), blk2 _ _ _ (by nofun), fun G21 s21 => ⟨_, rfl, iteF ⟨rfl, ?_⟩⟩⟩
    exact (((((s16.trans s17).trans s18).trans s19).trans s20).trans s21)
  rintro σ' G16 ⟨rfl, s16⟩
  have ew16 := s16 _ _ ew15
  refine ⟨by show 4 ≤ sizeLine; decide, fun h4 n17 => ?_⟩
  generalize h17 : L2.upd G16 h4 _ = G17
  have s17 := new_of n17 h17
  have e17 := at_of h17
  try dsimp only at e17
  clear h17
  refine ⟨by show 1 ≤ sizeLine; decide, fun z n18 => ?_⟩
  generalize h18 : L2.upd G17 z _ = G18
  have s18 := new_of n18 h18
  have e18 := at_of h18
  try dsimp only at e18
  clear h18
  refine ⟨z, ((56 : Nat) : Int), [.int 0], rfl, rfl, e18, by decide, by decide, by decide, fun y n19 => ?_⟩
  generalize h19 : L2.upd G18 y _ = G19
  have s19 := new_of n19 h19
  have e19 := at_of h19
  try dsimp only at e19
  clear h19
  rw [er] at e19
  refine ⟨h4, y, _, _, rfl, rfl, by nofun, e19, (by show 60 ≤ sizeLine; decide), fun h6 n20 => ?_⟩
  generalize h20 : L2.upd G19 h6 _ = G20
  have s20 := new_of n20 h20
  have e20 := at_of h20
  try dsimp only at e20
  clear h20
  have e20 : G20 h6 = some (.lst (bv oneHead)) := e20
  refine ⟨.ref h6, rfl, .ref h6, rfl, h6, oneHead, rfl, SqL.of e20, (by show 60 ≤ 1000; decide), fun s1 G21 s21 n21 e21 => ?_⟩
  refine ⟨h6, s1, _, _, rfl, rfl, by nofun, e21, (by show 64 ≤ sizeLine; decide), fun x n22 => ?_⟩
  generalize h22 : L2.upd G21 x _ = G22
  have s22 := new_of n22 h22
  have e22 := at_of h22
  try dsimp only at e22
  clear h22
  rw [← bv_app] at e22
  refine ⟨x, _, rfl, SqL.of e22, (by show 64 ≤ 100000; decide), fun v G23 s23 hv => ?_⟩
  rw [data_head] at hv
  obtain ⟨d1, rfl, e23⟩ := hv
  refine ⟨by show 2 ≤ sizeLine; decide, fun d2 n24 => ?_⟩
  generalize h24 : L2.upd G23 d2 _ = G24
  have s24 := new_of n24 h24
  have e24 := at_of h24
  try dsimp only at e24
  clear h24
  refine ⟨.ref d1, .ref d2, .tuple [.str "block", .int ((1 : Nat) : Int)], rfl, blk2 _ _ _ (by nofun), blk2 _ _ _ (by nofun), fun G25 s25 => ?_⟩
  refine ⟨_, rfl, iteT ?_⟩
  refine ⟨.ref wb, rfl, .ref wb, rfl, wb, bv W, rfl, .inl (by nofun), fun l1 n26 => ?_⟩
  generalize h26 : L2.upd G25 l1 _ = G26
  have s26 := new_of n26 h26
  have e26 := at_of h26
  try dsimp only at e26
  clear h26
  refine ⟨wb, l1, W, W, rfl, by nofun, by nofun, by omega, rfl, fun v G27 s27 hv => ?_⟩
  obtain rfl := hv.1 (diffs_self _)
  exact ⟨rfl, q _⟩
end
end My
set_option Elab.async false
set_option linter.all false
set_option maxRecDepth 100000
set_option maxHeartbeats 4000000
namespace My
open PySem PySem.Spec PyProof.Rows L2
theorem all_mk {l : PySem.W.OpenLaw} {w : World} {K : PySem.W.Frag} {h : Heap} {mg : Str → Option Value} {fa : Addr} (X : K.In h) (G : h.Ns mainGlobals mg) (hfa : mg "law" = some (.ref fa))
    {f0 : Addr} {od0 an0 : Option Addr} {sl0 : Array (Option Value)} {oc0 kV0 dc0 pm0 cd0 ct0 : Value}
    (a0 : PySem.W.nsIn K mainGlobals "sum_of_bits" = some (some (.ref f0))) (l0 : K.lookup f0 = some ⟨oc0, od0, .func (PySem.W.fnOf "sum_of_bits" "sum_of_bits" (defArgs st_sum_of_bits) (defBody st_sum_of_bits) (defScope st_sum_of_bits) .none kV0 dc0 pm0 an0 cd0 ct0), sl0⟩) (c0 : PySem.W.codeIn K cd0 "sum_of_bits" = true) (k0 : PySem.W.keepIn K (.ref f0) = true)
    {f1 : Addr} {od1 an1 : Option Addr} {sl1 : Array (Option Value)} {oc1 kV1 dc1 pm1 cd1 ct1 : Value}
    (a1 : PySem.W.nsIn K mainGlobals "block" = some (some (.ref f1))) (l1 : K.lookup f1 = some ⟨oc1, od1, .func (PySem.W.fnOf "block" "block" (defArgs st_block) (defBody st_block) (defScope st_block) .none kV1 dc1 pm1 an1 cd1 ct1), sl1⟩) (c1 : PySem.W.codeIn K cd1 "block" = true) (k1 : PySem.W.keepIn K (.ref f1) = true)
    {f2 : Addr} {od2 an2 : Option Addr} {sl2 : Array (Option Value)} {oc2 kV2 dc2 pm2 cd2 ct2 : Value}
    (a2 : PySem.W.nsIn K mainGlobals "blocks_of" = some (some (.ref f2))) (l2 : K.lookup f2 = some ⟨oc2, od2, .func (PySem.W.fnOf "blocks_of" "blocks_of" (defArgs st_blocks_of) (defBody st_blocks_of) (defScope st_blocks_of) .none kV2 dc2 pm2 an2 cd2 ct2), sl2⟩) (c2 : PySem.W.codeIn K cd2 "blocks_of" = true) (k2 : PySem.W.keepIn K (.ref f2) = true)
    {f3 : Addr} {od3 an3 : Option Addr} {sl3 : Array (Option Value)} {oc3 kV3 dc3 pm3 cd3 ct3 : Value}
    (a3 : PySem.W.nsIn K mainGlobals "is_block" = some (some (.ref f3))) (l3 : K.lookup f3 = some ⟨oc3, od3, .func (PySem.W.fnOf "is_block" "is_block" (defArgs st_is_block) (defBody st_is_block) (defScope st_is_block) .none kV3 dc3 pm3 an3 cd3 ct3), sl3⟩) (c3 : PySem.W.codeIn K cd3 "is_block" = true) (k3 : PySem.W.keepIn K (.ref f3) = true)
    {f4 : Addr} {od4 an4 : Option Addr} {sl4 : Array (Option Value)} {oc4 kV4 dc4 pm4 cd4 ct4 : Value}
    (a4 : PySem.W.nsIn K mainGlobals "without_end" = some (some (.ref f4))) (l4 : K.lookup f4 = some ⟨oc4, od4, .func (PySem.W.fnOf "without_end" "without_end" (defArgs st_without_end) (defBody st_without_end) (defScope st_without_end) .none kV4 dc4 pm4 an4 cd4 ct4), sl4⟩) (c4 : PySem.W.codeIn K cd4 "without_end" = true) (k4 : PySem.W.keepIn K (.ref f4) = true)
    {f5 : Addr} {od5 an5 : Option Addr} {sl5 : Array (Option Value)} {oc5 kV5 dc5 pm5 cd5 ct5 : Value}
    (a5 : PySem.W.nsIn K mainGlobals "data_of" = some (some (.ref f5))) (l5 : K.lookup f5 = some ⟨oc5, od5, .func (PySem.W.fnOf "data_of" "data_of" (defArgs st_data_of) (defBody st_data_of) (defScope st_data_of) .none kV5 dc5 pm5 an5 cd5 ct5), sl5⟩) (c5 : PySem.W.codeIn K cd5 "data_of" = true) (k5 : PySem.W.keepIn K (.ref f5) = true)
    {f6 : Addr} {od6 an6 : Option Addr} {sl6 : Array (Option Value)} {oc6 kV6 dc6 pm6 cd6 ct6 : Value}
    (a6 : PySem.W.nsIn K mainGlobals "changed_run" = some (some (.ref f6))) (l6 : K.lookup f6 = some ⟨oc6, od6, .func (PySem.W.fnOf "changed_run" "changed_run" (defArgs st_changed_run) (defBody st_changed_run) (defScope st_changed_run) .none kV6 dc6 pm6 an6 cd6 ct6), sl6⟩) (c6 : PySem.W.codeIn K cd6 "changed_run" = true) (k6 : PySem.W.keepIn K (.ref f6) = true)
    {f7 : Addr} {od7 an7 : Option Addr} {sl7 : Array (Option Value)} {oc7 kV7 dc7 pm7 cd7 ct7 : Value}
    (a7 : PySem.W.nsIn K mainGlobals "_law_mixed" = some (some (.ref f7))) (l7 : K.lookup f7 = some ⟨oc7, od7, .func (PySem.W.fnOf "_law_mixed" "_law_mixed" (defArgs st_law_mixed) (defBody st_law_mixed) (defScope st_law_mixed) .none kV7 dc7 pm7 an7 cd7 ct7), sl7⟩) (c7 : PySem.W.codeIn K cd7 "_law_mixed" = true) (k7 : PySem.W.keepIn K (.ref f7) = true)
    {f8 : Addr} {od8 an8 : Option Addr} {sl8 : Array (Option Value)} {oc8 kV8 dc8 pm8 cd8 ct8 : Value}
    (a8 : PySem.W.nsIn K mainGlobals "_law_rest" = some (some (.ref f8))) (l8 : K.lookup f8 = some ⟨oc8, od8, .func (PySem.W.fnOf "_law_rest" "_law_rest" (defArgs st_law_rest) (defBody st_law_rest) (defScope st_law_rest) .none kV8 dc8 pm8 an8 cd8 ct8), sl8⟩) (c8 : PySem.W.codeIn K cd8 "_law_rest" = true) (k8 : PySem.W.keepIn K (.ref f8) = true)
    {f9 : Addr} {od9 an9 : Option Addr} {sl9 : Array (Option Value)} {oc9 kV9 dc9 pm9 cd9 ct9 : Value}
    (a9 : PySem.W.nsIn K mainGlobals "_law_pool" = some (some (.ref f9))) (l9 : K.lookup f9 = some ⟨oc9, od9, .func (PySem.W.fnOf "_law_pool" "_law_pool" (defArgs st_law_pool) (defBody st_law_pool) (defScope st_law_pool) .none kV9 dc9 pm9 an9 cd9 ct9), sl9⟩) (c9 : PySem.W.codeIn K cd9 "_law_pool" = true) (k9 : PySem.W.keepIn K (.ref f9) = true)
    {f10 : Addr} {od10 an10 : Option Addr} {sl10 : Array (Option Value)} {oc10 kV10 dc10 pm10 cd10 ct10 : Value}
    (a10 : PySem.W.nsIn K mainGlobals "_law_next" = some (some (.ref f10))) (l10 : K.lookup f10 = some ⟨oc10, od10, .func (PySem.W.fnOf "_law_next" "_law_next" (defArgs st_law_next) (defBody st_law_next) (defScope st_law_next) .none kV10 dc10 pm10 an10 cd10 ct10), sl10⟩) (c10 : PySem.W.codeIn K cd10 "_law_next" = true) (k10 : PySem.W.keepIn K (.ref f10) = true)
    {f11 : Addr} {od11 an11 : Option Addr} {sl11 : Array (Option Value)} {oc11 kV11 dc11 pm11 cd11 ct11 : Value}
    (a11 : PySem.W.nsIn K mainGlobals "_law_draw" = some (some (.ref f11))) (l11 : K.lookup f11 = some ⟨oc11, od11, .func (PySem.W.fnOf "_law_draw" "_law_draw" (defArgs st_law_draw) (defBody st_law_draw) (defScope st_law_draw) .none kV11 dc11 pm11 an11 cd11 ct11), sl11⟩) (c11 : PySem.W.codeIn K cd11 "_law_draw" = true) (k11 : PySem.W.keepIn K (.ref f11) = true)
    {f12 : Addr} {od12 an12 : Option Addr} {sl12 : Array (Option Value)} {oc12 kV12 dc12 pm12 cd12 ct12 : Value}
    (a12 : PySem.W.nsIn K mainGlobals "_law_same" = some (some (.ref f12))) (l12 : K.lookup f12 = some ⟨oc12, od12, .func (PySem.W.fnOf "_law_same" "_law_same" (defArgs st_law_same) (defBody st_law_same) (defScope st_law_same) .none kV12 dc12 pm12 an12 cd12 ct12), sl12⟩) (c12 : PySem.W.codeIn K cd12 "_law_same" = true) (k12 : PySem.W.keepIn K (.ref f12) = true)
    {f13 : Addr} {od13 an13 : Option Addr} {sl13 : Array (Option Value)} {oc13 kV13 dc13 pm13 cd13 ct13 : Value}
    (a13 : PySem.W.nsIn K mainGlobals "_law_sum" = some (some (.ref f13))) (l13 : K.lookup f13 = some ⟨oc13, od13, .func (PySem.W.fnOf "_law_sum" "_law_sum" (defArgs st_law_sum) (defBody st_law_sum) (defScope st_law_sum) .none kV13 dc13 pm13 an13 cd13 ct13), sl13⟩) (c13 : PySem.W.codeIn K cd13 "_law_sum" = true) (k13 : PySem.W.keepIn K (.ref f13) = true)
    {f14 : Addr} {od14 an14 : Option Addr} {sl14 : Array (Option Value)} {oc14 kV14 dc14 pm14 cd14 ct14 : Value}
    (a14 : PySem.W.nsIn K mainGlobals "_law_bits" = some (some (.ref f14))) (l14 : K.lookup f14 = some ⟨oc14, od14, .func (PySem.W.fnOf "_law_bits" "_law_bits" (defArgs st_law_bits) (defBody st_law_bits) (defScope st_law_bits) .none kV14 dc14 pm14 an14 cd14 ct14), sl14⟩) (c14 : PySem.W.codeIn K cd14 "_law_bits" = true) (k14 : PySem.W.keepIn K (.ref f14) = true)
    {f15 : Addr} {od15 an15 : Option Addr} {sl15 : Array (Option Value)} {oc15 kV15 dc15 pm15 cd15 ct15 : Value}
    (a15 : PySem.W.nsIn K mainGlobals "_law_bytes_of_bits" = some (some (.ref f15))) (l15 : K.lookup f15 = some ⟨oc15, od15, .func (PySem.W.fnOf "_law_bytes_of_bits" "_law_bytes_of_bits" (defArgs st_law_bytes_of_bits) (defBody st_law_bytes_of_bits) (defScope st_law_bytes_of_bits) .none kV15 dc15 pm15 an15 cd15 ct15), sl15⟩) (c15 : PySem.W.codeIn K cd15 "_law_bytes_of_bits" = true) (k15 : PySem.W.keepIn K (.ref f15) = true)
    {f16 : Addr} {od16 an16 : Option Addr} {sl16 : Array (Option Value)} {oc16 kV16 dc16 pm16 cd16 ct16 : Value}
    (a16 : PySem.W.nsIn K mainGlobals "_law_blocks" = some (some (.ref f16))) (l16 : K.lookup f16 = some ⟨oc16, od16, .func (PySem.W.fnOf "_law_blocks" "_law_blocks" (defArgs st_law_blocks) (defBody st_law_blocks) (defScope st_law_blocks) .none kV16 dc16 pm16 an16 cd16 ct16), sl16⟩) (c16 : PySem.W.codeIn K cd16 "_law_blocks" = true) (k16 : PySem.W.keepIn K (.ref f16) = true)
    {f17 : Addr} {od17 an17 : Option Addr} {sl17 : Array (Option Value)} {oc17 kV17 dc17 pm17 cd17 ct17 : Value}
    (a17 : PySem.W.nsIn K mainGlobals "_law_changed" = some (some (.ref f17))) (l17 : K.lookup f17 = some ⟨oc17, od17, .func (PySem.W.fnOf "_law_changed" "_law_changed" (defArgs st_law_changed) (defBody st_law_changed) (defScope st_law_changed) .none kV17 dc17 pm17 an17 cd17 ct17), sl17⟩) (c17 : PySem.W.codeIn K cd17 "_law_changed" = true) (k17 : PySem.W.keepIn K (.ref f17) = true)
    {f18 : Addr} {od18 an18 : Option Addr} {sl18 : Array (Option Value)} {oc18 kV18 dc18 pm18 cd18 ct18 : Value}
    (a18 : PySem.W.nsIn K mainGlobals "law" = some (some (.ref f18))) (l18 : K.lookup f18 = some ⟨oc18, od18, .func (PySem.W.fnOf "law" "law" (defArgs st_law) (defBody st_law) (defScope st_law) .none kV18 dc18 pm18 an18 cd18 ct18), sl18⟩) (c18 : PySem.W.codeIn K cd18 "law" = true) (k18 : PySem.W.keepIn K (.ref f18) = true)
    {v0 : Tok} (q0 : PySem.W.nsIn K mainGlobals "SIZE" = some (some (.int 64 v0)))
    {v1 : Tok} (q1 : PySem.W.nsIn K mainGlobals "DATA" = some (some (.int 56 v1)))
    {v2 : Tok} (q2 : PySem.W.nsIn K mainGlobals "FACTORS" = some (some (.int 79764919 v2)))
    {v3 : Tok} (q3 : PySem.W.nsIn K mainGlobals "TOP" = some (some (.int 4294967296 v3)))
    (z_isinstance : PySem.W.nsIn K mainGlobals "isinstance" = some none)
    (z_dict : PySem.W.nsIn K mainGlobals "dict" = some none)
    (z_list : PySem.W.nsIn K mainGlobals "list" = some none)
    (z_tuple : PySem.W.nsIn K mainGlobals "tuple" = some none)
    (z_bool : PySem.W.nsIn K mainGlobals "bool" = some none)
    (z_str : PySem.W.nsIn K mainGlobals "str" = some none)
    (z_int : PySem.W.nsIn K mainGlobals "int" = some none)
    (z_len : PySem.W.nsIn K mainGlobals "len" = some none)
    (z_range : PySem.W.nsIn K mainGlobals "range" = some none)
    (z_all : PySem.W.nsIn K mainGlobals "all" = some none)
    (z_min : PySem.W.nsIn K mainGlobals "min" = some none)
    (z_max : PySem.W.nsIn K mainGlobals "max" = some none)
    (z_enumerate : PySem.W.nsIn K mainGlobals "enumerate" = some none)
    : ∃ fd : FuncData, (∀ (s : Shared) (v : Value), BindsTo s fd ⟨[v], []⟩ [("script", v)]) ∧ ∀ base : Heap, K.In base → base.Ns mainGlobals mg → FnOk l.prog w K mg base CX0 5 fa fd ["script"] (spLaw K) := by
  have T_sum_of_bits : Top K mg "sum_of_bits" st_sum_of_bits ["told"] := top_mk X G a0 l0 c0 k0 (fun _ _ _ _ _ _ us hl => match us, hl with | [_], _ => rfl)
  have T_block : Top K mg "block" st_block ["number", "count", "data"] := top_mk X G a1 l1 c1 k1 (fun _ _ _ _ _ _ us hl => match us, hl with | [_, _, _], _ => rfl)
  have T_blocks_of : Top K mg "blocks_of" st_blocks_of ["told"] := top_mk X G a2 l2 c2 k2 (fun _ _ _ _ _ _ us hl => match us, hl with | [_], _ => rfl)
  have T_is_block : Top K mg "is_block" st_is_block ["told", "number", "count"] := top_mk X G a3 l3 c3 k3 (fun _ _ _ _ _ _ us hl => match us, hl with | [_, _, _], _ => rfl)
  have T_without_end : Top K mg "without_end" st_without_end ["data"] := top_mk X G a4 l4 c4 k4 (fun _ _ _ _ _ _ us hl => match us, hl with | [_], _ => rfl)
  have T_data_of : Top K mg "data_of" st_data_of ["told"] := top_mk X G a5 l5 c5 k5 (fun _ _ _ _ _ _ us hl => match us, hl with | [_], _ => rfl)
  have T_changed_run : Top K mg "changed_run" st_changed_run ["one", "other"] := top_mk X G a6 l6 c6 k6 (fun _ _ _ _ _ _ us hl => match us, hl with | [_, _], _ => rfl)
  have T_law_mixed : Top K mg "_law_mixed" st_law_mixed ["number", "place"] := top_mk X G a7 l7 c7 k7 (fun _ _ _ _ _ _ us hl => match us, hl with | [_, _], _ => rfl)
  have T_law_rest : Top K mg "_law_rest" st_law_rest ["script", "place", "fills"] := top_mk X G a8 l8 c8 k8 (fun _ _ _ _ _ _ us hl => match us, hl with | [_, _, _], _ => rfl)
  have T_law_pool : Top K mg "_law_pool" st_law_pool ["script"] := top_mk X G a9 l9 c9 k9 (fun _ _ _ _ _ _ us hl => match us, hl with | [_], _ => rfl)
  have T_law_next : Top K mg "_law_next" st_law_next ["pool"] := top_mk X G a10 l10 c10 k10 (fun _ _ _ _ _ _ us hl => match us, hl with | [_], _ => rfl)
  have T_law_draw : Top K mg "_law_draw" st_law_draw ["pool", "limit"] := top_mk X G a11 l11 c11 k11 (fun _ _ _ _ _ _ us hl => match us, hl with | [_, _], _ => rfl)
  have T_law_same : Top K mg "_law_same" st_law_same ["answer", "due"] := top_mk X G a12 l12 c12 k12 (fun _ _ _ _ _ _ us hl => match us, hl with | [_, _], _ => rfl)
  have T_law_sum : Top K mg "_law_sum" st_law_sum ["told"] := top_mk X G a13 l13 c13 k13 (fun _ _ _ _ _ _ us hl => match us, hl with | [_], _ => rfl)
  have T_law_bits : Top K mg "_law_bits" st_law_bits ["told"] := top_mk X G a14 l14 c14 k14 (fun _ _ _ _ _ _ us hl => match us, hl with | [_], _ => rfl)
  have T_law_bytes_of_bits : Top K mg "_law_bytes_of_bits" st_law_bytes_of_bits ["bits"] := top_mk X G a15 l15 c15 k15 (fun _ _ _ _ _ _ us hl => match us, hl with | [_], _ => rfl)
  have T_law_blocks : Top K mg "_law_blocks" st_law_blocks ["told"] := top_mk X G a16 l16 c16 k16 (fun _ _ _ _ _ _ us hl => match us, hl with | [_], _ => rfl)
  have T_law_changed : Top K mg "_law_changed" st_law_changed ["pool", "told", "first", "wide"] := top_mk X G a17 l17 c17 k17 (fun _ _ _ _ _ _ us hl => match us, hl with | [_, _, _, _], _ => rfl)
  have T_law : Top K mg "law" st_law ["script"] := top_mk X G a18 l18 c18 k18 (fun _ _ _ _ _ _ us hl => match us, hl with | [_], _ => rfl)
  have m_SIZE := PySem.W.mg_of X G q0
  have m_DATA := PySem.W.mg_of X G q1
  have m_FACTORS := PySem.W.mg_of X G q2
  have m_TOP := PySem.W.mg_of X G q3
  replace z_isinstance := PySem.W.mg_none_of X G z_isinstance
  replace z_dict := PySem.W.mg_none_of X G z_dict
  replace z_list := PySem.W.mg_none_of X G z_list
  replace z_tuple := PySem.W.mg_none_of X G z_tuple
  replace z_bool := PySem.W.mg_none_of X G z_bool
  replace z_str := PySem.W.mg_none_of X G z_str
  replace z_int := PySem.W.mg_none_of X G z_int
  replace z_len := PySem.W.mg_none_of X G z_len
  replace z_range := PySem.W.mg_none_of X G z_range
  replace z_all := PySem.W.mg_none_of X G z_all
  replace z_min := PySem.W.mg_none_of X G z_min
  replace z_max := PySem.W.mg_none_of X G z_max
  replace z_enumerate := PySem.W.mg_none_of X G z_enumerate
  have e := hfa.symm.trans (PySem.W.mg_of X G a18)
  cases e
  refine ⟨PySem.W.fnOf "law" "law" (defArgs st_law) (defBody st_law) (defScope st_law) .none kV18 dc18 pm18 an18 cd18 ct18, fun s v => .of_eq rfl, fun base _ _ => ?_⟩
  have Z : ZSame mg := ⟨z_isinstance, z_dict, z_list, z_tuple, z_bool, z_str, z_int, z_len, z_range, z_all⟩
  have C : Consts mg := ⟨⟨_, m_SIZE⟩, ⟨_, m_DATA⟩, ⟨_, m_FACTORS⟩, ⟨_, m_TOP⟩⟩
  have D_mixed : Def l.prog w K mg base 1 "_law_mixed" ["number", "place"] spMixed := ok_mixed T_law_mixed z_int
  have D_rest := ok_rest T_law_rest D_mixed z_int z_len
  have D_draw := ok_draw T_law_draw D_rest z_int
  have D_next := ok_next T_law_next D_rest
  have D_sum : Def l.prog w K mg base 1 "sum_of_bits" ["told"] (spSum K) := ok_sum T_sum_of_bits C z_range
  have D_block := ok_block T_block D_sum
  have D_blocks := ok_blocks_of T_blocks_of C D_block z_len z_range
  have D_is := ok_is_block T_is_block C D_sum z_len
  have D_data := ok_data_of T_data_of C z_len D_is (ok_without_end T_without_end z_len)
  have D_bits : Def l.prog w K mg base 1 "_law_bits" ["told"] (spBits K) := ok_bits T_law_bits z_range z_int
  have D_unbits : Def l.prog w K mg base 1 "_law_bytes_of_bits" ["bits"] (spUnbits K) := ok_unbits T_law_bytes_of_bits z_range z_len
  have D_lsum := ok_lsum T_law_sum D_bits D_unbits z_range z_len z_int
  have D_lblocks := ok_lblocks T_law_blocks D_lsum z_range z_len z_int
  have D_law := ok_law T_law ⟨ok_pool T_law_pool D_rest, D_next, D_draw, ok_same T_law_same Z 4, D_sum, D_lsum, D_blocks, D_lblocks, D_data, ok_changed T_law_changed D_bits D_unbits D_next D_draw z_range z_len z_int z_min, D_bits, ok_run T_changed_run z_range z_enumerate⟩ z_range z_len z_int z_list z_max
  exact D_law.at_ hfa l18
end My
open PySem PySem.W PyProof.Rows
set_option maxHeartbeats 0 in
theorem PySem.Challenge.cw_playproof_k47_whole_blocks_with_sums_holds : PySem.Challenge.rw_playproof_k47_whole_blocks_with_sums.Holds := by
  w_on; o_law; k_head; (case hw => w_witness2)
  k_fill
  refine L2.walk_of (l := PySem.Challenge.rw_playproof_k47_whole_blocks_with_sums) (n := 63) (k := 5) (x := "script") (CX := fun _ => L2.CX0) (sp := fun w => My.spLaw _) rfl (by decide) rfl ⟨rfl, by decide, by decide⟩ (fun w h Y => PySem.W.kIn_of Y) ?F (fun _ _ a ns hl ho hS => ⟨a, ns, rfl, My.Scr.of ho hS, hl, fun _ => rfl⟩) (fun _ _ _ _ _ h => h)
  case F =>
    intro w mg fa h KX G hmg
    refine' My.all_mk KX G hmg ?a0 ?l0 ?c0 ?k0 ?a1 ?l1 ?c1 ?k1 ?a2 ?l2 ?c2 ?k2 ?a3 ?l3 ?c3 ?k3 ?a4 ?l4 ?c4 ?k4 ?a5 ?l5 ?c5 ?k5 ?a6 ?l6 ?c6 ?k6 ?a7 ?l7 ?c7 ?k7 ?a8 ?l8 ?c8 ?k8 ?a9 ?l9 ?c9 ?k9 ?a10 ?l10 ?c10 ?k10 ?a11 ?l11 ?c11 ?k11 ?a12 ?l12 ?c12 ?k12 ?a13 ?l13 ?c13 ?k13 ?a14 ?l14 ?c14 ?k14 ?a15 ?l15 ?c15 ?k15 ?a16 ?l16 ?c16 ?k16 ?a17 ?l17 ?c17 ?k17 ?a18 ?l18 ?c18 ?k18 ?q0 ?q1 ?q2 ?q3 ?z_isinstance ?z_dict ?z_list ?z_tuple ?z_bool ?z_str ?z_int ?z_len ?z_range ?z_all ?z_min ?z_max ?z_enumerate
    (case a0 => k_is)
    (case l0 => k_is)
    (case c0 => k_is)
    (case k0 => k_is)
    (case a1 => k_is)
    (case l1 => k_is)
    (case c1 => k_is)
    (case k1 => k_is)
    (case a2 => k_is)
    (case l2 => k_is)
    (case c2 => k_is)
    (case k2 => k_is)
    (case a3 => k_is)
    (case l3 => k_is)
    (case c3 => k_is)
    (case k3 => k_is)
    (case a4 => k_is)
    (case l4 => k_is)
    (case c4 => k_is)
    (case k4 => k_is)
    (case a5 => k_is)
    (case l5 => k_is)
    (case c5 => k_is)
    (case k5 => k_is)
    (case a6 => k_is)
    (case l6 => k_is)
    (case c6 => k_is)
    (case k6 => k_is)
    (case a7 => k_is)
    (case l7 => k_is)
    (case c7 => k_is)
    (case k7 => k_is)
    (case a8 => k_is)
    (case l8 => k_is)
    (case c8 => k_is)
    (case k8 => k_is)
    (case a9 => k_is)
    (case l9 => k_is)
    (case c9 => k_is)
    (case k9 => k_is)
    (case a10 => k_is)
    (case l10 => k_is)
    (case c10 => k_is)
    (case k10 => k_is)
    (case a11 => k_is)
    (case l11 => k_is)
    (case c11 => k_is)
    (case k11 => k_is)
    (case a12 => k_is)
    (case l12 => k_is)
    (case c12 => k_is)
    (case k12 => k_is)
    (case a13 => k_is)
    (case l13 => k_is)
    (case c13 => k_is)
    (case k13 => k_is)
    (case a14 => k_is)
    (case l14 => k_is)
    (case c14 => k_is)
    (case k14 => k_is)
    (case a15 => k_is)
    (case l15 => k_is)
    (case c15 => k_is)
    (case k15 => k_is)
    (case a16 => k_is)
    (case l16 => k_is)
    (case c16 => k_is)
    (case k16 => k_is)
    (case a17 => k_is)
    (case l17 => k_is)
    (case c17 => k_is)
    (case k17 => k_is)
    (case a18 => k_is)
    (case l18 => k_is)
    (case c18 => k_is)
    (case k18 => k_is)
    (case q0 => k_is)
    (case q1 => k_is)
    (case q2 => k_is)
    (case q3 => k_is)
    (case z_isinstance => k_is)
    (case z_dict => k_is)
    (case z_list => k_is)
    (case z_tuple => k_is)
    (case z_bool => k_is)
    (case z_str => k_is)
    (case z_int => k_is)
    (case z_len => k_is)
    (case z_range => k_is)
    (case z_all => k_is)
    (case z_min => k_is)
    (case z_max => k_is)
    (case z_enumerate => k_is)
