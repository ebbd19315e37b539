import PyProof.Rows.All
import Wide.All
import OpenK.AllK
import Wide.FinOn
import HandS.ForMost
import HandS.Wide
import HandS.DictComp
import HandS.IsInst
import HandS.Evl
import HandS.Style
import HandS.Replace
import HandS.TupAny
import PySem.Challenge.RW_playproof_k60_whole_logs_that_are_cut
set_option Elab.async false
set_option linter.all false
set_option maxRecDepth 100000
set_option maxHeartbeats 4000000
/-! Own base: a def by its contract (Def), heaps but for one address (Off), the law's pool of numbers -/
namespace My
open PySem PySem.Spec PyProof.Rows L2
/-- a def of the top that keeps its promise, by the name that it is called by -/
structure Def (P : Program) (w : World) (K : PySem.W.Frag) (mg : Str → Option Value) (base : Heap) (k : Nat) (x : Str) (ps : List Str) (sp : Sp) : Prop where
  ex : ∃ (f : Addr) (fd : FuncData), FnOk P w K mg base CX0 k f fd ps sp ∧ mg x = some (.ref f) ∧ PySem.W.keepIn K (.ref f) = true ∧ Binds K fd ps [] ∧ ∃ oc od osl, K.lookup f = some ⟨oc, od, .func fd, osl⟩
/-- a def as it stands behind the top -/
structure Top (K : PySem.W.Frag) (mg : Str → Option Value) (x : Str) (st : Stmt) (ps : List Str) : Prop where
  ex : ∃ (f : Addr) (fd : FuncData), Fun K x x st f fd ∧ mg x = some (.ref f) ∧ Binds K fd ps []
section
variable {P : Program} {w : World} {K : PySem.W.Frag} {mg : Str → Option Value} {base : Heap} {x : Str} {st : Stmt} {ps N : List Str} {k : Nat} {sp : Sp}
theorem Top.def (T : Top K mg x st ps) (h : ∀ f fd, Fun K x x st f fd → FnOk P w K mg base CX0 k f fd ps sp) : Def P w K mg base k x ps sp := by
  obtain ⟨f, fd, F, m, b⟩ := T.ex
  obtain ⟨oc, od, kV, doc, pm, an, cdv, ct, osl, _, l, _⟩ := F.ex
  exact ⟨f, fd, h f fd F, m, F.kp, b, oc, od, osl, l⟩
theorem Def.mono {j : Nat} (D : Def P w K mg base j x ps sp) (h : j ≤ k) : Def P w K mg base k x ps sp := by
  obtain ⟨f, fd, F, m, kp, b, l⟩ := D.ex
  exact ⟨f, fd, F.mono h, m, kp, b, l⟩
theorem Def.imp {sp' : Sp} (D : Def P w K mg base k x ps sp) (h : ∀ vs H Q E, sp' vs H Q E → sp vs H Q E) : Def P w K mg base k x ps sp' := by
  obtain ⟨f, fd, F, m, kp, b, l⟩ := D.ex
  exact ⟨f, fd, F.imp h, m, kp, b, l⟩
theorem Def.at_ {f : Addr} {fd : FuncData} {oc : Value} {od : Option Addr} {osl : Array (Option Value)} (D : Def P w K mg base k x ps sp) (hm : mg x = some (.ref f)) (hl : K.lookup f = some ⟨oc, od, .func fd, osl⟩) : FnOk P w K mg base CX0 k f fd ps sp := by
  obtain ⟨f', fd', F, m, _, _, oc', od', osl', l⟩ := D.ex
  obtain rfl : f' = f := by
    rw [hm] at m
    injection m with e
    injection e with e
    exact e.symm
  rw [hl] at l
  injection l with e
  injection e with _ _ e _
  injection e with e
  subst e
  exact F
/-- a def of the top, by what the head's facts say of it -/
theorem top_mk {h : Heap} {f : Addr} {od an : Option Addr} {osl : Array (Option Value)} {oc kV doc pm cd ct : Value} (X : K.In h) (G : h.Ns mainGlobals mg) (a : PySem.W.nsIn K mainGlobals x = some (some (.ref f)))
    (l : K.lookup f = some ⟨oc, od, .func (PySem.W.fnOf x x (defArgs st) (defBody st) (defScope st) .none kV doc pm an cd ct), osl⟩) (c : PySem.W.codeIn K cd x = true) (kp : PySem.W.keepIn K (.ref f) = true)
    (hb : ∀ (kV doc pm : Value) (an : Option Addr) (cdv ct : Value) (us : List Value), us.length = ps.length → bindArgs (PySem.W.fnOf x x (defArgs st) (defBody st) (defScope st) .none kV doc pm an cdv ct) ⟨us, []⟩ = pure (ps.zip us)) : Top K mg x st ps :=
  have F := fun_mk (st := st) l c kp
  ⟨f, _, F, PySem.W.mg_of X G a, F.binds hb⟩
theorem rel_abs : ∀ {u : Value} {y : V}, absV u = some y → RelV y u := fun {u y} e => by
  cases u <;> cases e <;> first | rfl | exact ⟨_, rfl⟩
theorem vals_abs : ∀ {us : List Value} {ys : List V}, us.map absV = ys.map some → Vals ys us
  | [], [], _ => .nil
  | [], _ :: _, e => by cases e
  | _ :: _, [], e => by cases e
  | u :: us, y :: ys, e => by
    injection e with e1 e2
    exact .cons (rel_abs e1) (vals_abs e2)
/-- a tuple of the module -/
theorem tup_mk {a : Addr} {od : Option Addr} {its : Array Value} {n : Nat} {osl : Array (Option Value)} {ys : List V} (l : K.lookup a = some ⟨.type "tuple", od, .seq its n, osl⟩) (z : its.size ≤ 1000) (e : its.toList.map absV = ys.map some) (H : Hp) : SqT K H a ys :=
  .inr ⟨_, its, n, l, rfl, rfl, Nat.le_of_lt (small1000 z), vals_abs e⟩
/-- THE RULE for a def: as Fun.ok -/
theorem Top.ok (T : Top K mg x st ps) (S : FnScope N ps (defScope st)) (len : ∀ vs H Q E, sp vs H Q E → vs.length = ps.length)
    (hbody : ∀ (f : Addr) (cdv : Value) (A : Around) (outer : List Env) (s : Shared) (H : Hp) (vs : List V) (Q : VK) (E : XK), Room k (A.deeper (envOfC x (defScope st) s.heap.objs.size f cdv)) → sp vs H Q E →
      ∃ t, PSs (cxOf CX0 P w K mg base N x (defScope st) f cdv A outer s H E).nox (defBody st) t ∧ t { nx := fun _ H' => Q .non H', rt := Q } (start N vs) H) : Def P w K mg base (k + 1) x ps sp :=
  T.def fun f fd F => F.ok S len (hbody f)
end
section
variable {X : Cx} {x : Str} {p pos : Pos} {e : Expr} {es : List Expr} {t : TA} {k : Nat} {ps : List Str} {sp : Sp}
theorem pe_def (D : Def X.prog X.w X.K X.mg X.base k x ps sp) (hr : Room k X.A) (hg : Gl X x) (ha : PA X (e :: es) t) (hdb : (x == ("__debug__" : Str)) = false := by decide)
    (he : starEach (e :: es) X.env = (false, eval e X.env) :: starEach es X.env := by rfl) (hpl : (backTo pos (starEach es X.env)).any (·.1) = false := by rfl) : PE X (.Call (.Name x p) (e :: es) [] pos) (tCall sp [] E0 t) := by
  obtain ⟨f, fd, F, m, kp, b, _⟩ := D.ex
  exact pe_call F hr hg m kp b .nil pass0 ha hdb he hpl
theorem pe_def0 (D : Def X.prog X.w X.K X.mg X.base k x ps sp) (hr : Room k X.A) (hg : Gl X x) (hdb : (x == ("__debug__" : Str)) = false := by decide) : PE X (.Call (.Name x p) [] [] pos) (tCall sp [] E0 tNil) := by
  obtain ⟨f, fd, F, m, kp, b, _⟩ := D.ex
  exact pe_call0 F hr hg m kp b .nil pass0 hdb
end
/-! rules that name the written part, K told: they serve within a comprehension, too -/
section
variable {X : Cx}
theorem ixL (K : PySem.W.Frag) (h : X.K = K := by rfl) : IxR X (rIxL K) := by subst h; exact ix_list
theorem ixT (K : PySem.W.Frag) (h : X.K = K := by rfl) : IxR X (rIxT K) := by subst h; exact ix_tup
theorem ixQ (K : PySem.W.Frag) (h : X.K = K := by rfl) : IxR X (rIx K) := by subst h; exact ix_seq
theorem slL (K : PySem.W.Frag) (h : X.K = K := by rfl) : SlR X (rSlL K) := by subst h; exact sl_list
theorem slT (K : PySem.W.Frag) (h : X.K = K := by rfl) : SlR X (rSlT K) := by subst h; exact sl_tup
def rLen (K : PySem.W.Frag) : List V → Hp → VK → Prop := fun xs H Q => ∃ p ys, xs = [.ref p] ∧ (SqL K H p ys ∨ SqT K H p ys) ∧ Q (.int ys.length) H
theorem lenQ (K : PySem.W.Frag) (h : X.K = K := by rfl) : CallR X (.builtin "len") (rLen K) := by subst h; exact call_len_seq
def rLstOf (K : PySem.W.Frag) : List V → Hp → VK → Prop := fun xs H Q => ∃ p ys, xs = [.ref p] ∧ (SqL K H p ys ∨ SqT K H p ys) ∧ ∀ l, H l = none → Q (.ref l) (upd H l (.lst ys))
theorem lstQ (K : PySem.W.Frag) (h : X.K = K := by rfl) : CallR X (.type "list") (rLstOf K) := by subst h; exact call_list_of
def rTupOf (K : PySem.W.Frag) : List V → Hp → VK → Prop := fun xs H Q => ∃ p ys, xs = [.ref p] ∧ ((SqL K H p ys ∧ ∀ l, H l = none → Q (.ref l) (upd H l (.tup ys))) ∨ (SqT K H p ys ∧ Q (.ref p) H))
theorem tupQ (K : PySem.W.Frag) (h : X.K = K := by rfl) : CallR X (.type "tuple") (rTupOf K) := by subst h; exact call_tuple_of
theorem inQ (K : PySem.W.Frag) (h : X.K = K := by rfl) : OpR X (compareOp .In) (rIn K false) := by subst h; exact op_in_seq
theorem ninQ (K : PySem.W.Frag) (h : X.K = K := by rfl) : OpR X (compareOp .NotIn) (rIn K true) := by subst h; exact op_notIn_seq
theorem isiQ (K : PySem.W.Frag) (h : X.K = K := by rfl) : CallR X (.builtin "isinstance") (rIsi K) := by subst h; exact call_isi
theorem allQ (K : PySem.W.Frag) (hc : X.calm = true := by rfl) (h : X.K = K := by rfl) : CallR X (.builtin "all") (rAll K) := by subst h; exact cr_all hc
theorem anyQ (K : PySem.W.Frag) (hc : X.calm = true := by rfl) (h : X.K = K := by rfl) : CallR X (.builtin "any") (rAny K) := by subst h; exact cr_any hc
theorem eqQ (K : PySem.W.Frag) (hu : X.A.units + 64 < cLine) (h : X.K = K := by rfl) : OpR X (compareOp .Eq) (rEqD K) := by subst h; exact op_eqD hu
theorem neQ (K : PySem.W.Frag) (hu : X.A.units + 64 < cLine) (h : X.K = K := by rfl) : OpR X (compareOp .NotEq) (rNeD K) := by subst h; exact op_neD hu
end
/-- over a locked dict's keys -/
theorem for_keys {d : Addr} {o : Obj} {kvs : List (Key × V)} {g : TG} {tb : TS} {D : Ends} {σ : L2.St} {H : Hp} (Pv : Nat → L2.St → Hp → Prop) (h0 : Pv 0 σ H) (hl : ∀ i σ H, Pv i σ H → H d = some (.frz o (.dK kvs)))
    (hs : ∀ i k v σ H, kvs[i]? = some (k, v) → Pv i σ H → g (kV k) σ H fun σ2 H2 => tb { D with nx := Pv (i + 1), ct := Pv (i + 1), bk := D.nx } σ2 H2) (hd : ∀ σ H, Pv kvs.length σ H → D.nx σ H) :
    ∃ W : Nat → Nat → L2.St → Hp → Prop, (∃ m, W 0 m σ H) ∧ ∀ i m σ H, W i m σ H → ((Itk d o kvs).stop i H ∧ D.nx σ H) ∨ ((Itk d o kvs).go i H ∧ ∃ N : L2.St → Hp → Prop, (∀ σ' H', N σ' H' → ∃ m', m' < m ∧ W (i + 1) m' σ' H') ∧
      ∀ x H', (Itk d o kvs).yld i H x H' → g x σ H' fun σ2 H2 => tb { D with nx := N, ct := N, bk := D.nx } σ2 H2) := by
  refine ⟨fun i m σ H => m = kvs.length - i ∧ i ≤ kvs.length ∧ Pv i σ H, ⟨_, rfl, Nat.zero_le _, h0⟩, ?_⟩
  rintro i m σ H ⟨rfl, hi, p⟩
  by_cases lt : i < kvs.length
  · refine .inr ⟨⟨hl i σ H p, lt⟩, Pv (i + 1), fun σ' H' p' => ⟨_, by omega, rfl, lt, p'⟩, fun x H' y => ?_⟩
    obtain ⟨rfl, k, v, e, rfl⟩ := y
    exact hs i k v σ H' e p
  · have e : i = kvs.length := Nat.le_antisymm hi (Nat.le_of_not_lt lt)
    exact .inl ⟨⟨hl i σ H p, by omega⟩, hd σ H (e ▸ p)⟩
/-! ### heaps -/
/-- all but p is as it was -/
def Off (p : Addr) (H H' : Hp) : Prop := ∀ b, b ≠ p → H' b = H b
theorem Off.refl {p : Addr} (H : Hp) : Off p H H := fun _ _ => rfl
theorem Off.trans {p : Addr} {H H1 H2 : Hp} (a : Off p H H1) (b : Off p H1 H2) : Off p H H2 := fun c h => (b c h).trans (a c h)
theorem Off.upd {p : Addr} {H : Hp} {o : HO} : Off p H (L2.upd H p o) := fun _ h => upd_ne h
theorem Off.get {p : Addr} {H H' : Hp} (a : Off p H H') {b : Addr} {o : HO} (h : b ≠ p) (e : H b = some o) : H' b = some o := (a b h).trans e
theorem Off.tup {p : Addr} {H H' : Hp} (a : Off p H H') {b : Addr} {xs ys : List V} (hp : H p = some (.lst xs)) (e : H b = some (.tup ys)) : H' b = some (.tup ys) :=
  a.get (fun z => by subst z; rw [hp] at e; cases e) e
theorem sqL_off {K : PySem.W.Frag} {p a : Addr} {H H' : Hp} {xs : List V} (o : Off p H H') (n : a ≠ p) (h : SqL K H a xs) : SqL K H' a xs := by
  rcases h with (h | ⟨u, h⟩) | h
  · exact .inl (.inl (o.get n h))
  · exact .inl (.inr ⟨u, o.get n h⟩)
  · exact .inr h
theorem sqT_off {K : PySem.W.Frag} {p a : Addr} {H H' : Hp} {xs : List V} (o : Off p H H') (n : a ≠ p) (h : SqT K H a xs) : SqT K H' a xs := by
  rcases h with (h | ⟨u, h⟩) | h
  · exact .inl (.inl (o.get n h))
  · exact .inl (.inr ⟨u, o.get n h⟩)
  · exact .inr h
theorem sqL_upd {K : PySem.W.Frag} {p a : Addr} {H : Hp} {o : HO} {xs : List V} (n : a ≠ p) (h : SqL K H a xs) : SqL K (upd H p o) a xs := sqL_off Off.upd n h
theorem sqT_upd {K : PySem.W.Frag} {p a : Addr} {H : Hp} {o : HO} {xs : List V} (n : a ≠ p) (h : SqT K H a xs) : SqT K (upd H p o) a xs := sqT_off Off.upd n h
/-! ### the pool of numbers: [script, place, rest, fills] -/
def poolO (a : Addr) (i : Nat) (n f : Int) : HO := .lst [.ref a, .int i, .int n, .int f]
/-- the script: locked, or an object of the module -/
def Scr (K : PySem.W.Frag) (H : Hp) (a : Addr) (ns : List Int) : Prop :=
  (∃ u, H a = some (.frz u (.lst (ns.map V.int)))) ∨ ∀ H', SqL K H' a (ns.map V.int)
theorem Scr.sq {K : PySem.W.Frag} {H : Hp} {a : Addr} {ns : List Int} (h : Scr K H a ns) : SqL K H a (ns.map V.int) := by
  rcases h with ⟨u, h⟩ | h
  · exact .inl (.inr ⟨u, h⟩)
  · exact h H
theorem Scr.of {K : PySem.W.Frag} {H : Hp} {a : Addr} {ns : List Int} (ho : Only H) (h : SqL K H a (ns.map V.int)) : Scr K H a ns := by
  rcases h with (h | ⟨u, h⟩) | h
  · rcases ho a with e | ⟨o, xs, e⟩ <;> rw [h] at e <;> cases e
  · exact .inl ⟨u, h⟩
  · exact .inr fun _ => .inr h
/-- what may change: nothing that is locked -/
def Fz : Option HO → Prop
  | some (.frz _ _) => False
  | _ => True
theorem Scr.off {K : PySem.W.Frag} {H H' : Hp} {a q : Addr} {ns : List Int} (h : Scr K H a ns) (o : Off q H H') (n : Fz (H q)) : Scr K H' a ns := by
  rcases h with ⟨u, h⟩ | h
  · refine .inl ⟨u, o.get (fun z => ?_) h⟩
    subst z
    rw [h] at n
    exact n
  · exact .inr h
structure PoolAt (K : PySem.W.Frag) (H : Hp) (p a : Addr) : Prop where
  ex : ∃ (i : Nat) (n f : Int), H p = some (poolO a i n f)
  sc : ∃ ns : List Int, ns.length ≤ 63 ∧ Scr K H a ns
theorem PoolAt.off {K : PySem.W.Frag} {H H' : Hp} {p a q : Addr} (h : PoolAt K H p a) (o : Off q H H') (n : p ≠ q) (z : Fz (H q)) : PoolAt K H' p a := by
  obtain ⟨⟨i, y, f, e⟩, ⟨ns, l, s⟩⟩ := h
  exact ⟨⟨i, y, f, o.get n e⟩, ⟨ns, l, s.off o z⟩⟩
/-- a new object beside it -/
theorem PoolAt.new {K : PySem.W.Frag} {H : Hp} {p a q : Addr} {o : HO} (h : PoolAt K H p a) (n : H q = none) : PoolAt K (L2.upd H q o) p a := by
  obtain ⟨i, y, f, e⟩ := h.ex
  exact h.off Off.upd (ne_of_none e n) (by rw [n]; trivial)
theorem PoolAt.upd {K : PySem.W.Frag} {H : Hp} {p a : Addr} {i : Nat} {n f : Int} (h : PoolAt K H p a) : PoolAt K (L2.upd H p (poolO a i n f)) p a := by
  obtain ⟨⟨i', n', f', e⟩, ⟨ns, l, s⟩⟩ := h
  exact ⟨⟨i, n, f, upd_same⟩, ⟨ns, l, s.off Off.upd (by rw [e]; trivial)⟩⟩
/-! ### the promises of the law's own numbers -/
def spMixed : Sp := fun vs H Q _ => ∃ n p : Int, vs = [.int n, .int p] ∧ ∀ v : Int, Q (.int v) H
/-- a rest at a place of the script -/
def spRest (K : PySem.W.Frag) : Sp := fun vs H Q _ => ∃ (a : Addr) (ns : List Int) (i f : Int), vs = [.ref a, .int i, .int f] ∧ Scr K H a ns ∧ ns.length ≤ 63 ∧ ∀ v : Int, Q (.int v) H
def spPool (K : PySem.W.Frag) : Sp := fun vs H Q _ => ∃ (a : Addr) (ns : List Int), vs = [.ref a] ∧ Scr K H a ns ∧ ns.length ≤ 63 ∧ ∀ (p : Addr) (H' : Hp), H p = none → Off p H H' → PoolAt K H' p a → Q (.ref p) H'
def spNext (K : PySem.W.Frag) : Sp := fun vs H Q _ => ∃ p a : Addr, vs = [.ref p] ∧ PoolAt K H p a ∧ ∀ H', Off p H H' → PoolAt K H' p a → Q .non H'
/-- a number below the limit -/
def spDraw (K : PySem.W.Frag) : Sp := fun vs H Q _ => ∃ (p a : Addr) (lim : Int), vs = [.ref p, .int lim] ∧ PoolAt K H p a ∧ 0 < lim ∧ lim < 1073741824 ∧ ∀ (v : Int) (H' : Hp), 0 ≤ v → v < lim → Off p H H' → PoolAt K H' p a → Q (.int v) H'
/-- one of a list's items -/
def spPick (K : PySem.W.Frag) : Sp := fun vs H Q _ => ∃ (p a o : Addr) (xs : List V), vs = [.ref p, .ref o] ∧ PoolAt K H p a ∧ SqL K H o xs ∧ o ≠ p ∧ 0 < xs.length ∧ xs.length ≤ 100000 ∧ ∀ (x : V) (H' : Hp), x ∈ xs → Off p H H' → PoolAt K H' p a → Q x H'
/-- the item of a list at a place that % gives -/
theorem at_mod {α : Type} {xs : List α} {i : Int} (h : 0 < xs.length) : ∃ x, atI xs (i % (xs.length : Int)) = some x ∧ x ∈ xs := by
  have h0 : 0 ≤ i % (xs.length : Int) := Int.emod_nonneg _ (by omega)
  have h1 : i % (xs.length : Int) < (xs.length : Int) := Int.emod_lt_of_pos _ (by omega)
  obtain ⟨j, e⟩ := Int.eq_ofNat_of_zero_le h0
  have hj : j < xs.length := by omega
  rw [e]
  exact ⟨xs[j], atI_nat (List.getElem?_eq_getElem hj), List.getElem_mem hj⟩
theorem at_in {α : Type} {xs : List α} {i : Int} (h0 : 0 ≤ i) (h1 : i < (xs.length : Int)) : ∃ x, atI xs i = some x ∧ x ∈ xs := by
  obtain ⟨j, e⟩ := Int.eq_ofNat_of_zero_le h0
  have hj : j < xs.length := by omega
  rw [e]
  exact ⟨xs[j], atI_nat (List.getElem?_eq_getElem hj), List.getElem_mem hj⟩
theorem emod_abs {i m : Int} {b : Nat} (h : 0 < m) (hm : m ≤ 2 ^ b) : (i % m).natAbs < 2 ^ b := by
  have h0 := Int.emod_nonneg i (Int.ne_of_gt h)
  have h1 := Int.emod_lt_of_pos i h
  have h2 : i % m < ((2 ^ b : Nat) : Int) := Int.lt_of_lt_of_le h1 (by exact_mod_cast hm)
  omega
end My
set_option Elab.async false
set_option linter.all false
set_option maxRecDepth 100000
set_option maxHeartbeats 4000000
/-! Data that the laws compare; small tests; a comprehension over a range with a step; is True -/
namespace My
open PySem PySem.Spec PyProof.Rows L2
theorem ifS {x : Str} {A B : Prop} (h : A) : if decide (V.str x = V.str x) = true then A else B := by
  rw [decide_eq_true rfl]
  exact iteT h
theorem ifN {x y : Str} {A B : Prop} (n : x ≠ y) (h : B) : if decide (V.str x = V.str y) = true then A else B := by
  rw [decide_eq_false fun z => n (V.str.inj z)]
  exact iteF h
theorem ifB {c A B : Prop} [Decidable c] {b : Bool} (h : decide c = b) (k : if b = true then A else B) : if decide c = true then A else B := by
  rw [h]
  exact k
theorem ifnB {c A B : Prop} [Decidable c] {b : Bool} (h : decide c = b) (k : if b = true then B else A) : if (!decide c) = true then A else B := by
  rw [h]
  cases b
  · exact iteT k
  · exact iteF k
theorem ifD {c A B : Prop} [Decidable c] (h : c) (a : A) : if decide c = true then A else B := by
  rw [decide_eq_true h]
  exact iteT a
theorem ifND {c A B : Prop} [Decidable c] (h : ¬ c) (b : B) : if decide c = true then A else B := by
  rw [decide_eq_false h]
  exact iteF b
theorem ifnD {c A B : Prop} [Decidable c] (h : c) (b : B) : if (!decide c) = true then A else B := by
  rw [decide_eq_true h]
  exact iteF b
theorem ifnND {c A B : Prop} [Decidable c] (h : ¬ c) (a : A) : if (!decide c) = true then A else B := by
  rw [decide_eq_false h]
  exact iteT a
/-- any test: by its value -/
theorem ifV {t b : Bool} {A B : Prop} (h : t = b) (k : if b = true then A else B) : if t = true then A else B := by
  rw [h]
  exact k
theorem dec_i (i j : Int) : decide (V.int i = V.int j) = decide (i = j) := by
  by_cases e : i = j
  · subst e
    rw [decide_eq_true rfl, decide_eq_true rfl]
  · rw [decide_eq_false e, decide_eq_false fun z => e (V.int.inj z)]
theorem dec_b (i j : Bool) : decide (V.bl i = V.bl j) = decide (i = j) := by
  by_cases e : i = j
  · subst e
    rw [decide_eq_true rfl, decide_eq_true rfl]
  · rw [decide_eq_false e, decide_eq_false fun z => e (V.bl.inj z)]
theorem sqT_same {K : PySem.W.Frag} {H H' : Hp} {a : Addr} {xs : List V} (s : Same H H') (h : SqT K H a xs) : SqT K H' a xs := by
  rcases h with (h | ⟨u, h⟩) | h
  · exact .inl (.inl (s _ _ h))
  · exact .inl (.inr ⟨u, s _ _ h⟩)
  · exact .inr h
theorem Same.new {H : Hp} {p : Addr} {o : HO} (h : H p = none) : Same H (upd H p o) := fun b x e => by
  rw [upd_ne (ne_of_none e h)]
  exact e
/-- what H does not know may change -/
theorem same_mut {H H' : Hp} {d : Addr} {o : HO} (s : Same H H') (n : H d = none) : Same H (upd H' d o) := fun b x e => by
  rw [upd_ne (ne_of_none e n)]
  exact s b x e
theorem PoolAt.same {K : PySem.W.Frag} {H H' : Hp} {p a : Addr} (h : PoolAt K H p a) (s : Same H H') : PoolAt K H' p a := by
  obtain ⟨⟨i, n, f, e⟩, ns, l, sc⟩ := h
  refine ⟨⟨i, n, f, s _ _ e⟩, ns, l, ?_⟩
  rcases sc with ⟨u, h⟩ | h
  · exact .inl ⟨u, s _ _ h⟩
  · exact .inr h
theorem rd_lst {H : Hp} {q : Addr} {ys : List V} (h : H q = some (.lst ys)) : ∀ xs, ¬ Rd H q (.tup xs) := fun xs r => by
  rcases r with r | ⟨u, r⟩ <;> rw [h] at r <;> cases r
theorem rd_none {H : Hp} {q : Addr} (h : H q = none) : ∀ xs, ¬ Rd H q (.tup xs) := fun xs r => by
  rcases r with r | ⟨u, r⟩ <;> rw [h] at r <;> cases r
theorem sq_len {n : Nat} (h : n ≤ 1000000) : n < sizeLine := by
  rw [sizeLine_eq]
  omega
/-! ### a list of numbers, a list of bits -/
def bv (bs : List Nat) : List V := bs.map fun (n : Nat) => V.int (n : Int)
def bitI (b : Bool) : Int := if b then 1 else 0
def bbv (bs : List Bool) : List V := bs.map fun b => V.int (bitI b)
theorem bv_len (bs : List Nat) : (bv bs).length = bs.length := List.length_map _
theorem bbv_len (bs : List Bool) : (bbv bs).length = bs.length := List.length_map _
theorem bv_app (a b : List Nat) : bv (a ++ b) = bv a ++ bv b := List.map_append
theorem bbv_app (a b : List Bool) : bbv (a ++ b) = bbv a ++ bbv b := List.map_append
theorem bv_get {bs : List Nat} {i n : Nat} (h : bs[i]? = some n) : (bv bs)[i]? = some (.int n) := by
  unfold bv
  rw [List.getElem?_map, h]
  rfl
theorem bv_of {bs : List Nat} {i : Nat} {x : V} (h : (bv bs)[i]? = some x) : ∃ n : Nat, bs[i]? = some n ∧ x = .int n := by
  unfold bv at h
  rw [List.getElem?_map] at h
  cases e : bs[i]? with
  | none => rw [e] at h; cases h
  | some n =>
    rw [e] at h
    exact ⟨n, rfl, (Option.some.inj h).symm⟩
theorem bbv_get {bs : List Bool} {i : Nat} {b : Bool} (h : bs[i]? = some b) : (bbv bs)[i]? = some (.int (bitI b)) := by
  unfold bbv
  rw [List.getElem?_map, h]
  rfl
theorem bbv_of {bs : List Bool} {i : Nat} {x : V} (h : (bbv bs)[i]? = some x) : ∃ b : Bool, bs[i]? = some b ∧ x = .int (bitI b) := by
  unfold bbv at h
  rw [List.getElem?_map] at h
  cases e : bs[i]? with
  | none => rw [e] at h; cases h
  | some n =>
    rw [e] at h
    exact ⟨n, rfl, (Option.some.inj h).symm⟩
/-- slices -/
theorem cut_ge (xs : List V) (n : Nat) : cutV xs (some (n : Int)) none = xs.drop n := by
  unfold cutV
  rw [HT.sIx_nat, HT.sIx_none]
  by_cases h : n ≤ xs.length
  · rw [Nat.min_eq_left h, List.take_of_length_le (by rw [List.length_drop]; omega)]
  · rw [Nat.min_eq_right (by omega), List.drop_eq_nil_of_le (Nat.le_refl _), List.drop_eq_nil_of_le (by omega), List.take_nil]
theorem cut_lt (xs : List V) (n : Nat) : cutV xs none (some (n : Int)) = xs.take n := by
  unfold cutV
  rw [HT.sIx_nat, HT.sIx_none, List.drop_zero, Nat.sub_zero]
  by_cases h : n ≤ xs.length
  · rw [Nat.min_eq_left h]
  · rw [Nat.min_eq_right (by omega), List.take_of_length_le (Nat.le_refl _), List.take_of_length_le (by omega)]
theorem cut_mid (xs : List V) (n m : Nat) : cutV xs (some (n : Int)) (some (m : Int)) = (xs.drop n).take (m - n) := by
  unfold cutV
  rw [HT.sIx_nat, HT.sIx_nat]
  by_cases h : n ≤ xs.length
  · rw [Nat.min_eq_left h]
    by_cases h2 : m ≤ xs.length
    · rw [Nat.min_eq_left h2]
    · rw [Nat.min_eq_right (by omega), List.take_of_length_le (by rw [List.length_drop]; omega), List.take_of_length_le (by rw [List.length_drop]; omega)]
  · rw [Nat.min_eq_right (a := n) (by omega), List.drop_eq_nil_of_le (Nat.le_refl _), List.drop_eq_nil_of_le (by omega), List.take_nil, List.take_nil]
/-- from the end: xs[-n:], xs[:-n] -/
theorem cut_back (xs : List V) (n : Nat) (h : 0 < n) : cutV xs (some (-(n : Int))) none = xs.drop (xs.length - n) := by
  unfold cutV
  have e : HT.sIx xs.length 0 (some (-(n : Int))) = xs.length - n := by
    show (if (-(n : Int)) < 0 then ((-(n : Int)) + (xs.length : Int)).toNat else min (-(n : Int)).toNat xs.length) = _
    rw [if_pos (by omega)]
    omega
  rw [e, HT.sIx_none, List.take_of_length_le (by rw [List.length_drop]; omega)]
theorem cut_front (xs : List V) (n : Nat) (h : 0 < n) : cutV xs none (some (-(n : Int))) = xs.take (xs.length - n) := by
  unfold cutV
  have e : HT.sIx xs.length xs.length (some (-(n : Int))) = xs.length - n := by
    show (if (-(n : Int)) < 0 then ((-(n : Int)) + (xs.length : Int)).toNat else min (-(n : Int)).toNat xs.length) = _
    rw [if_pos (by omega)]
    omega
  rw [e, HT.sIx_none, List.drop_zero, Nat.sub_zero]
theorem bv_drop (bs : List Nat) (n : Nat) : (bv bs).drop n = bv (bs.drop n) := List.map_drop.symm
theorem bv_take (bs : List Nat) (n : Nat) : (bv bs).take n = bv (bs.take n) := List.map_take.symm
theorem bbv_drop (bs : List Bool) (n : Nat) : (bbv bs).drop n = bbv (bs.drop n) := List.map_drop.symm
theorem bbv_take (bs : List Bool) (n : Nat) : (bbv bs).take n = bbv (bs.take n) := List.map_take.symm
/-! ### data, by depth -/
def DW (K : PySem.W.Frag) (H : Hp) : Nat → V → PyData → Prop
  | 0, _, _ => False
  | n + 1, x, d => match d with
    | .none => x = .non
    | .bool b => x = .bl b
    | .int i => x = .int i
    | .str s => x = .str s
    | .list ds => ∃ a xs, x = .ref a ∧ SqL K H a xs ∧ xs.length = ds.length ∧ xs.length ≤ 1000000 ∧ ∀ (i : Nat) y e, xs[i]? = some y → ds[i]? = some e → DW K H n y e
    | .tuple ds => ∃ a xs, x = .ref a ∧ SqT K H a xs ∧ xs.length = ds.length ∧ xs.length ≤ 1000000 ∧ ∀ (i : Nat) y e, xs[i]? = some y → ds[i]? = some e → DW K H n y e
    | .dict _ => False
theorem DW.same {K : PySem.W.Frag} {H H' : Hp} (s : Same H H') : ∀ {n : Nat} {x : V} {d : PyData}, DW K H n x d → DW K H' n x d
  | 0, _, _, h => h
  | n + 1, x, d, h => by
    cases d with
    | none => exact h
    | bool b => exact h
    | int i => exact h
    | str z => exact h
    | dict _ => exact h
    | list ds =>
      obtain ⟨a, xs, e, l, n1, n2, k⟩ := h
      exact ⟨a, xs, e, s.seq l, n1, n2, fun i y e hy he => DW.same s (k i y e hy he)⟩
    | tuple ds =>
      obtain ⟨a, xs, e, l, n1, n2, k⟩ := h
      exact ⟨a, xs, e, sqT_same s l, n1, n2, fun i y e hy he => DW.same s (k i y e hy he)⟩
theorem DW.up {K : PySem.W.Frag} {H : Hp} : ∀ {n m : Nat} {x : V} {d : PyData}, n ≤ m → DW K H n x d → DW K H m x d
  | 0, _, _, _, _, h => h.elim
  | n + 1, 0, _, _, l, _ => by omega
  | n + 1, m + 1, x, d, l, h => by
    cases d with
    | none => exact h
    | bool b => exact h
    | int i => exact h
    | str z => exact h
    | dict _ => exact h
    | list ds =>
      obtain ⟨a, xs, e, l', n1, n2, k⟩ := h
      exact ⟨a, xs, e, l', n1, n2, fun i y e hy he => DW.up (by omega) (k i y e hy he)⟩
    | tuple ds =>
      obtain ⟨a, xs, e, l', n1, n2, k⟩ := h
      exact ⟨a, xs, e, l', n1, n2, fun i y e hy he => DW.up (by omega) (k i y e hy he)⟩
/-- a list of numbers as data -/
def nd (bs : List Nat) : PyData := .list (bs.map fun (n : Nat) => .int (n : Int))
theorem DW.nums {K : PySem.W.Frag} {H : Hp} {a : Addr} {bs : List Nat} (h : SqL K H a (bv bs)) (l : bs.length ≤ 1000000) (n : Nat) : DW K H (n + 2) (.ref a) (nd bs) :=
  ⟨a, bv bs, rfl, h, by rw [bv_len, List.length_map], by rw [bv_len]; exact l, fun i y e hy he => by
    obtain ⟨m, hm, rfl⟩ := bv_of hy
    rw [List.getElem?_map, hm] at he
    obtain rfl := Option.some.inj he
    rfl⟩
/-- what is walked item by item: two lists of the same length -/
theorem DW.items {K : PySem.W.Frag} {H : Hp} {n : Nat} : ∀ {xs : List V} {ds : List PyData}, Paired (DW K H n) xs ds → ∀ (i : Nat) y e, xs[i]? = some y → ds[i]? = some e → DW K H n y e := by
  intro xs ds h
  induction h with
  | nil => intro i y e hy; simp at hy
  | cons h t ih =>
    intro i y e hy he
    cases i with
    | zero =>
      obtain rfl := Option.some.inj hy
      obtain rfl := Option.some.inj he
      exact h
    | succ i => exact ih i y e hy he
theorem paired_len {α β : Type} {F : α → β → Prop} {xs : List α} {ds : List β} (h : Paired F xs ds) : xs.length = ds.length := by
  induction h with
  | nil => rfl
  | cons h t ih => rw [List.length_cons, List.length_cons, ih]
theorem DW.tup {K : PySem.W.Frag} {H : Hp} {n : Nat} {a : Addr} {xs : List V} {ds : List PyData} (h : SqT K H a xs) (l : xs.length ≤ 1000000) (p : Paired (DW K H n) xs ds) : DW K H (n + 1) (.ref a) (.tuple ds) :=
  ⟨a, xs, rfl, h, paired_len p, l, DW.items p⟩
theorem DW.lst {K : PySem.W.Frag} {H : Hp} {n : Nat} {a : Addr} {xs : List V} {ds : List PyData} (h : SqL K H a xs) (l : xs.length ≤ 1000000) (p : Paired (DW K H n) xs ds) : DW K H (n + 1) (.ref a) (.list ds) :=
  ⟨a, xs, rfl, h, paired_len p, l, DW.items p⟩
theorem tyx_list {K : PySem.W.Frag} {H : Hp} {a : Addr} {xs : List V} (h : SqL K H a xs) : TyX K H (.ref a) (.type "list") := by
  rcases h with (h | ⟨u, h⟩) | ⟨o, its, n, h, c, _⟩
  · exact .base (.lst h)
  · exact .base (.frz h)
  · exact .kList h c
theorem tyx_tuple {K : PySem.W.Frag} {H : Hp} {a : Addr} {xs : List V} (h : SqT K H a xs) : TyX K H (.ref a) (.type "tuple") := by
  rcases h with (h | ⟨u, h⟩) | ⟨o, its, n, h, c, _⟩
  · exact .base (.tup h)
  · exact .fTuple h
  · exact .kTuple h c
/-! ### lists of numbers by == -/
theorem dp_nums {K : PySem.W.Frag} {H : Hp} : ∀ bs : List Nat, DpAll K H (bv bs) (bs.map fun (n : Nat) => .int (n : Int))
  | [] => .nil
  | b :: bs => .cons (.int _) (dp_nums bs)
theorem dp_list {K : PySem.W.Frag} {H : Hp} {a : Addr} {bs : List Nat} (h : SqL K H a (bv bs)) : Dp K H (.ref a) (nd bs) := .lst h (dp_nums bs)
theorem lay_nums : ∀ bs : List Nat, PyData.canLayAll0 (bs.map fun (n : Nat) => .int (n : Int)) = true
  | [] => by simp only [List.map_nil, PyData.canLayAll0]
  | b :: bs => by
    simp only [List.map_cons, PyData.canLayAll0, PyData.canLay0, Bool.true_and]
    exact lay_nums bs
theorem deep_nums : ∀ bs : List Nat, PyData.depthAll (bs.map fun (n : Nat) => .int (n : Int)) = 0
  | [] => by simp only [List.map_nil, PyData.depthAll]
  | b :: bs => by
    simp only [List.map_cons, PyData.depthAll, PyData.depth]
    rw [deep_nums bs]
    rfl
theorem shaped_nums (bs : List Nat) : SeqAt.shaped (nd bs) = true := by
  unfold SeqAt.shaped nd
  simp only [PyData.canLay0, PyData.depth, lay_nums, deep_nums]
  rfl
theorem eqvAll_nums : ∀ as bs : List Nat, PyData.eqvAll (as.map fun (n : Nat) => .int (n : Int)) (bs.map fun (n : Nat) => .int (n : Int)) = decide (as = bs)
  | [], [] => by simp only [List.map_nil, PyData.eqvAll]; decide
  | [], b :: bs => by simp only [List.map_nil, List.map_cons, PyData.eqvAll]; exact (decide_eq_false (by simp)).symm
  | a :: as, [] => by simp only [List.map_nil, List.map_cons, PyData.eqvAll]; exact (decide_eq_false (by simp)).symm
  | a :: as, b :: bs => by
    simp only [List.map_cons, PyData.eqvAll, PyData.eqv]
    rw [eqvAll_nums as bs]
    by_cases e : a = b
    · subst e
      simp
    · have e2 : ((a : Int) == (b : Int)) = false := by
        rw [beq_eq_false_iff_ne]
        omega
      rw [e2, Bool.false_and]
      exact (decide_eq_false (by simp [e])).symm
theorem eqv_nums (as bs : List Nat) : PyData.eqv (nd as) (nd bs) = decide (as = bs) := by
  unfold nd
  simp only [PyData.eqv]
  exact eqvAll_nums as bs
/-! ### is True, is False, is None -/
section
variable {X : Cx}
def rIsC : R2 := fun x y H Q => ((∃ b, y = .bl b) ∨ y = .non) ∧ Q (.bl (decide (x = y))) H
theorem op_isC : OpR X (compareOp .Is) rIsC := by
  intro pins s σ H x y v u Q I rx ry h
  obtain ⟨⟨b, rfl⟩ | rfl, q⟩ := h
  · cases (show u = Value.bool b from ry)
    by_cases e : x = .bl b
    · subst e
      cases (show v = Value.bool b from rx)
      rw [decide_eq_true rfl] at q
      exact wpAny_is_self rfl (fin_bl I q rfl)
    · rw [decide_eq_false e] at q
      cases x with
      | non =>
        cases (show v = Value.none from rx)
        exact wpAny_is_other rfl (fun z => by cases z) (fin_bl I q rfl)
      | bl c =>
        cases (show v = Value.bool c from rx)
        exact wpAny_is_other rfl (fun z => e (by cases z; rfl)) (fin_bl I q rfl)
      | int i =>
        obtain ⟨t, rfl⟩ := (show ∃ t, v = Value.int i t from rx)
        exact wpAny_is_other rfl (fun z => by cases z) (fin_bl I q rfl)
      | str i =>
        obtain ⟨t, rfl⟩ := (show ∃ t, v = Value.str i t from rx)
        exact wpAny_is_other rfl (fun z => by cases z) (fin_bl I q rfl)
      | byt i =>
        obtain ⟨t, rfl⟩ := (show ∃ t, v = Value.bytes i t from rx)
        exact wpAny_is_other rfl (fun z => by cases z) (fin_bl I q rfl)
      | flt i =>
        obtain ⟨t, rfl⟩ := (show ∃ t, v = Value.float i t from rx)
        exact wpAny_is_other rfl (fun z => by cases z) (fin_bl I q rfl)
      | ref a =>
        cases (show v = Value.ref a from rx)
        exact wpAny_is_other rfl (fun z => by cases z) (fin_bl I q rfl)
      | ty n =>
        cases (show v = Value.type n from rx)
        exact wpAny_is_other rfl (fun z => by cases z) (fin_bl I q rfl)
  · exact op_isN pins s σ H x .non v u Q I rx ry ⟨rfl, q⟩
end
/-! ### [.. for x in range(i, j, c)] -/
theorem lc_rangeC {lo c : Int} {n : Nat} {g : TG} {tt : TT} {te : TE} {vs : List Nat} {σ : L2.St} {H1 : Hp} {D : Addr} {Qd : Hp → Prop} (Pv : Nat → Hp → Prop) (h0 : Pv 0 (upd H1 D (.lst [])))
    (hs : ∀ i H, i < n → Pv i H → g (.int (lo + (i : Nat) * c)) (wipe σ vs) H fun σ2 H2 => wipe σ2 vs = wipe σ vs ∧ tt σ2 H2 fun b H3 =>
      if b = true then te σ2 H3 fun y H4 => ∃ acc, H4 D = some (.lst acc) ∧ acc.length < sizeLine ∧ Pv (i + 1) (upd H4 D (.lst (acc ++ [y]))) else Pv (i + 1) H3) (hd : ∀ H, Pv n H → Qd H) :
    ∃ W : Nat → Nat → Hp → Prop, (∃ m, W 0 m (upd H1 D (.lst []))) ∧ ∀ i m H, W i m H →
      ((Itc lo c n).stop i H ∧ Qd H) ∨ ((Itc lo c n).go i H ∧ ∃ Nx : Hp → Prop, (∀ H', Nx H' → ∃ m', m' < m ∧ W (i + 1) m' H') ∧ ∀ x H', (Itc lo c n).yld i H x H' → g x (wipe σ vs) H' fun σ2 H2 => wipe σ2 vs = wipe σ vs ∧ tt σ2 H2 fun b H3 =>
        if b = true then te σ2 H3 fun y H4 => ∃ acc, H4 D = some (.lst acc) ∧ acc.length < sizeLine ∧ Nx (upd H4 D (.lst (acc ++ [y]))) else Nx H3) := by
  refine ⟨fun i m G => m = n - i ∧ i ≤ n ∧ Pv i G, ⟨n, rfl, Nat.zero_le _, h0⟩, ?_⟩
  rintro i m G ⟨rfl, hi, p⟩
  by_cases lt : i < n
  · refine .inr ⟨lt, Pv (i + 1), fun G' p' => ⟨n - (i + 1), by omega, rfl, lt, p'⟩, fun x G' y => ?_⟩
    obtain ⟨rfl, rfl⟩ := y
    exact hs i _ lt p
  · have e : i = n := Nat.le_antisymm hi (Nat.le_of_not_lt lt)
    exact .inl ⟨Nat.le_of_not_lt lt, hd G (e ▸ p)⟩
/-- a step below nought -/
theorem RgC.down {i j c : Int} {n : Nat} (h : RgC i j c n) : RgC i j c n := h
end My
set_option linter.all false
namespace My
open PySem
/-- the text by places -/
def topS (i : Nat) : Stmt := PySem.Challenge.pw_playproof_k60_whole_logs_that_are_cut.main.body.getD i (.Pass ⟨0, 0, 0, 0⟩)
end My
set_option linter.all false
/-! All but one object as it was; new ones may have come -/
namespace My
open PySem PySem.Spec PyProof.Rows L2
def But (p : Addr) (H H' : Hp) : Prop := ∀ b o, b ≠ p → H b = some o → H' b = some o
section
variable {p : Addr} {H H1 H2 H' : Hp} {K : PySem.W.Frag}
theorem But.refl (H : Hp) : But p H H := fun _ _ _ h => h
theorem But.trans (a : But p H H1) (b : But p H1 H2) : But p H H2 := fun c o n h => b c o n (a c o n h)
theorem Off.but (a : Off p H H') : But p H H' := fun c o n h => (a c n).trans h
theorem Same.but (a : Same H H') : But p H H' := fun c o _ h => a c o h
theorem But.get {b : Addr} {o : HO} (a : But p H H') (n : b ≠ p) (h : H b = some o) : H' b = some o := a b o n h
theorem But.mut {d : Addr} {o : HO} (a : But p H H') (n : H d = none) : But p H (upd H' d o) := fun c x nc e => by
  have : c ≠ d := ne_of_none e n
  exact (upd_ne this).trans (a c x nc e)
theorem But.seq {a : Addr} {xs : List V} (o : But p H H') (n : a ≠ p) (h : SqL K H a xs) : SqL K H' a xs := by
  rcases h with (h | ⟨u, h⟩) | h
  · exact .inl (.inl (o.get n h))
  · exact .inl (.inr ⟨u, o.get n h⟩)
  · exact .inr h
theorem But.tup {a : Addr} {xs : List V} (o : But p H H') (n : a ≠ p) (h : SqT K H a xs) : SqT K H' a xs := by
  rcases h with (h | ⟨u, h⟩) | h
  · exact .inl (.inl (o.get n h))
  · exact .inl (.inr ⟨u, o.get n h⟩)
  · exact .inr h
theorem But.free {l : Addr} {a : Addr} (o : But p H H') (e : PoolAt K H' p a) (h : H' l = none) : H l = none := by
  cases x : H l with
  | none => rfl
  | some y =>
    by_cases z : l = p
    · subst z
      obtain ⟨_, _, _, e⟩ := e.ex
      rw [h] at e
      cases e
    · rw [o l y z x] at h
      cases h
theorem PoolAt.ne {q a : Addr} (h : PoolAt K H p a) (n : H q = none) : q ≠ p := fun z => by
  obtain ⟨_, _, _, e⟩ := h.ex
  rw [z, e] at n
  cases n
/-- a list that another than the pool's holds -/
theorem PoolAt.put {q a : Addr} {xs ys : List V} (h : PoolAt K H p a) (n : q ≠ p) (e : H q = some (.lst xs)) : PoolAt K (L2.upd H q (.lst ys)) p a :=
  h.off Off.upd (Ne.symm n) (by rw [e]; trivial)
end
end My
set_option linter.all false
/-! Facts of an older heap in a newer one -/
namespace My
open PySem PySem.Spec PyProof.Rows L2
theorem new_of {H G : Hp} {p : Addr} {o : HO} (n : H p = none) (h : upd H p o = G) : Same H G := h ▸ Same.new n
theorem at_of {H G : Hp} {p : Addr} {o : HO} (h : upd H p o = G) : G p = some o := h ▸ upd_same
theorem same_get {H G : Hp} {b : Addr} {o : HO} (s : Same H G) (h : H b = some o) : G b = some o := s _ _ h
theorem off_get {p : Addr} {H G : Hp} {b : Addr} {o : HO} (s : Off p H G) (n : b ≠ p) (h : H b = some o) : G b = some o := s.get n h
theorem but_get {p : Addr} {H G : Hp} {b : Addr} {o : HO} (s : But p H G) (n : b ≠ p) (h : H b = some o) : G b = some o := s.get n h
theorem seq_at {K : PySem.W.Frag} {G : Hp} {b : Addr} {xs : List V} (h : G b = some (.lst xs)) : SqL K G b xs := SqL.of h
theorem tup_at {K : PySem.W.Frag} {G : Hp} {b : Addr} {xs : List V} (h : G b = some (.tup xs)) : SqT K G b xs := SqT.of h
theorem pool_same {K : PySem.W.Frag} {H G : Hp} {p a : Addr} (s : Same H G) (h : PoolAt K H p a) : PoolAt K G p a := h.same s
end My
set_option Elab.async false
set_option linter.all false
/-! for i, x in enumerate(a list) -/
namespace My
open PySem PySem.Spec PyProof.Rows L2
theorem for_enum {K : PySem.W.Frag} {a : Addr} {xs : List V} {g : TG} {tb : TS} {D : Ends} {σ : L2.St} {H : Hp} (Pv : Nat → L2.St → Hp → Prop) (h0 : Pv 0 σ H) (hl : ∀ i σ H, i ≤ xs.length → Pv i σ H → SqL K H a xs)
    (hs : ∀ i x σ H T, xs[i]? = some x → Pv i σ H → H T = none → g (.ref T) σ (upd H T (.tup [.int (i : Nat), x])) fun σ2 H2 => tb { D with nx := Pv (i + 1), ct := Pv (i + 1), bk := D.nx } σ2 H2) (hd : ∀ σ H, Pv xs.length σ H → D.nx σ H) :
    ∃ W : Nat → Nat → L2.St → Hp → Prop, (∃ m, W 0 m σ H) ∧ ∀ i m σ H, W i m σ H →
      ((Ite K a).stop i H ∧ D.nx σ H) ∨ ((Ite K a).go i H ∧ ∃ N : L2.St → Hp → Prop, (∀ σ' H', N σ' H' → ∃ m', m' < m ∧ W (i + 1) m' σ' H') ∧ ∀ x H', (Ite K a).yld i H x H' → g x σ H' fun σ2 H2 => tb { D with nx := N, ct := N, bk := D.nx } σ2 H2) := by
  refine ⟨fun i m σ H => m = xs.length - i ∧ i ≤ xs.length ∧ Pv i σ H, ⟨xs.length, by simp, Nat.zero_le _, h0⟩, ?_⟩
  rintro i m σ H ⟨rfl, hi, p⟩
  have q := hl i σ H hi p
  by_cases hlt : i < xs.length
  · refine .inr ⟨⟨xs, xs[i], q, by simp [hlt]⟩, Pv (i + 1), fun σ' H' p' => ⟨xs.length - (i + 1), by omega, rfl, hlt, p'⟩, fun v H' y => ?_⟩
    obtain ⟨T, x, rfl, hT, rfl, y⟩ := y
    exact hs i x σ H T (y xs q) p hT
  · have e : i = xs.length := by omega
    subst e
    exact .inl ⟨⟨xs, q, Nat.le_refl _⟩, hd σ H p⟩
/-- [.. for sign in a text] -/
theorem lc_str {x : Str} {g : TG} {tt : TT} {te : TE} {vs : List Nat} {σ : L2.St} {H1 : Hp} {D : Addr} {Qd : Hp → Prop} (Pv : Nat → Hp → Prop) (h0 : Pv 0 (upd H1 D (.lst [])))
    (hs : ∀ i c H, x.cps[i]? = some c → Pv i H → g (.str ⟨#[c]⟩) (wipe σ vs) H fun σ2 H2 => wipe σ2 vs = wipe σ vs ∧ tt σ2 H2 fun b H3 =>
      if b = true then te σ2 H3 fun y H4 => ∃ acc, H4 D = some (.lst acc) ∧ acc.length < sizeLine ∧ Pv (i + 1) (upd H4 D (.lst (acc ++ [y]))) else Pv (i + 1) H3) (hd : ∀ H, Pv x.cps.size H → Qd H) :
    ∃ W : Nat → Nat → Hp → Prop, (∃ m, W 0 m (upd H1 D (.lst []))) ∧ ∀ i m H, W i m H →
      ((Its x).stop i H ∧ Qd H) ∨ ((Its x).go i H ∧ ∃ Nx : Hp → Prop, (∀ H', Nx H' → ∃ m', m' < m ∧ W (i + 1) m' H') ∧ ∀ v H', (Its x).yld i H v H' → g v (wipe σ vs) H' fun σ2 H2 => wipe σ2 vs = wipe σ vs ∧ tt σ2 H2 fun b H3 =>
        if b = true then te σ2 H3 fun y H4 => ∃ acc, H4 D = some (.lst acc) ∧ acc.length < sizeLine ∧ Nx (upd H4 D (.lst (acc ++ [y]))) else Nx H3) := by
  refine ⟨fun i m G => m = x.cps.size - i ∧ i ≤ x.cps.size ∧ Pv i G, ⟨x.cps.size, rfl, Nat.zero_le _, h0⟩, ?_⟩
  rintro i m G ⟨rfl, hi, p⟩
  by_cases lt : i < x.cps.size
  · refine .inr ⟨lt, Pv (i + 1), fun G' p' => ⟨x.cps.size - (i + 1), by omega, rfl, lt, p'⟩, fun v G' y => ?_⟩
    obtain ⟨rfl, c, hc, rfl⟩ := y
    exact hs i c _ hc p
  · have e : i = x.cps.size := Nat.le_antisymm hi (Nat.le_of_not_lt lt)
    exact .inl ⟨Nat.le_of_not_lt lt, hd G (e ▸ p)⟩
end My
set_option Elab.async false
set_option linter.all false
set_option maxRecDepth 100000
set_option maxHeartbeats 4000000
/-! a tuple turned round: t[::-1] -/
namespace My
open PySem PySem.Spec PyProof.Rows L2
section
variable {prog : Program} {w : World} {A : Around} {E : Value → Shared → Prop} {s : Shared}
theorem rev_adjust (n : Nat) : Builtin.Slice.sliceAdjust none none (-1) (n : Int) = ((n : Int) - 1, -1) := rfl
theorem rev_places (n : Nat) : Builtin.Slice.slicePlaces ((n : Int) - 1) (-1) (-1) = n := by
  unfold Builtin.Slice.slicePlaces
  rw [if_neg (by decide)]
  by_cases h : (n : Int) - 1 > -1
  · rw [if_pos h, show (- -1 : Int) = 1 from rfl, Int.ediv_one]
    omega
  · rw [if_neg h]
    omega
theorem rev_applied {sl : Addr} {vs : Value} {n : Nat} {Q : Int × Int × Nat → Shared → Prop} (hs : s.heap.IsSliceOf sl .none .none vs) (ps : IsPart vs (some (-1)))
    (h : Q ((n : Int) - 1, -1, n) s) : wpAny (model prog w) A (Builtin.Slice.sliceApplied (.ref sl) (pure (n : Int))) Q E s := by
  obtain ⟨os, hos, hcs, hds⟩ := id hs
  unfold Builtin.Slice.sliceApplied Builtin.Slice.sliceFields
  refine wpAny_bind (wpAny_bind (wpAny_field hos hds (x := .none) rfl (wpAny_bind (wpAny_field hos hds (x := .none) rfl (wpAny_bind (wpAny_field hos hds (x := vs) rfl (wpAny_pure ?_)))))))
  refine wpAny_bind (HT.slicePart_ ps ?_)
  show wpAny _ _ (if ((-1 : Int) == 0) = true then _ else _) _ _ s
  rw [if_neg (by decide)]
  refine wpAny_bind (slicePart_none (wpAny_bind (slicePart_none (wpAny_bind (wpAny_pure ?_)))))
  show wpAny _ _ (match Builtin.Slice.sliceAdjust none none (-1) (n : Int) with | (lo, hi) => pure (lo, (-1 : Int), Builtin.Slice.slicePlaces lo hi (-1))) _ _ s
  rw [rev_adjust]
  show wpAny _ _ (pure ((n : Int) - 1, (-1 : Int), Builtin.Slice.slicePlaces ((n : Int) - 1) (-1) (-1))) _ _ s
  rw [rev_places]
  exact wpAny_pure h
theorem fm_congr {α β : Type} {f g : α → Option β} : ∀ {l : List α}, (∀ x ∈ l, f x = g x) → l.filterMap f = l.filterMap g
  | [], _ => rfl
  | a :: l, h => by
    rw [List.filterMap_cons, List.filterMap_cons, h a (List.mem_cons_self ..), fm_congr fun x hx => h x (List.mem_cons_of_mem _ hx)]
theorem rev_pick (xs : Array Value) : ((List.range xs.size).filterMap fun (m : Nat) => xs[(((xs.size : Int) - 1) + (m : Int) * -1).toNat]?).toArray = xs.toList.reverse.toArray := by
  have e : ((List.range xs.size).filterMap fun (m : Nat) => xs[(((xs.size : Int) - 1) + (m : Int) * -1).toNat]?) = ((List.range xs.size).map fun k => xs.size - 1 - k).filterMap (xs[·]?) := by
    rw [List.filterMap_map]
    apply fm_congr
    intro m hm
    have := List.mem_range.mp hm
    show xs[_]? = xs[xs.size - 1 - m]?
    congr 1
    omega
  rw [e, PySem.W.krv_range, List.filterMap_reverse, PySem.W.krv_all]
theorem getItem_tuple_rev {t sl : Addr} {items : Array Value} {vs : Value} {Q : Value → Shared → Prop} (ht : IsTup s.heap t items) (hs : s.heap.IsSliceOf sl .none .none vs) (ps : IsPart vs (some (-1)))
    (h : Q (.ref s.heap.objs.size) { s with heap := s.heap.push { cls := .type "tuple", data := .seq items.toList.reverse.toArray } })
    (hsz : items.size ≤ sizeLine) : wpAny (model prog w) A (getItem (.ref t) (.ref sl)) Q E s := by
  have htake : sizeOk (.seq items.toList.reverse.toArray) := by
    show items.toList.reverse.toArray.size ≤ sizeLine
    rw [List.size_toArray, List.length_reverse, Array.length_toList]
    exact hsz
  obtain ⟨os, hos, hcs, hds⟩ := id hs
  have hTs : s.TypeIs (.ref sl) "slice" := ⟨os, hos, hcs⟩
  unfold getItem
  try with_reducible refine wpAny_holding ?_
  first | refine wpAny_bind (wpAny_pure ?_) | skip
  refine wpAny_bind (wpAny_sequenceKey ht.typeIs (by decide) ?_)
  refine wpAny_bind (wpAny_callSpecial?_slot (name := Str.ofString "__getitem__") ht.typeIs PyProof.Rows.slot_tuple_getitem
    (wpAny_call_entry PyProof.Rows.slot_tuple_getitem ht.typeIs entry_tuple_getitem ?_ (args_tuple_getitem _ _)))
  show wpAny _ _ (Builtin.Tuple.tupleItemsOf (.ref t) >>= _) _ _ s
  refine wpAny_bind (tupleItemsOf_ ht ?_)
  refine wpAny_bind (wpAny_typeOf hTs ?_)
  rw [if_pos (by decide)]
  refine wpAny_bind (rev_applied hs ps ?_)
  have hno : ¬ ((((items.size : Int) - 1) == 0 && (-1 : Int) == 1 && items.size == items.size) = true) := by
    intro q
    rw [Bool.and_eq_true, Bool.and_eq_true] at q
    exact absurd q.1.2 (by decide)
  show wpAny _ _ (if ((((items.size : Int) - 1) == 0 && (-1 : Int) == 1 && items.size == items.size)) = true then _ else _) _ _ s
  rw [if_neg hno, rev_pick]
  first
    | exact wpAny_bind (m := Builtin.Tuple.tupleExact _) (wpAny_newObj_type (wpAny_pure ⟨_, rfl, wpAny_pure h⟩) htake)
    | exact wpAny_bind (m := Builtin.Tuple.tupleExact _) (wpAny_newObj_type (wpAny_bind (wpAny_pure (wpAny_pure ⟨_, rfl, wpAny_pure h⟩))) htake)
    | exact wpAny_bind (wpAny_bind (m := Builtin.Tuple.tupleExact _) (wpAny_newObj_type (wpAny_pure (wpAny_pure ⟨_, rfl, wpAny_pure h⟩)) htake))
    | exact wpAny_bind (wpAny_bind (m := Builtin.Tuple.tupleExact _) (wpAny_newObj_type (wpAny_pure ⟨_, rfl, wpAny_pure h⟩) htake))
end
section
variable {X : Cx}
def tRevT (K : PySem.W.Frag) (te : TE) : TE := fun σ H Q => te σ H fun x H1 => ∃ a xs, x = .ref a ∧ SqT K H1 a xs ∧ ∀ p, H1 p = none → Q (.ref p) (upd H1 p (.tup xs.reverse))
theorem pe_revT {e : Expr} {te : TE} {k : Nat} {p1 p2 p3 pos : Pos} (he : PE X e te) : PE X (.Subscript e (.Slice none none (some (.UnaryOp .USub (.Constant (.int 1) k p1) p2)) p3) pos) (tRevT X.K te) := by
  refine ⟨fun pins s σ H Q I h => ?_⟩
  refine Subscript_ (thn (he.run pins s σ H _ I h) fun v s1 ⟨x, H1, I1, r1, q1⟩ => ?_)
  obtain ⟨a, xs, ex, hx, q⟩ := q1
  subst ex
  cases r1
  have hst : PO X (some (.UnaryOp .USub (.Constant (.int 1) k p1) p2)) (tPart (tUn (rU fun i => .int (-i)) (tC (.int 1)))) := po_some (pe_un un_neg pe_int)
  refine wpAny_Slice (thn (po_none.run pins s1 σ H1 (fun o H2 => o = none ∧ H2 = H1) I1 ⟨rfl, rfl⟩) fun vl s2 ⟨l, H2, I2, pl, el, e2⟩ => ?_)
  subst el e2
  refine thn (po_none.run pins s2 σ H2 (fun o H3 => o = none ∧ H3 = H2) I2 ⟨rfl, rfl⟩) fun vu s3 ⟨u, H3, I3, pu, eu, e3⟩ => ?_
  subst eu e3
  refine thn (hst.run pins s3 σ H3 (fun o H4 => o = some (-1) ∧ H4 = H3) I3 ⟨1, rfl, -1, rfl, rfl, rfl⟩) fun vs s4 ⟨o, H4, I4, ps, eo, e4⟩ => ?_
  subst eo e4
  cases pl
  cases pu
  have I5 : Inv X pins σ H4 { s4 with heap := s4.heap.push { cls := .type "slice", data := .fields #[.none, .none, vs] } } := I4.kept (t' := s4.toks) fun b ob q => Heap.get?_push_of_some _ q
  obtain ⟨its, r, ht, hz⟩ := I5.tuple hx
  have hlen := r.length
  show wpAny (model X.prog X.w) X.A (subscriptTail e (.Slice none none (some (.UnaryOp .USub (.Constant (.int 1) k p1) p2)) p3) (.ref a) (.ref s4.heap.objs.size)) (EP X pins σ Q) X.xe { s4 with heap := s4.heap.push { cls := .type "slice", data := .fields #[.none, .none, vs] } }
  refine tail_any (ops := [.ref a, .ref s4.heap.objs.size]) ht.typeIs (PyProof.Rows.slot_tuple_getitem.lookup) ?_ (by with_unfolding_all rfl)
  refine getItem_tuple_rev ht (Heap.IsSliceOf.new _ .none .none vs) ps ?_ (by rw [List.size_toArray]; omega)
  refine ⟨.ref _, _, I5.laid (t' := s4.toks) (o := .tup xs.reverse) (fun b ob q => Heap.get?_push_of_some _ q) (Nat.le_refl _) ?_, rfl, q _ (I5.hok.fresh (Nat.le_refl _))⟩
  exact ⟨by rw [List.length_reverse]; exact hz, _, r.reverse, IsTup.new _ _⟩
end
/-! ### a list longer by a tuple's items -/
section
theorem meets_longer (l b : Addr) (its its2 : Array Value) (n : Nat) (hn : ¬ (!its.isEmpty && Builtin.List.listTooLong (its.size + its2.size)) = true) (hz : its.size + its2.size ≤ sizeLine) :
    Meets (Builtin.«list.extend» ⟨[.ref l, .ref b], []⟩) (fun _ R s => s.heap.get? l = some { cls := .type "list", data := .seq its n } ∧ IsTup s.heap b its2 ∧
      R (.ok (.ret Value.none)) { s with heap := s.heap.update l (Obj.mapSeq (· ++ its2)) }) :=
  .of_wp fun prog w A R s h => by
    obtain ⟨hl, ⟨o, ho, hc, m, hd⟩, h⟩ := h
    show wpAny _ A.in1 (Builtin.List.listExtendWith (.ref l) (.ref b) .none) _ _ s
    unfold Builtin.List.listExtendWith
    refine wpAny_bind (wpAny_typeOf ⟨o, ho, hc⟩ ?_)
    rw [if_pos (by simp)]
    refine wpAny_bind ?_
    unfold Builtin.List.listItems
    refine wpAny_bind (wpAny_seqItems ho hd (wpAny_pure ?_))
    refine wpAny_bind ?_
    refine wpAny_bind (wpAny_seqItems hl rfl (wpAny_pure ?_))
    rw [if_neg hn]
    show wpAny _ A.in1 (updateSeq l (· ++ its2) >>= fun _ => ret .none) _ _ s
    refine wpAny_bind (wpAny_updateSeq hl rfl ?_ (by omega) (by rw [Array.size_append]; omega))
    exact wpAny_pure ⟨_, rfl, h⟩
end
section
variable {X : Cx}
def rLonger (K : PySem.W.Frag) : V → List V → Hp → VK → Prop := fun x vs H Q => ∃ l b xs zs, x = .ref l ∧ vs = [.ref b] ∧ H l = some (.lst xs) ∧ SqT K H b zs ∧ xs.length + zs.length ≤ sizeLine ∧ Q .non (upd H l (.lst (xs ++ zs)))
theorem mt_longer : MtM X "list.extend" (rLonger X.K) := by
  intro pins s σ H x vs v us Q I rx rv h
  obtain ⟨l, b, xs, zs, rfl, rfl, hl, hb, hz, q⟩ := h
  cases rx
  obtain ⟨u, rfl, ru⟩ := rv.one
  cases ru
  obtain ⟨z, its, n, r, el, e⟩ := I.lstM hl
  obtain ⟨its2, r2, p2, z2⟩ := I.tuple hb
  have l2 := r2.length
  have fits : its.toArray.size + its2.toArray.size ≤ sizeLine := by rw [List.size_toArray, List.size_toArray]; omega
  refine call_meets F.slot_list_extend ⟨_, e, rfl⟩ F.entry_list_extend (F.args_list_extend_2 _ _) (meets_longer l b its.toArray its2.toArray n (by rw [notLongL fits, Bool.and_false]; exact Bool.false_ne_true) fits) ⟨e, p2, ?_⟩
  refine ⟨.non, _, I.lset (its' := its ++ its2) (t' := s.toks) hl e (by simp) (r.append r2) (by rw [List.length_append]; exact hz), rfl, q⟩
end
end My
set_option linter.all false
/-! Plain values, and the bytes that tell them -/
namespace Pv
open PySem
inductive Val where
  | int (i : Int)
  | str (ks : List Nat)
  | tup (l : List Val)
def nb (n : Nat) : List Nat := if n > 127 then (128 + n % 128) :: nb (n / 128) else [n]
termination_by n
theorem nb_big {n : Nat} (h : n > 127) : nb n = (128 + n % 128) :: nb (n / 128) := by rw [nb, if_pos h]
theorem nb_small {n : Nat} (h : ¬ n > 127) : nb n = [n] := by rw [nb, if_neg h]
def zig (i : Int) : Nat := if 0 ≤ i then (2 * i).toNat else (-2 * i - 1).toNat
def zag (n : Nat) : Int := if n % 2 = 0 then ((n / 2 : Nat) : Int) else -(((n + 1) / 2 : Nat) : Int)
theorem zag_zig (i : Int) : zag (zig i) = i := by
  unfold zag zig
  by_cases h : 0 ≤ i
  · rw [if_pos h, if_pos (by omega)]
    omega
  · rw [if_neg h, if_neg (by omega)]
    omega
mutual
def bytes : Val → List Nat
  | .int i => 0 :: nb (zig i)
  | .str ks => 1 :: (nb ks.length ++ ks)
  | .tup l => 2 :: (nb l.length ++ bytesL l)
def bytesL : List Val → List Nat
  | [] => []
  | v :: l => bytes v ++ bytesL l
end
mutual
def size : Val → Nat
  | .int _ => 1
  | .str _ => 1
  | .tup l => 1 + sizeL l
def sizeL : List Val → Nat
  | [] => 0
  | v :: l => size v + sizeL l
end
theorem size_pos (v : Val) : 0 < size v := by
  cases v <;> simp [size]
  omega
theorem bytesL_append : ∀ a b : List Val, bytesL (a ++ b) = bytesL a ++ bytesL b
  | [], b => by simp [bytesL]
  | v :: a, b => by rw [List.cons_append, bytesL, bytesL, bytesL_append a b, List.append_assoc]
theorem sizeL_append : ∀ a b : List Val, sizeL (a ++ b) = sizeL a + sizeL b
  | [], b => by simp [sizeL]
  | v :: a, b => by rw [List.cons_append, sizeL, sizeL, sizeL_append a b, Nat.add_assoc]
theorem nb_pos (n : Nat) : 0 < (nb n).length := by
  rw [nb]
  split <;> simp
/-- numbers below 2 to the 7 times k take at most k bytes -/
theorem nb_length : ∀ (k n : Nat), n < 2 ^ (7 * (k + 1)) → (nb n).length ≤ k + 1
  | 0, n, h => by
    rw [nb_small (by
      have : (2 : Nat) ^ (7 * (0 + 1)) = 128 := by decide
      omega)]
    simp
  | k + 1, n, h => by
    by_cases g : n > 127
    · rw [nb_big g, List.length_cons]
      have : n / 128 < 2 ^ (7 * (k + 1)) := by
        rw [Nat.div_lt_iff_lt_mul (by decide)]
        have e : (2 : Nat) ^ (7 * (k + 1 + 1)) = 2 ^ (7 * (k + 1)) * 128 := by
          rw [show 7 * (k + 1 + 1) = 7 * (k + 1) + 7 by omega, Nat.pow_add]
        omega
      have := nb_length k _ this
      omega
    · rw [nb_small g]
      simp
/-- the signs -/
def SIGNS : Str := Str.ofString "\n abcdefghijklmnopqrstuvwxyzABCDEFGHIJKLMNOPQRSTUVWXYZ0123456789(),=!<+-."
theorem signs_length : SIGNS.cps.toList.length = 73 := by decide +kernel
def sign (k : Nat) : Str := ⟨#[SIGNS.cps.toList.getD k 0]⟩
theorem sign_at : ∀ k, k < 73 → Builtin.Str.occurrences SIGNS (sign k) 0 SIGNS.length 1 = [k] := by decide +kernel
def txt (ks : List Nat) : Str := ⟨(ks.map fun k => SIGNS.cps.toList.getD k 0).toArray⟩
mutual
/-- signs in their range, few enough -/
def Ok : Val → Prop
  | .int i => -(2 ^ 60) < i ∧ i < 2 ^ 60
  | .str ks => ks.length ≤ 1000000 ∧ ∀ k ∈ ks, k < 73
  | .tup l => l.length ≤ 1000000 ∧ OkL l
def OkL : List Val → Prop
  | [] => True
  | v :: l => Ok v ∧ OkL l
end
theorem OkL_append : ∀ {a b : List Val}, OkL a → OkL b → OkL (a ++ b)
  | [], b, _, h => h
  | v :: a, b, h, g => ⟨h.1, OkL_append h.2 g⟩
theorem OkL_split : ∀ {a b : List Val}, OkL (a ++ b) → OkL a ∧ OkL b
  | [], b, h => ⟨trivial, h⟩
  | v :: a, b, h => ⟨⟨h.1, (OkL_split h.2).1⟩, (OkL_split h.2).2⟩
theorem OkL_reverse {l : List Val} (h : OkL l) : OkL l.reverse := by
  induction l with
  | nil => trivial
  | cons a b ih => rw [List.reverse_cons]; exact OkL_append (ih h.2) ⟨h.1, trivial⟩
theorem sizeL_reverse : ∀ l : List Val, sizeL l.reverse = sizeL l
  | [] => rfl
  | v :: l => by rw [List.reverse_cons, sizeL_append, sizeL_reverse l, sizeL, sizeL, sizeL]; omega
theorem length_sizeL : ∀ l : List Val, l.length ≤ sizeL l
  | [] => Nat.le_refl _
  | v :: l => by
    have := length_sizeL l
    have := size_pos v
    rw [sizeL, List.length_cons]
    omega
theorem txt_get {ks : List Nat} {i c : Nat} (h : (txt ks).cps[i]? = some c) : ∃ k, ks[i]? = some k ∧ (⟨#[c]⟩ : Str) = sign k := by
  have h : (ks.map fun k => SIGNS.cps.toList.getD k 0)[i]? = some c := by
    unfold txt at h
    simpa using h
  rw [List.getElem?_map] at h
  cases e : ks[i]? with
  | none => rw [e] at h; cases h
  | some k =>
    rw [e] at h
    refine ⟨k, rfl, ?_⟩
    unfold sign
    rw [← Option.some.inj h]
theorem txt_size (ks : List Nat) : (txt ks).cps.size = ks.length := by
  unfold txt
  simp
theorem OkL_mem : ∀ {l : List Val} {v : Val}, OkL l → v ∈ l → Ok v
  | w :: l, v, h, m => by
    rcases List.mem_cons.mp m with e | m
    · rw [e]; exact h.1
    · exact OkL_mem h.2 m
theorem zig_lt {i : Int} (h : -(2 ^ 60) < i ∧ i < 2 ^ 60) : zig i < 2 ^ 61 := by
  unfold zig
  split <;> omega
mutual
def toData : Val → PyData
  | .int i => .int i
  | .str ks => .str (txt ks)
  | .tup l => .tuple (toDataL l)
def toDataL : List Val → List PyData
  | [] => []
  | v :: l => toData v :: toDataL l
end
theorem toDataL_map : ∀ l : List Val, toDataL l = l.map toData
  | [] => rfl
  | v :: l => by rw [toDataL, toDataL_map l, List.map_cons]
mutual
def depth : Val → Nat
  | .int _ => 1
  | .str _ => 1
  | .tup l => 1 + depthL l
def depthL : List Val → Nat
  | [] => 0
  | v :: l => max (depth v) (depthL l)
end
theorem depthL_mem : ∀ {l : List Val} {v : Val}, v ∈ l → depth v ≤ depthL l
  | w :: l, v, m => by
    rw [depthL]
    rcases List.mem_cons.mp m with e | m
    · rw [e]; omega
    · have := depthL_mem m
      omega
end Pv
set_option Elab.async false
set_option linter.all false
set_option maxRecDepth 100000
set_option maxHeartbeats 4000000
/-! The program's plain values -/
namespace My
open PySem PySem.Spec PyProof.Rows L2
local macro_rules
  | `(tactic| nofun) => `(tactic| (apply tup_at; nofun))
local macro_rules
  | `(tactic| nofun) => `(tactic| (apply seq_at; nofun))
local macro_rules
  | `(tactic| nofun) => `(tactic| (apply pool_same; assumption; nofun))
local macro_rules
  | `(tactic| nofun) => `(tactic| (apply but_get; assumption; assumption; nofun))
local macro_rules
  | `(tactic| nofun) => `(tactic| (apply off_get; assumption; assumption; nofun))
local macro_rules
  | `(tactic| nofun) => `(tactic| (apply same_get; assumption; nofun))
local macro_rules
  | `(tactic| nofun) => `(tactic| assumption)
abbrev st_number_bytes : Stmt := topS 14
theorem sc_number_bytes : FnScope ["number", "found"] ["number"] (defScope st_number_bytes) := ⟨rfl, rfl, rfl, by decide +kernel, rfl, by decide +kernel, by decide +kernel⟩
abbrev st_bytes_of : Stmt := topS 15
theorem sc_bytes_of : FnScope ["value", "found", "queue", "one", "sign"] ["value"] (defScope st_bytes_of) := ⟨rfl, rfl, rfl, by decide +kernel, rfl, by decide +kernel, by decide +kernel⟩
abbrev st_read_number : Stmt := topS 16
theorem sc_read_number : FnScope ["told", "at", "number", "worth", "first", "byte"] ["told", "at"] (defScope st_read_number) := ⟨rfl, rfl, rfl, by decide +kernel, rfl, by decide +kernel, by decide +kernel⟩
abbrev st_read_string : Stmt := topS 17
theorem sc_read_string : FnScope ["told", "at", "count", "signs"] ["told", "at"] (defScope st_read_string) := ⟨rfl, rfl, rfl, by decide +kernel, rfl, by decide +kernel, by decide +kernel⟩
abbrev st_read_one : Stmt := topS 18
theorem sc_read_one : FnScope ["told", "at", "value", "number"] ["told", "at"] (defScope st_read_one) := ⟨rfl, rfl, rfl, by decide +kernel, rfl, by decide +kernel, by decide +kernel⟩
abbrev st_value_of : Stmt := topS 19
theorem sc_value_of : FnScope ["told", "at", "opened", "tag", "_", "value"] ["told"] (defScope st_value_of) := ⟨rfl, rfl, rfl, by decide +kernel, rfl, by decide +kernel, by decide +kernel⟩
/-- a list is made -/
def MadeL (H : Hp) (bs : List Nat) (Q : VK) : Prop := ∀ p H', Same H H' → H p = none → H' p = some (.lst (bv bs)) → Q (.ref p) H'
def VW (K : PySem.W.Frag) (H : Hp) : Nat → V → Pv.Val → Prop
  | 0, _, _ => False
  | n + 1, x, v => match v with
    | .int i => x = .int i
    | .str ks => x = .str (Pv.txt ks)
    | .tup l => ∃ a xs, x = .ref a ∧ SqT K H a xs ∧ xs.length = l.length ∧ ∀ (i : Nat) y e, xs[i]? = some y → l[i]? = some e → VW K H n y e
def spNumBytes : Sp := fun vs H Q _ => ∃ n : Nat, vs = [.int n] ∧ n < 2 ^ 63 ∧ MadeL H (Pv.nb n) Q
def spBytesOf (K : PySem.W.Frag) : Sp := fun vs H Q _ => ∃ (x : V) (v : Pv.Val) (n : Nat), vs = [x] ∧ VW K H n x v ∧ Pv.Ok v ∧ (Pv.bytes v).length ≤ 900000 ∧ Pv.size v ≤ 900000 ∧ MadeL H (Pv.bytes v) Q
theorem VW.mono {K : PySem.W.Frag} {H H' : Hp} (s : ∀ a xs, SqT K H a xs → SqT K H' a xs) : ∀ {n : Nat} {x : V} {v : Pv.Val}, VW K H n x v → VW K H' n x v
  | 0, _, _, h => h
  | n + 1, x, v, h => by
    cases v with
    | int i => exact h
    | str ks => exact h
    | tup l =>
      obtain ⟨a, xs, e, q, le, k⟩ := h
      exact ⟨a, xs, e, s _ _ q, le, fun i y e hy he => VW.mono s (k i y e hy he)⟩
theorem VW.same {K : PySem.W.Frag} {H H' : Hp} (s : Same H H') {n : Nat} {x : V} {v : Pv.Val} (h : VW K H n x v) : VW K H' n x v := h.mono fun _ _ q => sqT_same s q
theorem VW.up {K : PySem.W.Frag} {H : Hp} : ∀ {n m : Nat} {x : V} {v : Pv.Val}, n ≤ m → VW K H n x v → VW K H m x v
  | 0, _, _, _, _, h => h.elim
  | n + 1, 0, _, _, l, _ => by omega
  | n + 1, m + 1, x, v, l, h => by
    cases v with
    | int i => exact h
    | str ks => exact h
    | tup l' =>
      obtain ⟨a, xs, e, q, le, k⟩ := h
      exact ⟨a, xs, e, q, le, fun i y e hy he => VW.up (by omega) (k i y e hy he)⟩
/-- a change of a list leaves the values as they are -/
theorem VW.list {K : PySem.W.Frag} {H : Hp} {l : Addr} {xs ys : List V} (e : H l = some (.lst xs)) {n : Nat} {x : V} {v : Pv.Val} (h : VW K H n x v) : VW K (upd H l (.lst ys)) n x v :=
  h.mono fun a zs q => by
    rcases q with q | q
    · exact sqT_off Off.upd (fun z => rd_lst e _ (z ▸ q)) (.inl q)
    · exact .inr q
theorem VW.dw {K : PySem.W.Frag} {H : Hp} : ∀ {n : Nat} {x : V} {v : Pv.Val}, VW K H n x v → Pv.Ok v → DW K H n x (Pv.toData v)
  | 0, _, _, h, _ => h.elim
  | n + 1, x, v, h, ok => by
    cases v with
    | int i => rw [Pv.toData]; exact h
    | str ks => rw [Pv.toData]; exact h
    | tup l =>
      obtain ⟨a, xs, e, q, le, k⟩ := h
      rw [Pv.toData, Pv.toDataL_map]
      refine ⟨a, xs, e, q, by rw [List.length_map, le], by rw [le]; exact ok.1, fun i y d hy hd => ?_⟩
      rw [List.getElem?_map] at hd
      cases c : l[i]? with
      | none => rw [c] at hd; cases hd
      | some u =>
        rw [c] at hd
        obtain rfl := Option.some.inj hd
        exact VW.dw (k i y u hy c) (Pv.OkL_mem ok.2 (List.mem_of_getElem? c))
section
variable {P : Program} {w : World} {K : PySem.W.Frag} {mg : Str → Option Value} {base : Heap}
theorem ok_number_bytes (T : Top K mg "number_bytes" st_number_bytes ["number"]) : Def P w K mg base 1 "number_bytes" ["number"] spNumBytes := by
  refine T.ok sc_number_bytes (fun vs H Q E h => ?_) (fun f cdv A outer s H vs Q E hr h => ?_)
  · obtain ⟨n, rfl, _⟩ := h
    rfl
  obtain ⟨n, rfl, hn, q⟩ := h
  refine ⟨_, (pss_cons (ps_set (i := 1) sc_number_bytes.nd rfl (Or.inl rfl) (pe_lst pa_nil))
    (pss_cons (ps_while PassesOwn.never (pt_cmpR op_gt (pv 0) pe_int (nomark _))
    (pss_cons (ps_expr (pe_bm PySem.F.plainAttrs_list PySem.F.slot_list_append PySem.F.type_list_append mt_append (pv 1) (pa_cons (pe_op op_add pe_int (pe_op op_mod (pv 0) pe_int)) pa_nil)))
      (pss_one (ps_set (i := 0) sc_number_bytes.nd rfl (Or.inl rfl) (pe_op op_fdiv (pv 0) pe_int)))))
    (pss_one (ps_ret (pe_op op_cat (pv 1) (pe_lst (pa_cons (pv 0) pa_nil))))))), ?_⟩
  have big : ∀ {n : Nat}, n ≤ 900000 → n ≤ sizeLine := fun h => Nat.le_trans h (by decide)
  refine ⟨Nat.zero_le _, fun fo nfo => ?_⟩
  refine ⟨fun m σ G => ∃ (k : Nat) (acc : List Nat), σ = [some (.int (k : Nat)), some (.ref fo)] ∧ Same H G ∧ G fo = some (.lst (bv acc)) ∧ acc ++ Pv.nb k = Pv.nb n ∧ k = m, ⟨n, n, [], rfl, Same.new nfo, upd_same, rfl, rfl⟩, ?_⟩
  rintro m σ G ⟨k, acc, rfl, sg, eg, ea, hm⟩
  subst hm
  have lnb : (Pv.nb n).length ≤ 9 := Pv.nb_length 8 n (by
    show n < 2 ^ 63
    exact hn)
  have la : acc.length ≤ 9 := by
    rw [← ea, List.length_append] at lnb
    omega
  refine ⟨_, rfl, _, _, rfl, rfl, _, rfl, ?_⟩
  by_cases h : k > 127
  · rw [Pv.nb_big h] at ea
    refine ifD (by omega) ⟨fun σ' G' => ∃ (j : Nat) (acc : List Nat), σ' = [some (.int (j : Nat)), some (.ref fo)] ∧ Same H G' ∧ G' fo = some (.lst (bv acc)) ∧ acc ++ Pv.nb j = Pv.nb n ∧ j < k, fun σ' G' ⟨j, acc, e, s, e2, e3, lt⟩ => ⟨j, lt, j, acc, e, s, e2, e3, rfl⟩, ?_⟩
    refine ⟨.ref fo, rfl, .inl ⟨rfl, _, SqL.of eg⟩, _, rfl, _, _, rfl, rfl, (by show (0 : Int) < 128; decide), _, _, rfl, rfl, fo, _, _, rfl, rfl, eg, by rw [bv_len]; exact sq_len (by omega), ?_⟩
    refine ⟨_, rfl, _, _, rfl, rfl, ⟨by decide, by decide⟩, k / 128, acc ++ [128 + k % 128], ?_, same_mut sg nfo, ?_, by rw [List.append_assoc]; exact ea, by omega⟩
    · show [some (V.int ((k : Int) / 128)), _] = _
      rw [show ((k : Nat) : Int) / 128 = ((k / 128 : Nat) : Int) by omega]
    · rw [upd_same, bv_app]
      show some (HO.lst (_ ++ [V.int (128 + (k : Int) % 128)])) = _
      rw [show (128 : Int) + ((k : Nat) : Int) % 128 = ((128 + k % 128 : Nat) : Int) by omega]
      rfl
  · rw [Pv.nb_small h] at ea
    refine ifND (by omega) ?_
    refine ⟨.ref fo, rfl, _, rfl, (by show 1 ≤ sizeLine; decide), fun o no => ?_⟩
    refine ⟨fo, o, _, _, rfl, rfl, (Same.new no) _ _ eg, upd_same, big (by rw [bv_len]; show acc.length + 1 ≤ _; omega), fun p np => ?_⟩
    refine q p _ (sg.trans ((Same.new no).trans (Same.new np))) ((sg.trans (Same.new no)).free np) ?_
    rw [upd_same, ← ea, bv_app]
    rfl
theorem ok_bytes_of (T : Top K mg "bytes_of" st_bytes_of ["value"]) (hS : ∃ t, mg "SIGNS" = some (.str Pv.SIGNS t)) (D_number_bytes : Def P w K mg base 1 "number_bytes" ["number"] spNumBytes) (z_isinstance : mg "isinstance" = none) (z_tuple : mg "tuple" = none) (z_str : mg "str" = none) (z_len : mg "len" = none) : Def P w K mg base 2 "bytes_of" ["value"] (spBytesOf K) := by
  obtain ⟨_, m_SIGNS⟩ := hS
  refine T.ok sc_bytes_of (fun vs H Q E h => ?_) (fun f cdv A outer s H vs Q E hr h => ?_)
  · obtain ⟨x, v, n, rfl, _⟩ := h
    rfl
  obtain ⟨x, v, n, rfl, hx, hv, hl, hsz, q⟩ := h
  refine ⟨_, (pss_cons (ps_set (i := 1) sc_bytes_of.nd rfl (Or.inl rfl) (pe_lst pa_nil))
    (pss_cons (ps_set (i := 2) sc_bytes_of.nd rfl (Or.inl rfl) (pe_lst (pa_cons (pv 0) pa_nil)))
    (pss_cons (ps_while PassesOwn.never (pt_truth (pv 2) (by intro _; rfl))
    (pss_cons (ps_set (i := 3) sc_bytes_of.nd rfl (Or.inl rfl) (pe_bm0 PySem.F.plainAttrs_list PySem.F.slot_list_pop PySem.F.type_list_pop mt_pop (pv 2)))
      (pss_one (ps_if (pt_val (pe_callB (isiQ K) rfl z_isinstance (by decide +kernel) (pa_cons (pv 3) (pa_cons (pe_bltn (v := .ty "tuple") rfl z_tuple (by decide +kernel) rfl) pa_nil))))
      (pss_cons (ps_expr (pe_bm PySem.F.plainAttrs_list PySem.F.slot_list_extend PySem.F.type_list_extend mt_extend (pv 1) (pa_cons (pe_op op_cat (pe_lst (pa_cons pe_int pa_nil)) (pe_def D_number_bytes (hr.mono (by decide)) rfl (pa_cons (pe_callB (lenQ K) rfl z_len (by decide +kernel) (pa_cons (pv 3) pa_nil)) pa_nil))) pa_nil)))
        (pss_one (ps_expr (pe_bm PySem.F.plainAttrs_list PySem.F.slot_list_extend PySem.F.type_list_extend mt_longer (pv 2) (pa_cons (pe_revT (pv 3)) pa_nil)))))
      (pss_one (ps_if (pt_val (pe_callB (isiQ K) rfl z_isinstance (by decide +kernel) (pa_cons (pv 3) (pa_cons (pe_bltn (v := .ty "str") rfl z_str (by decide +kernel) rfl) pa_nil))))
        (pss_cons (ps_expr (pe_bm PySem.F.plainAttrs_list PySem.F.slot_list_extend PySem.F.type_list_extend mt_extend (pv 1) (pa_cons (pe_op op_cat (pe_lst (pa_cons pe_int pa_nil)) (pe_def D_number_bytes (hr.mono (by decide)) rfl (pa_cons (pe_callB call_len_str rfl z_len (by decide +kernel) (pa_cons (pv 3) pa_nil)) pa_nil))) pa_nil)))
          (pss_one (ps_expr (pe_bm PySem.F.plainAttrs_list PySem.F.slot_list_extend PySem.F.type_list_extend mt_extend (pv 1) (pa_cons (pe_lc (own := [("sign", 4)]) (g := gName 4) (tt := tYes) rfl sc_bytes_of.nd (pi_str (pv 3)) (blkOk_by (own := [("sign", 4)]) (N := ["value", "found", "queue", "one", "sign"]) (sc := defScope st_bytes_of) (by decide +kernel)) (fun _ _ _ _ _ => (pg_name (i := 4) sc_bytes_of.nd rfl (Or.inl rfl))) (fun _ _ _ _ _ => pts_nil) (fun _ _ _ _ _ => (pe_m1 PySem.F.slot_str_index PySem.F.type_str_index mt_sindex (pe_glob (v := .str Pv.SIGNS) rfl m_SIGNS ⟨_, rfl⟩) (pv 4)))) pa_nil)))))
        (pss_one (ps_expr (pe_bm PySem.F.plainAttrs_list PySem.F.slot_list_extend PySem.F.type_list_extend mt_extend (pv 1) (pa_cons (pe_op op_cat (pe_lst (pa_cons pe_int pa_nil)) (pe_def D_number_bytes (hr.mono (by decide)) rfl (pa_cons (pe_ifExp (pt_cmpR op_ge (pv 3) pe_int (nomark _)) (pe_op op_mul pe_int (pv 3)) (pe_op op_sub (pe_op op_mul (pe_un un_neg pe_int) (pv 3)) pe_int)) pa_nil))) pa_nil))))))))))
    (pss_one (ps_ret (pv 1)))))), ?_⟩
  have big : ∀ {n : Nat}, n ≤ 900000 → n ≤ sizeLine := fun h => Nat.le_trans h (by decide)
  refine ⟨Nat.zero_le _, fun fo nfo => ?_⟩
  refine ⟨_, rfl, (by show 1 ≤ sizeLine; decide), fun qu nqu => ?_⟩
  have nfq : fo ≠ qu := ne_of_none upd_same nqu
  have s0 := (Same.new (o := .lst []) nfo).trans (Same.new (o := .lst [x]) nqu)
  have nqu0 : H qu = none := (Same.new nfo).free nqu
  refine ⟨fun m σ G => ∃ (x3 x4 : Option V) (xs : List V) (vs : List Pv.Val) (acc : List Nat), σ = [some x, some (.ref fo), some (.ref qu), x3, x4] ∧ Same H G ∧ G fo = some (.lst (bv acc)) ∧ G qu = some (.lst xs) ∧ xs.length = vs.length ∧
    (∀ (i : Nat) y e, xs[i]? = some y → vs[i]? = some e → VW K G n y e) ∧ Pv.OkL vs ∧ acc ++ Pv.bytesL vs.reverse = Pv.bytes v ∧ Pv.sizeL vs = m ∧ m ≤ Pv.size v, ⟨Pv.size v, none, none, [x], [v], [], rfl, s0, by rw [upd_ne nfq]; exact upd_same, upd_same, rfl, ?_, ⟨hv, trivial⟩, ?_, ?_, Nat.le_refl _⟩, ?_⟩
  · intro i y e hy he
    cases i with
    | zero =>
      obtain rfl := Option.some.inj hy
      obtain rfl := Option.some.inj he
      exact hx.same s0
    | succ i => cases hy
  · simp [Pv.bytesL]
  · simp [Pv.sizeL]
  rintro m σ G ⟨x3, x4, xs, vs, acc, rfl, sg, ef, eq, lx, hw, ok, eb, hm, hmv⟩
  have la : acc.length + (Pv.bytesL vs.reverse).length ≤ 900000 := by
    rw [← eb, List.length_append] at hl
    exact hl
  refine ⟨.ref qu, rfl, _, .inl ⟨xs, SqL.of eq, rfl⟩, ?_⟩
  rcases List.eq_nil_or_concat vs with hnil | ⟨ws, e, hvs⟩
  · subst hnil
    obtain rfl : xs = [] := List.eq_nil_of_length_eq_zero lx
    refine iteF ⟨_, rfl, q fo G sg nfo ?_⟩
    rw [ef, ← eb]
    simp [Pv.bytesL]
  rw [List.concat_eq_append] at hvs
  subst hvs
  obtain ⟨ys, y, rfl⟩ : ∃ ys y, xs = ys ++ [y] := by
    rcases List.eq_nil_or_concat xs with hnil | ⟨ys, y, h⟩
    · rw [hnil, List.length_append] at lx
      simp at lx
    · exact ⟨ys, y, by rw [h, List.concat_eq_append]⟩
  have ly : ys.length = ws.length := by
    rw [List.length_append, List.length_append] at lx
    simpa using lx
  refine ifV (b := true) (by simp) (iteT ?_)
  have ew : VW K G n y e := hw ws.length y e (by rw [List.getElem?_append_right (by omega), show ws.length - ys.length = 0 by omega]; rfl) (by rw [List.getElem?_append_right (Nat.le_refl _), Nat.sub_self]; rfl)
  have okw := Pv.OkL_split ok
  have hws : ∀ (i : Nat) y' e', ys[i]? = some y' → ws[i]? = some e' → VW K G n y' e' := fun i y' e' hy he => hw i y' e' (by rw [List.getElem?_append_left (List.getElem?_eq_some_iff.mp hy).1]; exact hy) (by rw [List.getElem?_append_left (List.getElem?_eq_some_iff.mp he).1]; exact he)
  rw [List.reverse_append, List.reverse_singleton, List.singleton_append, Pv.bytesL] at eb la
  rw [Pv.sizeL_append, show Pv.sizeL [e] = Pv.size e by simp [Pv.sizeL]] at hm
  have spos := Pv.size_pos e
  rw [List.length_append] at la
  have lws := Pv.length_sizeL ws
  refine ⟨fun σ' G' => ∃ m', m' < m ∧ _, fun σ' G' w => w, ?_⟩
  refine ⟨.ref qu, rfl, .inl ⟨rfl, _, SqL.of eq⟩, qu, ys ++ [y], y, rfl, rfl, eq, by simp, ?_⟩
  rw [List.dropLast_concat]
  have s1 : Same H (upd G qu (.lst ys)) := same_mut sg nqu0
  have ef1 : (upd G qu (.lst ys)) fo = some (.lst (bv acc)) := (upd_ne nfq).trans ef
  have eq1 : (upd G qu (.lst ys)) qu = some (.lst ys) := upd_same
  have ew1 : VW K (upd G qu (.lst ys)) n y e := ew.list eq
  have hw1 : ∀ (i : Nat) y' e', ys[i]? = some y' → ws[i]? = some e' → VW K (upd G qu (.lst ys)) n y' e' := fun i y' e' hy he => (hws i y' e' hy he).list eq
  generalize upd G qu (.lst ys) = G1 at *
  have okw2 := okw.1
  have fin : ∀ (G5 : Hp) (zs zs' : List V), Same H G5 → G5 fo = some (.lst zs) → G5 qu = some (.lst ys) → (∀ (i : Nat) y' e', ys[i]? = some y' → ws[i]? = some e' → VW K G5 n y' e') → zs' = bv (acc ++ Pv.bytes e) → ∃ m', m' < m ∧ ∃ (x3' x4' : Option V) (xs : List V) (vs : List Pv.Val) (acc' : List Nat), [some x, some (.ref fo), some (.ref qu), some y, x4] = [some x, some (.ref fo), some (.ref qu), x3', x4'] ∧ Same H (upd G5 fo (.lst zs')) ∧
      (upd G5 fo (.lst zs')) fo = some (.lst (bv acc')) ∧ (upd G5 fo (.lst zs')) qu = some (.lst xs) ∧ xs.length = vs.length ∧
      (∀ (i : Nat) y e, xs[i]? = some y → vs[i]? = some e → VW K (upd G5 fo (.lst zs')) n y e) ∧ Pv.OkL vs ∧ acc' ++ Pv.bytesL vs.reverse = Pv.bytes v ∧ Pv.sizeL vs = m' ∧ m' ≤ Pv.size v := by
    intro G5 zs zs' s5 e5 q5 w5 hb
    refine ⟨Pv.sizeL ws, by omega, _, _, ys, ws, acc ++ Pv.bytes e, rfl, same_mut s5 nfo, by rw [upd_same, hb], by rw [upd_ne (Ne.symm nfq)]; exact q5, ly, fun i y' e' hy he => (w5 i y' e' hy he).list e5, okw2, ?_, rfl, by omega⟩
    rw [List.append_assoc]
    exact eb
  have lna : ∀ k : Nat, k < 2 ^ 63 → (Pv.nb k).length ≤ 9 := fun k h => Pv.nb_length 8 k h
  cases n with
  | zero => exact ew1.elim
  | succ n =>
  cases e with
  | tup l =>
    obtain ⟨ta, ts, rfl, hts, lts, kts⟩ := ew1
    have lbe : (Pv.bytes (.tup l)).length = 1 + ((Pv.nb l.length).length + (Pv.bytesL l).length) := by rw [Pv.bytes, List.length_cons, List.length_append]; omega
    have lse : Pv.size (.tup l) = 1 + Pv.sizeL l := by rw [Pv.size]
    have lsl := Pv.length_sizeL l
    refine ⟨_, rfl, _, _, _, _, true, rfl, .ty _, (tyx_tuple hts), kit_ty (by decide +kernel), _, rfl, iteT ?_⟩
    have lz := lna l.length (by omega)
    have f1 : [V.int 2].length + (bv (Pv.nb l.length)).length ≤ sizeLine := big (by
      rw [bv_len]
      show 1 + _ ≤ _
      omega)
    have f2 : (bv acc).length + ([V.int 2] ++ bv (Pv.nb l.length)).length ≤ sizeLine := big (by
      rw [List.length_append, bv_len, bv_len]
      show _ + (1 + _) ≤ _
      omega)
    refine ⟨.ref fo, rfl, .inl ⟨rfl, _, SqL.of ef1⟩, (by show 1 ≤ sizeLine; decide), fun o n2 => ?_⟩
    generalize hN2 : L2.upd G1 o _ = G2
    have s2 := new_of n2 hN2
    have e2 := at_of hN2
    try dsimp only at e2
    clear hN2
    refine ⟨.ref ta, rfl, ta, ts, rfl, .inr (sqT_same s2 hts), l.length, (by rw [lts]; rfl), by omega, fun p G3 s3 n3 e3 => ⟨o, p, _, _, rfl, rfl, by nofun, e3, f1, fun c n4 => ?_⟩⟩
    generalize hN4 : L2.upd G3 c _ = G4
    have s4 := new_of n4 hN4
    have e4 := at_of hN4
    try dsimp only at e4
    clear hN4
    have s14 := (s2.trans s3).trans s4
    have ef4 := s14 _ _ ef1
    refine ⟨fo, c, _, _, rfl, rfl, ef4, e4, f2, ?_⟩
    have s5 : Same H (upd G4 fo (.lst (bv acc ++ ([V.int 2] ++ bv (Pv.nb l.length))))) := same_mut (s1.trans s14) nfo
    have eq5 : (upd G4 fo (.lst (bv acc ++ ([V.int 2] ++ bv (Pv.nb l.length))))) qu = some (.lst ys) := (upd_ne (Ne.symm nfq)).trans (s14 _ _ eq1)
    have ef5 : (upd G4 fo (.lst (bv acc ++ ([V.int 2] ++ bv (Pv.nb l.length))))) fo = some (.lst (bv (acc ++ (2 :: Pv.nb l.length)))) := by
      rw [upd_same, bv_app]
      rfl
    have hw5 : ∀ (i : Nat) y' e', ys[i]? = some y' → ws[i]? = some e' → VW K (upd G4 fo (.lst (bv acc ++ ([V.int 2] ++ bv (Pv.nb l.length))))) (n + 1) y' e' := fun i y' e' hy he => ((hw1 i y' e' hy he).same s14).list ef4
    have ts5 : VW K (upd G4 fo (.lst (bv acc ++ ([V.int 2] ++ bv (Pv.nb l.length))))) (n + 1) (.ref ta) (.tup l) := VW.list ef4 (VW.same s14 ⟨ta, ts, rfl, hts, lts, kts⟩)
    generalize upd G4 fo (.lst (bv acc ++ ([V.int 2] ++ bv (Pv.nb l.length)))) = G5 at *
    obtain ⟨ta', ts', ea, hts5, lts5, kts5⟩ := ts5
    cases ea
    refine ⟨.ref qu, rfl, .inl ⟨rfl, _, SqL.of eq5⟩, .ref ta, rfl, ta, ts', rfl, hts5, fun r n6 => ?_⟩
    generalize hN6 : L2.upd G5 r _ = G6
    have s6 := new_of n6 hN6
    have e6 := at_of hN6
    try dsimp only at e6
    clear hN6
    refine ⟨qu, r, _, _, rfl, rfl, s6 _ _ eq5, SqT.of e6, big (by rw [List.length_reverse, lts5, ly]; omega), ?_⟩
    refine ⟨Pv.sizeL (ws ++ l.reverse), by rw [Pv.sizeL_append, Pv.sizeL_reverse]; omega, _, _, ys ++ ts'.reverse, ws ++ l.reverse, acc ++ (2 :: Pv.nb l.length), rfl, same_mut (s5.trans s6) nqu0, by rw [upd_ne nfq]; exact s6 _ _ ef5, upd_same, by rw [List.length_append, List.length_append, List.length_reverse, List.length_reverse, ly, lts5], ?_, Pv.OkL_append okw2 (Pv.OkL_reverse okw.2.1.2), ?_, rfl, by rw [Pv.sizeL_append, Pv.sizeL_reverse]; omega⟩
    · intro i y' e' hy he
      refine VW.list (s6 _ _ eq5) (VW.same s6 ?_)
      by_cases lt : i < ys.length
      · rw [List.getElem?_append_left lt] at hy
        rw [List.getElem?_append_left (by omega)] at he
        exact hw5 i y' e' hy he
      · rw [List.getElem?_append_right (by omega)] at hy
        rw [List.getElem?_append_right (by omega)] at he
        have li : i - ys.length < ts'.length := by
          have := (List.getElem?_eq_some_iff.mp hy).1
          rw [List.length_reverse] at this
          exact this
        rw [List.getElem?_reverse li] at hy
        rw [List.getElem?_reverse (by omega)] at he
        exact VW.up (Nat.le_succ n) (kts5 _ y' e' hy (by rw [show ts'.length - 1 - (i - ys.length) = l.length - 1 - (i - ws.length) by omega]; exact he))
    · rw [List.reverse_append, List.reverse_reverse, Pv.bytesL_append, ← eb, Pv.bytes]
      simp
  | str ks =>
    obtain rfl : y = .str (Pv.txt ks) := ew1
    have lbe : (Pv.bytes (.str ks)).length = 1 + ((Pv.nb ks.length).length + ks.length) := by rw [Pv.bytes, List.length_cons, List.length_append]; omega
    have okk := okw.2.1
    refine ⟨_, rfl, _, _, _, _, false, rfl, .ty _, .base (.str _), kit_ty (by decide +kernel), _, rfl, iteF ?_⟩
    refine ⟨_, rfl, _, _, _, _, true, rfl, .ty _, .base (.str _), kit_ty (by decide +kernel), _, rfl, iteT ?_⟩
    have lz := lna ks.length (by omega)
    have f1 : [V.int 1].length + (bv (Pv.nb ks.length)).length ≤ sizeLine := big (by
      rw [bv_len]
      show 1 + _ ≤ _
      omega)
    have f2 : (bv acc).length + ([V.int 1] ++ bv (Pv.nb ks.length)).length ≤ sizeLine := big (by
      rw [List.length_append, bv_len, bv_len]
      show _ + (1 + _) ≤ _
      omega)
    refine ⟨.ref fo, rfl, .inl ⟨rfl, _, SqL.of ef1⟩, (by show 1 ≤ sizeLine; decide), fun o n2 => ?_⟩
    generalize hN2 : L2.upd G1 o _ = G2
    have s2 := new_of n2 hN2
    have e2 := at_of hN2
    try dsimp only at e2
    clear hN2
    refine ⟨_, rfl, Pv.txt ks, rfl, big (by show (Pv.txt ks).cps.size ≤ _; rw [Pv.txt_size]; omega), ks.length, (by show [V.int ((Pv.txt ks).cps.size : Int)] ++ [] = _; rw [Pv.txt_size]; rfl), by omega, fun p G3 s3 n3 e3 => ⟨o, p, _, _, rfl, rfl, by nofun, e3, f1, fun c n4 => ?_⟩⟩
    generalize hN4 : L2.upd G3 c _ = G4
    have s4 := new_of n4 hN4
    have e4 := at_of hN4
    try dsimp only at e4
    clear hN4
    have s14 := (s2.trans s3).trans s4
    have ef4 := s14 _ _ ef1
    refine ⟨fo, c, _, _, rfl, rfl, ef4, e4, f2, ?_⟩
    have s5 : Same H (upd G4 fo (.lst (bv acc ++ ([V.int 1] ++ bv (Pv.nb ks.length))))) := same_mut (s1.trans s14) nfo
    have eq5 : (upd G4 fo (.lst (bv acc ++ ([V.int 1] ++ bv (Pv.nb ks.length))))) qu = some (.lst ys) := (upd_ne (Ne.symm nfq)).trans (s14 _ _ eq1)
    have ef5 : (upd G4 fo (.lst (bv acc ++ ([V.int 1] ++ bv (Pv.nb ks.length))))) fo = some (.lst (bv (acc ++ (1 :: Pv.nb ks.length)))) := by
      rw [upd_same, bv_app]
      rfl
    have hw5 : ∀ (i : Nat) y' e', ys[i]? = some y' → ws[i]? = some e' → VW K (upd G4 fo (.lst (bv acc ++ ([V.int 1] ++ bv (Pv.nb ks.length))))) (n + 1) y' e' := fun i y' e' hy he => ((hw1 i y' e' hy he).same s14).list ef4
    generalize upd G4 fo (.lst (bv acc ++ ([V.int 1] ++ bv (Pv.nb ks.length)))) = G5 at *
    refine ⟨.ref fo, rfl, .inl ⟨rfl, _, SqL.of ef5⟩, _, rfl, _, rfl, fun D nD => lc_str (fun i G => Same G5 G ∧ G D = some (.lst (bv (ks.take i)))) ⟨Same.new nD, upd_same⟩ ?_ ?_⟩
    · rintro i c G hc ⟨s6, ed⟩
      obtain ⟨k, hk, ek⟩ := Pv.txt_get hc
      rw [ek]
      refine ⟨rfl, ?_⟩
      dsimp only [tYes]
      refine iteT ⟨⟨_, rfl⟩, _, rfl, _, _, k, [], rfl, rfl, Pv.sign_at k (okk.2 k (List.mem_of_getElem? hk)), _, ed, by rw [bv_len, List.length_take]; exact sq_len (by omega), same_mut s6 nD, ?_⟩
      rw [upd_same, List.take_add_one, hk, bv_app]
      rfl
    · rintro G6 ⟨s6, ed⟩
      rw [Pv.txt_size, List.take_length] at ed
      refine ⟨fo, D, _, _, rfl, rfl, s6 _ _ ef5, ed, big (by rw [bv_len, bv_len, List.length_append, List.length_cons]; omega), ?_⟩
      refine fin G6 _ _ (s5.trans s6) (s6 _ _ ef5) (s6 _ _ eq5) (fun i y' e' hy he => (hw5 i y' e' hy he).same s6) ?_
      rw [← bv_app, Pv.bytes, List.append_assoc]
      rfl
  | int i =>
    obtain rfl : y = .int i := ew1
    have lbe : (Pv.bytes (.int i)).length = 1 + (Pv.nb (Pv.zig i)).length := by rw [Pv.bytes, List.length_cons]; omega
    refine ⟨_, rfl, _, _, _, _, false, rfl, .ty _, .base (.int i), kit_ty (by decide +kernel), _, rfl, iteF ?_⟩
    refine ⟨_, rfl, _, _, _, _, false, rfl, .ty _, .base (.int i), kit_ty (by decide +kernel), _, rfl, iteF ?_⟩
    have zl := Pv.zig_lt okw.2.1
    refine ⟨.ref fo, rfl, .inl ⟨rfl, _, SqL.of ef1⟩, (by show 1 ≤ sizeLine; decide), fun o n2 => ?_⟩
    generalize hN2 : L2.upd G1 o _ = G2
    have s2 := new_of n2 hN2
    have e2 := at_of hN2
    try dsimp only at e2
    clear hN2
    have lz := lna (Pv.zig i) (by omega)
    have f1 : [V.int 0].length + (bv (Pv.nb (Pv.zig i))).length ≤ sizeLine := big (by
      rw [bv_len]
      show 1 + _ ≤ _
      omega)
    have f2 : (bv acc).length + ([V.int 0] ++ bv (Pv.nb (Pv.zig i))).length ≤ sizeLine := big (by
      rw [List.length_append, bv_len, bv_len]
      show _ + (1 + _) ≤ _
      omega)
    have hz : ((Pv.zig i : Nat) : Int) = if 0 ≤ i then 2 * i else -2 * i - 1 := by
      unfold Pv.zig
      split <;> omega
    have eb0 : bv acc ++ ([V.int 0] ++ bv (Pv.nb (Pv.zig i))) = bv (acc ++ Pv.bytes (.int i)) := by
      rw [Pv.bytes, bv_app]
      rfl
    by_cases h : 0 ≤ i
    · rw [if_pos h] at hz
      refine ⟨_, rfl, _, _, rfl, rfl, _, rfl, ifD h ?_⟩
      refine ⟨_, rfl, _, _, rfl, rfl, .inl ⟨by decide, by decide⟩, Pv.zig i, (by rw [hz]; rfl), by omega, fun p G3 s3 _ e3 => ⟨o, p, _, _, rfl, rfl, s3 _ _ e2, e3, f1, fun c n4 => ?_⟩⟩
      have s5 := (s2.trans s3).trans (Same.new (o := .lst ([V.int 0] ++ bv (Pv.nb (Pv.zig i)))) n4)
      exact ⟨fo, c, _, _, rfl, rfl, s5 _ _ ef1, upd_same, f2, fin _ _ _ (s1.trans s5) (s5 _ _ ef1) (s5 _ _ eq1) (fun i y' e' hy he => (hw1 i y' e' hy he).same s5) eb0⟩
    · rw [if_neg h] at hz
      refine ⟨_, rfl, _, _, rfl, rfl, _, rfl, ifND h ?_⟩
      refine ⟨_, rfl, _, rfl, _, _, rfl, rfl, .inl ⟨by decide, by decide⟩, _, _, rfl, rfl, Pv.zig i, (by rw [hz]; rfl), by omega, fun p G3 s3 _ e3 => ⟨o, p, _, _, rfl, rfl, s3 _ _ e2, e3, f1, fun c n4 => ?_⟩⟩
      have s5 := (s2.trans s3).trans (Same.new (o := .lst ([V.int 0] ++ bv (Pv.nb (Pv.zig i)))) n4)
      exact ⟨fo, c, _, _, rfl, rfl, s5 _ _ ef1, upd_same, f2, fin _ _ _ (s1.trans s5) (s5 _ _ ef1) (s5 _ _ eq1) (fun i y' e' hy he => (hw1 i y' e' hy he).same s5) eb0⟩
end
end My
set_option Elab.async false
set_option linter.all false
set_option maxRecDepth 100000
set_option maxHeartbeats 4000000
/-! Reading plain values back -/
namespace My
open PySem PySem.Spec PyProof.Rows L2
local macro_rules
  | `(tactic| nofun) => `(tactic| (apply tup_at; nofun))
local macro_rules
  | `(tactic| nofun) => `(tactic| (apply seq_at; nofun))
local macro_rules
  | `(tactic| nofun) => `(tactic| (apply pool_same; assumption; nofun))
local macro_rules
  | `(tactic| nofun) => `(tactic| (apply but_get; assumption; assumption; nofun))
local macro_rules
  | `(tactic| nofun) => `(tactic| (apply off_get; assumption; assumption; nofun))
local macro_rules
  | `(tactic| nofun) => `(tactic| (apply same_get; assumption; nofun))
local macro_rules
  | `(tactic| nofun) => `(tactic| assumption)
theorem joinL_nil : ∀ ls : List (List Nat), TL.joinL [] ls = ls.flatten
  | [] => rfl
  | [a] => by simp [TL.joinL]
  | a :: b :: r => by
    rw [TL.joinL, joinL_nil (b :: r)]
    rfl
theorem join_signs (ks : List Nat) : Txt.join (Str.ofString "") (ks.map Pv.sign) = Pv.txt ks := by
  have h : TL.tl (Str.join (Str.ofString "") (ks.map Pv.sign)) = TL.tl (Pv.txt ks) := by
    rw [TL.tl_join, show TL.tl (Str.ofString "") = [] from rfl, joinL_nil, List.map_map]
    show (ks.map fun k => [Pv.SIGNS.cps.toList.getD k 0]).flatten = (ks.map fun k => Pv.SIGNS.cps.toList.getD k 0)
    induction ks with
    | nil => rfl
    | cons a b ih => rw [List.map_cons, List.flatten_cons, ih]; rfl
  rw [TL.join_eq]
  have e : ∀ x y : Str, TL.tl x = TL.tl y → x = y := fun x y z => by
    cases x with
    | mk a => cases y with
      | mk b => 
        have z : a.toList = b.toList := z
        rw [← Array.toArray_toList (xs := a), z, Array.toArray_toList]
  exact e _ _ h
theorem signs_sum : ∀ ks : List Nat, ((ks.map Pv.sign).map fun x => x.length).sum = ks.length
  | [] => rfl
  | a :: b => by
    rw [List.map_cons, List.map_cons, List.sum_cons, signs_sum b, List.length_cons]
    show 1 + _ = _
    omega
def spReadNum (K : PySem.W.Frag) : Sp := fun vs H Q _ => ∃ (a : Addr) (l rest : List Nat) (at_ n : Nat), vs = [.ref a, .int (at_ : Nat)] ∧ SqL K H a (bv l) ∧ l.length ≤ 900000 ∧ l.drop at_ = Pv.nb n ++ rest ∧ n < 2 ^ 63 ∧
  ∀ t H', Same H H' → H t = none → H' t = some (.tup [.int (n : Nat), .int ((at_ + (Pv.nb n).length : Nat) : Int)]) → Q (.ref t) H'
def spReadStr (K : PySem.W.Frag) : Sp := fun vs H Q _ => ∃ (a : Addr) (l rest ks : List Nat) (at_ : Nat), vs = [.ref a, .int (at_ : Nat)] ∧ SqL K H a (bv l) ∧ l.length ≤ 900000 ∧ l.drop at_ = Pv.nb ks.length ++ (ks ++ rest) ∧ (∀ k ∈ ks, k < 73) ∧
  ∀ t H', Same H H' → H t = none → H' t = some (.tup [.str (Pv.txt ks), .int ((at_ + (Pv.nb ks.length).length + ks.length : Nat) : Int)]) → Q (.ref t) H'
inductive One where
  | str (ks rest : List Nat)
  | num (tag n : Nat) (rest : List Nat)
def One.Is (l : List Nat) (at_ : Nat) : One → Prop
  | .str ks rest => l.drop at_ = 1 :: (Pv.nb ks.length ++ (ks ++ rest)) ∧ ∀ k ∈ ks, k < 73
  | .num tag n rest => tag ≠ 1 ∧ l.drop at_ = tag :: (Pv.nb n ++ rest) ∧ n < 2 ^ 63
def One.tup (at_ : Nat) : One → List V
  | .str ks _ => [.str "value", .str (Pv.txt ks), .int ((at_ + 1 + (Pv.nb ks.length).length + ks.length : Nat) : Int)]
  | .num _ n _ => [.str "number", .int (n : Nat), .int ((at_ + 1 + (Pv.nb n).length : Nat) : Int)]
def spReadOne (K : PySem.W.Frag) : Sp := fun vs H Q _ => ∃ (a : Addr) (l : List Nat) (at_ : Nat) (w : One), vs = [.ref a, .int (at_ : Nat)] ∧ SqL K H a (bv l) ∧ l.length ≤ 900000 ∧ w.Is l at_ ∧
  ∀ t H', Same H H' → H t = none → H' t = some (.tup (w.tup at_)) → Q (.ref t) H'
section
variable {P : Program} {w : World} {K : PySem.W.Frag} {mg : Str → Option Value} {base : Heap}
theorem ok_read_number (T : Top K mg "read_number" st_read_number ["told", "at"]) (z_len : mg "len" = none) : Def P w K mg base 1 "read_number" ["told", "at"] (spReadNum K) := by
  refine T.ok sc_read_number (fun vs H Q E h => ?_) (fun f cdv A outer s H vs Q E hr h => ?_)
  · obtain ⟨a, l, rest, at_, n, rfl, _⟩ := h
    rfl
  obtain ⟨a, l, rest, at_, n, rfl, ha, hl, hd, hn, q⟩ := h
  refine ⟨_, (pss_cons (ps_set (i := 2) sc_read_number.nd rfl (Or.inl rfl) pe_int)
    (pss_cons (ps_set (i := 3) sc_read_number.nd rfl (Or.inl rfl) pe_int)
    (pss_cons (ps_set (i := 4) sc_read_number.nd rfl (Or.inl rfl) (pv 1))
    (pss_cons (ps_while PassesOwn.never (pt_cmpR op_lt (pv 1) (pe_callB (lenQ K) rfl z_len (by decide +kernel) (pa_cons (pv 0) pa_nil)) (nomark _))
    (pss_cons (ps_set (i := 5) sc_read_number.nd rfl (Or.inl rfl) (pe_ix (ixL K) (pv 0) (pv 1) (fun _ _ => rfl)))
      (Evl.pss_cut (ps_if (PW.pt (pw_and (pt_cmpR op_eq (pv 5) pe_int (nomark _)) (pw_and1 (pt_cmpR op_gt (pv 1) (pv 4) (nomark _)))))
      (pss_one (ps_ret (pe_tup (pa_cons pe_non (pa_cons (pv 1) pa_nil)))))
      pss_nil)
      (pss_cons (ps_set (i := 2) sc_read_number.nd rfl (Or.inl rfl) (pe_op op_add (pv 2) (pe_op op_mulW (pv 3) (pe_op op_mod (pv 5) pe_int))))
      (pss_cons (ps_set (i := 3) sc_read_number.nd rfl (Or.inl rfl) (pe_op op_mulW pe_int (pv 3)))
      (pss_cons (ps_set (i := 1) sc_read_number.nd rfl (Or.inl rfl) (pe_op op_add (pv 1) pe_int))
      (pss_one (ps_if (pt_cmpR op_lt (pv 5) pe_int (nomark _))
      (pss_one (ps_ret (pe_tup (pa_cons (pv 2) (pa_cons (pv 1) pa_nil)))))
      pss_nil))))))))
    (pss_one (ps_ret (pe_tup (pa_cons pe_non (pa_cons (pv 1) pa_nil))))))))), ?_⟩
  have lnb : (Pv.nb n).length ≤ 9 := Pv.nb_length 8 n (by
    show n < 2 ^ 63
    exact hn)
  refine ⟨_, rfl, fun m σ G => ∃ (k cur num : Nat) (y5 : Option V), σ = [some (.ref a), some (.int ((at_ + k : Nat) : Int)), some (.int (num : Nat)), some (.int ((128 ^ k : Nat) : Int)), some (.int (at_ : Nat)), y5] ∧ G = H ∧ l.drop (at_ + k) = Pv.nb cur ++ rest ∧ num + 128 ^ k * cur = n ∧ (0 < k → 0 < cur) ∧ k + (Pv.nb cur).length = (Pv.nb n).length ∧ cur = m,
    ⟨n, 0, n, 0, none, rfl, rfl, hd, by omega, fun z => absurd z (Nat.lt_irrefl 0), by omega, rfl⟩, ?_⟩
  rintro m σ G ⟨k, cur, num, y5, rfl, rfl, hd, hsum, hk0, hk, hm⟩
  subst hm
  have hp := Pv.nb_pos cur
  have k9 : k ≤ 9 := by omega
  have w9 : 128 ^ k ≤ 128 ^ 9 := Nat.pow_le_pow_right (by decide) k9
  have e9 : (128 : Nat) ^ 9 = 9223372036854775808 := by decide
  have cm : ∀ j : Int, j.natAbs < 2 ^ 8 → CMulW ((128 ^ k : Nat) : Int) j := fun j hj => wide_mul (a := 70) (b := 8) (by rw [Int.natAbs_natCast, show (2 : Nat) ^ 70 = 1180591620717411303424 by decide]; omega) hj (by decide) (by decide) (by decide)
  have lt : at_ + k < l.length := by
    have := congrArg List.length hd
    rw [List.length_drop, List.length_append] at this
    omega
  have get : ∀ b : Nat, (Pv.nb cur)[0]? = some b → l[at_ + k]? = some b := fun b hb => by
    have := congrArg (fun x => x[0]?) hd
    have this : (l.drop (at_ + k))[0]? = (Pv.nb cur ++ rest)[0]? := this
    rw [List.getElem?_drop, Nat.add_zero, List.getElem?_append_left hp] at this
    rw [this]
    exact hb
  refine ⟨_, rfl, .ref a, rfl, a, _, rfl, .inl ha, _, _, rfl, rfl, _, rfl, ifD (by rw [bv_len]; omega) ?_⟩
  refine ⟨fun σ' G' => ∃ m', m' < cur ∧ _, fun σ' G' w => w, ?_⟩
  by_cases h : cur > 127
  · have nbe := Pv.nb_big h
    have g := get (128 + cur % 128) (by rw [nbe]; rfl)
    refine ⟨.ref a, rfl, _, rfl, a, _, _, _, rfl, rfl, ha, atI_nat (bv_get g), ?_⟩
    refine ⟨fun σ' G' => σ' = [some (.ref a), some (.int ((at_ + k : Nat) : Int)), some (.int (num : Nat)), some (.int ((128 ^ k : Nat) : Int)), some (.int (at_ : Nat)), some (.int ((128 + cur % 128 : Nat) : Int))] ∧ G' = G, ⟨_, rfl, rfl, _, rfl, ifND (fun z => by have := V.int.inj z; omega) (iteF ⟨rfl, rfl⟩)⟩, ?_⟩
    rintro σ' G' ⟨rfl, rfl⟩
    refine ⟨_, rfl, _, rfl, _, rfl, _, _, rfl, rfl, (by show (0 : Int) < 128; decide), _, _, rfl, rfl, cm _ (by omega), _, _, rfl, rfl, ?_⟩
    refine ⟨_, rfl, _, _, rfl, rfl, wide_mul (a := 8) (b := 70) (by decide) (by rw [Int.natAbs_natCast, show (2 : Nat) ^ 70 = 1180591620717411303424 by decide]; omega) (by decide) (by decide) (by decide), ?_⟩
    refine ⟨_, rfl, _, _, rfl, rfl, _, rfl, _, _, rfl, rfl, _, rfl, ifND (by omega) ?_⟩
    have e2 : ((num : Nat) : Int) + ((128 ^ k : Nat) : Int) * (((128 + cur % 128 : Nat) : Int) % 128) = ((num + 128 ^ k * (cur % 128) : Nat) : Int) := by
      rw [show ((128 + cur % 128 : Nat) : Int) % 128 = ((cur % 128 : Nat) : Int) by omega, Int.natCast_add, Int.natCast_mul]
    have e3 : (128 : Int) * ((128 ^ k : Nat) : Int) = ((128 ^ (k + 1) : Nat) : Int) := by
      rw [Nat.pow_succ, Nat.mul_comm, Int.natCast_mul]
      rfl
    refine ⟨cur / 128, by omega, k + 1, cur / 128, num + 128 ^ k * (cur % 128), some (.int ((128 + cur % 128 : Nat) : Int)), ?_, rfl, ?_, ?_, fun _ => by omega, by rw [nbe, List.length_cons] at hk; omega, rfl⟩
    · show [some (V.ref a), some (V.int (((at_ + k : Nat) : Int) + 1)), some (V.int (((num : Nat) : Int) + ((128 ^ k : Nat) : Int) * (((128 + cur % 128 : Nat) : Int) % 128))), some (V.int ((128 : Int) * ((128 ^ k : Nat) : Int))), _, _] = _
      rw [e2, e3]
      rfl
    · rw [← Nat.add_assoc, ← List.drop_drop, hd, nbe]
      rfl
    · rw [Nat.pow_succ, Nat.mul_assoc, Nat.add_assoc, ← Nat.mul_add, show cur % 128 + 128 * (cur / 128) = cur by omega]
      exact hsum
  · have nbe := Pv.nb_small h
    have g := get cur (by rw [nbe]; rfl)
    refine ⟨.ref a, rfl, _, rfl, a, _, _, _, rfl, rfl, ha, atI_nat (bv_get g), ?_⟩
    refine ⟨fun σ' G' => σ' = [some (.ref a), some (.int ((at_ + k : Nat) : Int)), some (.int (num : Nat)), some (.int ((128 ^ k : Nat) : Int)), some (.int (at_ : Nat)), some (.int (cur : Nat))] ∧ G' = G, ?_, ?_⟩
    · refine ⟨_, rfl, rfl, _, rfl, ite2 (fun c => ?_) (fun c => iteF ⟨rfl, rfl⟩)⟩
      have c0 : ((cur : Nat) : Int) = 0 := V.int.inj (of_decide_eq_true c)
      exact ⟨_, rfl, _, rfl, _, _, rfl, rfl, _, rfl, ifND (by
        by_cases z : 0 < k
        · have := hk0 z
          omega
        · omega) ⟨rfl, rfl⟩⟩
    rintro σ' G' ⟨rfl, rfl⟩
    refine ⟨_, rfl, _, rfl, _, rfl, _, _, rfl, rfl, (by show (0 : Int) < 128; decide), _, _, rfl, rfl, cm _ (by omega), _, _, rfl, rfl, ?_⟩
    refine ⟨_, rfl, _, _, rfl, rfl, wide_mul (a := 8) (b := 70) (by decide) (by rw [Int.natAbs_natCast, show (2 : Nat) ^ 70 = 1180591620717411303424 by decide]; omega) (by decide) (by decide) (by decide), ?_⟩
    refine ⟨_, rfl, _, _, rfl, rfl, _, rfl, _, _, rfl, rfl, _, rfl, ifD (by omega) ?_⟩
    refine ⟨_, rfl, _, rfl, (by show 2 ≤ sizeLine; decide), fun t nt => ?_⟩
    refine q t _ (Same.new nt) nt ?_
    rw [upd_same]
    have e2 : ((num : Nat) : Int) + ((128 ^ k : Nat) : Int) * (((cur : Nat) : Int) % 128) = ((n : Nat) : Int) := by
      rw [show ((cur : Nat) : Int) % 128 = ((cur : Nat) : Int) by omega, ← hsum, Int.natCast_add, Int.natCast_mul]
    show some (HO.tup [V.int (((num : Nat) : Int) + ((128 ^ k : Nat) : Int) * (((cur : Nat) : Int) % 128)), V.int (((at_ + k : Nat) : Int) + 1)]) = _
    rw [e2, show ((at_ + k : Nat) : Int) + 1 = ((at_ + (Pv.nb n).length : Nat) : Int) by rw [nbe, List.length_singleton] at hk; omega]
theorem ok_read_string (T : Top K mg "read_string" st_read_string ["told", "at"]) (hS : ∃ t, mg "SIGNS" = some (.str Pv.SIGNS t)) (D_read_number : Def P w K mg base 1 "read_number" ["told", "at"] (spReadNum K)) (z_len : mg "len" = none) : Def P w K mg base 2 "read_string" ["told", "at"] (spReadStr K) := by
  obtain ⟨_, m_SIGNS⟩ := hS
  refine T.ok sc_read_string (fun vs H Q E h => ?_) (fun f cdv A outer s H vs Q E hr h => ?_)
  · obtain ⟨a, l, rest, ks, at_, rfl, _⟩ := h
    rfl
  obtain ⟨a, l, rest, ks, at_, rfl, ha, hl, hd, hk, q⟩ := h
  refine ⟨_, (pss_cons (ps_asg (pe_def D_read_number (hr.mono (by decide)) rfl (pa_cons (pv 0) (pa_cons (pv 1) pa_nil))) (pg_tup rfl (pgs_cons (pg_name (i := 2) sc_read_string.nd rfl (Or.inl rfl)) (pgs_cons (pg_name (i := 1) sc_read_string.nd rfl (Or.inl rfl)) pgs_nil))))
    (pss_cons (ps_if (pt_cmpR op_isN (pv 2) pe_non (nomark _))
    (pss_one (ps_ret (pe_tup (pa_cons pe_non (pa_cons (pv 1) pa_nil)))))
    pss_nil)
    (pss_cons (ps_set (i := 3) sc_read_string.nd rfl (Or.inl rfl) (pe_lst pa_nil))
    (pss_cons (ps_while PassesOwn.never (pt_cmpR op_lt (pe_callB (lenQ K) rfl z_len (by decide +kernel) (pa_cons (pv 3) pa_nil)) (pv 2) (nomark _))
    (pss_cons (ps_if (PW.pt (pw_or (pt_cmpR op_ge (pv 1) (pe_callB (lenQ K) rfl z_len (by decide +kernel) (pa_cons (pv 0) pa_nil)) (nomark _)) (pw_or1 (pt_cmpR op_ge (pe_ix (ixL K) (pv 0) (pv 1) (fun _ _ => rfl)) (pe_callB call_len_str rfl z_len (by decide +kernel) (pa_cons (pe_glob (v := .str Pv.SIGNS) rfl m_SIGNS ⟨_, rfl⟩) pa_nil)) (nomark _)))))
      (pss_one (ps_ret (pe_tup (pa_cons pe_non (pa_cons (pv 1) pa_nil)))))
      pss_nil)
      (pss_cons (ps_expr (pe_bm PySem.F.plainAttrs_list PySem.F.slot_list_append PySem.F.type_list_append mt_append (pv 3) (pa_cons (pe_ix ix_str (pe_glob (v := .str Pv.SIGNS) rfl m_SIGNS ⟨_, rfl⟩) (pe_ix (ixL K) (pv 0) (pv 1) (fun _ _ => rfl)) (fun _ _ => rfl)) pa_nil)))
      (pss_one (ps_set (i := 1) sc_read_string.nd rfl (Or.inl rfl) (pe_op op_add (pv 1) pe_int))))))
    (pss_one (ps_ret (pe_tup (pa_cons (pe_bm PySem.F.plainAttrs_str PySem.F.slot_str_join PySem.F.type_str_join mt_join pe_str (pa_cons (pv 3) pa_nil)) (pa_cons (pv 1) pa_nil))))))))), ?_⟩
  have big : ∀ {n : Nat}, n ≤ 900000 → n ≤ sizeLine := fun h => Nat.le_trans h (by decide)
  have lens : ks.length + (Pv.nb ks.length).length + at_ ≤ l.length ∨ l.length < at_ := by
    have := congrArg List.length hd
    rw [List.length_drop, List.length_append, List.length_append] at this
    omega
  have pos := Pv.nb_pos ks.length
  have lens : at_ + (Pv.nb ks.length).length + ks.length ≤ l.length := by
    rcases lens with h | h
    · omega
    · rw [List.drop_eq_nil_of_le (by omega)] at hd
      have := congrArg List.length hd
      rw [List.length_append] at this
      simp at this
      omega
  refine ⟨.ref a, rfl, _, rfl, a, l, ks ++ rest, at_, ks.length, rfl, ha, hl, hd, by omega, fun t G1 s1 n1 e1 => ?_⟩
  refine ⟨t, _, rfl, SqT.of e1, rfl, _, _, rfl, _, _, rfl, rfl, ?_⟩
  refine ⟨_, rfl, rfl, _, rfl, ifND (fun z => by cases z) ?_⟩
  refine ⟨Nat.zero_le _, fun si n2 => ?_⟩
  generalize hN2 : L2.upd G1 si _ = G2
  have s2 := new_of n2 hN2
  have e2 := at_of hN2
  try dsimp only at e2
  clear hN2
  have s12 := s1.trans s2
  have nsi : H si = none := s1.free n2
  have hd1 : l.drop (at_ + (Pv.nb ks.length).length) = ks ++ rest := by
    rw [← List.drop_drop, hd, List.drop_left' rfl]
  clear s2 s1
  refine ⟨fun m σ G => ∃ i : Nat, i ≤ ks.length ∧ σ = [some (.ref a), some (.int ((at_ + (Pv.nb ks.length).length + i : Nat) : Int)), some (.int (ks.length : Nat)), some (.ref si)] ∧ Same H G ∧ G si = some (.lst ((ks.take i).map fun k => V.str (Pv.sign k))) ∧ m = ks.length - i, ⟨ks.length, 0, Nat.zero_le _, rfl, s12, e2, rfl⟩, ?_⟩
  rintro m σ G ⟨i, hi, rfl, sg, es, rfl⟩
  have lt : ((ks.take i).map fun k => V.str (Pv.sign k)).length = i := by rw [List.length_map, List.length_take]; omega
  refine ⟨.ref si, rfl, si, _, rfl, .inl (SqL.of es), _, rfl, _, _, rfl, rfl, _, rfl, ?_⟩
  have ha' := sg.seq ha
  by_cases h : i < ks.length
  · refine ifD (by rw [lt]; omega) ⟨fun σ' G' => ∃ m', m' < ks.length - i ∧ _, fun σ' G' w => w, ?_⟩
    obtain ⟨k, hki⟩ : ∃ k, ks[i]? = some k := ⟨_, List.getElem?_eq_getElem h⟩
    have k73 := hk k (List.mem_of_getElem? hki)
    have g : l[at_ + (Pv.nb ks.length).length + i]? = some k := by
      have := congrArg (fun x => x[i]?) hd1
      have this : (l.drop (at_ + (Pv.nb ks.length).length))[i]? = (ks ++ rest)[i]? := this
      rw [List.getElem?_drop, List.getElem?_append_left h] at this
      rw [this, hki]
    have sl : Pv.SIGNS.length = 73 := by decide +kernel
    refine ⟨_, rfl, .ref a, rfl, a, _, rfl, .inl ha', _, _, rfl, rfl, _, rfl, ifND (by rw [bv_len]; omega) ?_⟩
    refine ⟨.ref a, rfl, _, rfl, a, _, _, _, rfl, rfl, ha', atI_nat (bv_get g), Pv.SIGNS, rfl, by rw [sl]; decide, _, _, rfl, rfl, _, rfl, ifND (by rw [sl]; omega) ?_⟩
    have gs : atI Pv.SIGNS.cps.toList (k : Int) = some (Pv.SIGNS.cps.toList.getD k 0) := atI_nat (by
      have : k < Pv.SIGNS.cps.toList.length := by rw [Pv.signs_length]; exact k73
      rw [List.getD_eq_getElem?_getD, List.getElem?_eq_getElem this]
      rfl)
    refine ⟨.ref si, rfl, .inl ⟨rfl, _, SqL.of es⟩, .ref a, rfl, _, rfl, a, _, _, _, rfl, rfl, ha', atI_nat (bv_get g), _, _, _, rfl, rfl, by rw [sl]; decide, gs, si, _, _, rfl, rfl, es, by rw [lt]; exact sq_len (by omega), ?_⟩
    refine ⟨_, rfl, _, _, rfl, rfl, ks.length - (i + 1), by omega, i + 1, h, rfl, same_mut sg nsi, ?_, rfl⟩
    rw [upd_same, List.take_add_one, hki, List.map_append]
    rfl
  · have ei : i = ks.length := by omega
    subst ei
    refine ifND (by rw [lt]; omega) ?_
    rw [List.take_length] at es
    have em : (ks.map fun k => V.str (Pv.sign k)) = (ks.map Pv.sign).map V.str := by rw [List.map_map]; rfl
    rw [em] at es
    have sum := signs_sum ks
    refine ⟨rfl, .ref si, rfl, _, si, ks.map Pv.sign, rfl, rfl, .inl (SqL.of es), ?_, _, rfl, (by show 2 ≤ sizeLine; decide), fun t nt => ?_⟩
    · rw [sum, show (Str.ofString "").length = 0 from rfl]
      omega
    · refine q t _ (sg.trans (Same.new nt)) (sg.free nt) ?_
      rw [upd_same, join_signs]
theorem ok_read_one (T : Top K mg "read_one" st_read_one ["told", "at"]) (D_read_number : Def P w K mg base 1 "read_number" ["told", "at"] (spReadNum K)) (D_read_string : Def P w K mg base 2 "read_string" ["told", "at"] (spReadStr K)) : Def P w K mg base 3 "read_one" ["told", "at"] (spReadOne K) := by
  refine T.ok sc_read_one (fun vs H Q E h => ?_) (fun f cdv A outer s H vs Q E hr h => ?_)
  · obtain ⟨a, l, at_, w, rfl, _⟩ := h
    rfl
  obtain ⟨a, l, at_, w, rfl, ha, hl, hw, q⟩ := h
  refine ⟨_, (pss_cons (ps_if (pt_cmpR op_eq (pe_ix (ixL K) (pv 0) (pv 1) (fun _ _ => rfl)) pe_int (nomark _))
    (pss_cons (ps_asg (pe_def D_read_string (hr.mono (by decide)) rfl (pa_cons (pv 0) (pa_cons (pe_op op_add (pv 1) pe_int) pa_nil))) (pg_tup rfl (pgs_cons (pg_name (i := 2) sc_read_one.nd rfl (Or.inl rfl)) (pgs_cons (pg_name (i := 1) sc_read_one.nd rfl (Or.inl rfl)) pgs_nil))))
      (pss_one (ps_ret (pe_tup (pa_cons pe_str (pa_cons (pv 2) (pa_cons (pv 1) pa_nil)))))))
    pss_nil)
    (pss_cons (ps_asg (pe_def D_read_number (hr.mono (by decide)) rfl (pa_cons (pv 0) (pa_cons (pe_op op_add (pv 1) pe_int) pa_nil))) (pg_tup rfl (pgs_cons (pg_name (i := 3) sc_read_one.nd rfl (Or.inl rfl)) (pgs_cons (pg_name (i := 1) sc_read_one.nd rfl (Or.inl rfl)) pgs_nil))))
    (pss_one (ps_ret (pe_tup (pa_cons pe_str (pa_cons (pv 3) (pa_cons (pv 1) pa_nil)))))))), ?_⟩
  have at0 : ∀ {t : Nat} {r : List Nat}, l.drop at_ = t :: r → l[at_]? = some t ∧ l.drop (at_ + 1) = r := fun {t r} e => by
    refine ⟨?_, ?_⟩
    · have := congrArg (fun x => x[0]?) e
      have this : (l.drop at_)[0]? = (t :: r)[0]? := this
      rw [List.getElem?_drop, Nat.add_zero] at this
      exact this
    · rw [← List.drop_drop, e]
      rfl
  cases w with
  | str ks rest =>
    obtain ⟨hd, hk⟩ := hw
    obtain ⟨g, hd1⟩ := at0 hd
    refine ⟨.ref a, rfl, _, rfl, a, _, _, _, rfl, rfl, ha, atI_nat (bv_get g), rfl, _, rfl, ifD rfl ?_⟩
    refine ⟨.ref a, rfl, _, rfl, _, _, rfl, rfl, a, l, rest, ks, at_ + 1, rfl, ha, hl, hd1, hk, fun t G1 s1 n1 e1 => ?_⟩
    refine ⟨t, _, rfl, SqT.of e1, rfl, _, _, rfl, _, _, rfl, rfl, ?_⟩
    refine ⟨_, rfl, _, rfl, (by show 3 ≤ sizeLine; decide), fun u n2 => ?_⟩
    generalize hN2 : L2.upd G1 u _ = G2
    have s2 := new_of n2 hN2
    have e2 := at_of hN2
    try dsimp only at e2
    clear hN2
    exact q u G2 (s1.trans s2) (s1.free n2) e2
  | num tag n rest =>
    obtain ⟨ht, hd, hn⟩ := hw
    obtain ⟨g, hd1⟩ := at0 hd
    refine ⟨.ref a, rfl, _, rfl, a, _, _, _, rfl, rfl, ha, atI_nat (bv_get g), rfl, _, rfl, ifND (fun z => ht (by have := V.int.inj z; omega)) ?_⟩
    refine ⟨.ref a, rfl, _, rfl, _, _, rfl, rfl, a, l, rest, at_ + 1, n, rfl, ha, hl, hd1, hn, fun t G1 s1 n1 e1 => ?_⟩
    refine ⟨t, _, rfl, SqT.of e1, rfl, _, _, rfl, _, _, rfl, rfl, ?_⟩
    refine ⟨_, rfl, _, rfl, (by show 3 ≤ sizeLine; decide), fun u n2 => ?_⟩
    generalize hN2 : L2.upd G1 u _ = G2
    have s2 := new_of n2 hN2
    have e2 := at_of hN2
    try dsimp only at e2
    clear hN2
    exact q u G2 (s1.trans s2) (s1.free n2) e2
end
end My
set_option Elab.async false
set_option linter.all false
set_option maxRecDepth 100000
set_option maxHeartbeats 4000000
/-! value_of reads what bytes_of wrote -/
namespace My
open PySem PySem.Spec PyProof.Rows L2
local macro_rules
  | `(tactic| nofun) => `(tactic| (apply tup_at; nofun))
local macro_rules
  | `(tactic| nofun) => `(tactic| (apply seq_at; nofun))
local macro_rules
  | `(tactic| nofun) => `(tactic| (apply pool_same; assumption; nofun))
local macro_rules
  | `(tactic| nofun) => `(tactic| (apply but_get; assumption; assumption; nofun))
local macro_rules
  | `(tactic| nofun) => `(tactic| (apply off_get; assumption; assumption; nofun))
local macro_rules
  | `(tactic| nofun) => `(tactic| (apply same_get; assumption; nofun))
local macro_rules
  | `(tactic| nofun) => `(tactic| assumption)
def spValueOf (K : PySem.W.Frag) : Sp := fun vs H Q _ => ∃ (a : Addr) (v : Pv.Val), vs = [.ref a] ∧ SqL K H a (bv (Pv.bytes v)) ∧ Pv.Ok v ∧ (Pv.bytes v).length ≤ 900000 ∧ Pv.depth v ≤ 60 ∧
  ∀ t x H', Same H H' → H t = none → H' t = some (.tup [.str "value", x]) → VW K H' (Pv.depth v) x v → Q (.ref t) H'
/-- an opened tuple: its object, its list, how many it wants, what it has, what comes behind the next -/
structure Fr where
  t : Addr
  l : Addr
  n : Nat
  xs : List V
  ds : List Pv.Val
  rest : List Pv.Val
def plug : List Fr → Pv.Val → Pv.Val
  | [], v => v
  | f :: fs, v => plug fs (.tup (f.ds ++ v :: f.rest))
def rem : List Fr → List Nat
  | [] => []
  | f :: fs => Pv.bytesL f.rest ++ rem fs
theorem plug_ok : ∀ {fs : List Fr} {v : Pv.Val}, Pv.Ok (plug fs v) → Pv.Ok v
  | [], _, h => h
  | f :: fs, v, h => by
    have := plug_ok (fs := fs) h
    exact (Pv.OkL_split this.2).2.1
theorem plug_depth : ∀ (fs : List Fr) (v : Pv.Val), fs.length + Pv.depth v ≤ Pv.depth (plug fs v)
  | [], v => by simp [plug]
  | f :: fs, v => by
    have h := plug_depth fs (.tup (f.ds ++ v :: f.rest))
    have d := Pv.depthL_mem (l := f.ds ++ v :: f.rest) (v := v) (by simp)
    rw [plug, List.length_cons]
    rw [Pv.depth] at h
    omega
structure FrAt (K : PySem.W.Frag) (H G : Hp) (f : Fr) : Prop where
  tup : G f.t = some (.tup [.int (f.n : Nat), .ref f.l])
  lst : G f.l = some (.lst f.xs)
  ft : H f.t = none
  fl : H f.l = none
  len : f.xs.length = f.ds.length
  at_ : ∀ (i : Nat) y e, f.xs[i]? = some y → f.ds[i]? = some e → VW K G (Pv.depth e) y e
def Stack (K : PySem.W.Frag) (H G : Hp) : List Fr → Prop
  | [] => True
  | f :: fs => FrAt K H G f ∧ (∀ g ∈ fs, g.l ≠ f.l) ∧ Stack K H G fs
def Holes (fs : List Fr) : Prop := ∀ f ∈ fs, f.n = f.ds.length + 1 + f.rest.length
section
variable {K : PySem.W.Frag} {H G G' : Hp}
theorem FrAt.same {f : Fr} (h : FrAt K H G f) (s : Same G G') : FrAt K H G' f := ⟨s _ _ h.tup, s _ _ h.lst, h.ft, h.fl, h.len, fun i y e hy he => (h.at_ i y e hy he).same s⟩
theorem FrAt.put {f : Fr} {p : Addr} {ys zs : List V} (h : FrAt K H G f) (e : G p = some (.lst ys)) (n : p ≠ f.l) : FrAt K H (upd G p (.lst zs)) f :=
  ⟨(upd_ne (fun z => by have := h.tup; rw [z, e] at this; cases this)).trans h.tup, (upd_ne (Ne.symm n)).trans h.lst, h.ft, h.fl, h.len, fun i y d hy hd => (h.at_ i y d hy hd).list e⟩
theorem Stack.same : ∀ {fs : List Fr}, Stack K H G fs → Same G G' → Stack K H G' fs
  | [], _, _ => trivial
  | f :: fs, h, s => ⟨h.1.same s, h.2.1, Stack.same h.2.2 s⟩
theorem Stack.put {p : Addr} {ys zs : List V} (e : G p = some (.lst ys)) : ∀ {fs : List Fr}, Stack K H G fs → (∀ f ∈ fs, f.l ≠ p) → Stack K H (upd G p (.lst zs)) fs
  | [], _, _ => trivial
  | f :: fs, h, n => ⟨h.1.put e (Ne.symm (n f (List.mem_cons_self ..))), h.2.1, Stack.put e h.2.2 fun g hg => n g (List.mem_cons_of_mem _ hg)⟩
theorem Stack.ne : ∀ {fs : List Fr} {p : Addr}, Stack K H G fs → G p = none → ∀ f ∈ fs, f.l ≠ p
  | f :: fs, p, h, n, g, hg => by
    rcases List.mem_cons.mp hg with e | hg
    · rw [e]
      exact fun z => by have := h.1.lst; rw [z, n] at this; cases this
    · exact Stack.ne h.2.2 n g hg
theorem VW.not {n : Nat} {x : V} {v : Pv.Val} (h : VW K H n x v) : x ≠ .non := fun z => by
  subst z
  cases n with
  | zero => exact h
  | succ n =>
    cases v with
    | int i => cases (show V.non = V.int i from h)
    | str ks => cases (show V.non = V.str _ from h)
    | tup l =>
      obtain ⟨a, xs, e, _⟩ := h
      cases e
end
def oneOf (r : List Nat) : Pv.Val → One
  | .int i => .num 0 (Pv.zig i) r
  | .str ks => .str ks r
  | .tup l => .num 2 l.length (Pv.bytesL l ++ r)
def tagOf : Pv.Val → Nat
  | .int _ => 0
  | .str _ => 1
  | .tup _ => 2
def kindOf : Pv.Val → V
  | .int _ => .str "number"
  | .str _ => .str "value"
  | .tup _ => .str "number"
def rawOf : Pv.Val → V
  | .int i => .int (Pv.zig i : Nat)
  | .str ks => .str (Pv.txt ks)
  | .tup l => .int (l.length : Nat)
def convOf : Pv.Val → V
  | .int i => .int i
  | e => rawOf e
def stepOf : Pv.Val → Nat
  | .int i => 1 + (Pv.nb (Pv.zig i)).length
  | .str ks => 1 + (Pv.nb ks.length).length + ks.length
  | .tup l => 1 + (Pv.nb l.length).length
theorem one_tup (r : List Nat) (at_ : Nat) (e : Pv.Val) : (oneOf r e).tup at_ = [kindOf e, rawOf e, .int ((at_ + stepOf e : Nat) : Int)] := by
  cases e <;> simp [oneOf, One.tup, kindOf, rawOf, stepOf, Nat.add_assoc]
def innerOf : Pv.Val → List Nat
  | .tup l => Pv.bytesL l
  | _ => []
theorem one_is {l r : List Nat} {at_ : Nat} {e : Pv.Val} (ok : Pv.Ok e) (h : l.drop at_ = Pv.bytes e ++ r) : (oneOf r e).Is l at_ ∧ l.drop (at_ + stepOf e) = innerOf e ++ r ∧ at_ + stepOf e ≤ l.length := by
  have hl := congrArg List.length h
  rw [List.length_drop, List.length_append] at hl
  cases e with
  | int i =>
    rw [Pv.bytes] at h hl
    rw [List.length_cons] at hl
    have z := Pv.zig_lt ok
    have se : stepOf (.int i) = 1 + (Pv.nb (Pv.zig i)).length := rfl
    refine ⟨⟨by decide, h, by omega⟩, ?_, by omega⟩
    rw [se, ← List.drop_drop, h, List.cons_append, Nat.add_comm 1, List.drop_succ_cons, List.drop_left' rfl]
    rfl
  | str ks =>
    rw [Pv.bytes] at h hl
    rw [List.length_cons, List.length_append] at hl
    have se : stepOf (.str ks) = 1 + (Pv.nb ks.length).length + ks.length := rfl
    refine ⟨⟨by rw [h, List.cons_append, List.append_assoc], ok.2⟩, ?_, by omega⟩
    rw [show stepOf (.str ks) = ((Pv.nb ks.length).length + ks.length) + 1 by rw [se]; omega, ← List.drop_drop, h, List.cons_append, List.drop_succ_cons, List.append_assoc, ← List.drop_drop, List.drop_left' rfl, List.drop_left' rfl]
    rfl
  | tup ls =>
    rw [Pv.bytes] at h hl
    rw [List.length_cons, List.length_append] at hl
    have := ok.1
    have se : stepOf (.tup ls) = 1 + (Pv.nb ls.length).length := rfl
    refine ⟨⟨by decide, by rw [h, List.cons_append, List.append_assoc], by omega⟩, ?_, by omega⟩
    rw [se, ← List.drop_drop, h, List.cons_append, Nat.add_comm 1, List.drop_succ_cons, List.append_assoc, List.drop_left' rfl]
    rfl
theorem raw_not (e : Pv.Val) : rawOf e ≠ .non := by cases e <;> exact fun z => by cases z
theorem conv_is {K : PySem.W.Frag} {H : Hp} (e : Pv.Val) (h : tagOf e ≠ 2) : VW K H (Pv.depth e) (convOf e) e := by
  cases e with
  | int i => rw [Pv.depth]; exact rfl
  | str ks => rw [Pv.depth]; exact rfl
  | tup l => exact absurd rfl h
/-- a value stands behind what is opened; or the next is to be read; or a tuple of none is to be closed -/
inductive Ph where
  | got (x : V)
  | next
  | none_
def Opened (fs : List Fr) : List V := fs.reverse.map fun f => V.ref f.t
def Vof (K : PySem.W.Frag) (H : Hp) (v : Pv.Val) (a o : Addr) (at0 : Nat) (m : Nat) (σ : L2.St) (G : Hp) : Prop :=
  ∃ (fs : List Fr) (at_ : Nat) (x3 x4 : Option V) (val : V), σ = [some (.ref a), some (.int (at_ : Nat)), some (.ref o), x3, x4, some val] ∧ Same H G ∧ G o = some (.lst (Opened fs)) ∧ (∀ f ∈ fs, f.l ≠ o) ∧ Stack K H G fs ∧ at0 < at_ ∧ at_ ≤ (Pv.bytes v).length ∧
  ((∃ e, VW K G (Pv.depth e) val e ∧ plug fs e = v ∧ (Pv.bytes v).drop at_ = rem fs ∧ Holes fs ∧ m = 2 * fs.length + 1) ∨
   (∃ e, val = .non ∧ fs ≠ [] ∧ plug fs e = v ∧ (Pv.bytes v).drop at_ = Pv.bytes e ++ rem fs ∧ Holes fs ∧ m = 0) ∨
   (∃ f fs', val = .non ∧ fs = f :: fs' ∧ f.n = 0 ∧ f.xs = [] ∧ plug fs' (.tup []) = v ∧ (Pv.bytes v).drop at_ = rem fs' ∧ Holes fs' ∧ m = 2 * fs'.length + 2))
section
variable {P : Program} {w : World} {K : PySem.W.Frag} {mg : Str → Option Value} {base : Heap}
theorem opened_cons (f : Fr) (fs : List Fr) : Opened (f :: fs) = Opened fs ++ [.ref f.t] := by
  unfold Opened
  rw [List.reverse_cons, List.map_append]
  rfl
theorem at_snoc (xs : List V) (y : V) : atI (xs ++ [y]) (-1) = some y := by
  unfold atI ixN
  rw [if_neg (by decide), if_pos (by rw [List.length_append, List.length_singleton]; omega)]
  show (xs ++ [y])[(-1 + ((xs ++ [y]).length : Int)).toNat]? = _
  rw [List.length_append, List.length_singleton, show (-1 + ((xs.length + 1 : Nat) : Int)).toNat = xs.length by omega, List.getElem?_append_right (Nat.le_refl _), Nat.sub_self]
  rfl
theorem ok_value_of (T : Top K mg "value_of" st_value_of ["told"]) (hD : ∃ t, mg "DEEPEST" = some (.int 60 t)) (D_read_one : Def P w K mg base 3 "read_one" ["told", "at"] (spReadOne K)) (z_len : mg "len" = none) (z_tuple : mg "tuple" = none) : Def P w K mg base 4 "value_of" ["told"] (spValueOf K) := by
  obtain ⟨_, m_DEEPEST⟩ := hD
  refine T.ok sc_value_of (fun vs H Q E h => ?_) (fun f cdv A outer s H vs Q E hr h => ?_)
  · obtain ⟨a, v, rfl, _⟩ := h
    rfl
  obtain ⟨a, v, rfl, ha, hok, hl, hdp, q⟩ := h
  refine ⟨_, (pss_cons (ps_set (i := 1) sc_value_of.nd rfl (Or.inl rfl) pe_int)
    (pss_cons (ps_set (i := 2) sc_value_of.nd rfl (Or.inl rfl) (pe_lst pa_nil))
    (pss_one (ps_while PassesOwn.never (pt_val pe_bl)
    (Evl.pss_cut (ps_if (PW.pt (pw_or (pt_cmpR op_ge (pv 1) (pe_callB (lenQ K) rfl z_len (by decide +kernel) (pa_cons (pv 0) pa_nil)) (nomark _)) (pw_or (pt_cmpR op_gt (pe_ix (ixL K) (pv 0) (pv 1) (fun _ _ => rfl)) pe_int (nomark _)) (pw_or1 (PW.pt (pw_and (pt_cmpR op_eq (pe_ix (ixL K) (pv 0) (pv 1) (fun _ _ => rfl)) pe_int (nomark _)) (pw_and1 (pt_cmpR op_ge (pe_callB (lenQ K) rfl z_len (by decide +kernel) (pa_cons (pv 2) pa_nil)) (pe_glob (v := .int 60) rfl m_DEEPEST ⟨_, rfl⟩) (nomark _)))))))))
      (pss_one (ps_ret (pe_tup (pa_cons pe_str (pa_cons (pv 1) pa_nil)))))
      pss_nil)
      (pss_cons (ps_set (i := 3) sc_value_of.nd rfl (Or.inl rfl) (pe_ix (ixL K) (pv 0) (pv 1) (fun _ _ => rfl)))
      (pss_cons (ps_asg (pe_def D_read_one (hr.mono (by decide)) rfl (pa_cons (pv 0) (pa_cons (pv 1) pa_nil))) (pg_tup rfl (pgs_cons (pg_name (i := 4) sc_value_of.nd rfl (Or.inl rfl)) (pgs_cons (pg_name (i := 5) sc_value_of.nd rfl (Or.inl rfl)) (pgs_cons (pg_name (i := 1) sc_value_of.nd rfl (Or.inl rfl)) pgs_nil)))))
      (pss_cons (ps_if (pt_cmpR op_isN (pv 5) pe_non (nomark _))
      (pss_one (ps_ret (pe_tup (pa_cons pe_str (pa_cons (pv 1) pa_nil)))))
      pss_nil)
      (Evl.pss_cut (ps_if (pt_cmpR op_eq (pv 3) pe_int (nomark _))
      (pss_one (ps_set (i := 5) sc_value_of.nd rfl (Or.inl rfl) (pe_ifExp (pt_cmpR op_eq (pe_op op_mod (pv 5) pe_int) pe_int (nomark _)) (pe_op op_fdiv (pv 5) pe_int) (pe_un un_neg (pe_op op_fdiv (pe_op op_add (pv 5) pe_int) pe_int)))))
      pss_nil)
      (Evl.pss_cut (ps_if (pt_cmpR op_eq (pv 3) pe_int (nomark _))
      (pss_cons (ps_expr (pe_bm PySem.F.plainAttrs_list PySem.F.slot_list_append PySem.F.type_list_append mt_append (pv 2) (pa_cons (pe_tup (pa_cons (pv 5) (pa_cons (pe_lst pa_nil) pa_nil))) pa_nil)))
        (pss_one (ps_set (i := 5) sc_value_of.nd rfl (Or.inl rfl) pe_non)))
      pss_nil)
      (pss_cons (ps_while PassesOwn.never (PW.pt (pw_and (pt_truth (pv 2) (by intro _; rfl)) (pw_and1 (PW.pt (pw_or (pt_cmpR op_notN (pv 5) pe_non (nomark _)) (pw_or1 (pt_cmpR op_eq (pe_ix (ixQ K) (pe_ix (ixL K) (pv 2) (pe_un un_neg pe_int) (fun _ _ => rfl)) pe_int (fun _ _ => rfl)) pe_int (nomark _))))))))
      (pss_cons (ps_if (pt_cmpR op_notN (pv 5) pe_non (nomark _))
        (pss_cons (ps_expr (pe_bm PySem.F.plainAttrs_list PySem.F.slot_list_append PySem.F.type_list_append mt_append (pe_ix (ixQ K) (pe_ix (ixL K) (pv 2) (pe_un un_neg pe_int) (fun _ _ => rfl)) pe_int (fun _ _ => rfl)) (pa_cons (pv 5) pa_nil)))
          (pss_one (ps_set (i := 5) sc_value_of.nd rfl (Or.inl rfl) pe_non)))
        pss_nil)
        (pss_cons (ps_if (pt_cmpR op_lt (pe_callB (lenQ K) rfl z_len (by decide +kernel) (pa_cons (pe_ix (ixQ K) (pe_ix (ixL K) (pv 2) (pe_un un_neg pe_int) (fun _ _ => rfl)) pe_int (fun _ _ => rfl)) pa_nil)) (pe_ix (ixQ K) (pe_ix (ixL K) (pv 2) (pe_un un_neg pe_int) (fun _ _ => rfl)) pe_int (fun _ _ => rfl)) (nomark _))
        (pss_one ps_break)
        pss_nil)
        (pss_one (ps_set (i := 5) sc_value_of.nd rfl (Or.inl rfl) (pe_callTy (tupQ K) rfl z_tuple (by decide +kernel) (pa_cons (pe_ix (ixQ K) (pe_bm0 PySem.F.plainAttrs_list PySem.F.slot_list_pop PySem.F.type_list_pop mt_pop (pv 2)) pe_int (fun _ _ => rfl)) pa_nil)))))))
      (pss_one (ps_if (PW.pt (pw_and (pt_not (pt_truth (pv 2) (by intro _; rfl))) (pw_and1 (pt_cmpR op_notN (pv 5) pe_non (nomark _)))))
      (pss_one (ps_ret (pe_ifExp (pt_cmpR op_eq (pv 1) (pe_callB (lenQ K) rfl z_len (by decide +kernel) (pa_cons (pv 0) pa_nil)) (nomark _)) (pe_tup (pa_cons pe_str (pa_cons (pv 5) pa_nil))) (pe_tup (pa_cons pe_str (pa_cons (pv 1) pa_nil))))))
      pss_nil))))))))))))), ?_⟩
  refine ⟨Nat.zero_le _, fun o no => ?_⟩
  -- each turn reads the next
  refine ⟨fun m σ G => ∃ (fs : List Fr) (e : Pv.Val) (at_ : Nat) (x3 x4 x5 : Option V), σ = [some (.ref a), some (.int (at_ : Nat)), some (.ref o), x3, x4, x5] ∧ Same H G ∧ G o = some (.lst (Opened fs)) ∧ (∀ f ∈ fs, f.l ≠ o) ∧ Stack K H G fs ∧ Holes fs ∧ plug fs e = v ∧ (Pv.bytes v).drop at_ = Pv.bytes e ++ rem fs ∧ m + at_ = (Pv.bytes v).length,
    ⟨(Pv.bytes v).length, [], v, 0, none, none, none, rfl, Same.new no, upd_same, (fun f hf => by cases hf), trivial, (fun f hf => by cases hf), rfl, by rw [rem, List.append_nil]; rfl, rfl⟩, ?_⟩
  rintro m σ G ⟨fs, e, at_, x3, x4, x5, rfl, sg, eo, nfo, st, hol, pl, hd, hm⟩
  have ha' := sg.seq ha
  have oke : Pv.Ok e := plug_ok (fs := fs) (by rw [pl]; exact hok)
  have dep := plug_depth fs e
  rw [pl] at dep
  refine ⟨true, rfl, iteT ?_⟩
  refine ⟨fun σ' G' => ∃ m', m' < m ∧ _, fun σ' G' w => w, ?_⟩
  have hdl := congrArg List.length hd
  rw [List.length_drop, List.length_append] at hdl
  have hlo : (Opened fs).length = fs.length := by
    unfold Opened
    rw [List.length_map, List.length_reverse]
  obtain ⟨r, hbe, htag, h2⟩ : ∃ r, Pv.bytes e = tagOf e :: r ∧ tagOf e ≤ 2 ∧ (tagOf e = 2 → fs.length < 60) := by
    cases e with
    | int i => exact ⟨_, by rw [Pv.bytes]; rfl, (by show 0 ≤ 2; decide), fun z => by cases z⟩
    | str ks => exact ⟨_, by rw [Pv.bytes]; rfl, (by show 1 ≤ 2; decide), fun z => by cases z⟩
    | tup l => exact ⟨_, by rw [Pv.bytes]; rfl, (by show 2 ≤ 2; decide), fun _ => by rw [Pv.depth] at dep; omega⟩
  have lbe : (Pv.bytes e).length = r.length + 1 := by rw [hbe]; rfl
  have g : (Pv.bytes v)[at_]? = some (tagOf e) := by
    have := congrArg (fun x => x[0]?) hd
    have this : ((Pv.bytes v).drop at_)[0]? = (Pv.bytes e ++ rem fs)[0]? := this
    rw [List.getElem?_drop, Nat.add_zero, hbe] at this
    exact this
  refine ⟨fun σ' G' => σ' = [some (.ref a), some (.int (at_ : Nat)), some (.ref o), x3, x4, x5] ∧ G' = G, ?_, ?_⟩
  · refine ⟨_, rfl, .ref a, rfl, a, _, rfl, .inl ha', _, _, rfl, rfl, _, rfl, ifND (by rw [bv_len]; omega) ?_⟩
    refine ⟨.ref a, rfl, _, rfl, a, _, _, _, rfl, rfl, ha', atI_nat (bv_get g), _, _, rfl, rfl, _, rfl, ifND (by omega) ?_⟩
    refine ⟨.ref a, rfl, _, rfl, a, _, _, _, rfl, rfl, ha', atI_nat (bv_get g), rfl, _, rfl, ite2 (fun c => ?_) (fun c => iteF ⟨rfl, rfl⟩)⟩
    have t2 : tagOf e = 2 := by
      have := V.int.inj (of_decide_eq_true c)
      omega
    have := h2 t2
    exact ⟨.ref o, rfl, o, _, rfl, .inl (SqL.of eo), _, _, rfl, rfl, _, rfl, ifND (by rw [hlo]; omega) ⟨rfl, rfl⟩⟩
  rintro σ' G' ⟨rfl, rfl⟩
  obtain ⟨o1, o2, o3⟩ := one_is oke hd
  have stp : 0 < stepOf e := by
    cases e with
    | int i => show 0 < 1 + _; omega
    | str ks => show 0 < 1 + _ + _; omega
    | tup l => show 0 < 1 + _; omega
  refine ⟨.ref a, rfl, _, rfl, a, _, _, _, rfl, rfl, ha', atI_nat (bv_get g), ?_⟩
  refine ⟨.ref a, rfl, _, rfl, a, Pv.bytes v, at_, oneOf (rem fs) e, rfl, ha', hl, o1, fun t G1 s1 n1 e1 => ?_⟩
  rw [one_tup] at e1
  refine ⟨t, _, rfl, SqT.of e1, rfl, _, _, rfl, _, _, rfl, _, _, rfl, rfl, ?_⟩
  refine ⟨_, rfl, rfl, _, rfl, ifND (raw_not e) ?_⟩
  have sg1 := sg.trans s1
  have eo1 := s1 _ _ eo
  have st1 := st.same s1
  -- tag 0: the number turned back
  refine ⟨fun σ' G' => σ' = [some (.ref a), some (.int ((at_ + stepOf e : Nat) : Int)), some (.ref o), some (.int (tagOf e : Nat)), some (kindOf e), some (convOf e)] ∧ G1 = G', ?_, ?_⟩
  · cases e with
    | str ks => exact ⟨_, rfl, rfl, _, rfl, ifND (fun z => by cases z) ⟨rfl, rfl⟩⟩
    | tup l => exact ⟨_, rfl, rfl, _, rfl, ifND (fun z => by cases z) ⟨rfl, rfl⟩⟩
    | int i =>
      have zz := Pv.zag_zig i
      unfold Pv.zag at zz
      refine ⟨_, rfl, rfl, _, rfl, ifD rfl ?_⟩
      by_cases ev : Pv.zig i % 2 = 0
      · rw [if_pos ev] at zz
        refine ⟨_, rfl, _, _, rfl, rfl, (by show (0 : Int) < 2; decide), rfl, _, rfl, ifD (congrArg V.int (show ((Pv.zig i : Nat) : Int) % 2 = 0 by omega)) ⟨_, rfl, _, _, rfl, rfl, ⟨by decide, by decide⟩, ?_, rfl⟩⟩
        show [_, _, _, _, _, some (V.int (((Pv.zig i : Nat) : Int) / 2))] = [_, _, _, _, _, some (V.int i)]
        rw [show ((Pv.zig i : Nat) : Int) / 2 = i by omega]
      · rw [if_neg ev] at zz
        refine ⟨_, rfl, _, _, rfl, rfl, (by show (0 : Int) < 2; decide), rfl, _, rfl, ifND (fun z => ev (by have := V.int.inj z; omega)) ⟨_, rfl, _, _, rfl, rfl, _, _, rfl, rfl, ⟨by decide, by decide⟩, _, rfl, ?_, rfl⟩⟩
        show [_, _, _, _, _, some (V.int (-((((Pv.zig i : Nat) : Int) + 1) / 2)))] = [_, _, _, _, _, some (V.int i)]
        rw [show -((((Pv.zig i : Nat) : Int) + 1) / 2) = i by omega]
  rintro σ' G' ⟨rfl, rfl⟩
  -- tag 2: a tuple is opened
  refine ⟨fun σ' G' => ∃ m, Vof K H v a o at_ m σ' G', ?_, ?_⟩
  · by_cases t2 : tagOf e = 2
    · cases e with
      | int i => cases t2
      | str ks => cases t2
      | tup l =>
        refine ⟨_, rfl, rfl, _, rfl, ifD rfl ?_⟩
        refine ⟨.ref o, rfl, .inl ⟨rfl, _, SqL.of eo1⟩, _, rfl, Nat.zero_le _, fun il n2 => ?_⟩
        generalize hN2 : L2.upd G1 il _ = G2
        have s2 := new_of n2 hN2
        have e2 := at_of hN2
        try dsimp only at e2
        clear hN2
        refine ⟨by show 2 ≤ sizeLine; decide, fun tt n3 => ?_⟩
        generalize hN3 : L2.upd G2 tt _ = G3
        have s3 := new_of n3 hN3
        have e3 := at_of hN3
        try dsimp only at e3
        clear hN3
        have s13 := s2.trans s3
        have eo3 := s13 _ _ eo1
        have hlo3 : (Opened fs).length < sizeLine := by rw [hlo]; have := h2 rfl; exact sq_len (by omega)
        have il0 : H il = none := sg1.free n2
        have tt0 : H tt = none := (sg1.trans s2).free n3
        have noil : il ≠ o := fun z => by rw [z, eo1] at n2; cases n2
        have nil_tt : tt ≠ o := fun z => by have := s2 _ _ eo1; rw [← z, n3] at this; cases this
        refine ⟨o, _, _, rfl, rfl, eo3, hlo3, ?_⟩
        have st3 : Stack K H (upd G3 o (.lst (Opened fs ++ [.ref tt]))) fs := (st1.same s13).put eo3 nfo
        have eil : (upd G3 o (.lst (Opened fs ++ [.ref tt]))) il = some (.lst []) := (upd_ne noil).trans (s3 _ _ e2)
        have ett : (upd G3 o (.lst (Opened fs ++ [.ref tt]))) tt = some (.tup [.int (l.length : Nat), .ref il]) := (upd_ne nil_tt).trans e3
        have stk : ∀ rest : List Pv.Val, Stack K H (upd G3 o (.lst (Opened fs ++ [.ref tt]))) (⟨tt, il, l.length, [], [], rest⟩ :: fs) := fun rest =>
          ⟨⟨ett, eil, tt0, il0, rfl, fun i y e hy _ => by cases hy⟩, st1.ne n2, st3⟩
        have opd : ∀ rest : List Pv.Val, (upd G3 o (.lst (Opened fs ++ [.ref tt]))) o = some (.lst (Opened (⟨tt, il, l.length, [], [], rest⟩ :: fs))) := fun rest => by
          rw [upd_same]
          unfold Opened
          rw [List.reverse_cons, List.map_append]
          rfl
        have nfo' : ∀ (rest : List Pv.Val), ∀ f ∈ (⟨tt, il, l.length, [], [], rest⟩ :: fs : List Fr), f.l ≠ o := fun rest f hf => by
          rcases List.mem_cons.mp hf with z | hf
          · rw [z]; exact noil
          · exact nfo f hf
        have sH : Same H (upd G3 o (.lst (Opened fs ++ [.ref tt]))) := same_mut (sg1.trans s13) no
        cases l with
        | nil =>
          refine ⟨2 * fs.length + 2, ⟨tt, il, 0, [], [], []⟩ :: fs, _, _, _, _, rfl, sH, opd [], nfo' [], stk [], by omega, o3, .inr (.inr ⟨_, fs, rfl, rfl, rfl, rfl, pl, ?_, hol, rfl⟩)⟩
          rw [o2]
          show Pv.bytesL [] ++ rem fs = rem fs
          rw [Pv.bytesL]
          rfl
        | cons c cs =>
          refine ⟨0, ⟨tt, il, (c :: cs).length, [], [], cs⟩ :: fs, _, _, _, _, rfl, sH, opd cs, nfo' cs, stk cs, by omega, o3, .inr (.inl ⟨c, rfl, by simp, pl, ?_, ?_, rfl⟩)⟩
          · rw [o2]
            show Pv.bytesL (c :: cs) ++ rem fs = Pv.bytes c ++ (Pv.bytesL cs ++ rem fs)
            rw [Pv.bytesL, List.append_assoc]
          · intro f hf
            rcases List.mem_cons.mp hf with z | hf
            · rw [z]
              show cs.length + 1 = 0 + 1 + cs.length
              omega
            · exact hol f hf
    · refine ⟨_, rfl, rfl, _, rfl, ifND (fun z => t2 (by have := V.int.inj z; omega)) ?_⟩
      refine ⟨2 * fs.length + 1, fs, _, _, _, _, rfl, sg1, eo1, nfo, st1, by omega, o3, .inl ⟨e, conv_is e t2, pl, ?_, hol, rfl⟩⟩
      rw [o2]
      cases e with
      | int i => rfl
      | str ks => rfl
      | tup l => exact absurd rfl t2
  rintro σ' G2 ⟨m2, w2⟩
  clear o1 o2 o3 stp g hbe htag h2 lbe hdl hlo e1 s1 n1 sg1 eo1 st1 eo st nfo hol pl hd dep oke ha' sg
  refine ⟨Vof K H v a o at_, ⟨m2, w2⟩, ?_⟩
  clear w2 G2
  rintro m3 σ3 G ⟨fs, at3, x3, x4, val, rfl, sg, eo, nfo, st, lt0, le, ph⟩
  have ha' := sg.seq ha
  refine ⟨.ref o, rfl, _, .inl ⟨_, SqL.of eo, rfl⟩, ?_⟩
  rcases ph with ⟨e, hv, pl, hd, hol, rfl⟩ | ⟨e, rfl, ne, pl, hd, hol, rfl⟩ | ⟨f, fs', rfl, rfl, n0, xs0, pl, hd, hol, rfl⟩
  · cases fs with
    | nil =>
      refine ifV (b := false) rfl (iteF (iteF ?_))
      refine ⟨.ref o, rfl, _, .inl ⟨_, SqL.of eo, rfl⟩, ifV (b := true) rfl (iteT ?_)⟩
      refine ⟨_, rfl, rfl, _, rfl, ifnND hv.not ?_⟩
      have hz : (Pv.bytes v).length ≤ at3 := by
        have := congrArg List.length hd
        rw [List.length_drop] at this
        have : (Pv.bytes v).length - at3 = 0 := this
        omega
      refine ⟨_, rfl, .ref a, rfl, a, _, rfl, .inl ha', rfl, _, rfl, ifD (by rw [bv_len]; congr 1; omega) ?_⟩
      refine ⟨_, rfl, (by show 2 ≤ sizeLine; decide), fun t nt => ?_⟩
      have pl : e = v := pl
      subst pl
      exact q t val _ (sg.trans (Same.new nt)) (sg.free nt) upd_same (hv.same (Same.new nt))
    | cons f fs' =>
      rw [opened_cons] at eo
      obtain ⟨fa, fd, st'⟩ := st
      have nfol : f.l ≠ o := nfo f (List.mem_cons_self ..)
      refine ifV (b := true) (by simp [opened_cons]) (iteT ?_)
      refine ⟨_, rfl, rfl, _, rfl, ifnND hv.not (iteT ?_)⟩
      refine ⟨fun σ' G' => ∃ m', m' < 2 * (f :: fs').length + 1 ∧ _, fun σ' G' w => w, ?_⟩
      refine ⟨_, rfl, rfl, _, rfl, ifnND hv.not ?_⟩
      have hn := hol f (List.mem_cons_self ..)
      refine ⟨.ref o, rfl, _, rfl, o, _, _, _, rfl, rfl, SqL.of eo, at_snoc _ _, .inr (.inl ⟨f.t, _, 1, _, rfl, rfl, SqT.of fa.tup, rfl, ?_⟩)⟩
      refine ⟨.inl ⟨rfl, _, SqL.of fa.lst⟩, _, rfl, f.l, f.xs, val, rfl, rfl, fa.lst, ?_, ?_⟩
      · have okt := (plug_ok (fs := fs') (v := .tup (f.ds ++ e :: f.rest)) (by show Pv.Ok (plug (f :: fs') e); rw [pl]; exact hok)).1
        rw [List.length_append, List.length_cons] at okt
        rw [fa.len]
        exact sq_len (by omega)
      have eo1 : (upd G f.l (.lst (f.xs ++ [val]))) o = some (.lst (Opened fs' ++ [.ref f.t])) := (upd_ne (Ne.symm nfol)).trans eo
      have et1 : (upd G f.l (.lst (f.xs ++ [val]))) f.t = some (.tup [.int (f.n : Nat), .ref f.l]) := (upd_ne (fun z => by have := fa.tup; rw [z, fa.lst] at this; cases this)).trans fa.tup
      have el1 : (upd G f.l (.lst (f.xs ++ [val]))) f.l = some (.lst (f.xs ++ [val])) := upd_same
      have st1 : Stack K H (upd G f.l (.lst (f.xs ++ [val]))) fs' := st'.put fa.lst fd
      have at1 : ∀ (i : Nat) y d, (f.xs ++ [val])[i]? = some y → (f.ds ++ [e])[i]? = some d → VW K (upd G f.l (.lst (f.xs ++ [val]))) (Pv.depth d) y d := by
        intro i y d hy hdd
        refine VW.list fa.lst ?_
        have ll := fa.len
        by_cases lt : i < f.xs.length
        · rw [List.getElem?_append_left lt] at hy
          rw [List.getElem?_append_left (by omega)] at hdd
          exact fa.at_ i y d hy hdd
        · rw [List.getElem?_append_right (by omega)] at hy
          rw [List.getElem?_append_right (by omega), show i - f.ds.length = i - f.xs.length by omega] at hdd
          cases k : i - f.xs.length with
          | zero =>
            rw [k] at hy hdd
            obtain rfl := Option.some.inj hy
            obtain rfl := Option.some.inj hdd
            exact hv
          | succ k' => rw [k] at hy; cases hy
      have sH1 : Same H (upd G f.l (.lst (f.xs ++ [val]))) := same_mut sg fa.fl
      generalize upd G f.l (.lst (f.xs ++ [val])) = G1 at *
      refine ⟨.ref o, rfl, _, rfl, o, _, _, _, rfl, rfl, SqL.of eo1, at_snoc _ _, .inr (.inl ⟨f.t, _, 1, _, rfl, rfl, SqT.of et1, rfl, f.l, _, rfl, .inl (SqL.of el1), .ref o, rfl, _, rfl, o, _, _, _, rfl, rfl, SqL.of eo1, at_snoc _ _, .inr (.inl ⟨f.t, _, 0, _, rfl, rfl, SqT.of et1, rfl, _, _, rfl, rfl, _, rfl, ?_⟩)⟩)⟩
      have lx : (f.xs ++ [val]).length = f.ds.length + 1 := by rw [List.length_append, fa.len]; rfl
      cases hr : f.rest with
      | cons r rs =>
        rw [hr, List.length_cons] at hn
        refine ifD (by rw [lx]; omega) ?_
        refine ⟨.ref o, rfl, _, .inl ⟨_, SqL.of eo1, rfl⟩, ifV (b := false) (by simp) (iteF ?_)⟩
        refine ⟨(Pv.bytes v).length - at3, by omega, ⟨f.t, f.l, f.n, f.xs ++ [val], f.ds ++ [e], rs⟩ :: fs', r, at3, x3, x4, _, rfl, sH1, (by rw [opened_cons]; exact eo1), ?_, ⟨⟨et1, el1, fa.ft, fa.fl, by rw [lx, List.length_append]; rfl, at1⟩, fd, st1⟩, ?_, ?_, ?_, by omega⟩
        · intro g hg
          rcases List.mem_cons.mp hg with z | hg
          · rw [z]; exact nfol
          · exact nfo g (List.mem_cons_of_mem _ hg)
        · intro g hg
          rcases List.mem_cons.mp hg with z | hg
          · rw [z]
            show f.n = (f.ds ++ [e]).length + 1 + rs.length
            rw [List.length_append, List.length_singleton]
            omega
          · exact hol g (List.mem_cons_of_mem _ hg)
        · rw [← pl]
          show plug fs' (.tup ((f.ds ++ [e]) ++ r :: rs)) = plug fs' (.tup (f.ds ++ e :: f.rest))
          rw [hr, List.append_assoc]
          rfl
        · rw [hd]
          show Pv.bytesL f.rest ++ rem fs' = Pv.bytes r ++ (Pv.bytesL rs ++ rem fs')
          rw [hr, Pv.bytesL, List.append_assoc]
      | nil =>
        rw [hr] at hn
        refine ifND (by rw [lx]; show ¬ ((f.ds.length + 1 : Nat) : Int) < (f.n : Int); simp at hn; omega) ?_
        refine ⟨.ref o, rfl, .inl ⟨rfl, _, SqL.of eo1⟩, o, _, .ref f.t, rfl, rfl, eo1, by simp, .inr (.inl ⟨f.t, _, 1, _, rfl, rfl, SqT.of ((upd_ne (fun z => by rw [z, eo1] at et1; cases et1)).trans et1), rfl, f.l, _, rfl, .inl ⟨SqL.of ((upd_ne nfol).trans el1), fun u nu => ?_⟩⟩)⟩
        rw [List.dropLast_concat] at nu ⊢
        have s2 : Same H (upd G1 o (.lst (Opened fs'))) := same_mut sH1 no
        have eo2 : (upd G1 o (.lst (Opened fs'))) o = some (.lst (Opened fs')) := upd_same
        have st2 : Stack K H (upd G1 o (.lst (Opened fs'))) fs' := st1.put eo1 fun g hg => nfo g (List.mem_cons_of_mem _ hg)
        have at2 : ∀ (i : Nat) y d, (f.xs ++ [val])[i]? = some y → (f.ds ++ [e])[i]? = some d → VW K (upd G1 o (.lst (Opened fs'))) (Pv.depth d) y d := fun i y d hy hdd => (at1 i y d hy hdd).list eo1
        generalize upd G1 o (.lst (Opened fs')) = G2 at *
        refine ⟨2 * fs'.length + 1, by rw [List.length_cons]; omega, fs', at3, x3, x4, _, rfl, s2.trans (Same.new nu), Same.new nu _ _ eo2, fun g hg => nfo g (List.mem_cons_of_mem _ hg), st2.same (Same.new nu), lt0, le, .inl ⟨.tup (f.ds ++ [e]), ?_, ?_, ?_, fun g hg => hol g (List.mem_cons_of_mem _ hg), rfl⟩⟩
        · rw [Pv.depth, Nat.add_comm]
          refine ⟨u, f.xs ++ [val], rfl, SqT.of upd_same, by rw [lx, List.length_append]; rfl, fun i y d hy hdd => ?_⟩
          exact VW.up (Pv.depthL_mem (List.mem_of_getElem? hdd)) ((at2 i y d hy hdd).same (Same.new nu))
        · rw [← pl]
          show plug fs' (.tup (f.ds ++ [e])) = plug fs' (.tup (f.ds ++ e :: f.rest))
          rw [hr]
        · rw [hd]
          show Pv.bytesL f.rest ++ rem fs' = rem fs'
          rw [hr, Pv.bytesL]
          rfl
  · cases fs with
    | nil => exact absurd rfl ne
    | cons f fs' =>
      rw [opened_cons] at eo
      have fa := st.1
      have hn := hol f (List.mem_cons_self ..)
      refine ifV (b := true) (by simp [opened_cons]) (iteT ?_)
      refine ⟨_, rfl, rfl, _, rfl, ifnD rfl ?_⟩
      refine ⟨.ref o, rfl, _, rfl, o, _, _, _, rfl, rfl, SqL.of eo, at_snoc _ _, .inr (.inl ⟨f.t, _, 0, _, rfl, rfl, SqT.of fa.tup, rfl, rfl, _, rfl, ifND (fun z => by have := V.int.inj z; omega) ?_⟩)⟩
      refine ⟨.ref o, rfl, _, .inl ⟨_, SqL.of eo, rfl⟩, ifV (b := false) (by simp) (iteF ?_)⟩
      exact ⟨(Pv.bytes v).length - at3, by omega, f :: fs', e, at3, x3, x4, _, rfl, sg, (by rw [opened_cons]; exact eo), nfo, st, hol, pl, hd, by omega⟩
  · rw [opened_cons] at eo
    obtain ⟨fa, fd, st'⟩ := st
    have nfol : f.l ≠ o := nfo f (List.mem_cons_self ..)
    have nto : f.t ≠ o := fun z => by have := fa.tup; rw [z, eo] at this; cases this
    have el := fa.lst
    rw [xs0] at el
    refine ifV (b := true) (by simp [opened_cons]) (iteT ?_)
    refine ⟨_, rfl, rfl, _, rfl, ifnD rfl ?_⟩
    refine ⟨.ref o, rfl, _, rfl, o, _, _, _, rfl, rfl, SqL.of eo, at_snoc _ _, .inr (.inl ⟨f.t, _, 0, _, rfl, rfl, SqT.of fa.tup, rfl, rfl, _, rfl, ifD (by rw [n0]; rfl) ?_⟩)⟩
    refine ⟨fun σ' G' => ∃ m', m' < 2 * fs'.length + 2 ∧ _, fun σ' G' w => w, ?_⟩
    refine ⟨_, rfl, rfl, _, rfl, ifnD rfl ?_⟩
    refine ⟨.ref o, rfl, _, rfl, o, _, _, _, rfl, rfl, SqL.of eo, at_snoc _ _, .inr (.inl ⟨f.t, _, 1, _, rfl, rfl, SqT.of fa.tup, rfl, f.l, _, rfl, .inl (SqL.of el), .ref o, rfl, _, rfl, o, _, _, _, rfl, rfl, SqL.of eo, at_snoc _ _, .inr (.inl ⟨f.t, _, 0, _, rfl, rfl, SqT.of fa.tup, rfl, _, _, rfl, rfl, _, rfl, ifND (by rw [n0]; decide) ?_⟩)⟩)⟩
    refine ⟨.ref o, rfl, .inl ⟨rfl, _, SqL.of eo⟩, o, _, .ref f.t, rfl, rfl, eo, by simp, .inr (.inl ⟨f.t, _, 1, _, rfl, rfl, SqT.of ((upd_ne nto).trans fa.tup), rfl, f.l, _, rfl, .inl ⟨SqL.of ((upd_ne nfol).trans el), fun u nu => ?_⟩⟩)⟩
    rw [List.dropLast_concat] at nu ⊢
    have s2 : Same H (upd G o (.lst (Opened fs'))) := same_mut sg no
    have eo2 : (upd G o (.lst (Opened fs'))) o = some (.lst (Opened fs')) := upd_same
    have st2 : Stack K H (upd G o (.lst (Opened fs'))) fs' := st'.put eo fun g hg => nfo g (List.mem_cons_of_mem _ hg)
    generalize upd G o (.lst (Opened fs')) = G2 at *
    refine ⟨2 * fs'.length + 1, by omega, fs', at3, x3, x4, _, rfl, s2.trans (Same.new nu), Same.new nu _ _ eo2, fun g hg => nfo g (List.mem_cons_of_mem _ hg), st2.same (Same.new nu), lt0, le, .inl ⟨.tup [], ?_, pl, hd, hol, rfl⟩⟩
    rw [Pv.depth, Nat.add_comm]
    exact ⟨u, [], rfl, SqT.of upd_same, rfl, fun i y d hy hdd => by cases hy⟩
end
end My
set_option linter.all false
/-! The sum of a block: a register of 32 bits, what it makes of runs of changed bits -/
namespace Crc
def fac : BitVec 32 := 79764919#32
def stp (r : BitVec 32) (b : Bool) : BitVec 32 := (r <<< 1) ^^^ (if r.msb != b then fac else 0#32)
def run (r : BitVec 32) (bits : List Bool) : BitVec 32 := bits.foldl stp r
def crc (bits : List Bool) : BitVec 32 := run 0#32 bits
def regBits (r : BitVec 32) : List Bool := (List.range 32).map fun i => r.getMsbD i
theorem run_nil (r : BitVec 32) : run r [] = r := rfl
theorem run_cons (r : BitVec 32) (b : Bool) (s : List Bool) : run r (b :: s) = run (stp r b) s := rfl
theorem run_append (r : BitVec 32) (s t : List Bool) : run r (s ++ t) = run (run r s) t := List.foldl_append
/-- step by step a sum of two is the two's sum -/
theorem stp_lin (r s : BitVec 32) (b c : Bool) : stp (r ^^^ s) (b ^^ c) = stp r b ^^^ stp s c := by
  unfold stp
  rw [BitVec.shiftLeft_xor_distrib, BitVec.msb_xor]
  have e : (if ((r.msb ^^ s.msb) != (b ^^ c)) = true then fac else 0#32) = (if (r.msb != b) = true then fac else 0#32) ^^^ (if (s.msb != c) = true then fac else 0#32) := by
    cases r.msb <;> cases s.msb <;> cases b <;> cases c <;> decide
  rw [e]
  ac_rfl
theorem run_lin : ∀ (u v : List Bool) (r s : BitVec 32), u.length = v.length → run (r ^^^ s) (List.zipWith (· ^^ ·) u v) = run r u ^^^ run s v
  | [], [], r, s, _ => rfl
  | [], _ :: _, _, _, h => by cases h
  | _ :: _, [], _, _, h => by cases h
  | b :: u, c :: v, r, s, h => by
    rw [List.zipWith_cons_cons, run_cons, run_cons, run_cons, stp_lin]
    exact run_lin u v _ _ (Nat.succ.inj h)
theorem getMsb_shl (r : BitVec 32) (i : Nat) : (r <<< 1).getMsbD i = (decide (i < 31) && r.getMsbD (i + 1)) := by
  rw [BitVec.getMsbD_shiftLeft, BitVec.getMsbD_eq_getLsbD]
  by_cases h : i < 31
  · have h2 : i + 1 < 32 := by omega
    have h3 : i + 1 ≤ 31 := by omega
    simp [h, h2]
  · have h2 : ¬ i + 1 < 32 := by omega
    simp [h, h2]
theorem regBits_length (r : BitVec 32) : (regBits r).length = 32 := by unfold regBits; simp
theorem regBits_get (r : BitVec 32) (i : Nat) (h : i < 32) : (regBits r)[i]? = some (r.getMsbD i) := by
  unfold regBits
  rw [List.getElem?_map, List.getElem?_range h]
  rfl
theorem regBits_inj {r s : BitVec 32} (h : regBits r = regBits s) : r = s := by
  apply BitVec.eq_of_getMsbD_eq
  intro i hi
  have e : (regBits r)[i]? = (regBits s)[i]? := by rw [h]
  rw [regBits_get r i hi, regBits_get s i hi] at e
  exact Option.some.inj e
theorem regBits_shl (r : BitVec 32) : regBits (r <<< 1) = (regBits r).tail ++ [false] := by
  apply List.ext_getElem?
  intro i
  by_cases h : i < 31
  · rw [regBits_get _ i (by omega), getMsb_shl, List.getElem?_append_left (by rw [List.length_tail, regBits_length]; omega), List.getElem?_tail, regBits_get r (i + 1) (by omega)]
    simp [h]
  · by_cases h2 : i = 31
    · subst h2
      rw [regBits_get _ 31 (by omega), getMsb_shl, List.getElem?_append_right (by rw [List.length_tail, regBits_length]; omega), List.length_tail, regBits_length]
      simp
    · rw [List.getElem?_eq_none (by rw [regBits_length]; omega), List.getElem?_eq_none (by rw [List.length_append, List.length_tail, regBits_length]; simp; omega)]
theorem regBits_head (r : BitVec 32) : regBits r = r.msb :: (regBits r).tail := by
  have h : (regBits r)[0]? = some (r.getMsbD 0) := regBits_get r 0 (by omega)
  cases e : regBits r with
  | nil =>
    rw [e] at h
    cases h
  | cons b l =>
    rw [e] at h
    obtain rfl := Option.some.inj h
    rw [← BitVec.msb_eq_getMsbD_zero]
    rfl
theorem regBits_xor (r s : BitVec 32) : regBits (r ^^^ s) = List.zipWith (· ^^ ·) (regBits r) (regBits s) := by
  apply List.ext_getElem?
  intro i
  rw [List.getElem?_zipWith]
  by_cases h : i < 32
  · rw [regBits_get _ i h, regBits_get _ i h, regBits_get _ i h, BitVec.getMsbD_xor]
  · rw [List.getElem?_eq_none (by rw [regBits_length]; omega), List.getElem?_eq_none (by rw [regBits_length]; omega)]
theorem regBits_zero : regBits 0#32 = List.replicate 32 false := by decide
/-- the last bit of the register behind a step tells whether the factors were put in -/
theorem stp_low (r : BitVec 32) (b : Bool) : (regBits (stp r b))[31]? = some (r.msb != b) := by
  rw [regBits_get _ 31 (by omega)]
  unfold stp
  rw [BitVec.getMsbD_xor, getMsb_shl]
  have e1 : fac.getMsbD 31 = true := by decide
  have e2 : (0#32).getMsbD 31 = false := by decide
  cases r.msb <;> cases b <;> simp [e1, e2]
/-- a register that is run down by at most 32 bits held just these -/
theorem run_down : ∀ (s : List Bool) (r : BitVec 32), s.length ≤ 32 → (run r s = 0#32 ↔ regBits r = s ++ List.replicate (32 - s.length) false)
  | [], r, _ => by
    rw [run_nil]
    constructor
    · intro h
      rw [h]
      exact regBits_zero
    · intro h
      exact regBits_inj (h.trans regBits_zero.symm)
  | b :: s, r, h => by
    rw [List.length_cons] at h
    rw [run_cons, run_down s (stp r b) (by omega), List.length_cons]
    have e32 : 32 - s.length = (32 - (s.length + 1)) + 1 := by omega
    rw [e32, List.replicate_succ', ← List.append_assoc]
    constructor
    · intro e
      have low := stp_low r b
      rw [e, List.getElem?_append_right (by rw [List.length_append, List.length_replicate]; omega)] at low
      have i0 : 31 - (s ++ List.replicate (32 - (s.length + 1)) false).length = 0 := by
        rw [List.length_append, List.length_replicate]
        omega
      rw [i0] at low
      have same : r.msb = b := by
        have := Option.some.inj low
        revert this
        cases r.msb <;> cases b <;> decide
      have st : stp r b = r <<< 1 := by
        unfold stp
        rw [same]
        cases b <;> simp
      rw [st, regBits_shl] at e
      rw [regBits_head r, same, List.append_cancel_right e]
      rfl
    · intro e
      have same : r.msb = b := by
        rw [regBits_head r] at e
        injection e
      have tl : (regBits r).tail = s ++ List.replicate (32 - (s.length + 1)) false := by
        rw [e]
        rfl
      have st : stp r b = r <<< 1 := by
        unfold stp
        rw [same]
        cases b <;> simp
      rw [st, regBits_shl, tl]
theorem run_held {s : List Bool} {r : BitVec 32} (h : s.length = 32) : run r s = 0#32 ↔ regBits r = s := by
  rw [run_down s r (by omega), h]
  simp
theorem stp_zero {r : BitVec 32} (h : stp r false = 0#32) : r = 0#32 := by
  have z := (run_down [false] r (by decide)).mp h
  apply regBits_inj
  rw [z]
  decide
theorem run_zero : ∀ (n : Nat) (r : BitVec 32), run r (List.replicate n false) = 0#32 → r = 0#32
  | 0, r, h => h
  | n + 1, r, h => by
    rw [List.replicate_succ, run_cons] at h
    exact stp_zero (run_zero n _ h)
theorem zip_self : ∀ t : List Bool, List.zipWith (· ^^ ·) t t = List.replicate t.length false
  | [] => rfl
  | b :: t => by
    rw [List.zipWith_cons_cons, zip_self t, List.length_cons, List.replicate_succ, Bool.xor_self]
theorem zip_false : ∀ (u v : List Bool), u.length = v.length → List.zipWith (· ^^ ·) u v = List.replicate u.length false → u = v
  | [], [], _, _ => rfl
  | [], _ :: _, h, _ => by cases h
  | _ :: _, [], h, _ => by cases h
  | b :: u, c :: v, h, e => by
    rw [List.zipWith_cons_cons, List.length_cons, List.replicate_succ] at e
    injection e with e1 e2
    have : b = c := by revert e1; cases b <;> cases c <;> decide
    rw [this, zip_false u v (Nat.succ.inj h) e2]
/-- two lists of bits that differ within a run of at most 32 have different sums -/
theorem run_parts {p u v t : List Bool} (l : u.length = v.length) (l32 : u.length ≤ 32) (ne : u ≠ v) : crc (p ++ u ++ t) ≠ crc (p ++ v ++ t) := by
  intro e
  unfold crc at e
  rw [run_append, run_append, run_append, run_append] at e
  have e1 : run (run (run 0#32 p) u ^^^ run (run 0#32 p) v) (List.zipWith (· ^^ ·) t t) = 0#32 := by
    rw [run_lin t t _ _ rfl, e, BitVec.xor_self]
  rw [zip_self] at e1
  have e2 := run_zero _ _ e1
  rw [← run_lin u v _ _ l, BitVec.xor_self] at e2
  have e3 := (run_down _ _ (by rw [List.length_zipWith]; omega)).mp e2
  rw [regBits_zero] at e3
  apply ne
  apply zip_false u v l
  have lz : (List.zipWith (· ^^ ·) u v).length = u.length := by rw [List.length_zipWith]; omega
  have e4 := congrArg (List.take u.length) e3
  rw [List.take_replicate, List.take_append_of_le_length (by omega), List.take_of_length_le (by omega)] at e4
  rw [← e4]
  congr 1
  omega
end Crc
set_option linter.all false
/-! Bytes, bits and blocks -/
namespace Crc
def byteBits (n : Nat) : List Bool := (List.range 8).map fun i => n.testBit (7 - i)
def bitsOf (bs : List Nat) : List Bool := bs.flatMap byteBits
def sumB (r : BitVec 32) : List Nat := [r.toNat / 2 ^ 24 % 256, r.toNat / 2 ^ 16 % 256, r.toNat / 2 ^ 8 % 256, r.toNat % 256]
def sumOf (bs : List Nat) : List Nat := sumB (crc (bitsOf bs))
def num (bits : List Bool) : Nat := bits.foldl (fun n b => 2 * n + (if b then 1 else 0)) 0
def Bytes (bs : List Nat) : Prop := ∀ b ∈ bs, b < 256
theorem byteBits_length (n : Nat) : (byteBits n).length = 8 := by unfold byteBits; simp
theorem byteBits_get (n i : Nat) (h : i < 8) : (byteBits n)[i]? = some (n.testBit (7 - i)) := by
  unfold byteBits
  rw [List.getElem?_map, List.getElem?_range h]
  rfl
theorem bitsOf_nil : bitsOf [] = [] := rfl
theorem bitsOf_cons (b : Nat) (bs : List Nat) : bitsOf (b :: bs) = byteBits b ++ bitsOf bs := rfl
theorem bitsOf_append (a b : List Nat) : bitsOf (a ++ b) = bitsOf a ++ bitsOf b := List.flatMap_append
theorem bitsOf_length : ∀ bs : List Nat, (bitsOf bs).length = 8 * bs.length
  | [] => rfl
  | b :: bs => by
    rw [bitsOf_cons, List.length_append, byteBits_length, bitsOf_length bs, List.length_cons]
    omega
theorem num_byteBits : ∀ n, n < 256 → num (byteBits n) = n := by decide +kernel
theorem byteBits_inj {a b : Nat} (ha : a < 256) (hb : b < 256) (h : byteBits a = byteBits b) : a = b := by
  rw [← num_byteBits a ha, ← num_byteBits b hb, h]
theorem bitsOf_inj : ∀ {a b : List Nat}, Bytes a → Bytes b → bitsOf a = bitsOf b → a = b
  | [], [], _, _, _ => rfl
  | [], b :: bs, _, _, h => by
    have := congrArg List.length h
    rw [bitsOf_length, bitsOf_length] at this
    simp at this
  | a :: as, [], _, _, h => by
    have := congrArg List.length h
    rw [bitsOf_length, bitsOf_length] at this
    simp at this
  | a :: as, b :: bs, ha, hb, h => by
    rw [bitsOf_cons, bitsOf_cons] at h
    have h1 := List.append_inj h (by rw [byteBits_length, byteBits_length])
    rw [byteBits_inj (ha a List.mem_cons_self) (hb b List.mem_cons_self) h1.1, bitsOf_inj (fun x hx => ha x (List.mem_cons_of_mem _ hx)) (fun x hx => hb x (List.mem_cons_of_mem _ hx)) h1.2]
theorem sumB_bytes (r : BitVec 32) : Bytes (sumB r) := by
  intro b hb
  unfold sumB at hb
  simp only [List.mem_cons, List.not_mem_nil, or_false] at hb
  omega
theorem byteBits_part (r k : Nat) : byteBits (r / 2 ^ k % 256) = (List.range 8).map fun i => r.testBit (k + (7 - i)) := by
  unfold byteBits
  apply List.map_congr_left
  intro i hi
  have hi := List.mem_range.mp hi
  rw [show (256 : Nat) = 2 ^ 8 from rfl, Nat.testBit_mod_two_pow, Nat.testBit_div_two_pow]
  have : 7 - i < 8 := by omega
  simp only [this, decide_true, Bool.true_and]
  congr 1
  omega
theorem bits_sumB (r : BitVec 32) : bitsOf (sumB r) = regBits r := by
  have e4 : byteBits (r.toNat % 256) = (List.range 8).map fun i => r.toNat.testBit (0 + (7 - i)) := by
    have := byteBits_part r.toNat 0
    rw [Nat.pow_zero, Nat.div_one] at this
    exact this
  unfold sumB
  rw [bitsOf_cons, bitsOf_cons, bitsOf_cons, bitsOf_cons, bitsOf_nil, List.append_nil, byteBits_part, byteBits_part, byteBits_part, e4]
  unfold regBits
  have g : ∀ i, i < 32 → r.getMsbD i = r.toNat.testBit (31 - i) := fun i hi => by
    rw [BitVec.getMsbD_eq_getLsbD]
    simp only [hi, decide_true, Bool.true_and]
    rfl
  have e : (List.range 32).map (fun i => r.getMsbD i) = (List.range 32).map fun i => r.toNat.testBit (31 - i) := List.map_congr_left fun i hi => g i (List.mem_range.mp hi)
  rw [e]
  rfl
/-- a block of 64 bytes bears its sum if all its bits leave nothing -/
theorem block_sum {b : List Nat} (hb : Bytes b) (h : b.length = 64) : b.drop 60 = sumOf (b.take 60) ↔ crc (bitsOf b) = 0#32 := by
  have e : crc (bitsOf b) = run (crc (bitsOf (b.take 60))) (bitsOf (b.drop 60)) := by
    conv => lhs; rw [← List.take_append_drop 60 b]
    rw [bitsOf_append]
    exact run_append _ _ _
  have l32 : (bitsOf (b.drop 60)).length = 32 := by
    rw [bitsOf_length, List.length_drop, h]
  rw [e, run_held l32]
  constructor
  · intro z
    rw [z]
    exact (bits_sumB _).symm
  · intro z
    apply bitsOf_inj (fun x hx => hb x (List.mem_of_mem_drop hx)) (sumB_bytes _)
    rw [← z]
    exact (bits_sumB _).symm
/-! ### dividing bit by bit -/
def xor32 (r : List Bool) (l : List Bool) : List Bool := List.zipWith (· ^^ ·) r (l.take r.length) ++ l.drop r.length
def facBits : List Bool := true :: regBits fac
def dv (r : BitVec 32) (l : List Bool) : List Bool := xor32 (regBits r) l
theorem xor32_length (r l : List Bool) (h : r.length ≤ l.length) : (xor32 r l).length = l.length := by
  unfold xor32
  rw [List.length_append, List.length_zipWith, List.length_take, List.length_drop]
  omega
theorem dv_zero (l : List Bool) : dv 0#32 l = l := by
  unfold dv xor32
  rw [regBits_zero, List.length_replicate]
  have e : ∀ (n : Nat) (t : List Bool), t.length ≤ n → List.zipWith (· ^^ ·) (List.replicate n false) t = t := by
    intro n
    induction n with
    | zero =>
      intro t ht
      cases t with
      | nil => rfl
      | cons a b => simp at ht
    | succ n ih =>
      intro t ht
      cases t with
      | nil => simp
      | cons a b =>
        rw [List.replicate_succ, List.zipWith_cons_cons, ih b (by simpa using ht), Bool.false_xor]
  rw [e 32 _ (by rw [List.length_take]; omega), List.take_append_drop]
theorem dv_end (r : BitVec 32) : dv r (List.replicate 32 false) = regBits r := by
  unfold dv xor32
  rw [regBits_length, List.take_replicate, List.drop_replicate]
  have e : ∀ t : List Bool, List.zipWith (· ^^ ·) t (List.replicate t.length false) = t := by
    intro t
    induction t with
    | nil => rfl
    | cons a b ih => rw [List.length_cons, List.replicate_succ, List.zipWith_cons_cons, ih, Bool.xor_false]
  have e2 := e (regBits r)
  rw [regBits_length] at e2
  simpa using e2
theorem zip_assoc : ∀ a b c : List Bool, List.zipWith (· ^^ ·) a (List.zipWith (· ^^ ·) b c) = List.zipWith (· ^^ ·) (List.zipWith (· ^^ ·) a b) c
  | [], _, _ => by simp
  | _ :: _, [], _ => by simp
  | _ :: _, _ :: _, [] => by simp
  | a :: as, b :: bs, c :: cs => by
    rw [List.zipWith_cons_cons, List.zipWith_cons_cons, List.zipWith_cons_cons, List.zipWith_cons_cons, zip_assoc as bs cs, Bool.xor_assoc]
theorem dv_head (r : BitVec 32) (b : Bool) (l : List Bool) : dv r (b :: l) = (r.msb ^^ b) :: (List.zipWith (· ^^ ·) (regBits r).tail (l.take 31) ++ l.drop 31) := by
  unfold dv xor32
  rw [regBits_length]
  conv => lhs; rw [regBits_head r]
  rfl
theorem zip_snoc {r : List Bool} {l : List Bool} {n : Nat} (h : r.length = n) (hl : n < l.length) : List.zipWith (· ^^ ·) (r ++ [false]) (l.take (n + 1)) ++ l.drop (n + 1) = List.zipWith (· ^^ ·) r (l.take n) ++ l.drop n := by
  have e1 : l.take (n + 1) = l.take n ++ [l[n]] := by rw [List.take_succ_eq_append_getElem hl]
  have e2 : l.drop n = l[n] :: l.drop (n + 1) := List.drop_eq_getElem_cons hl
  rw [e1, e2, List.zipWith_append (by rw [List.length_take, h]; omega), List.append_assoc]
  simp
theorem dv_no {r : BitVec 32} {b : Bool} {l : List Bool} (hl : 32 ≤ l.length) (h : (r.msb ^^ b) = false) : (dv r (b :: l)).tail = dv (stp r b) l := by
  have same : r.msb = b := by revert h; cases r.msb <;> cases b <;> decide
  have st : stp r b = r <<< 1 := by
    unfold stp
    rw [same]
    cases b <;> simp
  rw [dv_head, List.tail_cons, st]
  unfold dv xor32
  rw [regBits_length, regBits_shl]
  exact (zip_snoc (by rw [List.length_tail, regBits_length]) (by omega)).symm
theorem dv_yes {r : BitVec 32} {b : Bool} {l : List Bool} (hl : 32 ≤ l.length) (h : (r.msb ^^ b) = true) : (xor32 facBits (dv r (b :: l))).tail = dv (stp r b) l := by
  have other : (r.msb != b) = true := by revert h; cases r.msb <;> cases b <;> decide
  have st : stp r b = (r <<< 1) ^^^ fac := by
    unfold stp
    rw [other]
    rfl
  rw [dv_head, st]
  have z := zip_snoc (r := (regBits r).tail) (l := l) (n := 31) (by rw [List.length_tail, regBits_length]) (by omega)
  rw [← z]
  unfold xor32 facBits
  rw [List.length_cons, regBits_length]
  show List.zipWith (· ^^ ·) (regBits fac) (List.take 32 _) ++ List.drop 32 _ = _
  have len : (List.zipWith (· ^^ ·) ((regBits r).tail ++ [false]) (List.take (31 + 1) l)).length = 32 := by
    rw [List.length_zipWith, List.length_append, List.length_tail, regBits_length, List.length_take]
    simp
    omega
  rw [List.take_left' len, List.drop_left' len, zip_assoc]
  unfold dv xor32
  rw [regBits_length, regBits_xor, regBits_shl]
  congr 2
  apply List.ext_getElem?
  intro i
  rw [List.getElem?_zipWith, List.getElem?_zipWith]
  cases (regBits fac)[i]? <;> cases ((regBits r).tail ++ [false])[i]? <;> simp [Bool.xor_comm]
end Crc
set_option linter.all false
/-! Blocks, and what they tell -/
namespace Crc
inductive Told where
  | block (n : Nat)
  | data (l : List Nat)
  deriving DecidableEq
def cnt (here : List Nat) : Nat := 256 * here.getD 2 0 + here.getD 3 0
def IsBlk (here : List Nat) (number : Nat) (count : Option Nat) : Prop :=
  here.length = 64 ∧ here.drop 60 = sumOf (here.take 60) ∧ 256 * here.getD 0 0 + here.getD 1 0 = number ∧ number ≤ cnt here ∧ (count = none ∨ count = some (cnt here))
instance (here : List Nat) (number : Nat) (count : Option Nat) : Decidable (IsBlk here number count) := by unfold IsBlk; infer_instance
/-- without the 1 and the noughts behind it -/
def wend (l : List Nat) : Option (List Nat) := match l.reverse.dropWhile (· == 0) with
  | 1 :: t => some t.reverse
  | _ => none
def chunk (told : List Nat) (n : Nat) : List Nat := (told.drop (64 * n)).take 64
def fin (told : List Nat) (number count : Nat) (data : List Nat) : Told := match wend (data.drop (data.length - 56)) with
  | none => .block number
  | some l => if told.length > 64 * count then .block (count + 1) else .data (data.take (data.length - 56) ++ l)
def go (told : List Nat) : Nat → Nat → Option Nat → List Nat → Told
  | 0, _, _, _ => .block 0
  | m + 1, number, count, data =>
    if count = none ∨ number < count.getD 0 then
      if IsBlk (chunk told number) (number + 1) count then go told m (number + 1) (some (cnt (chunk told number))) (data ++ ((chunk told number).drop 4).take 56)
      else .block (number + 1)
    else fin told number (count.getD 0) data
def dataOf (told : List Nat) : Told := go told (told.length + 2) 0 none []
theorem go_more {told : List Nat} {m number : Nat} {count : Option Nat} {data : List Nat} (h : count = none ∨ number < count.getD 0) (b : IsBlk (chunk told number) (number + 1) count) :
    go told (m + 1) number count data = go told m (number + 1) (some (cnt (chunk told number))) (data ++ ((chunk told number).drop 4).take 56) := by
  rw [go, if_pos h, if_pos b]
theorem go_bad {told : List Nat} {m number : Nat} {count : Option Nat} {data : List Nat} (h : count = none ∨ number < count.getD 0) (b : ¬ IsBlk (chunk told number) (number + 1) count) :
    go told (m + 1) number count data = .block (number + 1) := by
  rw [go, if_pos h, if_neg b]
theorem go_end {told : List Nat} {m number : Nat} {count : Option Nat} {data : List Nat} (h : ¬ (count = none ∨ number < count.getD 0)) : go told (m + 1) number count data = fin told number (count.getD 0) data := by
  rw [go, if_neg h]
/-! ### writing -/
def blk (k count : Nat) (data : List Nat) : List Nat := let h := [k / 256, k % 256, count / 256, count % 256] ++ data; h ++ sumOf h
def cntOf (told : List Nat) : Nat := (told.length + 1 + 55) / 56
def padded (told : List Nat) : List Nat := told ++ [1] ++ List.replicate (56 * cntOf told - (told.length + 1)) 0
def part (told : List Nat) (k : Nat) : List Nat := ((padded told).drop (56 * k)).take 56
def blocksOf (told : List Nat) : List Nat := (List.range (cntOf told)).flatMap fun k => blk (k + 1) (cntOf told) (part told k)
theorem cnt_pos (told : List Nat) : 0 < cntOf told := by unfold cntOf; omega
theorem cnt_le (told : List Nat) : told.length + 1 ≤ 56 * cntOf told := by unfold cntOf; omega
theorem padded_length (told : List Nat) : (padded told).length = 56 * cntOf told := by
  have := cnt_le told
  unfold padded
  rw [List.length_append, List.length_append, List.length_replicate, List.length_singleton]
  omega
theorem part_length {told : List Nat} {k : Nat} (h : k < cntOf told) : (part told k).length = 56 := by
  unfold part
  rw [List.length_take, List.length_drop, padded_length]
  omega
theorem sumOf_length (l : List Nat) : (sumOf l).length = 4 := rfl
theorem blk_length {k c : Nat} {d : List Nat} (h : d.length = 56) : (blk k c d).length = 64 := by
  unfold blk
  simp only [List.length_append, sumOf_length, h, List.length_cons, List.length_nil]
theorem blk_is {k c : Nat} {d : List Nat} (h : d.length = 56) (hk : k ≤ c) (hc : c < 65536) (o : Option Nat) (ho : o = none ∨ o = some c) : IsBlk (blk k c d) k o ∧ cnt (blk k c d) = c ∧ ((blk k c d).drop 4).take 56 = d := by
  have l60 : ([k / 256, k % 256, c / 256, c % 256] ++ d).length = 60 := by
    rw [List.length_append, h]
    rfl
  have ec : cnt (blk k c d) = c := by
    show 256 * (c / 256) + c % 256 = c
    omega
  refine ⟨⟨blk_length h, ?_, ?_, by rw [ec]; exact hk, by rw [ec]; exact ho⟩, ec, ?_⟩
  · unfold blk
    simp only []
    rw [List.drop_left' l60, List.take_left' l60]
  · show 256 * (k / 256) + k % 256 = k
    omega
  · show List.take 56 (d ++ sumOf _) = d
    rw [List.take_left' h]
theorem flat_length {f : Nat → List Nat} (n : Nat) (h : ∀ k, k < n → (f k).length = 64) : ((List.range n).flatMap f).length = 64 * n := by
  induction n with
  | zero => rfl
  | succ n ih =>
    rw [List.range_succ, List.flatMap_append, List.length_append, ih fun k hk => h k (by omega)]
    simp only [List.flatMap_cons, List.flatMap_nil, List.append_nil]
    rw [h n (by omega)]
    omega
theorem flat_chunk {f : Nat → List Nat} (n : Nat) (h : ∀ k, k < n → (f k).length = 64) (t : List Nat) (j : Nat) (hj : j < n) : chunk ((List.range n).flatMap f ++ t) j = f j := by
  induction n generalizing t with
  | zero => omega
  | succ n ih =>
    rw [List.range_succ, List.flatMap_append, List.append_assoc]
    by_cases e : j < n
    · exact ih (fun k hk => h k (by omega)) _ e
    · obtain rfl : j = n := by omega
      unfold chunk
      have l := flat_length (f := f) j fun k hk => h k (by omega)
      rw [List.drop_left' l]
      simp only [List.flatMap_cons, List.flatMap_nil, List.append_nil]
      exact List.take_left' (h j (by omega))
theorem blocks_length (told : List Nat) : (blocksOf told).length = 64 * cntOf told := flat_length _ fun k hk => blk_length (part_length hk)
theorem blocks_chunk (told : List Nat) (t : List Nat) (j : Nat) (hj : j < cntOf told) : chunk (blocksOf told ++ t) j = blk (j + 1) (cntOf told) (part told j) :=
  flat_chunk _ (fun k hk => blk_length (part_length hk)) t j hj
/-- the first j blocks are read -/
theorem go_first {x : List Nat} {told : List Nat} (hc : cntOf told < 65536) : ∀ (j m : Nat), j ≤ cntOf told → (∀ i, i < j → chunk x i = blk (i + 1) (cntOf told) (part told i)) →
    go x (m + j) 0 none [] = go x m j (if j = 0 then none else some (cntOf told)) ((padded told).take (56 * j))
  | 0, m, _, _ => by rw [if_pos rfl]; rfl
  | j + 1, m, hj, h => by
    have e : m + (j + 1) = (m + 1) + j := by omega
    rw [e, go_first hc j (m + 1) (by omega) fun i hi => h i (by omega)]
    have hb := blk_is (k := j + 1) (c := cntOf told) (part_length (told := told) (k := j) (by omega)) (by omega) hc (if j = 0 then none else some (cntOf told)) (by split <;> simp)
    have hx := h j (by omega)
    rw [← hx] at hb
    rw [go_more ?_ hb.1, hb.2.1, hb.2.2, if_neg (by omega)]
    · congr 1
      unfold part
      rw [show 56 * (j + 1) = 56 * j + 56 by omega, List.take_add]
    · split
      · exact .inl rfl
      · exact .inr (by show j < cntOf told; omega)
theorem dropWhile_zero : ∀ (n : Nat) (l : List Nat), (List.replicate n 0 ++ l).dropWhile (· == 0) = l.dropWhile (· == 0)
  | 0, _ => rfl
  | n + 1, l => by
    rw [List.replicate_succ, List.cons_append, List.dropWhile_cons, if_pos (beq_self_eq_true 0)]
    exact dropWhile_zero n l
theorem wend_of (l : List Nat) (n : Nat) : wend (l ++ [1] ++ List.replicate n 0) = some l := by
  unfold wend
  rw [List.reverse_append, List.reverse_append, List.reverse_replicate, dropWhile_zero]
  simp
theorem wend_zero (n : Nat) : wend (List.replicate n 0) = none := by
  have := dropWhile_zero n []
  rw [List.append_nil] at this
  unfold wend
  rw [List.reverse_replicate, this]
  rfl
theorem fin_whole {x told : List Nat} (hx : x.length ≥ 64 * cntOf told) : fin x (cntOf told) (cntOf told) (padded told) = if x.length > 64 * cntOf told then .block (cntOf told + 1) else .data told := by
  have l := padded_length told
  have h1 := cnt_le told
  have h2 := cnt_pos told
  have h3 : 56 * (cntOf told - 1) ≤ told.length := by unfold cntOf; omega
  unfold fin
  rw [l]
  have e : padded told = told.take (56 * (cntOf told - 1)) ++ (told.drop (56 * (cntOf told - 1)) ++ [1] ++ List.replicate (56 * cntOf told - (told.length + 1)) 0) := by
    unfold padded
    rw [← List.append_assoc, ← List.append_assoc, List.take_append_drop]
  have lt : (told.take (56 * (cntOf told - 1))).length = 56 * cntOf told - 56 := by
    rw [List.length_take]
    omega
  rw [e, List.drop_left' lt, wend_of, List.take_left' lt]
  simp only [List.take_append_drop]
theorem data_whole {told t : List Nat} (hc : cntOf told < 65536) : dataOf (blocksOf told ++ t) = if t = [] then .data told else .block (cntOf told + 1) := by
  have lx : (blocksOf told ++ t).length = 64 * cntOf told + t.length := by rw [List.length_append, blocks_length]
  unfold dataOf
  have e : (blocksOf told ++ t).length + 2 = ((blocksOf told ++ t).length + 1 - cntOf told) + 1 + cntOf told := by omega
  rw [e, go_first hc _ _ (Nat.le_refl _) fun i hi => blocks_chunk told t i hi, if_neg (by have := cnt_pos told; omega), go_end (by simp)]
  rw [List.take_of_length_le (by rw [padded_length]; omega)]
  show fin _ _ (cntOf told) _ = _
  rw [fin_whole (by omega), lx]
  cases t with
  | nil => simp
  | cons a b => simp
/-- a wrong block behind j right ones -/
theorem data_wrong {x told : List Nat} (hc : cntOf told < 65536) {j : Nat} (hj : j < cntOf told) (hx : j ≤ x.length) (h : ∀ i, i < j → chunk x i = blk (i + 1) (cntOf told) (part told i)) (hw : ∀ o, ¬ IsBlk (chunk x j) (j + 1) o) : dataOf x = .block (j + 1) := by
  unfold dataOf
  have e : x.length + 2 = (x.length + 1 - j) + 1 + j := by omega
  rw [e, go_first hc j _ (by omega) h]
  refine go_bad ?_ (hw _)
  split
  · exact .inl rfl
  · exact .inr (by show j < cntOf told; omega)
theorem data_first {x : List Nat} (hw : ¬ IsBlk (chunk x 0) 1 none) : dataOf x = .block 1 := by
  unfold dataOf
  exact go_bad (.inl rfl) hw
theorem chunk_prefix {a b : List Nat} {i : Nat} (h : 64 * (i + 1) ≤ a.length) : chunk (a ++ b) i = chunk a i := by
  unfold chunk
  rw [List.drop_append_of_le_length (by omega), List.take_append_of_le_length (by rw [List.length_drop]; omega)]
theorem data_cut {told : List Nat} (hc : cntOf told < 65536) {j r : Nat} (hj : j < cntOf told) (hr : r < 64) : dataOf ((blocksOf told).take (64 * j + r)) = .block (j + 1) := by
  have l := blocks_length told
  have lt : ((blocksOf told).take (64 * j + r)).length = 64 * j + r := by
    rw [List.length_take]
    omega
  refine data_wrong hc hj (by omega) (fun i hi => ?_) fun o b => ?_
  · have := blocks_chunk told [] i (by omega)
    rw [List.append_nil] at this
    rw [← this]
    conv => rhs; rw [← List.take_append_drop (64 * j + r) (blocksOf told)]
    exact (chunk_prefix (by omega)).symm
  · have := b.1
    unfold chunk at this
    rw [List.length_take, List.length_drop, lt] at this
    omega
/-! ### changed bits -/
/-- alike outside a run of w from a on -/
def Agree (x y : List Bool) (a w : Nat) : Prop := x.length = y.length ∧ ∀ i, (i < a ∨ a + w ≤ i) → x[i]? = y[i]?
theorem Agree.run {x y : List Bool} {a w : Nat} (h : Agree x y a w) (w32 : w ≤ 32) (ne : x ≠ y) : crc x ≠ crc y := by
  have ex : x = x.take a ++ (x.drop a).take w ++ x.drop (a + w) := by
    rw [List.append_assoc, ← List.drop_drop, List.take_append_drop, List.take_append_drop]
  have ey : y = x.take a ++ (y.drop a).take w ++ x.drop (a + w) := by
    have e1 : y.take a = x.take a := by
      apply List.ext_getElem?
      intro i
      rw [List.getElem?_take, List.getElem?_take]
      split
      · rename_i hi
        exact (h.2 i (.inl hi)).symm
      · rfl
    have e2 : y.drop (a + w) = x.drop (a + w) := by
      apply List.ext_getElem?
      intro i
      rw [List.getElem?_drop, List.getElem?_drop]
      exact (h.2 _ (.inr (by omega))).symm
    rw [← e1, ← e2, List.append_assoc, ← List.drop_drop, List.take_append_drop, List.take_append_drop]
  have ll : ((x.drop a).take w).length = ((y.drop a).take w).length := by
    rw [List.length_take, List.length_take, List.length_drop, List.length_drop, h.1]
  intro e
  have := run_parts (p := x.take a) (u := (x.drop a).take w) (v := (y.drop a).take w) (t := x.drop (a + w)) ll (by rw [List.length_take]; omega) (fun z => ne (by
    rw [ey, ← z]
    exact ex))
  apply this
  rw [← ex, ← ey]
  exact e
theorem Agree.sub {x y : List Bool} {a w s n : Nat} (h : Agree x y a w) : ∃ a' w', w' ≤ w ∧ Agree ((x.drop s).take n) ((y.drop s).take n) a' w' := by
  refine ⟨a - s, w - (s - a), by omega, by rw [List.length_take, List.length_take, List.length_drop, List.length_drop, h.1], fun i hi => ?_⟩
  rw [List.getElem?_take, List.getElem?_take, List.getElem?_drop, List.getElem?_drop]
  split
  · exact h.2 _ (by omega)
  · rfl
theorem bits_drop : ∀ (n : Nat) (l : List Nat), bitsOf (l.drop n) = (bitsOf l).drop (8 * n)
  | 0, l => by rw [Nat.mul_zero]; rfl
  | n + 1, [] => by simp [bitsOf_nil]
  | n + 1, b :: l => by
    rw [List.drop_succ_cons, bits_drop n l, bitsOf_cons, List.drop_append, byteBits_length, List.drop_eq_nil_of_le (as := byteBits b) (by rw [byteBits_length]; omega), List.nil_append]
    congr 1
theorem bits_take : ∀ (n : Nat) (l : List Nat), bitsOf (l.take n) = (bitsOf l).take (8 * n)
  | 0, l => by rw [Nat.mul_zero]; rfl
  | n + 1, [] => by simp [bitsOf_nil]
  | n + 1, b :: l => by
    rw [List.take_succ_cons, bitsOf_cons, bits_take n l, bitsOf_cons, List.take_append, byteBits_length, List.take_of_length_le (l := byteBits b) (by rw [byteBits_length]; omega)]
    congr 2
theorem bits_chunk (l : List Nat) (j : Nat) : bitsOf (chunk l j) = ((bitsOf l).drop (512 * j)).take 512 := by
  unfold chunk
  rw [bits_take, bits_drop]
  congr 2
  omega
theorem bytes_part {told : List Nat} (h : Bytes told) (k : Nat) : Bytes (part told k) := by
  intro b hb
  unfold part padded at hb
  have hb := List.mem_of_mem_drop (List.mem_of_mem_take hb)
  rcases List.mem_append.mp hb with hb | hb
  · rcases List.mem_append.mp hb with hb | hb
    · exact h b hb
    · rw [List.mem_singleton.mp hb]
      decide
  · rw [List.eq_of_mem_replicate hb]
    decide
theorem bytes_blk {k c : Nat} {d : List Nat} (h : Bytes d) (hk : k < 65536) (hc : c < 65536) : Bytes (blk k c d) := by
  intro b hb
  unfold blk at hb
  rcases List.mem_append.mp hb with hb | hb
  · rcases List.mem_append.mp hb with hb | hb
    · simp only [List.mem_cons, List.not_mem_nil, or_false] at hb
      omega
    · exact h b hb
  · exact sumB_bytes _ b hb
theorem bytes_blocks {told : List Nat} (h : Bytes told) (hc : cntOf told < 65536) : Bytes (blocksOf told) := by
  intro b hb
  obtain ⟨k, hk, hb⟩ := List.mem_flatMap.mp hb
  have hk := List.mem_range.mp hk
  exact bytes_blk (bytes_part h k) (by omega) hc b hb
/-- bytes whose bits part from those of blocks within a run of 32: the first changed block is wrong -/
theorem data_changed {told y : List Nat} (h : Bytes told) (hc : cntOf told < 65536) (hy : Bytes y) {a w p : Nat} (ag : Agree (bitsOf (blocksOf told)) (bitsOf y) a w) (w32 : w ≤ 32)
    (hp : p < y.length) (first : ∀ i, i < p → y[i]? = (blocksOf told)[i]?) (ne : y[p]? ≠ (blocksOf told)[p]?) : dataOf y = .block (p / 64 + 1) := by
  have ly : y.length = 64 * cntOf told := by
    have := ag.1
    rw [bitsOf_length, bitsOf_length, blocks_length] at this
    omega
  have chunk_get : ∀ (l : List Nat) (j i : Nat), i < 64 → (chunk l j)[i]? = l[64 * j + i]? := fun l j i hi => by
    unfold chunk
    rw [List.getElem?_take, if_pos hi, List.getElem?_drop]
  have lc : ∀ (l : List Nat) (j : Nat), l.length = 64 * cntOf told → j < cntOf told → (chunk l j).length = 64 := fun l j hl hj => by
    unfold chunk
    rw [List.length_take, List.length_drop]
    omega
  have lb := blocks_length told
  have hj : p / 64 < cntOf told := by omega
  have bc := fun i hi => blocks_chunk told [] i hi
  simp only [List.append_nil] at bc
  refine data_wrong hc hj (by omega) (fun i hi => ?_) fun o b => ?_
  · rw [← bc i (by omega)]
    apply List.ext_getElem?
    intro k
    by_cases hk : k < 64
    · rw [chunk_get _ _ _ hk, chunk_get _ _ _ hk]
      exact first _ (by omega)
    · rw [List.getElem?_eq_none (by rw [lc y i ly (by omega)]; omega), List.getElem?_eq_none (by rw [lc _ i lb (by omega)]; omega)]
  · have by_ : Bytes (chunk y (p / 64)) := fun x hx => hy x (List.mem_of_mem_drop (List.mem_of_mem_take hx))
    have bb : Bytes (chunk (blocksOf told) (p / 64)) := fun x hx => bytes_blocks h hc x (List.mem_of_mem_drop (List.mem_of_mem_take hx))
    have c1 := (block_sum by_ (lc y _ ly hj)).mp b.2.1
    have ok := (blk_is (k := p / 64 + 1) (c := cntOf told) (part_length (told := told) (k := p / 64) hj) (by omega) hc none (.inl rfl)).1
    rw [← bc _ hj] at ok
    have c2 := (block_sum bb (lc _ _ lb hj)).mp ok.2.1
    have parts : chunk (blocksOf told) (p / 64) ≠ chunk y (p / 64) := fun z => by
      have e := congrArg (fun l => l[p % 64]?) z
      have e : (chunk (blocksOf told) (p / 64))[p % 64]? = (chunk y (p / 64))[p % 64]? := e
      rw [chunk_get _ _ _ (by omega), chunk_get _ _ _ (by omega), show 64 * (p / 64) + p % 64 = p by omega] at e
      exact ne e.symm
    obtain ⟨a', w', hw, ag'⟩ := ag.sub (s := 512 * (p / 64)) (n := 512)
    rw [← bits_chunk, ← bits_chunk] at ag'
    exact ag'.run (by omega) (fun z => parts (bitsOf_inj bb by_ z)) (c2.trans c1.symm)
end Crc
set_option linter.all false
/-! What the law's own helpers do -/
namespace Crc
theorem num_bits : ∀ bits : List Bool, bits.length = 8 → num bits < 256 ∧ byteBits (num bits) = bits
  | [a, b, c, d, e, f, g, h], _ => by
    cases a <;> cases b <;> cases c <;> cases d <;> cases e <;> cases f <;> cases g <;> cases h <;> decide
def bytesOf (bits : List Bool) : List Nat := (List.range (bits.length / 8)).map fun k => num ((bits.drop (8 * k)).take 8)
theorem bytesOf_length (bits : List Bool) : (bytesOf bits).length = bits.length / 8 := by
  unfold bytesOf
  rw [List.length_map, List.length_range]
theorem bytesOf_cons {a b : List Bool} (h : a.length = 8) : bytesOf (a ++ b) = num a :: bytesOf b := by
  unfold bytesOf
  rw [List.length_append, h, show (8 + b.length) / 8 = b.length / 8 + 1 by omega, List.range_succ_eq_map, List.map_cons, List.map_map]
  congr 1
  · rw [Nat.mul_zero, List.drop_zero, List.take_left' h]
  · apply List.map_congr_left
    intro k _
    show num (((a ++ b).drop (8 * (k + 1))).take 8) = _
    rw [show 8 * (k + 1) = a.length + 8 * k by omega, List.drop_append, List.drop_eq_nil_of_le (as := a) (by omega), List.nil_append, Nat.add_sub_cancel_left]
theorem bytes_bytesOf {bits : List Bool} {n : Nat} (h : bits.length = 8 * n) : Bytes (bytesOf bits) := by
  intro b hb
  obtain ⟨k, hk, rfl⟩ := List.mem_map.mp hb
  have hk := List.mem_range.mp hk
  exact (num_bits _ (by rw [List.length_take, List.length_drop]; omega)).1
theorem bits_bytesOf : ∀ (n : Nat) {bits : List Bool}, bits.length = 8 * n → bitsOf (bytesOf bits) = bits
  | 0, bits, h => by
    have : bits = [] := List.eq_nil_of_length_eq_zero (by omega)
    subst this
    rfl
  | n + 1, bits, h => by
    have l8 : (bits.take 8).length = 8 := by rw [List.length_take]; omega
    have e := bytesOf_cons (b := bits.drop 8) l8
    rw [List.take_append_drop] at e
    rw [e, bitsOf_cons, (num_bits _ l8).2, bits_bytesOf n (by rw [List.length_drop]; omega), List.take_append_drop]
theorem bytesOf_bits {bs : List Nat} (h : Bytes bs) : bytesOf (bitsOf bs) = bs :=
  bitsOf_inj (bytes_bytesOf (bitsOf_length bs)) h (bits_bytesOf _ (bitsOf_length bs))
theorem bytesOf_reg (r : BitVec 32) : bytesOf (regBits r) = sumB r := by
  rw [← bits_sumB]
  exact bytesOf_bits (sumB_bytes r)
/-! ### one step of dividing -/
theorem xor_set {pre F M : List Bool} {k : Nat} {f m : Bool} (hf : F[k]? = some f) (hm : M[k]? = some m) :
    (pre ++ xor32 (F.take k) M)[pre.length + k]? = some m ∧ (pre ++ xor32 (F.take k) M).set (pre.length + k) (m != f) = pre ++ xor32 (F.take (k + 1)) M := by
  have kf : k < F.length := (List.getElem?_eq_some_iff.mp hf).1
  have km : k < M.length := (List.getElem?_eq_some_iff.mp hm).1
  have lk : (F.take k).length = k := by rw [List.length_take]; omega
  have lz : (List.zipWith (· ^^ ·) (F.take k) (M.take k)).length = k := by
    rw [List.length_zipWith, List.length_take, List.length_take]
    omega
  have x1 : xor32 (F.take k) M = List.zipWith (· ^^ ·) (F.take k) (M.take k) ++ (m :: M.drop (k + 1)) := by
    unfold xor32
    rw [lk, List.drop_eq_getElem_cons km]
    rw [List.getElem?_eq_getElem km] at hm
    rw [Option.some.inj hm]
  have x2 : xor32 (F.take (k + 1)) M = List.zipWith (· ^^ ·) (F.take k) (M.take k) ++ ((m != f) :: M.drop (k + 1)) := by
    have t1 : F.take (k + 1) = F.take k ++ [f] := by
      rw [List.take_add_one, hf]
      rfl
    have t2 : M.take (k + 1) = M.take k ++ [m] := by
      rw [List.take_add_one, hm]
      rfl
    unfold xor32
    rw [List.length_take, show min (k + 1) F.length = k + 1 by omega, t1, t2, List.zipWith_append (by rw [lk, List.length_take]; omega), List.append_assoc]
    congr 1
    show ((f ^^ m) :: _) = _
    congr 1
    cases f <;> cases m <;> rfl
  refine ⟨?_, ?_⟩
  · rw [x1, List.getElem?_append_right (by omega), Nat.add_sub_cancel_left, List.getElem?_append_right (by omega), lz, Nat.sub_self]
    rfl
  · rw [x1, x2, List.set_append_right _ _ (by omega), Nat.add_sub_cancel_left, List.set_append_right _ _ (by omega), lz, Nat.sub_self]
    rfl
/-- where dividing stands -/
def Div (bits : List Bool) (i : Nat) (l : List Bool) : Prop := ∃ pre : List Bool, pre.length = i ∧ l = pre ++ dv (crc (bits.take i)) (bits.drop i ++ List.replicate 32 false)
theorem Div.start (bits : List Bool) : Div bits 0 (bits ++ List.replicate 32 false) := ⟨[], rfl, by rw [List.take_zero]; exact (dv_zero _).symm⟩
theorem Div.stop {bits l : List Bool} (h : Div bits bits.length l) : l.drop (l.length - 32) = regBits (crc bits) := by
  obtain ⟨pre, hp, rfl⟩ := h
  rw [List.take_length, List.drop_length, List.nil_append, dv_end, List.length_append, regBits_length, Nat.add_sub_cancel, List.drop_left' rfl]
theorem Div.length {bits l : List Bool} {i : Nat} (h : Div bits i l) (hi : i ≤ bits.length) : l.length = bits.length + 32 := by
  obtain ⟨pre, hp, rfl⟩ := h
  unfold dv
  rw [List.length_append, xor32_length _ _ (by rw [regBits_length, List.length_append, List.length_replicate]; omega), List.length_append, List.length_replicate, List.length_drop]
  omega
theorem Div.next {bits l : List Bool} {i : Nat} (h : Div bits i l) (hi : i < bits.length) : ∃ (x : Bool) (pre M : List Bool), pre.length = i ∧ l = pre ++ M ∧ M.length = bits.length - i + 32 ∧ l[i]? = some x ∧
    (x = false → Div bits (i + 1) l) ∧ (x = true → Div bits (i + 1) (pre ++ xor32 facBits M)) := by
  have hl := h.length (Nat.le_of_lt hi)
  obtain ⟨pre, hp, rfl⟩ := h
  have ed : bits.drop i ++ List.replicate 32 false = bits[i] :: (bits.drop (i + 1) ++ List.replicate 32 false) := by
    rw [List.drop_eq_getElem_cons hi]
    rfl
  have et : bits.take (i + 1) = bits.take i ++ [bits[i]] := List.take_succ_eq_append_getElem hi
  have er : crc (bits.take (i + 1)) = stp (crc (bits.take i)) bits[i] := by
    rw [et]
    unfold crc
    rw [run_append]
    rfl
  have l32 : 32 ≤ (bits.drop (i + 1) ++ List.replicate 32 false).length := by
    rw [List.length_append, List.length_replicate]
    omega
  rw [ed] at hl ⊢
  rw [List.length_append] at hl
  have one : ∀ M : List Bool, M ≠ [] → pre ++ M = (pre ++ [M.headD false]) ++ M.tail := fun M hM => by
    cases M with
    | nil => exact absurd rfl hM
    | cons a b => simp
  refine ⟨(crc (bits.take i)).msb ^^ bits[i], pre, _, hp, rfl, by omega, ?_, fun x => ?_, fun x => ?_⟩
  · rw [dv_head, List.getElem?_append_right (by omega), hp, Nat.sub_self]
    rfl
  · refine ⟨pre ++ [(dv (crc (bits.take i)) (bits[i] :: (bits.drop (i + 1) ++ List.replicate 32 false))).headD false], by rw [List.length_append, hp]; rfl, ?_⟩
    rw [er, ← dv_no l32 x]
    exact one _ fun z => by rw [z] at hl; simp at hl; omega
  · refine ⟨pre ++ [(xor32 facBits (dv (crc (bits.take i)) (bits[i] :: (bits.drop (i + 1) ++ List.replicate 32 false)))).headD false], by rw [List.length_append, hp]; rfl, ?_⟩
    rw [er, ← dv_yes l32 x]
    refine one _ fun z => ?_
    have := xor32_length facBits (dv (crc (bits.take i)) (bits[i] :: (bits.drop (i + 1) ++ List.replicate 32 false))) (by show 1 + 32 ≤ _; omega)
    rw [z, List.length_nil] at this
    omega
/-! ### differences -/
def diffs (x y : List Bool) : List Nat := (List.range x.length).filter fun i => decide (x[i]? ≠ y[i]?)
def wrongs (x y : List Nat) : List Nat := (List.range x.length).filter fun i => decide (y[i]? ≠ x[i]?)
theorem filter_first (p : Nat → Bool) : ∀ n, (∀ i, i < n → p i = false) ∨ ∃ f rest, (List.range n).filter p = f :: rest ∧ f < n ∧ p f = true ∧ ∀ i, i < f → p i = false
  | 0 => .inl fun i h => by omega
  | n + 1 => by
    rw [List.range_succ, List.filter_append]
    rcases filter_first p n with h | ⟨f, rest, e, lt, pf, all⟩
    · have none : (List.range n).filter p = [] := List.filter_eq_nil_iff.mpr fun a ha => by rw [h a (List.mem_range.mp ha)]; exact Bool.false_ne_true
      cases e : p n with
      | false =>
        refine .inl fun i hi => ?_
        rcases Nat.lt_or_ge i n with g | g
        · exact h i g
        · rw [show i = n by omega]
          exact e
      | true => exact .inr ⟨n, [], by rw [none]; simp [e], by omega, e, h⟩
    · exact .inr ⟨f, rest ++ (List.filter p [n]), by rw [e]; rfl, by omega, pf, all⟩
theorem bits_at : ∀ {bs : List Nat} {i b : Nat}, bs[i]? = some b → ∀ {j : Nat}, j < 8 → (bitsOf bs)[8 * i + j]? = some (b.testBit (7 - j))
  | c :: bs, 0, b, h, j, hj => by
    obtain rfl : c = b := Option.some.inj h
    rw [bitsOf_cons, Nat.mul_zero, Nat.zero_add, List.getElem?_append_left (by rw [byteBits_length]; exact hj)]
    exact byteBits_get c j hj
  | c :: bs, i + 1, b, h, j, hj => by
    rw [bitsOf_cons, List.getElem?_append_right (by rw [byteBits_length]; omega), byteBits_length, show 8 * (i + 1) + j - 8 = 8 * i + j by omega]
    exact bits_at (bs := bs) h hj
end Crc
set_option Elab.async false
set_option linter.all false
set_option maxRecDepth 100000
set_option maxHeartbeats 4000000
/-! The law's own numbers: what the six small defs promise -/
namespace My
open PySem PySem.Spec PyProof.Rows L2
abbrev st_law_mixed : Stmt := topS 26
theorem sc_law_mixed : FnScope ["number", "place", "first", "second", "third"] ["number", "place"] (defScope st_law_mixed) := ⟨rfl, rfl, rfl, by decide +kernel, rfl, by decide +kernel, by decide +kernel⟩
abbrev st_law_rest : Stmt := topS 27
theorem sc_law_rest : FnScope ["script", "place", "fills", "number"] ["script", "place", "fills"] (defScope st_law_rest) := ⟨rfl, rfl, rfl, by decide +kernel, rfl, by decide +kernel, by decide +kernel⟩
abbrev st_law_pool : Stmt := topS 28
theorem sc_law_pool : FnScope ["script"] ["script"] (defScope st_law_pool) := ⟨rfl, rfl, rfl, by decide +kernel, rfl, by decide +kernel, by decide +kernel⟩
abbrev st_law_next : Stmt := topS 29
theorem sc_law_next : FnScope ["pool"] ["pool"] (defScope st_law_next) := ⟨rfl, rfl, rfl, by decide +kernel, rfl, by decide +kernel, by decide +kernel⟩
abbrev st_law_draw : Stmt := topS 30
theorem sc_law_draw : FnScope ["pool", "limit", "value"] ["pool", "limit"] (defScope st_law_draw) := ⟨rfl, rfl, rfl, by decide +kernel, rfl, by decide +kernel, by decide +kernel⟩
section
variable {P : Program} {w : World} {K : PySem.W.Frag} {mg : Str → Option Value} {base : Heap}
theorem ok_mixed (T : Top K mg "_law_mixed" st_law_mixed ["number", "place"]) (z_int : mg "int" = none) : Def P w K mg base 1 "_law_mixed" ["number", "place"] spMixed := by
  refine T.ok sc_law_mixed (fun vs H Q E h => ?_) (fun f cdv A outer s H vs Q E hr h => ?_)
  · obtain ⟨n, p, rfl, _⟩ := h
    rfl
  obtain ⟨n, p, rfl, q⟩ := h
  refine ⟨_, (pss_cons (ps_set (i := 2) sc_law_mixed.nd rfl (Or.inl rfl) (pe_op op_mod (pe_callTy call_int1 rfl z_int (by decide +kernel) (pa_cons (pe_op op_add (pe_op op_add (pe_op op_mul (pv 0) pe_int) (pe_op op_mul (pv 1) pe_int)) pe_int) pa_nil)) pe_int))
    (pss_cons (ps_set (i := 3) sc_law_mixed.nd rfl (Or.inl rfl) (pe_op op_mod (pe_callTy call_int1 rfl z_int (by decide +kernel) (pa_cons (pe_op op_add (pe_op op_add (pe_op op_mulW (pv 2) (pv 2)) (pe_op op_mul pe_int (pv 2))) (pv 1)) pa_nil)) pe_int))
    (pss_cons (ps_set (i := 4) sc_law_mixed.nd rfl (Or.inl rfl) (pe_op op_mod (pe_callTy call_int1 rfl z_int (by decide +kernel) (pa_cons (pe_op op_add (pe_op op_mulW (pv 3) (pv 3)) (pv 2)) pa_nil)) pe_int))
    (pss_one (ps_ret (pe_op op_add (pe_op op_mulW (pv 3) pe_int) (pv 4))))))), ?_⟩
  have g1 : ∀ i : Int, (i % 618970019642690137449562111).natAbs < 2 ^ 100 := fun i => emod_abs (by decide) (by decide)
  have g2 : ∀ i : Int, (i % 162259276829213363391578010288127).natAbs < 2 ^ 110 := fun i => emod_abs (by decide) (by decide)
  refine ⟨_, rfl, _, _, rfl, rfl, .inr ⟨by decide, by decide⟩, _, rfl, _, _, rfl, rfl, .inr ⟨by decide, by decide⟩, _, _, rfl, rfl, _, _, rfl, rfl, .inl ⟨_, rfl, ?_⟩⟩
  refine ⟨_, _, rfl, rfl, (by show (0:Int) < _; decide), ?_⟩
  refine ⟨_, rfl, _, rfl, _, _, rfl, rfl, wide_mul (g1 _) (g1 _) (by decide) (by decide) (by decide), ?_⟩
  refine ⟨_, rfl, _, _, rfl, rfl, .inl ⟨by decide, by decide⟩, _, _, rfl, rfl, _, rfl, _, _, rfl, rfl, .inl ⟨_, rfl, ?_⟩⟩
  refine ⟨_, _, rfl, rfl, (by show (0:Int) < _; decide), ?_⟩
  refine ⟨_, rfl, _, rfl, _, _, rfl, rfl, wide_mul (g2 _) (g2 _) (by decide) (by decide) (by decide), ?_⟩
  refine ⟨_, rfl, _, _, rfl, rfl, .inl ⟨_, rfl, ?_⟩⟩
  refine ⟨_, _, rfl, rfl, (by show (0:Int) < _; decide), ?_⟩
  refine ⟨_, rfl, _, _, rfl, rfl, wide_mul (b := 100) (g2 _) (by decide) (by decide) (by decide) (by decide), ?_⟩
  refine ⟨_, rfl, _, _, rfl, rfl, q _⟩
theorem ok_rest (T : Top K mg "_law_rest" st_law_rest ["script", "place", "fills"]) (D_law_mixed : Def P w K mg base 1 "_law_mixed" ["number", "place"] spMixed) (z_int : mg "int" = none) (z_len : mg "len" = none) :
    Def P w K mg base 2 "_law_rest" ["script", "place", "fills"] (spRest K) := by
  refine T.ok sc_law_rest (fun vs H Q E h => ?_) (fun f cdv A outer s H vs Q E hr h => ?_)
  · obtain ⟨a, ns, i, f, rfl, _⟩ := h
    rfl
  obtain ⟨a, ns, i, f, rfl, hC, hl, q⟩ := h
  have hS := hC.sq
  refine ⟨_, (pss_cons (ps_set (i := 3) sc_law_rest.nd rfl (Or.inl rfl) pe_int)
    (Evl.pss_cut (ps_if (pt_cmpR op_gt (pe_callB (lenQ K) rfl z_len (by decide +kernel) (pa_cons (pv 0) pa_nil)) pe_int (nomark _))
    (pss_one (ps_set (i := 3) sc_law_rest.nd rfl (Or.inl rfl) (pe_callTy call_int1 rfl z_int (by decide +kernel) (pa_cons (pe_ix (ixL K) (pv 0) (pe_op op_mod (pe_callTy call_int1 rfl z_int (by decide +kernel) (pa_cons (pv 1) pa_nil)) (pe_callB (lenQ K) rfl z_len (by decide +kernel) (pa_cons (pv 0) pa_nil))) (fun _ _ => rfl)) pa_nil))))
    pss_nil)
    (Evl.pss_cut (ps_if (pt_cmpR op_lt (pv 3) pe_int (nomark _))
    (pss_one (ps_set (i := 3) sc_law_rest.nd rfl (Or.inl rfl) (pe_op op_sub pe_int (pe_op op_mul pe_int (pv 3)))))
    pss_nil)
    (Evl.pss_cut (ps_if (PW.pt (pw_and (pt_cmpR op_eq (pv 2) pe_int (nomark _)) (pw_and (pt_cmpR op_lt (pv 1) (pe_callB (lenQ K) rfl z_len (by decide +kernel) (pa_cons (pv 0) pa_nil)) (nomark _)) (pw_and1 (pt_cmpR op_ge (pv 3) (pe_op op_pow pe_int pe_int) (nomark _))))))
    (pss_one (ps_ret (pe_op op_sub (pv 3) (pe_op op_pow pe_int pe_int))))
    pss_nil)
    (pss_one (ps_ret (pe_def D_law_mixed (hr.mono (by decide)) rfl (pa_cons (pe_op op_add (pv 3) (pe_op op_mul (pv 2) pe_int)) (pa_cons (pv 1) pa_nil))))))))), ?_⟩
  have el : (ns.map V.int).length = ns.length := List.length_map _
  -- number = 0; if len(script) > 0
  refine ⟨fun σ' H' => ∃ z : Int, σ' = [some (.ref a), some (.int i), some (.int f), some (.int z)] ∧ H' = H, ?_, ?_⟩
  · refine ⟨.ref a, rfl, a, _, rfl, .inl hS, _, _, rfl, rfl, _, rfl, ?_⟩
    refine ite2 (fun c => ?_) (fun c => ⟨0, rfl, rfl⟩)
    have h0 : 0 < (ns.map V.int).length := by
      have := of_decide_eq_true c
      omega
    obtain ⟨x, e, hx⟩ := at_mod (xs := ns.map V.int) (i := i) h0
    obtain ⟨z, _, rfl⟩ := List.mem_map.mp hx
    refine ⟨.ref a, rfl, _, rfl, .inl ⟨_, rfl, .ref a, rfl, a, _, rfl, .inl hS, _, _, rfl, rfl, by omega, a, _, _, V.int z, rfl, rfl, hS, e, .inl ⟨z, rfl, z, rfl, rfl⟩⟩⟩
  rintro σ' H' ⟨z, rfl, rfl⟩
  -- if number < 0
  refine ⟨fun σ' H1 => ∃ z : Int, σ' = [some (.ref a), some (.int i), some (.int f), some (.int z)] ∧ H1 = H', ?_, ?_⟩
  · refine ⟨_, rfl, _, _, rfl, rfl, _, rfl, ite2 (fun c => ?_) (fun c => ⟨z, rfl, rfl⟩)⟩
    refine ⟨_, rfl, _, _, rfl, rfl, .inl ⟨by decide, by decide⟩, _, _, rfl, rfl, _, rfl, rfl⟩
  rintro σ' H1 ⟨y, rfl, rfl⟩
  refine ⟨fun σ' H1' => ∃ z : Int, σ' = [some (.ref a), some (.int i), some (.int f), some (.int z)] ∧ H1' = H1, ?_, ?_⟩
  · refine ⟨_, rfl, rfl, _, rfl, ite2 (fun c => ?_) (fun c => iteF ⟨y, rfl, rfl⟩)⟩
    refine ⟨_, rfl, .ref a, rfl, a, _, rfl, .inl hS, _, _, rfl, rfl, _, rfl, ite2 (fun c => ?_) (fun c => iteF ⟨y, rfl, rfl⟩)⟩
    refine ⟨_, rfl, _, _, rfl, rfl, (by unfold CPow; decide), _, _, rfl, rfl, _, rfl, ite2 (fun c => ?_) (fun c => ⟨y, rfl, rfl⟩)⟩
    refine ⟨_, rfl, _, _, rfl, rfl, (by unfold CPow; decide), _, _, rfl, rfl, q _⟩
  rintro σ' H2 ⟨y', rfl, rfl⟩
  refine ⟨_, rfl, _, rfl, _, _, rfl, rfl, .inr ⟨by decide, by decide⟩, _, _, rfl, rfl, _, rfl, _, _, rfl, fun v => q v⟩
theorem ok_pool (T : Top K mg "_law_pool" st_law_pool ["script"]) (D_law_rest : Def P w K mg base 2 "_law_rest" ["script", "place", "fills"] (spRest K)) :
    Def P w K mg base 3 "_law_pool" ["script"] (spPool K) := by
  refine T.ok sc_law_pool (fun vs H Q E h => ?_) (fun f cdv A outer s H vs Q E hr h => ?_)
  · obtain ⟨a, ns, rfl, _⟩ := h
    rfl
  obtain ⟨a, ns, rfl, hS, hl, q⟩ := h
  refine ⟨_, (pss_one (ps_ret (pe_lst (pa_cons (pv 0) (pa_cons pe_int (pa_cons (pe_def D_law_rest (hr.mono (by decide)) rfl (pa_cons (pv 0) (pa_cons pe_int (pa_cons pe_int pa_nil)))) (pa_cons pe_int pa_nil))))))), ?_⟩
  refine ⟨_, rfl, _, rfl, a, ns, 0, 0, rfl, hS, hl, fun v => ⟨by show 4 ≤ sizeLine; decide, fun p hp => ?_⟩⟩
  exact q p _ hp Off.upd ⟨⟨0, v, 0, upd_same⟩, ⟨ns, hl, hS.off Off.upd (by rw [hp]; trivial)⟩⟩
theorem ok_next (T : Top K mg "_law_next" st_law_next ["pool"]) (D_law_rest : Def P w K mg base 2 "_law_rest" ["script", "place", "fills"] (spRest K)) :
    Def P w K mg base 3 "_law_next" ["pool"] (spNext K) := by
  refine T.ok sc_law_next (fun vs H Q E h => ?_) (fun f cdv A outer s H vs Q E hr h => ?_)
  · obtain ⟨p, a, rfl, _⟩ := h
    rfl
  obtain ⟨p, a, rfl, hP, q⟩ := h
  obtain ⟨⟨i, n, g, hp⟩, ⟨ns, hl, hS⟩⟩ := id hP
  refine ⟨_, (pss_cons (ps_asg (pe_op op_add (pe_ix (ixL K) (pv 0) pe_int (fun _ _ => rfl)) pe_int) (pg_sub (pv 0) pe_int set_list))
    (pss_cons (ps_asg (pe_def D_law_rest (hr.mono (by decide)) rfl (pa_cons (pe_ix (ixL K) (pv 0) pe_int (fun _ _ => rfl)) (pa_cons (pe_ix (ixL K) (pv 0) pe_int (fun _ _ => rfl)) (pa_cons pe_int pa_nil)))) (pg_sub (pv 0) pe_int set_list))
    (pss_one (ps_asg pe_int (pg_sub (pv 0) pe_int set_list))))), ?_⟩
  have up : ∀ {H' : Hp} {i' n' g' i2 n2 g2 : Int}, H' = upd H p (.lst [.ref a, .int i', .int n', .int g']) → upd H' p (.lst [.ref a, .int i2, .int n2, .int g2]) = upd H p (.lst [.ref a, .int i2, .int n2, .int g2]) := fun e => by rw [e, upd_upd]
  -- pool[1] = pool[1] + 1
  refine ⟨.ref p, rfl, _, _, _, _, rfl, rfl, SqL.of hp, atI_nat (j := 1) rfl, _, _, rfl, rfl, .ref p, rfl, p, _, 1, 1, rfl, rfl, hp, rfl, ?_⟩
  -- pool[2] = _law_rest(pool[0], pool[1], 0)
  refine ⟨.ref p, rfl, _, _, _, _, rfl, rfl, SqL.of upd_same, atI_nat (j := 0) rfl, .ref p, rfl, _, _, _, _, rfl, rfl, SqL.of upd_same, atI_nat (j := 1) rfl, a, ns, _, 0, rfl, hS.off Off.upd (by rw [hp]; trivial), hl, fun v => ?_⟩
  refine ⟨.ref p, rfl, p, _, 2, 2, rfl, rfl, upd_same, rfl, ?_⟩
  rw [upd_upd]
  refine ⟨.ref p, rfl, p, _, 3, 3, rfl, rfl, upd_same, rfl, ?_⟩
  rw [upd_upd]
  exact q _ Off.upd (hP.upd (i := i + 1) (n := v) (f := 0))
theorem ok_draw (T : Top K mg "_law_draw" st_law_draw ["pool", "limit"]) (D_law_rest : Def P w K mg base 2 "_law_rest" ["script", "place", "fills"] (spRest K)) (z_int : mg "int" = none) :
    Def P w K mg base 3 "_law_draw" ["pool", "limit"] (spDraw K) := by
  refine T.ok sc_law_draw (fun vs H Q E h => ?_) (fun f cdv A outer s H vs Q E hr h => ?_)
  · obtain ⟨p, a, l, rfl, _⟩ := h
    rfl
  obtain ⟨p, a, l, rfl, hP, h0, h1, q⟩ := h
  refine ⟨_, (Evl.pss_cut (ps_if (pt_cmpR op_le (pe_ix (ixL K) (pv 0) pe_int (fun _ _ => rfl)) pe_int (nomark _))
    (pss_cons (ps_asg (pe_op op_add (pe_ix (ixL K) (pv 0) pe_int (fun _ _ => rfl)) pe_int) (pg_sub (pv 0) pe_int set_list))
      (pss_one (ps_asg (pe_def D_law_rest (hr.mono (by decide)) rfl (pa_cons (pe_ix (ixL K) (pv 0) pe_int (fun _ _ => rfl)) (pa_cons (pe_ix (ixL K) (pv 0) pe_int (fun _ _ => rfl)) (pa_cons (pe_ix (ixL K) (pv 0) pe_int (fun _ _ => rfl)) pa_nil)))) (pg_sub (pv 0) pe_int set_list))))
    pss_nil)
    (pss_cons (ps_set (i := 2) sc_law_draw.nd rfl (Or.inl rfl) (pe_op op_mod (pe_callTy call_int1 rfl z_int (by decide +kernel) (pa_cons (pe_ix (ixL K) (pv 0) pe_int (fun _ _ => rfl)) pa_nil)) (pv 1)))
    (pss_cons (ps_asg (pe_op op_fdiv (pe_callTy call_int1 rfl z_int (by decide +kernel) (pa_cons (pe_ix (ixL K) (pv 0) pe_int (fun _ _ => rfl)) pa_nil)) (pv 1)) (pg_sub (pv 0) pe_int set_list))
    (pss_one (ps_ret (pv 2)))))), ?_⟩
  refine ⟨fun σ' H' => σ' = [some (.ref p), some (.int l), none] ∧ Off p H H' ∧ PoolAt K H' p a, ?_, ?_⟩
  · obtain ⟨⟨i, n, g, hp⟩, ⟨ns, hl, hS⟩⟩ := id hP
    refine ⟨.ref p, rfl, _, _, _, _, rfl, rfl, SqL.of hp, atI_nat (j := 2) rfl, _, _, rfl, rfl, _, rfl, ite2 (fun c => ?_) (fun c => ⟨rfl, Off.refl _, hP⟩)⟩
    refine ⟨.ref p, rfl, _, _, _, _, rfl, rfl, SqL.of hp, atI_nat (j := 3) rfl, _, _, rfl, rfl, .ref p, rfl, p, _, 3, 3, rfl, rfl, hp, rfl, ?_⟩
    refine ⟨.ref p, rfl, _, _, _, _, rfl, rfl, SqL.of upd_same, atI_nat (j := 0) rfl, .ref p, rfl, _, _, _, _, rfl, rfl, SqL.of upd_same, atI_nat (j := 1) rfl, .ref p, rfl, _, _, _, _, rfl, rfl, SqL.of upd_same, atI_nat (j := 3) rfl, a, ns, _, _, rfl, hS.off Off.upd (by rw [hp]; trivial), hl, fun v => ?_⟩
    refine ⟨.ref p, rfl, p, _, 2, 2, rfl, rfl, upd_same, rfl, ?_⟩
    rw [upd_upd]
    exact ⟨rfl, Off.upd, hP.upd (i := i)⟩
  rintro σ' H' ⟨rfl, o, hP'⟩
  obtain ⟨⟨i, n, g, hp⟩, ⟨ns, hl, hS⟩⟩ := id hP'
  refine ⟨.ref p, rfl, _, _, _, _, rfl, rfl, SqL.of hp, atI_nat (j := 2) rfl, .inl ⟨n, rfl, _, rfl, _, _, rfl, rfl, h0, ?_⟩⟩
  refine ⟨.ref p, rfl, _, _, _, _, rfl, rfl, SqL.of hp, atI_nat (j := 2) rfl, .inl ⟨n, rfl, _, rfl, _, _, rfl, rfl, ⟨h0, h1⟩, ?_⟩⟩
  refine ⟨.ref p, rfl, p, _, 2, 2, rfl, rfl, hp, rfl, ?_⟩
  exact ⟨_, rfl, q _ _ (Int.emod_nonneg _ (by omega)) (Int.emod_lt_of_pos _ h0) (o.trans Off.upd) (hP'.upd (i := i))⟩
end
end My
set_option Elab.async false
set_option linter.all false
set_option maxRecDepth 100000
set_option maxHeartbeats 4000000
namespace My
open PySem PySem.Spec PyProof.Rows L2
abbrev st_law_pick : Stmt := topS 31
theorem sc_law_pick : FnScope ["pool", "options"] ["pool", "options"] (defScope st_law_pick) := ⟨rfl, rfl, rfl, by decide +kernel, rfl, by decide +kernel, by decide +kernel⟩
section
variable {P : Program} {w : World} {K : PySem.W.Frag} {mg : Str → Option Value} {base : Heap}
theorem ok_pick (T : Top K mg "_law_pick" st_law_pick ["pool", "options"]) (D_law_draw : Def P w K mg base 3 "_law_draw" ["pool", "limit"] (spDraw K)) (z_len : mg "len" = none) :
    Def P w K mg base 4 "_law_pick" ["pool", "options"] (spPick K) := by
  refine T.ok sc_law_pick (fun vs H Q E h => ?_) (fun f cdv A outer s H vs Q E hr h => ?_)
  · obtain ⟨p, a, o, xs, rfl, _⟩ := h
    rfl
  obtain ⟨p, a, o, xs, rfl, hP, hS, ne, h0, h1, q⟩ := h
  refine ⟨_, (pss_one (ps_ret (pe_ix (ixL K) (pv 1) (pe_def D_law_draw (hr.mono (by decide)) rfl (pa_cons (pv 0) (pa_cons (pe_callB (lenQ K) rfl z_len (by decide +kernel) (pa_cons (pv 1) pa_nil)) pa_nil))) (fun _ _ => rfl)))), ?_⟩
  refine ⟨.ref o, rfl, .ref p, rfl, .ref o, rfl, o, xs, rfl, .inl hS, p, a, _, rfl, hP, by omega, by omega, fun v H' hv0 hv1 off hP' => ?_⟩
  obtain ⟨x, e, hx⟩ := at_in hv0 hv1
  exact ⟨o, xs, v, x, rfl, rfl, sqL_off off ne hS, e, q x H' hx off hP'⟩
end
end My
set_option Elab.async false
set_option linter.all false
set_option maxRecDepth 100000
set_option maxHeartbeats 4000000
/-! _law_same(answer, due): True of the same data -/
namespace My
open PySem PySem.Spec PyProof.Rows L2
abbrev st_law_same : Stmt := topS 32
theorem sc_law_same : FnScope ["answer", "due", "key", "k"] ["answer", "due"] (defScope st_law_same) := ⟨rfl, rfl, rfl, by decide +kernel, rfl, by decide +kernel, by decide +kernel⟩
def spSame (K : PySem.W.Frag) (n : Nat) : Sp := fun vs H Q _ => ∃ (x y : V) (d : PyData), vs = [x, y] ∧ DW K H n x d ∧ DW K H n y d ∧ ∀ H', Same H H' → Q (.bl true) H'
section
variable {P : Program} {w : World} {K : PySem.W.Frag} {mg : Str → Option Value} {base : Heap}
structure ZSame (mg : Str → Option Value) : Prop where
  isi : mg "isinstance" = none
  dict : mg "dict" = none
  list : mg "list" = none
  tuple : mg "tuple" = none
  bool : mg "bool" = none
  str : mg "str" = none
  int : mg "int" = none
  len : mg "len" = none
  range : mg "range" = none
  all : mg "all" = none
theorem ok_same0 (T : Top K mg "_law_same" st_law_same ["answer", "due"]) : Def P w K mg base 0 "_law_same" ["answer", "due"] (spSame K 0) :=
  T.def fun f fd F => ⟨fun vs H Q E h => by
    obtain ⟨x, y, d, _, h, _⟩ := h
    exact h.elim, fun A outer s H args us vs Q E _ _ _ _ h => by
    obtain ⟨x, y, d, _, h, _⟩ := h
    exact h.elim⟩
theorem ok_same_up (T : Top K mg "_law_same" st_law_same ["answer", "due"]) (Z : ZSame mg) {n : Nat} (D_law_same : Def P w K mg base n "_law_same" ["answer", "due"] (spSame K n)) : Def P w K mg base (n + 1) "_law_same" ["answer", "due"] (spSame K (n + 1)) := by
  have ⟨z_isinstance, z_dict, z_list, z_tuple, z_bool, z_str, z_int, z_len, z_range, z_all⟩ := Z
  refine T.ok sc_law_same (fun vs H Q E h => ?_) (fun f cdv A outer s H vs Q E hr h => ?_)
  · obtain ⟨x, y, d, rfl, _⟩ := h
    rfl
  have hu := hu_of hr
  obtain ⟨x, y, d, rfl, hx, hy, q⟩ := h
  refine ⟨_, (pss_cons (ps_if (pt_val (pe_callB (isiQ K) rfl z_isinstance (by decide +kernel) (pa_cons (pv 1) (pa_cons (pe_bltn (v := .ty "dict") rfl z_dict (by decide +kernel) rfl) pa_nil))))
    pss_never
    pss_nil)
    (pss_cons (ps_if (PW.pt (pw_or (pt_val (pe_callB (isiQ K) rfl z_isinstance (by decide +kernel) (pa_cons (pv 1) (pa_cons (pe_bltn (v := .ty "list") rfl z_list (by decide +kernel) rfl) pa_nil)))) (pw_or1 (pt_val (pe_callB (isiQ K) rfl z_isinstance (by decide +kernel) (pa_cons (pv 1) (pa_cons (pe_bltn (v := .ty "tuple") rfl z_tuple (by decide +kernel) rfl) pa_nil)))))))
    (pss_cons (ps_if (PW.pt (pw_or (pt_cmpR op_ne (pe_callB (isiQ K) rfl z_isinstance (by decide +kernel) (pa_cons (pv 1) (pa_cons (pe_bltn (v := .ty "list") rfl z_list (by decide +kernel) rfl) pa_nil))) (pe_callB (isiQ K) rfl z_isinstance (by decide +kernel) (pa_cons (pv 0) (pa_cons (pe_bltn (v := .ty "list") rfl z_list (by decide +kernel) rfl) pa_nil))) (nomark _)) (pw_or1 (pt_cmpR op_ne (pe_callB (isiQ K) rfl z_isinstance (by decide +kernel) (pa_cons (pv 1) (pa_cons (pe_bltn (v := .ty "tuple") rfl z_tuple (by decide +kernel) rfl) pa_nil))) (pe_callB (isiQ K) rfl z_isinstance (by decide +kernel) (pa_cons (pv 0) (pa_cons (pe_bltn (v := .ty "tuple") rfl z_tuple (by decide +kernel) rfl) pa_nil))) (nomark _)))))
      (pss_one (ps_ret pe_bl))
      pss_nil)
      (pss_one (ps_ret (pe_and (pe_cmpR op_eq (pe_callB (lenQ K) rfl z_len (by decide +kernel) (pa_cons (pv 0) pa_nil)) (pe_callB (lenQ K) rfl z_len (by decide +kernel) (pa_cons (pv 1) pa_nil)) (nomark _)) (pe_one (pe_callB (allQ K) rfl z_all (by decide +kernel) (pa_cons (pe_lc (own := [("k", 3)]) (g := gName 3) (tt := tYes) rfl sc_law_same.nd (pi_range1 rfl z_range (pa_cons (pe_callB (lenQ K) rfl z_len (by decide +kernel) (pa_cons (pv 1) pa_nil)) pa_nil)) (blkOk_by (own := [("k", 3)]) (N := ["answer", "due", "key", "k"]) (sc := defScope st_law_same) (by decide +kernel)) (fun _ _ _ _ _ => (pg_name (i := 3) sc_law_same.nd rfl (Or.inl rfl))) (fun _ _ _ _ _ => pts_nil) (fun _ _ _ _ _ => (pe_def D_law_same hr rfl (pa_cons (pe_ix (ixQ K) (pv 0) (pv 3) (fun _ _ => rfl)) (pa_cons (pe_ix (ixQ K) (pv 1) (pv 3) (fun _ _ => rfl)) pa_nil))))) pa_nil)))))))
    pss_nil)
    (pss_cons (ps_if (pt_val (pe_callB (isiQ K) rfl z_isinstance (by decide +kernel) (pa_cons (pv 1) (pa_cons (pe_bltn (v := .ty "str") rfl z_str (by decide +kernel) rfl) pa_nil))))
    (pss_one (ps_ret (pe_and (pe_callB (isiQ K) rfl z_isinstance (by decide +kernel) (pa_cons (pv 0) (pa_cons (pe_bltn (v := .ty "str") rfl z_str (by decide +kernel) rfl) pa_nil))) (pe_one (pe_cmpR op_eq (pv 0) (pv 1) (nomark _))))))
    pss_nil)
    (pss_cons (ps_if (PW.pt (pw_or (pt_cmpR op_isN (pv 1) pe_non (nomark _)) (pw_or (pt_cmpR op_isC (pv 1) pe_bl (nomark _)) (pw_or1 (pt_cmpR op_isC (pv 1) pe_bl (nomark _))))))
    (pss_one (ps_ret (pe_or (pe_and (pe_cmpR op_isN (pv 1) pe_non (nomark _)) (pe_one (pe_cmpR op_isN (pv 0) pe_non (nomark _)))) (pe_or (pe_and (pe_cmpR op_isC (pv 1) pe_bl (nomark _)) (pe_one (pe_cmpR op_isC (pv 0) pe_bl (nomark _)))) (pe_one (pe_and (pe_cmpR op_isC (pv 1) pe_bl (nomark _)) (pe_one (pe_cmpR op_isC (pv 0) pe_bl (nomark _)))))))))
    pss_nil)
    (pss_one (ps_ret (pe_and (pe_callB (isiQ K) rfl z_isinstance (by decide +kernel) (pa_cons (pv 0) (pa_cons (pe_bltn (v := .ty "int") rfl z_int (by decide +kernel) rfl) pa_nil))) (pe_and (pe_not (pe_callB (isiQ K) rfl z_isinstance (by decide +kernel) (pa_cons (pv 0) (pa_cons (pe_bltn (v := .ty "bool") rfl z_bool (by decide +kernel) rfl) pa_nil)))) (pe_one (pe_cmpR op_eq (pv 0) (pv 1) (nomark _))))))))))), ?_⟩
  cases d with
  | dict _ => exact hx.elim
  | none =>
    obtain rfl : x = .non := hx
    obtain rfl : y = .non := hy
    refine ⟨_, rfl, _, _, _, _, false, rfl, .ty _, .base .non, kit_ty (by decide +kernel), _, rfl, iteF ?_⟩
    refine ⟨_, rfl, _, _, _, _, false, rfl, .ty _, .base .non, kit_ty (by decide +kernel), _, rfl, iteF ⟨_, rfl, _, _, _, _, false, rfl, .ty _, .base .non, kit_ty (by decide +kernel), _, rfl, iteF ?_⟩⟩
    refine ⟨_, rfl, _, _, _, _, false, rfl, .ty _, .base .non, kit_ty (by decide +kernel), _, rfl, iteF ?_⟩
    refine ⟨_, rfl, rfl, _, rfl, iteT ?_⟩
    exact ⟨_, rfl, rfl, _, rfl, iteT ⟨_, rfl, rfl, _, rfl, iteT (q _ (Same.refl _))⟩⟩
  | int i =>
    obtain rfl : x = .int i := hx
    obtain rfl : y = .int i := hy
    refine ⟨_, rfl, _, _, _, _, false, rfl, .ty _, (.base (.int i)), kit_ty (by decide +kernel), _, rfl, iteF ?_⟩
    refine ⟨_, rfl, _, _, _, _, false, rfl, .ty _, (.base (.int i)), kit_ty (by decide +kernel), _, rfl, iteF ⟨_, rfl, _, _, _, _, false, rfl, .ty _, (.base (.int i)), kit_ty (by decide +kernel), _, rfl, iteF ?_⟩⟩
    refine ⟨_, rfl, _, _, _, _, false, rfl, .ty _, (.base (.int i)), kit_ty (by decide +kernel), _, rfl, iteF ?_⟩
    refine ⟨_, rfl, rfl, _, rfl, iteF ⟨_, rfl, .inl ⟨_, rfl⟩, _, rfl, iteF ⟨_, rfl, .inl ⟨_, rfl⟩, _, rfl, iteF ?_⟩⟩⟩
    refine ⟨_, rfl, _, _, _, _, true, rfl, .ty _, (.base (.int i)), kit_ty (by decide +kernel), _, rfl, iteT ⟨_, rfl, _, _, _, _, false, rfl, .ty _, (.base (.int i)), kit_ty (by decide +kernel), _, rfl, _, rfl, iteT ⟨_, rfl, _, rfl, rfl, ?_⟩⟩⟩
    rw [decide_eq_true rfl]
    exact q _ (Same.refl _)
  | bool b =>
    obtain rfl : x = .bl b := hx
    obtain rfl : y = .bl b := hy
    refine ⟨_, rfl, _, _, _, _, false, rfl, .ty _, (.base (.bl b)), kit_ty (by decide +kernel), _, rfl, iteF ?_⟩
    refine ⟨_, rfl, _, _, _, _, false, rfl, .ty _, (.base (.bl b)), kit_ty (by decide +kernel), _, rfl, iteF ⟨_, rfl, _, _, _, _, false, rfl, .ty _, (.base (.bl b)), kit_ty (by decide +kernel), _, rfl, iteF ?_⟩⟩
    refine ⟨_, rfl, _, _, _, _, false, rfl, .ty _, (.base (.bl b)), kit_ty (by decide +kernel), _, rfl, iteF ?_⟩
    refine ⟨_, rfl, rfl, _, rfl, iteF ⟨_, rfl, .inl ⟨_, rfl⟩, _, rfl, ?_⟩⟩
    have two : (V.bl b = V.bl true ∧ b = true) ∨ b = false := by cases b <;> simp
    cases b with
    | true =>
      refine iteT (iteT ?_)
      exact ⟨_, rfl, rfl, _, rfl, iteF ⟨_, rfl, iteF ⟨_, rfl, .inl ⟨_, rfl⟩, _, rfl, iteT ⟨_, rfl, .inl ⟨_, rfl⟩, _, rfl, iteT (q _ (Same.refl _))⟩⟩⟩⟩
    | false =>
      refine iteF ⟨_, rfl, .inl ⟨_, rfl⟩, _, rfl, iteT ?_⟩
      exact ⟨_, rfl, rfl, _, rfl, iteF ⟨_, rfl, iteF ⟨_, rfl, .inl ⟨_, rfl⟩, _, rfl, iteF ⟨_, rfl, iteF ⟨_, rfl, .inl ⟨_, rfl⟩, _, rfl, iteT ⟨_, rfl, .inl ⟨_, rfl⟩, q _ (Same.refl _)⟩⟩⟩⟩⟩⟩
  | str s =>
    obtain rfl : x = .str s := hx
    obtain rfl : y = .str s := hy
    refine ⟨_, rfl, _, _, _, _, false, rfl, .ty _, (.base (.str s)), kit_ty (by decide +kernel), _, rfl, iteF ?_⟩
    refine ⟨_, rfl, _, _, _, _, false, rfl, .ty _, (.base (.str s)), kit_ty (by decide +kernel), _, rfl, iteF ⟨_, rfl, _, _, _, _, false, rfl, .ty _, (.base (.str s)), kit_ty (by decide +kernel), _, rfl, iteF ?_⟩⟩
    refine ⟨_, rfl, _, _, _, _, true, rfl, .ty _, (.base (.str s)), kit_ty (by decide +kernel), _, rfl, iteT ?_⟩
    refine ⟨_, rfl, _, _, _, _, true, rfl, .ty _, (.base (.str s)), kit_ty (by decide +kernel), _, rfl, iteT ⟨_, rfl, _, rfl, rfl, ?_⟩⟩
    rw [decide_eq_true rfl]
    exact q _ (Same.refl _)
  | list ds =>
    obtain ⟨a, xs, rfl, ha, l1, l2, ka⟩ := hx
    obtain ⟨b, ys, rfl, hb, m1, m2, kb⟩ := hy
    refine ⟨_, rfl, _, _, _, _, false, rfl, .ty _, (tyx_list hb), kit_ty (by decide +kernel), _, rfl, iteF ?_⟩
    refine ⟨_, rfl, _, _, _, _, true, rfl, .ty _, (tyx_list hb), kit_ty (by decide +kernel), _, rfl, iteT ?_⟩
    refine ⟨_, rfl, _, _, _, _, true, rfl, .ty _, (tyx_list hb), kit_ty (by decide +kernel), _, rfl, _, _, _, _, true, rfl, .ty _, (tyx_list ha), kit_ty (by decide +kernel), rfl, _, rfl, iteF ?_⟩
    refine ⟨_, rfl, _, _, _, _, false, rfl, .ty _, (tyx_list hb), kit_ty (by decide +kernel), _, rfl, _, _, _, _, false, rfl, .ty _, (tyx_list ha), kit_ty (by decide +kernel), rfl, _, rfl, iteF ?_⟩
    refine ⟨.ref a, rfl, a, xs, rfl, .inl ha, .ref b, rfl, b, ys, rfl, .inl hb, rfl, ?_⟩
    have el : (xs.length : Int) = ys.length := by omega
    rw [el, decide_eq_true rfl]
    refine ⟨true, rfl, iteT ?_⟩
    -- all([..])
    refine ⟨.ref b, rfl, b, ys, rfl, .inl hb, ys.length, rfl, by omega, by omega, fun D hD => lc_range (lo := 0) (n := ys.length) (fun i H' => Same H H' ∧ H' D = some (.lst (List.replicate i (.bl true)))) ⟨Same.new hD, upd_same⟩ ?_ ?_⟩
    · rintro i H' hi ⟨s, e⟩
      obtain ⟨x, hx⟩ : ∃ x, xs[i]? = some x := ⟨_, List.getElem?_eq_getElem (by omega)⟩
      obtain ⟨y, hy⟩ : ∃ y, ys[i]? = some y := ⟨_, List.getElem?_eq_getElem hi⟩
      obtain ⟨d, hd⟩ : ∃ d, ds[i]? = some d := ⟨_, List.getElem?_eq_getElem (by omega)⟩
      have e0 : (0 : Int) + (i : Int) = (i : Int) := Int.zero_add _
      rw [e0]
      refine ⟨rfl, .ref a, rfl, _, rfl, .inl ⟨_, _, _, _, rfl, rfl, (s.seq ha), atI_nat hx, ?_⟩⟩
      refine ⟨.ref b, rfl, _, rfl, .inl ⟨_, _, _, _, rfl, rfl, (s.seq hb), atI_nat hy, ?_⟩⟩
      refine ⟨x, y, d, rfl, DW.same s (ka i x d hx hd), DW.same s (kb i y d hy hd), fun G sg => ⟨_, sg _ _ e, sq_len (by rw [List.length_replicate]; omega), same_mut (s.trans sg) hD, ?_⟩⟩
      rw [upd_same, List.replicate_succ']
    · rintro H' ⟨s, e⟩
      have e1 : List.replicate ys.length (V.bl true) = (List.replicate ys.length true).map V.bl := List.map_replicate.symm
      have e2 : (List.replicate ys.length true).all id = true := by simp
      rw [e1] at e
      refine ⟨D, _, rfl, SqL.of e, ?_⟩
      rw [e2]
      exact q _ s
  | tuple ds =>
    obtain ⟨a, xs, rfl, ha, l1, l2, ka⟩ := hx
    obtain ⟨b, ys, rfl, hb, m1, m2, kb⟩ := hy
    refine ⟨_, rfl, _, _, _, _, false, rfl, .ty _, (tyx_tuple hb), kit_ty (by decide +kernel), _, rfl, iteF ?_⟩
    refine ⟨_, rfl, _, _, _, _, false, rfl, .ty _, (tyx_tuple hb), kit_ty (by decide +kernel), _, rfl, iteF ⟨_, rfl, _, _, _, _, true, rfl, .ty _, (tyx_tuple hb), kit_ty (by decide +kernel), _, rfl, iteT ?_⟩⟩
    refine ⟨_, rfl, _, _, _, _, false, rfl, .ty _, (tyx_tuple hb), kit_ty (by decide +kernel), _, rfl, _, _, _, _, false, rfl, .ty _, (tyx_tuple ha), kit_ty (by decide +kernel), rfl, _, rfl, iteF ?_⟩
    refine ⟨_, rfl, _, _, _, _, true, rfl, .ty _, (tyx_tuple hb), kit_ty (by decide +kernel), _, rfl, _, _, _, _, true, rfl, .ty _, (tyx_tuple ha), kit_ty (by decide +kernel), rfl, _, rfl, iteF ?_⟩
    refine ⟨.ref a, rfl, a, xs, rfl, .inr ha, .ref b, rfl, b, ys, rfl, .inr hb, rfl, ?_⟩
    have el : (xs.length : Int) = ys.length := by omega
    rw [el, decide_eq_true rfl]
    refine ⟨true, rfl, iteT ?_⟩
    -- all([..])
    refine ⟨.ref b, rfl, b, ys, rfl, .inr hb, ys.length, rfl, by omega, by omega, fun D hD => lc_range (lo := 0) (n := ys.length) (fun i H' => Same H H' ∧ H' D = some (.lst (List.replicate i (.bl true)))) ⟨Same.new hD, upd_same⟩ ?_ ?_⟩
    · rintro i H' hi ⟨s, e⟩
      obtain ⟨x, hx⟩ : ∃ x, xs[i]? = some x := ⟨_, List.getElem?_eq_getElem (by omega)⟩
      obtain ⟨y, hy⟩ : ∃ y, ys[i]? = some y := ⟨_, List.getElem?_eq_getElem hi⟩
      obtain ⟨d, hd⟩ : ∃ d, ds[i]? = some d := ⟨_, List.getElem?_eq_getElem (by omega)⟩
      have e0 : (0 : Int) + (i : Int) = (i : Int) := Int.zero_add _
      rw [e0]
      refine ⟨rfl, .ref a, rfl, _, rfl, .inr (.inl ⟨_, _, _, _, rfl, rfl, (sqT_same s ha), atI_nat hx, ?_⟩)⟩
      refine ⟨.ref b, rfl, _, rfl, .inr (.inl ⟨_, _, _, _, rfl, rfl, (sqT_same s hb), atI_nat hy, ?_⟩)⟩
      refine ⟨x, y, d, rfl, DW.same s (ka i x d hx hd), DW.same s (kb i y d hy hd), fun G sg => ⟨_, sg _ _ e, sq_len (by rw [List.length_replicate]; omega), same_mut (s.trans sg) hD, ?_⟩⟩
      rw [upd_same, List.replicate_succ']
    · rintro H' ⟨s, e⟩
      have e1 : List.replicate ys.length (V.bl true) = (List.replicate ys.length true).map V.bl := List.map_replicate.symm
      have e2 : (List.replicate ys.length true).all id = true := by simp
      rw [e1] at e
      refine ⟨D, _, rfl, SqL.of e, ?_⟩
      rw [e2]
      exact q _ s
theorem ok_same (T : Top K mg "_law_same" st_law_same ["answer", "due"]) (Z : ZSame mg) : ∀ n : Nat, Def P w K mg base n "_law_same" ["answer", "due"] (spSame K n)
  | 0 => ok_same0 T
  | n + 1 => ok_same_up T Z (ok_same T Z n)
end
end My
set_option Elab.async false
set_option linter.all false
set_option maxRecDepth 100000
set_option maxHeartbeats 4000000
/-! The program's blocks -/
namespace My
open PySem PySem.Spec PyProof.Rows L2 Crc
abbrev st_sum_of_bits : Stmt := topS 5
theorem sc_sum_of_bits : FnScope ["told", "rest", "byte", "place", "bit", "lead"] ["told"] (defScope st_sum_of_bits) := ⟨rfl, rfl, rfl, by decide +kernel, rfl, by decide +kernel, by decide +kernel⟩
abbrev st_block : Stmt := topS 6
theorem sc_block : FnScope ["number", "count", "data", "told"] ["number", "count", "data"] (defScope st_block) := ⟨rfl, rfl, rfl, by decide +kernel, rfl, by decide +kernel, by decide +kernel⟩
abbrev st_blocks_of : Stmt := topS 7
theorem sc_blocks_of : FnScope ["told", "data", "count", "found", "at"] ["told"] (defScope st_blocks_of) := ⟨rfl, rfl, rfl, by decide +kernel, rfl, by decide +kernel, by decide +kernel⟩
abbrev st_is_block : Stmt := topS 8
theorem sc_is_block : FnScope ["told", "number", "count", "many"] ["told", "number", "count"] (defScope st_is_block) := ⟨rfl, rfl, rfl, by decide +kernel, rfl, by decide +kernel, by decide +kernel⟩
abbrev st_without_end : Stmt := topS 9
theorem sc_without_end : FnScope ["data", "at"] ["data"] (defScope st_without_end) := ⟨rfl, rfl, rfl, by decide +kernel, rfl, by decide +kernel, by decide +kernel⟩
abbrev st_data_of : Stmt := topS 10
theorem sc_data_of : FnScope ["told", "data", "count", "number", "here", "last"] ["told"] (defScope st_data_of) := ⟨rfl, rfl, rfl, by decide +kernel, rfl, by decide +kernel, by decide +kernel⟩
/-- a list is made -/
def Made (H : Hp) (xs : List V) (Q : VK) : Prop := ∀ p H', Same H H' → H p = none → H' p = some (.lst xs) → Q (.ref p) H'
/-- the module's numbers -/
structure Consts (mg : Str → Option Value) : Prop where
  SIZE : ∃ t, mg "SIZE" = some (.int 64 t)
  DATA : ∃ t, mg "DATA" = some (.int 56 t)
  FACTORS : ∃ t, mg "FACTORS" = some (.int 79764919 t)
  TOP : ∃ t, mg "TOP" = some (.int 4294967296 t)
def spSum (K : PySem.W.Frag) : Sp := fun vs H Q _ => ∃ (a : Addr) (bs : List Nat), vs = [.ref a] ∧ SqL K H a (bv bs) ∧ Made H (bv (sumOf bs)) Q
def spBlock : Sp := fun vs H Q _ => ∃ (a : Addr) (n c : Nat) (d : List Nat), vs = [.int n, .int c, .ref a] ∧ H a = some (.lst (bv d)) ∧ d.length ≤ 1000 ∧ Made H (bv (blk n c d)) Q
def spBlocksOf : Sp := fun vs H Q _ => ∃ (a : Addr) (bs : List Nat), vs = [.ref a] ∧ H a = some (.lst (bv bs)) ∧ bs.length ≤ 100000 ∧ Made H (bv (blocksOf bs)) Q
def cV (o : Option Nat) : V := match o with | none => .non | some c => .int c
def spIsBlock (K : PySem.W.Frag) : Sp := fun vs H Q _ => ∃ (a : Addr) (here : List Nat) (n : Nat) (o : Option Nat), vs = [.ref a, .int n, cV o] ∧ SqL K H a (bv here) ∧ ∀ H', Same H H' → Q (.bl (decide (IsBlk here n o))) H'
def WendAt (H H' : Hp) (o : Option (List Nat)) (v : V) : Prop := match o with
  | none => v = .non
  | some l => ∃ p, v = .ref p ∧ H p = none ∧ H' p = some (.lst (bv l))
def spWend (K : PySem.W.Frag) : Sp := fun vs H Q _ => ∃ (a : Addr) (l : List Nat), vs = [.ref a] ∧ SqL K H a (bv l) ∧ ∀ v H', Same H H' → WendAt H H' (wend l) v → Q v H'
def ToldAt (H : Hp) (r : Told) (v : V) : Prop := match r with
  | .block n => ∃ t, v = .ref t ∧ H t = some (.tup [.str "block", .int (n : Int)])
  | .data l => ∃ t q, v = .ref t ∧ H t = some (.tup [.str "data", .ref q]) ∧ H q = some (.lst (bv l))
def spDataOf (K : PySem.W.Frag) : Sp := fun vs H Q _ => ∃ (a : Addr) (l : List Nat), vs = [.ref a] ∧ SqL K H a (bv l) ∧ l.length ≤ 100000 ∧ ∀ v H', Same H H' → ToldAt H' (dataOf l) v → Q v H'
/-! ### the register as a number -/
theorem reg_lead (r : BitVec 32) : (r.toNat : Int) / 2 ^ 31 = bitI r.msb := by
  have e : r.msb = decide (2 ^ 31 ≤ r.toNat) := BitVec.msb_eq_decide r
  have lt := r.isLt
  rw [e]
  unfold bitI
  by_cases h : 2 ^ 31 ≤ r.toNat
  · rw [decide_eq_true h, if_pos rfl]
    omega
  · rw [decide_eq_false h, if_neg Bool.false_ne_true]
    omega
theorem reg_shl (r : BitVec 32) : (2 * (r.toNat : Int)) % 4294967296 = ((r <<< 1).toNat : Int) := by
  rw [BitVec.toNat_shiftLeft, Nat.shiftLeft_eq]
  have e : r.toNat * 2 ^ 1 % 2 ^ 32 = (2 * r.toNat) % 4294967296 := by
    rw [Nat.pow_one, Nat.mul_comm]
  rw [e]
  omega
theorem reg_xor (r : BitVec 32) : Builtin.bitXor (r.toNat : Int) 79764919 = ((r ^^^ fac).toNat : Int) := by
  rw [Bits.bitXor_pp (Int.natCast_nonneg _) (by decide), BitVec.toNat_xor]
  rfl
theorem bit_is (n p : Nat) : Builtin.bitAnd ((n : Int) / 2 ^ p) 1 = bitI (n.testBit p) := by
  have e : Builtin.bitAnd ((n : Int) / 2 ^ p) 1 = ((n : Int) / 2 ^ p) % 2 := PySem.W.kbt_mask _ 1
  rw [e, Nat.testBit_eq_decide_div_mod_eq]
  have e2 : ((n : Int) / 2 ^ p) % 2 = ((n / 2 ^ p % 2 : Nat) : Int) := by
    rw [Int.natCast_emod, Int.natCast_ediv, Int.natCast_pow]
    rfl
  rw [e2]
  unfold bitI
  have lt : n / 2 ^ p % 2 < 2 := Nat.mod_lt _ (by decide)
  by_cases h : n / 2 ^ p % 2 = 1
  · rw [decide_eq_true h, if_pos rfl, h]
    rfl
  · rw [decide_eq_false h, if_neg Bool.false_ne_true]
    have : n / 2 ^ p % 2 = 0 := by omega
    rw [this]
    rfl
theorem byte_is (n k : Nat) : Builtin.bitAnd ((n : Int) / 2 ^ k) 255 = ((n / 2 ^ k % 256 : Nat) : Int) := by
  have e : Builtin.bitAnd ((n : Int) / 2 ^ k) 255 = ((n : Int) / 2 ^ k) % 2 ^ 8 := PySem.W.kbt_mask _ 8
  rw [e, Int.natCast_emod, Int.natCast_ediv, Int.natCast_pow]
  rfl
theorem bitI_eq (a b : Bool) : decide (V.int (bitI a) = V.int (bitI b)) = (a == b) := by
  cases a <;> cases b <;> decide
section
variable {P : Program} {w : World} {K : PySem.W.Frag} {mg : Str → Option Value} {base : Heap}
theorem ok_sum (T : Top K mg "sum_of_bits" st_sum_of_bits ["told"]) (C : Consts mg) (z_range : mg "range" = none) : Def P w K mg base 1 "sum_of_bits" ["told"] (spSum K) := by
  obtain ⟨_, m_TOP⟩ := C.TOP
  obtain ⟨_, m_FACTORS⟩ := C.FACTORS
  refine T.ok sc_sum_of_bits (fun vs H Q E h => ?_) (fun f cdv A outer s H vs Q E hr h => ?_)
  · obtain ⟨a, bs, rfl, _⟩ := h
    rfl
  obtain ⟨a, bs, rfl, ha, q⟩ := h
  refine ⟨_, (pss_cons (ps_set (i := 1) sc_sum_of_bits.nd rfl (Or.inr rfl) pe_int)
    (pss_cons (ps_for PassesOwn.never rfl (pi_list (pv 0)) (pg_name (i := 2) sc_sum_of_bits.nd rfl (Or.inl rfl))
    (pss_one (ps_for PassesOwn.never rfl (pi_range3 rfl z_range (pa_cons pe_int (pa_cons (pe_un un_neg pe_int) (pa_cons (pe_un un_neg pe_int) pa_nil)))) (pg_name (i := 3) sc_sum_of_bits.nd rfl (Or.inl rfl))
      (pss_cons (ps_set (i := 4) sc_sum_of_bits.nd rfl (Or.inl rfl) (pe_op op_and (pe_op op_shr (pv 2) (pv 3)) pe_int))
        (pss_cons (ps_set (i := 5) sc_sum_of_bits.nd rfl (Or.inl rfl) (pe_op op_shr (pv 1) pe_int))
        (pss_cons (ps_set (i := 1) sc_sum_of_bits.nd rfl (Or.inr rfl) (pe_op op_mod (pe_op op_mul pe_int (pv 1)) (pe_glob (v := .int 4294967296) rfl m_TOP ⟨_, rfl⟩)))
        (pss_one (ps_if (pt_cmpR op_ne (pv 5) (pv 4) (nomark _))
        (pss_one (ps_set (i := 1) sc_sum_of_bits.nd rfl (Or.inr rfl) (pe_op op_xor (pv 1) (pe_glob (v := .int 79764919) rfl m_FACTORS ⟨_, rfl⟩))))
        pss_nil))))))))
    (pss_one (ps_ret (pe_lc (own := [("place", 3)]) (g := gName 3) (tt := tYes) rfl sc_sum_of_bits.nd (pi_tup (pe_tup (pa_cons pe_int (pa_cons pe_int (pa_cons pe_int (pa_cons pe_int pa_nil)))))) (blkOk_by (own := [("place", 3)]) (N := ["told", "rest", "byte", "place", "bit", "lead"]) (sc := defScope st_sum_of_bits) (by decide +kernel)) (fun _ _ _ _ _ => (pg_name (i := 3) sc_sum_of_bits.nd rfl (Or.inl rfl))) (fun _ _ _ _ _ => pts_nil) (fun _ _ _ _ _ => (pe_op op_and (pe_op op_shr (pv 1) (pe_op op_mul pe_int (pv 3))) pe_int))))))), ?_⟩
  -- rest = 0; for byte in told
  refine ⟨.ref a, rfl, a, rfl, ⟨_, ha⟩, for_list (K := K) (a := a) (xs := bv bs) (fun i σ H' => ∃ x2 x3 x4 x5 : Option V, σ = [some (.ref a), some (.int ((crc (bitsOf (bs.take i))).toNat : Int)), x2, x3, x4, x5] ∧ H' = H) ⟨_, _, _, _, rfl, rfl⟩ (fun _ _ _ _ ⟨_, _, _, _, _, e⟩ => by rw [e]; exact ha) ?_ ?_⟩
  · rintro i x σ H' hx ⟨x2, x3, x4, x5, rfl, rfl⟩
    obtain ⟨b, hb, rfl⟩ := bv_of hx
    -- for place in range(7, -1, -1)
    refine ⟨1, rfl, 1, rfl, 7, -1, -1, 8, rfl, RgC.neg (by decide) (by decide) (by decide) (by decide), for_rangeC (lo := 7) (c := -1) (n := 8) (fun j σ G => ∃ y3 y4 y5 : Option V, σ = [some (.ref a), some (.int ((run (crc (bitsOf (bs.take i))) ((byteBits b).take j)).toNat : Int)), some (.int b), y3, y4, y5] ∧ G = H') ⟨_, _, _, rfl, rfl⟩ ?_ ?_⟩
    · rintro j σ G hj ⟨y3, y4, y5, rfl, rfl⟩
      have e7 : (7 : Int) + (j : Int) * -1 = ((7 - j : Nat) : Int) := by omega
      rw [e7]
      -- bit, lead, rest
      refine ⟨_, rfl, _, rfl, _, _, rfl, rfl, Int.natCast_nonneg _, _, _, rfl, rfl, ?_⟩
      refine ⟨_, rfl, _, _, rfl, rfl, (by show (0 : Int) ≤ 31; decide), ?_⟩
      refine ⟨_, rfl, _, _, rfl, rfl, .inl ⟨by decide, by decide⟩, _, _, rfl, rfl, (by show (0 : Int) < 4294967296; decide), ?_⟩
      have got : (byteBits b)[j]? = some (b.testBit (7 - j)) := byteBits_get b j hj
      have next : run (crc (bitsOf (bs.take i))) ((byteBits b).take (j + 1)) = stp (run (crc (bitsOf (bs.take i))) ((byteBits b).take j)) (b.testBit (7 - j)) := by
        rw [List.take_add_one, got, run_append]
        rfl
      rw [next]
      generalize run (crc (bitsOf (bs.take i))) ((byteBits b).take j) = R
      have lead := reg_lead R
      have bit : Builtin.bitAnd ((b : Int) / 2 ^ (((7 - j : Nat) : Int)).toNat) 1 = bitI (b.testBit (7 - j)) := by
        rw [Int.toNat_natCast]
        exact bit_is b (7 - j)
      have cond : decide (V.int ((R.toNat : Int) / 2 ^ (31 : Int).toNat) = V.int (Builtin.bitAnd ((b : Int) / 2 ^ (((7 - j : Nat) : Int)).toNat) 1)) = (R.msb == b.testBit (7 - j)) := by
        rw [bit]
        show decide (V.int ((R.toNat : Int) / 2 ^ 31) = _) = _
        rw [lead]
        exact bitI_eq _ _
      have shl := reg_shl R
      refine ⟨_, rfl, _, rfl, rfl, _, rfl, ifnB cond ?_⟩
      cases eq : (R.msb == b.testBit (7 - j)) with
      | true =>
        refine iteT ?_
        have st : stp R (b.testBit (7 - j)) = R <<< 1 := by
          unfold stp
          rw [eq_of_beq eq]
          simp
        exact ⟨_, _, _, by rw [st, ← shl]; rfl, rfl⟩
      | false =>
        refine iteF ⟨_, rfl, _, _, rfl, rfl, ?_⟩
        have st : stp R (b.testBit (7 - j)) = (R <<< 1) ^^^ fac := by
          unfold stp
          rw [show (R.msb != b.testBit (7 - j)) = true by unfold bne; rw [eq]; rfl]
          rfl
        exact ⟨_, _, _, by rw [st, ← reg_xor, ← shl]; rfl, rfl⟩
    · rintro σ G ⟨y3, y4, y5, rfl, rfl⟩
      have e : run (crc (bitsOf (bs.take i))) ((byteBits b).take 8) = crc (bitsOf (bs.take (i + 1))) := by
        rw [List.take_of_length_le (l := byteBits b) (by rw [byteBits_length]; omega), List.take_add_one (l := bs), hb, bitsOf_append]
        unfold crc
        rw [run_append]
        show _ = run _ (byteBits b ++ [])
        rw [List.append_nil]
      rw [e]
      exact ⟨_, _, _, _, rfl, rfl⟩
  · rintro σ H' ⟨x2, x3, x4, x5, rfl, rfl⟩
    rw [bv_len, List.take_of_length_le (Nat.le_refl _)]
    generalize er : crc (bitsOf bs) = R
    have es : sumOf bs = sumB R := by rw [← er]; rfl
    rw [es] at q
    -- the four bytes
    refine ⟨(by show 4 ≤ sizeLine; decide), fun t nt => ⟨t, rfl, ⟨_, SqT.of upd_same⟩, fun D nD => lc_tup (K := K) (a := t) (xs := [.int 3, .int 2, .int 1, .int 0]) (fun i G => Same (upd H' t (.tup [.int 3, .int 2, .int 1, .int 0])) G ∧ G D = some (.lst (bv ((sumB R).take i)))) ⟨Same.new nD, upd_same⟩ (fun i G _ ⟨s, _⟩ => SqT.of (s _ _ upd_same)) ?_ ?_⟩⟩
    · rintro i x G hx ⟨s, e⟩
      obtain ⟨k, hk, rfl, hi⟩ : ∃ k : Nat, (sumB R)[i]? = some (R.toNat / 2 ^ (8 * k) % 256) ∧ x = .int k ∧ i < 4 := by
        match i, hx with
        | 0, hx => exact ⟨3, rfl, (Option.some.inj hx).symm, by decide⟩
        | 1, hx => exact ⟨2, rfl, (Option.some.inj hx).symm, by decide⟩
        | 2, hx => exact ⟨1, rfl, (Option.some.inj hx).symm, by decide⟩
        | 3, hx => exact ⟨0, by show some _ = some _; rw [Nat.mul_zero, Nat.pow_zero, Nat.div_one], (Option.some.inj hx).symm, by decide⟩
        | i + 4, hx => cases hx
      have n0 : (upd H' t (.tup [.int 3, .int 2, .int 1, .int 0])) D = none := nD
      refine ⟨rfl, _, rfl, _, rfl, _, _, rfl, rfl, .inl ⟨by decide, by decide⟩, _, _, rfl, rfl, (by omega), _, _, rfl, rfl, _, e, sq_len (by rw [bv_len, List.length_take]; omega), same_mut s n0, ?_⟩
      have v : Builtin.bitAnd ((R.toNat : Int) / 2 ^ ((8 : Int) * (k : Int)).toNat) 255 = ((R.toNat / 2 ^ (8 * k) % 256 : Nat) : Int) := by
        rw [show ((8 : Int) * (k : Int)).toNat = 8 * k by omega]
        exact byte_is _ _
      rw [upd_same, List.take_add_one, hk, bv_app]
      show some (HO.lst (_ ++ [V.int (Builtin.bitAnd ((R.toNat : Int) / 2 ^ ((8 : Int) * (k : Int)).toNat) 255)])) = _
      rw [v]
      rfl
    · rintro G ⟨s, e⟩
      exact q D G ((Same.new nt).trans s) ((Same.new nt).free nD) e
theorem ok_block (T : Top K mg "block" st_block ["number", "count", "data"]) (D_sum_of_bits : Def P w K mg base 1 "sum_of_bits" ["told"] (spSum K)) : Def P w K mg base 2 "block" ["number", "count", "data"] spBlock := by
  refine T.ok sc_block (fun vs H Q E h => ?_) (fun f cdv A outer s H vs Q E hr h => ?_)
  · obtain ⟨a, n, c, d, rfl, _⟩ := h
    rfl
  obtain ⟨a, n, c, d, rfl, ha, hl, q⟩ := h
  refine ⟨_, (pss_cons (ps_set (i := 3) sc_block.nd rfl (Or.inl rfl) (pe_op op_cat (pe_lst (pa_cons (pe_op op_fdiv (pv 0) pe_int) (pa_cons (pe_op op_mod (pv 0) pe_int) (pa_cons (pe_op op_fdiv (pv 1) pe_int) (pa_cons (pe_op op_mod (pv 1) pe_int) pa_nil))))) (pv 2)))
    (pss_one (ps_ret (pe_op op_cat (pv 3) (pe_def D_sum_of_bits (hr.mono (by decide)) rfl (pa_cons (pv 3) pa_nil)))))), ?_⟩
  have big : ∀ {n : Nat}, n ≤ 1100 → n ≤ sizeLine := fun h => Nat.le_of_lt (sq_len (by omega))
  refine ⟨_, rfl, _, _, rfl, rfl, ⟨by decide, by decide⟩, _, rfl, _, _, rfl, rfl, (by show (0 : Int) < 256; decide), _, rfl, _, _, rfl, rfl, ⟨by decide, by decide⟩, _, rfl, _, _, rfl, rfl, (by show (0 : Int) < 256; decide), (by show 4 ≤ sizeLine; decide), fun o no => ?_⟩
  have sa : (upd H o (.lst [.int ((n : Int) / 256), .int ((n : Int) % 256), .int ((c : Int) / 256), .int ((c : Int) % 256)])) a = some (.lst (bv d)) := Same.new no _ _ ha
  refine ⟨.ref a, rfl, o, a, _, _, rfl, rfl, upd_same, sa, big (by rw [bv_len]; show 4 + d.length ≤ 1100; omega), fun p np => ?_⟩
  have e : (V.int ((n : Int) / 256) :: .int ((n : Int) % 256) :: .int ((c : Int) / 256) :: .int ((c : Int) % 256) :: bv d) = bv ([n / 256, n % 256, c / 256, c % 256] ++ d) := rfl
  have s1 : Same H (upd (upd H o (.lst [.int ((n : Int) / 256), .int ((n : Int) % 256), .int ((c : Int) / 256), .int ((c : Int) % 256)])) p (.lst (bv ([n / 256, n % 256, c / 256, c % 256] ++ d)))) := (Same.new no).trans (Same.new np)
  refine ⟨.ref p, rfl, .ref p, rfl, p, [n / 256, n % 256, c / 256, c % 256] ++ d, rfl, SqL.of upd_same, fun r H2 s2 nr er => ?_⟩
  have ep := s2 _ _ (upd_same (H := upd H o (.lst [.int ((n : Int) / 256), .int ((n : Int) % 256), .int ((c : Int) / 256), .int ((c : Int) % 256)])) (a := p) (o := .lst (bv ([n / 256, n % 256, c / 256, c % 256] ++ d))))
  refine ⟨p, r, _, _, rfl, rfl, ep, er, big (by rw [bv_len, bv_len, sumOf_length, List.length_append]; show 4 + d.length + 4 ≤ 1100; omega), fun z nz => ?_⟩
  refine q z _ (same_mut (s1.trans s2) ((s1.trans s2).free nz)) ((s1.trans s2).free nz) ?_
  rw [upd_same, ← bv_app]
  rfl
theorem ok_blocks_of (T : Top K mg "blocks_of" st_blocks_of ["told"]) (C : Consts mg) (D_block : Def P w K mg base 2 "block" ["number", "count", "data"] spBlock) (z_len : mg "len" = none) (z_range : mg "range" = none) : Def P w K mg base 3 "blocks_of" ["told"] spBlocksOf := by
  obtain ⟨_, m_DATA⟩ := C.DATA
  refine T.ok sc_blocks_of (fun vs H Q E h => ?_) (fun f cdv A outer s H vs Q E hr h => ?_)
  · obtain ⟨a, bs, rfl, _⟩ := h
    rfl
  obtain ⟨a, bs, rfl, ha, hl, q⟩ := h
  refine ⟨_, (pss_cons (ps_set (i := 1) sc_blocks_of.nd rfl (Or.inl rfl) (pe_op op_cat (pv 0) (pe_lst (pa_cons pe_int pa_nil))))
    (pss_cons (ps_set (i := 2) sc_blocks_of.nd rfl (Or.inl rfl) (pe_un un_neg (pe_op op_fdiv (pe_un un_neg (pe_callB (lenQ K) rfl z_len (by decide +kernel) (pa_cons (pv 1) pa_nil))) (pe_glob (v := .int 56) rfl m_DATA ⟨_, rfl⟩))))
    (pss_cons (ps_set (i := 1) sc_blocks_of.nd rfl (Or.inl rfl) (pe_op op_cat (pv 1) (pe_op op_rep (pe_lst (pa_cons pe_int pa_nil)) (pe_op op_sub (pe_op op_mul (pv 2) (pe_glob (v := .int 56) rfl m_DATA ⟨_, rfl⟩)) (pe_callB (lenQ K) rfl z_len (by decide +kernel) (pa_cons (pv 1) pa_nil))))))
    (pss_cons (ps_set (i := 3) sc_blocks_of.nd rfl (Or.inl rfl) (pe_lst pa_nil))
    (pss_cons (ps_for PassesOwn.never rfl (pi_range1 rfl z_range (pa_cons (pv 2) pa_nil)) (pg_name (i := 4) sc_blocks_of.nd rfl (Or.inl rfl))
    (pss_one (ps_expr (pe_bm PySem.F.plainAttrs_list PySem.F.slot_list_extend PySem.F.type_list_extend mt_extend (pv 3) (pa_cons (pe_def D_block (hr.mono (by decide)) rfl (pa_cons (pe_op op_add (pv 4) pe_int) (pa_cons (pv 2) (pa_cons (pe_slice (slL K) (pv 1) (po_some (pe_op op_mul (pv 4) (pe_glob (v := .int 56) rfl m_DATA ⟨_, rfl⟩))) (po_some (pe_op op_mul (pe_op op_add (pv 4) pe_int) (pe_glob (v := .int 56) rfl m_DATA ⟨_, rfl⟩)))) pa_nil)))) pa_nil)))))
    (pss_one (ps_ret (pv 3)))))))), ?_⟩
  have big : ∀ {n : Nat}, n ≤ 900000 → n ≤ sizeLine := fun h => Nat.le_of_lt (sq_len (by omega))
  -- data = told + [1]
  refine ⟨.ref a, rfl, (by show 1 ≤ sizeLine; decide), fun o no => ?_⟩
  have s1 : Same H (upd H o (.lst [.int 1])) := Same.new no
  refine ⟨a, o, bv bs, [.int 1], rfl, rfl, s1 _ _ ha, upd_same, big (by rw [bv_len]; show bs.length + 1 ≤ 900000; omega), fun d nd => ?_⟩
  have s2 := s1.trans (Same.new (o := .lst (bv (bs ++ [1]))) nd)
  have e1 : bv bs ++ [V.int 1] = bv (bs ++ [1]) := (bv_app bs [1]).symm
  rw [e1]
  generalize hG : upd (upd H o (.lst [.int 1])) d (.lst (bv (bs ++ [1]))) = G at s2
  have ed : G d = some (.lst (bv (bs ++ [1]))) := by rw [← hG]; exact upd_same
  -- count = -(-len(data) // DATA)
  refine ⟨.ref d, rfl, d, _, rfl, .inl (SqL.of ed), _, rfl, _, _, rfl, rfl, ⟨by decide, by decide⟩, _, rfl, ?_⟩
  have ec : -(-(((bv (bs ++ [1])).length : Nat) : Int) / 56) = ((cntOf bs : Nat) : Int) := by
    rw [bv_len, List.length_append, List.length_singleton]
    unfold cntOf
    omega
  dsimp only
  rw [ec]
  have cp := cnt_pos bs
  have cl := cnt_le bs
  have cu : 56 * cntOf bs ≤ bs.length + 56 := by unfold cntOf; omega
  -- data = data + [0] * (count * DATA - len(data))
  refine ⟨.ref d, rfl, (by show 1 ≤ sizeLine; decide), fun z nz => ?_⟩
  have s3 := s2.trans (Same.new (o := .lst [.int 0]) nz)
  have ed3 : (upd G z (.lst [.int 0])) d = some (.lst (bv (bs ++ [1]))) := by
    rw [upd_ne (ne_of_none ed nz)]
    exact ed
  have ek : (cntOf bs : Int) * 56 - ((bv (bs ++ [1])).length : Int) = ((56 * cntOf bs - (bs.length + 1) : Nat) : Int) := by
    rw [bv_len, List.length_append, List.length_singleton]
    omega
  refine ⟨_, rfl, _, _, rfl, rfl, .inr ⟨by decide, by decide⟩, .ref d, rfl, d, _, rfl, .inl (SqL.of ed3), _, _, rfl, rfl, ?_⟩
  dsimp only
  rw [ek]
  refine ⟨z, _, [.int 0], rfl, rfl, upd_same, by omega, by omega, big (by rw [Int.toNat_natCast]; show 1 * _ ≤ 900000; omega), fun y ny => ?_⟩
  have er : (List.replicate ((56 * cntOf bs - (bs.length + 1) : Nat) : Int).toNat [V.int 0]).flatten = bv (List.replicate (56 * cntOf bs - (bs.length + 1)) 0) := by
    rw [Int.toNat_natCast]
    generalize 56 * cntOf bs - (bs.length + 1) = m
    unfold bv
    rw [List.map_replicate]
    induction m with
    | zero => rfl
    | succ m ih => rw [List.replicate_succ, List.flatten_cons, ih, List.replicate_succ]; rfl
  rw [er]
  generalize hG2 : upd (upd G z (.lst [.int 0])) y (.lst (bv (List.replicate (56 * cntOf bs - (bs.length + 1)) 0))) = G2
  have s4 : Same H G2 := by rw [← hG2]; exact s3.trans (Same.new ny)
  have ed4 : G2 d = some (.lst (bv (bs ++ [1]))) := by rw [← hG2, upd_ne (ne_of_none ed3 ny)]; exact ed3
  have ey : G2 y = some (.lst (bv (List.replicate (56 * cntOf bs - (bs.length + 1)) 0))) := by rw [← hG2]; exact upd_same
  refine ⟨d, y, _, _, rfl, rfl, ed4, ey, big (by rw [bv_len, bv_len, List.length_append, List.length_replicate, List.length_singleton]; omega), fun x nx => ?_⟩
  rw [← bv_app]
  generalize hG3 : upd G2 x (.lst (bv (bs ++ [1] ++ List.replicate (56 * cntOf bs - (bs.length + 1)) 0))) = G3
  have s5 : Same H G3 := by rw [← hG3]; exact s4.trans (Same.new nx)
  have ex : G3 x = some (.lst (bv (padded bs))) := by rw [← hG3]; exact upd_same
  -- found = []
  refine ⟨Nat.zero_le _, fun fo nfo => ?_⟩
  have nf0 : H fo = none := s5.free nfo
  have nxf : x ≠ fo := ne_of_none ex nfo
  -- for at in range(count)
  refine ⟨_, rfl, (cntOf bs : Int), rfl, by omega, by omega, for_range (lo := 0) (n := ((cntOf bs : Int)).toNat) (fun i σ H' => ∃ y4 : Option V, σ = [some (.ref a), some (.ref x), some (.int (cntOf bs)), some (.ref fo), y4] ∧ Same H H' ∧ H' x = some (.lst (bv (padded bs))) ∧
    H' fo = some (.lst (bv ((List.range i).flatMap fun k => blk (k + 1) (cntOf bs) (Crc.part bs k))))) ⟨_, rfl, same_mut s5 nf0, by rw [upd_ne nxf]; exact ex, upd_same⟩ ?_ ?_⟩
  · rintro i σ H' hi ⟨y4, rfl, sm, ex', ef⟩
    rw [Int.toNat_natCast] at hi
    have lf := flat_length (f := fun k => blk (k + 1) (cntOf bs) (Crc.part bs k)) i fun k hk => blk_length (part_length (by omega))
    refine ⟨.ref fo, rfl, .inl ⟨rfl, _, SqL.of ef⟩, _, rfl, _, _, rfl, rfl, _, rfl, .ref x, rfl, _, rfl, _, _, rfl, rfl, .inr ⟨by decide, by decide⟩, _, rfl, _, rfl, _, _, rfl, rfl, _, _, rfl, rfl, .inr ⟨by decide, by decide⟩, _, rfl, x, _, rfl, SqL.of ex', fun pt npt => ?_⟩
    have e0 : (0 : Int) + (i : Int) + 1 = ((i + 1 : Nat) : Int) := by omega
    have e2 : ((0 : Int) + (i : Int)) * 56 = ((56 * i : Nat) : Int) := by omega
    have e3 : ((0 : Int) + (i : Int) + 1) * 56 = ((56 * (i + 1) : Nat) : Int) := by omega
    have ecut : cutV (bv (padded bs)) (some (((0 : Int) + (i : Int)) * 56)) (some (((0 : Int) + (i : Int) + 1) * 56)) = bv (Crc.part bs i) := by
      rw [e2, e3, cut_mid, bv_drop, bv_take]
      unfold Crc.part
      rw [show 56 * (i + 1) - 56 * i = 56 by omega]
    refine ⟨pt, i + 1, cntOf bs, Crc.part bs i, (by show [V.int ((0 : Int) + (i : Int) + 1), V.int (cntOf bs), V.ref pt] ++ [] = _; rw [e0]; rfl), upd_same.trans (congrArg (fun l => some (HO.lst l)) ecut), by rw [part_length hi]; decide, fun b H2 s2' nb eb => ?_⟩
    have s6 : Same H' H2 := (Same.new npt).trans s2'
    refine ⟨fo, b, _, _, rfl, rfl, s6 _ _ ef, eb, big (by rw [bv_len, bv_len, lf, blk_length (part_length hi)]; omega), ?_⟩
    refine ⟨_, rfl, same_mut (sm.trans s6) nf0, ?_, ?_⟩
    · rw [upd_ne nxf]
      exact s6 _ _ ex'
    · rw [upd_same, ← bv_app, List.range_succ, List.flatMap_append]
      simp only [List.flatMap_cons, List.flatMap_nil, List.append_nil]
  · rintro σ H' ⟨y4, rfl, sm, ex', ef⟩
    rw [Int.toNat_natCast] at ef
    exact ⟨_, rfl, q fo H' sm nf0 ef⟩
theorem bv_at {l : List Nat} {i : Nat} (h : i < l.length) : atI (bv l) (i : Int) = some (.int (l.getD i 0 : Nat)) := by
  refine atI_nat (bv_get ?_)
  rw [List.getD_eq_getElem?_getD, List.getElem?_eq_getElem h]
  rfl
theorem inV_c (o : Option Nat) (m : Nat) : inV (cV o) [.non, .int (m : Int)] = decide (o = none ∨ o = some m) := by
  cases o with
  | none => exact (decide_eq_true (.inl rfl)).symm
  | some c =>
    show (eqV .non (.int c) || (eqV (.int m) (.int c) || false)) = _
    by_cases e : m = c
    · subst e
      rw [decide_eq_true (.inr rfl)]
      show (false || (((m : Int) == (m : Int)) || false)) = true
      rw [beq_self_eq_true]
      rfl
    · rw [decide_eq_false (fun z => by
        rcases z with z | z
        · cases z
        · exact e (Option.some.inj z).symm)]
      show (false || (((m : Int) == (c : Int)) || false)) = false
      rw [beq_eq_false_iff_ne.mpr (by omega)]
      rfl
theorem flat_c (o : Option Nat) : flatV (cV o) = true := by cases o <;> rfl
theorem ok_is_block (T : Top K mg "is_block" st_is_block ["told", "number", "count"]) (C : Consts mg) (D_sum_of_bits : Def P w K mg base 1 "sum_of_bits" ["told"] (spSum K)) (z_len : mg "len" = none) : Def P w K mg base 2 "is_block" ["told", "number", "count"] (spIsBlock K) := by
  obtain ⟨_, m_SIZE⟩ := C.SIZE
  refine T.ok sc_is_block (fun vs H Q E h => ?_) (fun f cdv A outer s H vs Q E hr h => ?_)
  · obtain ⟨a, l, n, o, rfl, _⟩ := h
    rfl
  obtain ⟨a, l, n, o, rfl, ha, q⟩ := h
  refine ⟨_, (pss_cons (ps_if (PW.pt (pw_or (pt_cmpR op_ne (pe_callB (lenQ K) rfl z_len (by decide +kernel) (pa_cons (pv 0) pa_nil)) (pe_glob (v := .int 64) rfl m_SIZE ⟨_, rfl⟩) (nomark _)) (pw_or1 (pt_cmpR (neQ K hr.units) (pe_slice (slL K) (pv 0) (po_some pe_int) po_none) (pe_def D_sum_of_bits (hr.mono (by decide)) rfl (pa_cons (pe_slice (slL K) (pv 0) po_none (po_some pe_int)) pa_nil)) (nomark _)))))
    (pss_one (ps_ret pe_bl))
    pss_nil)
    (pss_cons (ps_set (i := 3) sc_is_block.nd rfl (Or.inl rfl) (pe_op op_add (pe_op op_mul pe_int (pe_ix (ixL K) (pv 0) pe_int (fun _ _ => rfl))) (pe_ix (ixL K) (pv 0) pe_int (fun _ _ => rfl))))
    (pss_one (ps_ret (pe_and (pe_cmpR op_eq (pe_op op_add (pe_op op_mul pe_int (pe_ix (ixL K) (pv 0) pe_int (fun _ _ => rfl))) (pe_ix (ixL K) (pv 0) pe_int (fun _ _ => rfl))) (pv 1) (nomark _)) (pe_and (pe_cmpR op_ge (pv 3) (pv 1) (nomark _)) (pe_one (pe_cmpR (inQ K) (pv 2) (pe_tup (pa_cons pe_non (pa_cons (pv 3) pa_nil))) (by with_unfolding_all rfl))))))))), ?_⟩
  refine ⟨.ref a, rfl, a, _, rfl, .inl ha, rfl, _, rfl, ?_⟩
  by_cases l64 : ¬ l.length = 64
  · refine ifnND (fun z => l64 ?_) (iteT ?_)
    · have := V.int.inj z
      rw [bv_len] at this
      omega
    · rw [show false = decide (IsBlk l n o) from (decide_eq_false fun z => l64 z.1).symm]
      exact q _ (Same.refl _)
  have l64 : l.length = 64 := Decidable.of_not_not l64
  refine ifnD (by rw [bv_len, l64]; rfl) ?_
  refine ⟨.ref a, rfl, 60, rfl, a, _, rfl, ha, fun p np => ?_⟩
  have ep : cutV (bv l) (some 60) none = bv (l.drop 60) := (cut_ge _ 60).trans (bv_drop _ _)
  have eq : cutV (bv l) none (some 60) = bv (l.take 60) := (cut_lt _ 60).trans (bv_take _ _)
  rw [ep]
  refine ⟨.ref a, rfl, 60, rfl, a, _, rfl, (Same.new np).seq ha, fun p2 np2 => ?_⟩
  rw [eq]
  refine ⟨p2, l.take 60, rfl, SqL.of upd_same, fun r H2 s2 nr er => ?_⟩
  have s3 : Same H H2 := ((Same.new np).trans (Same.new np2)).trans s2
  have e1 : SqL K H2 p (bv (l.drop 60)) := s2.seq ((Same.new np2).seq (SqL.of upd_same))
  have a2 := s3.seq ha
  refine ⟨nd (l.drop 60), nd (sumOf (l.take 60)), dp_list e1, dp_list (SqL.of er), shaped_nums _, shaped_nums _, _, rfl, ?_⟩
  rw [eqv_nums]
  by_cases sm : ¬ l.drop 60 = sumOf (l.take 60)
  · refine ifnND sm ?_
    rw [show false = decide (IsBlk l n o) from (decide_eq_false fun z => sm z.2.1).symm]
    exact q _ s3
  have sm := Decidable.of_not_not sm
  refine ifnD sm ?_
  have at_ : ∀ i : Nat, i < 64 → atI (bv l) (i : Int) = some (.int (l.getD i 0 : Nat)) := fun i hi => bv_at (by omega)
  refine ⟨.ref a, rfl, a, _, _, _, rfl, rfl, a2, at_ 2 (by decide), _, _, rfl, rfl, .inl ⟨by decide, by decide⟩, .ref a, rfl, a, _, _, _, rfl, rfl, a2, at_ 3 (by decide), _, _, rfl, rfl, ?_⟩
  refine ⟨.ref a, rfl, a, _, _, _, rfl, rfl, a2, at_ 0 (by decide), _, _, rfl, rfl, .inl ⟨by decide, by decide⟩, .ref a, rfl, a, _, _, _, rfl, rfl, a2, at_ 1 (by decide), _, _, rfl, rfl, _, rfl, rfl, _, rfl, ?_⟩
  have c0 : (256 : Int) * (l.getD 2 0 : Nat) + (l.getD 3 0 : Nat) = ((Crc.cnt l : Nat) : Int) := by
    unfold Crc.cnt
    omega
  by_cases nm : ¬ 256 * l.getD 0 0 + l.getD 1 0 = n
  · refine ifND (fun z => nm ?_) ?_
    · have := V.int.inj z
      omega
    · rw [show false = decide (IsBlk l n o) from (decide_eq_false fun z => nm z.2.2.1).symm]
      exact q _ s3
  have nm := Decidable.of_not_not nm
  refine ifD (congrArg V.int (by omega)) ?_
  refine ⟨_, rfl, _, rfl, _, _, rfl, rfl, _, rfl, ?_⟩
  by_cases le : ¬ n ≤ Crc.cnt l
  · refine ifND (by omega) ?_
    rw [show false = decide (IsBlk l n o) from (decide_eq_false fun z => le z.2.2.2.1).symm]
    exact q _ s3
  have le := Decidable.of_not_not le
  refine ifD (by omega) ?_
  refine ⟨_, rfl, _, rfl, (by show 2 ≤ sizeLine; decide), fun t nt => ⟨t, _, rfl, .inr (SqT.of upd_same), flat_c o, rfl, ?_⟩⟩
  rw [if_neg Bool.false_ne_true]
  have ei : inV (cV o) [.non, .int ((256 : Int) * (l.getD 2 0 : Nat) + (l.getD 3 0 : Nat))] = decide (IsBlk l n o) := by
    rw [c0, inV_c]
    refine decide_eq_decide.mpr ⟨fun z => ⟨l64, sm, nm, le, z⟩, fun z => z.2.2.2.2⟩
  have z := q _ (s3.trans (Same.new (o := .tup [.non, .int ((256 : Int) * (l.getD 2 0 : Nat) + (l.getD 3 0 : Nat))]) nt))
  rw [← ei] at z
  exact z
theorem wend_snoc (l : List Nat) : wend (l ++ [0]) = wend l := by
  unfold wend
  rw [List.reverse_append]
  rfl
theorem wend_last {l : List Nat} {x : Nat} (h : x ≠ 0) : wend (l ++ [x]) = if x = 1 then some l else none := by
  unfold wend
  rw [List.reverse_append]
  show (match List.dropWhile (· == 0) (x :: l.reverse) with | 1 :: t => some t.reverse | _ => none) = _
  rw [List.dropWhile_cons, if_neg (by simpa using h)]
  by_cases e : x = 1
  · subst e
    rw [if_pos rfl]
    simp
  · rw [if_neg e]
    match x, e, h with
    | 0, _, h => exact absurd rfl h
    | 1, e, _ => exact absurd rfl e
    | x + 2, _, _ => rfl
def WendW (H : Hp) (a : Addr) (l : List Nat) (m : Nat) (σ : L2.St) (H' : Hp) : Prop := σ = [some (.ref a), some (.int ((m : Int) - 1))] ∧ H' = H ∧ m ≤ l.length ∧ wend l = wend (l.take m)
theorem ok_without_end (T : Top K mg "without_end" st_without_end ["data"]) (z_len : mg "len" = none) : Def P w K mg base 1 "without_end" ["data"] (spWend K) := by
  refine T.ok sc_without_end (fun vs H Q E h => ?_) (fun f cdv A outer s H vs Q E hr h => ?_)
  · obtain ⟨a, l, rfl, _⟩ := h
    rfl
  obtain ⟨a, l, rfl, ha, q⟩ := h
  refine ⟨_, (pss_cons (ps_set (i := 1) sc_without_end.nd rfl (Or.inl rfl) (pe_op op_sub (pe_callB (lenQ K) rfl z_len (by decide +kernel) (pa_cons (pv 0) pa_nil)) pe_int))
    (pss_cons (ps_while PassesOwn.never (PW.pt (pw_and (pt_cmpR op_ge (pv 1) pe_int (nomark _)) (pw_and1 (pt_cmpR op_eq (pe_ix (ixL K) (pv 0) (pv 1) (fun _ _ => rfl)) pe_int (nomark _)))))
    (pss_one (ps_set (i := 1) sc_without_end.nd rfl (Or.inl rfl) (pe_op op_sub (pv 1) pe_int))))
    (pss_one (ps_ret (pe_ifExp (PW.pt (pw_and (pt_cmpR op_ge (pv 1) pe_int (nomark _)) (pw_and1 (pt_cmpR op_eq (pe_ix (ixL K) (pv 0) (pv 1) (fun _ _ => rfl)) pe_int (nomark _))))) (pe_slice (slL K) (pv 0) po_none (po_some (pv 1))) pe_non))))), ?_⟩
  refine ⟨.ref a, rfl, a, _, rfl, .inl ha, _, _, rfl, rfl, ?_⟩
  refine ⟨WendW H a l, ⟨l.length, by rw [bv_len]; rfl, rfl, Nat.le_refl _, by rw [List.take_length]⟩, ?_⟩
  rintro m σ H' ⟨rfl, rfl, hm, ew⟩
  refine ⟨_, rfl, _, _, rfl, rfl, _, rfl, ?_⟩
  cases m with
  | zero =>
    refine ifND (by omega) (iteF ?_)
    refine ⟨_, rfl, _, _, rfl, rfl, _, rfl, ifND (by omega) (iteF ?_)⟩
    exact q .non _ (Same.refl _) (by rw [ew]; rfl)
  | succ k =>
    have lt : k < l.length := by omega
    have e1 : ((k + 1 : Nat) : Int) - 1 = (k : Int) := by omega
    have et : l.take (k + 1) = l.take k ++ [l.getD k 0] := by
      rw [List.take_succ_eq_append_getElem lt, List.getD_eq_getElem?_getD, List.getElem?_eq_getElem lt]
      rfl
    refine ifD (by omega) ⟨.ref a, rfl, _, rfl, a, _, _, _, rfl, rfl, ha, (by rw [e1]; exact bv_at lt), rfl, _, rfl, ?_⟩
    by_cases z : l.getD k 0 = 0
    · refine ifD (by rw [z]; rfl) ?_
      refine ⟨WendW H' a l k, fun σ' G w => ⟨k, by omega, w⟩, ?_⟩
      refine ⟨_, rfl, _, _, rfl, rfl, by rw [e1]; rfl, rfl, by omega, ?_⟩
      rw [ew, et, z, wend_snoc]
    · refine ifND (fun y => z (by have := V.int.inj y; omega)) ?_
      rw [et, wend_last z] at ew
      refine ⟨_, rfl, _, _, rfl, rfl, _, rfl, ifD (by omega) ⟨.ref a, rfl, _, rfl, a, _, _, _, rfl, rfl, ha, (by rw [e1]; exact bv_at lt), rfl, _, rfl, ?_⟩⟩
      by_cases one : l.getD k 0 = 1
      · refine ifD (by rw [one]; rfl) ?_
        refine ⟨.ref a, rfl, _, rfl, _, rfl, a, _, rfl, ha, fun p np => ?_⟩
        have ec : cutV (bv l) none (some (((k + 1 : Nat) : Int) - 1)) = bv (l.take k) := by
          rw [e1, cut_lt, bv_take]
        rw [if_pos one] at ew
        refine q (.ref p) _ (Same.new np) ?_
        rw [ew]
        exact ⟨p, rfl, np, by rw [upd_same, ec]⟩
      · refine ifND (fun y => one (by have := V.int.inj y; omega)) ?_
        rw [if_neg one] at ew
        exact q .non _ (Same.refl _) (by rw [ew]; rfl)
def DataW (H : Hp) (a : Addr) (q : Addr) (told : List Nat) (m : Nat) (σ : L2.St) (G : Hp) : Prop := ∃ (x4 x5 : Option V) (number : Nat) (o : Option Nat) (data : List Nat), σ = [some (.ref a), some (.ref q), some (cV o), some (.int (number : Int)), x4, x5] ∧ Same H G ∧ G q = some (.lst (bv data)) ∧ 64 * number ≤ told.length ∧ data.length = 56 * number ∧ m + number = told.length + 1 ∧ (o = none → number = 0) ∧ go told (m + 1) number o data = dataOf told
theorem wend_length {l ll : List Nat} (h : wend l = some ll) : ll.length < l.length := by
  unfold wend at h
  have le : (l.reverse.dropWhile (· == 0)).length ≤ l.length := by
    have := (List.dropWhile_sublist (l := l.reverse) (· == 0)).length_le
    rw [List.length_reverse] at this
    exact this
  split at h
  · rename_i t e
    rw [e] at le
    cases h
    rw [List.length_reverse]
    exact le
  · cases h
theorem count_test {x0 x1 x4 x5 : Option V} {o : Option Nat} {n : Nat} {G : Hp} {F : Bool → Hp → Prop} (h1 : (o = none ∨ n < o.getD 0) → F true G) (h2 : ¬ (o = none ∨ n < o.getD 0) → F false G) :
    tOr (tTest (tOp (fun x y H Q => y = V.non ∧ Q (V.bl (decide (x = V.non))) H) (tVar 2) (tC V.non))) (tTest (tOp (rI0 fun i j => V.bl (decide (i < j))) (tVar 3) (tVar 2))) [x0, x1, some (cV o), some (.int (n : Int)), x4, x5] G F := by
  refine ⟨cV o, rfl, rfl, _, rfl, ?_⟩
  cases o with
  | none => exact ifD rfl (h1 (.inl rfl))
  | some c =>
    refine ifND (fun z => by cases z) ⟨_, rfl, _, rfl, _, _, rfl, rfl, _, rfl, ?_⟩
    by_cases h : n < c
    · rw [decide_eq_true (show (n : Int) < (c : Int) by omega)]
      exact h1 (.inr h)
    · rw [decide_eq_false (show ¬ (n : Int) < (c : Int) by omega)]
      exact h2 fun z => z.elim (fun z => by cases z) h
theorem ok_data_of (T : Top K mg "data_of" st_data_of ["told"]) (C : Consts mg) (z_len : mg "len" = none) (D_is_block : Def P w K mg base 2 "is_block" ["told", "number", "count"] (spIsBlock K)) (D_without_end : Def P w K mg base 1 "without_end" ["data"] (spWend K)) : Def P w K mg base 3 "data_of" ["told"] (spDataOf K) := by
  have big : ∀ {n : Nat}, n ≤ 900000 → n ≤ sizeLine := fun h => Nat.le_trans h (by decide)
  obtain ⟨_, m_SIZE⟩ := C.SIZE
  obtain ⟨_, m_DATA⟩ := C.DATA
  refine T.ok sc_data_of (fun vs H Q E h => ?_) (fun f cdv A outer s H vs Q E hr h => ?_)
  · obtain ⟨a, l, rfl, _⟩ := h
    rfl
  obtain ⟨a, l, rfl, ha, hl, q⟩ := h
  refine ⟨_, (pss_cons (ps_set (i := 1) sc_data_of.nd rfl (Or.inl rfl) (pe_lst pa_nil))
    (pss_cons (ps_set (i := 2) sc_data_of.nd rfl (Or.inl rfl) pe_non)
    (pss_cons (ps_set (i := 3) sc_data_of.nd rfl (Or.inl rfl) pe_int)
    (pss_cons (ps_while PassesOwn.never (PW.pt (pw_or (pt_cmpR op_isN (pv 2) pe_non (nomark _)) (pw_or1 (pt_cmpR op_lt (pv 3) (pv 2) (nomark _)))))
    (pss_cons (ps_set (i := 4) sc_data_of.nd rfl (Or.inl rfl) (pe_slice (slL K) (pv 0) (po_some (pe_op op_mul (pe_glob (v := .int 64) rfl m_SIZE ⟨_, rfl⟩) (pv 3))) (po_some (pe_op op_mul (pe_glob (v := .int 64) rfl m_SIZE ⟨_, rfl⟩) (pe_op op_add (pv 3) pe_int)))))
      (pss_cons (ps_set (i := 3) sc_data_of.nd rfl (Or.inl rfl) (pe_op op_add (pv 3) pe_int))
      (pss_cons (ps_if (pt_not (pt_val (pe_def D_is_block (hr.mono (by decide)) rfl (pa_cons (pv 4) (pa_cons (pv 3) (pa_cons (pv 2) pa_nil))))))
      (pss_one (ps_ret (pe_tup (pa_cons pe_str (pa_cons (pv 3) pa_nil)))))
      pss_nil)
      (pss_cons (ps_set (i := 2) sc_data_of.nd rfl (Or.inl rfl) (pe_op op_add (pe_op op_mul pe_int (pe_ix (ixL K) (pv 4) pe_int (fun _ _ => rfl))) (pe_ix (ixL K) (pv 4) pe_int (fun _ _ => rfl))))
      (pss_one (ps_expr (pe_bm PySem.F.plainAttrs_list PySem.F.slot_list_extend PySem.F.type_list_extend mt_extend (pv 1) (pa_cons (pe_slice (slL K) (pv 4) (po_some pe_int) (po_some pe_int)) pa_nil)))))))))
    (pss_cons (ps_set (i := 5) sc_data_of.nd rfl (Or.inl rfl) (pe_def D_without_end (hr.mono (by decide)) rfl (pa_cons (pe_slice (slL K) (pv 1) (po_some (pe_un un_neg (pe_glob (v := .int 56) rfl m_DATA ⟨_, rfl⟩))) po_none) pa_nil)))
    (pss_cons (ps_if (pt_cmpR op_isN (pv 5) pe_non (nomark _))
    (pss_one (ps_ret (pe_tup (pa_cons pe_str (pa_cons (pv 3) pa_nil)))))
    pss_nil)
    (pss_cons (ps_if (pt_cmpR op_gt (pe_callB (lenQ K) rfl z_len (by decide +kernel) (pa_cons (pv 0) pa_nil)) (pe_op op_mul (pe_glob (v := .int 64) rfl m_SIZE ⟨_, rfl⟩) (pv 2)) (nomark _))
    (pss_one (ps_ret (pe_tup (pa_cons pe_str (pa_cons (pe_op op_add (pv 2) pe_int) pa_nil)))))
    pss_nil)
    (pss_one (ps_ret (pe_tup (pa_cons pe_str (pa_cons (pe_op op_cat (pe_slice (slL K) (pv 1) po_none (po_some (pe_un un_neg (pe_glob (v := .int 56) rfl m_DATA ⟨_, rfl⟩)))) (pv 5)) pa_nil)))))))))))), ?_⟩
  refine ⟨Nat.zero_le _, fun p np => ?_⟩
  refine ⟨DataW H a p l, ⟨l.length + 1, none, none, 0, none, [], rfl, Same.new np, upd_same, Nat.zero_le _, rfl, rfl, fun _ => rfl, rfl⟩, ?_⟩
  rintro m σ G ⟨x4, x5, number, o, data, rfl, sm, hp, hn, hd, hm, ho, hgo⟩
  have ha' := sm.seq ha
  refine count_test (fun c => iteT ?_) fun c => iteF ?_
  · refine ⟨fun σ' G' => DataW H a p l (m - 1) σ' G', fun σ' G' w => ⟨m - 1, by omega, w⟩, ?_⟩
    -- here
    refine ⟨.ref a, rfl, _, rfl, _, _, rfl, rfl, .inl ⟨by decide, by decide⟩, _, rfl, _, rfl, _, _, rfl, rfl, _, _, rfl, rfl, .inl ⟨by decide, by decide⟩, _, rfl, a, _, rfl, ha', fun h nh => ?_⟩
    have ecut : cutV (bv l) (some (64 * (number : Int))) (some (64 * ((number : Int) + 1))) = bv (chunk l number) := by
      rw [show (64 : Int) * (number : Int) = ((64 * number : Nat) : Int) by omega, show (64 : Int) * ((number : Int) + 1) = ((64 * number + 64 : Nat) : Int) by omega, cut_mid, bv_drop, bv_take]
      unfold chunk
      rw [show 64 * number + 64 - 64 * number = 64 by omega]
    dsimp only
    rw [ecut]
    generalize hG1 : upd G h (.lst (bv (chunk l number))) = G1
    have s1 : Same G G1 := by rw [← hG1]; exact Same.new nh
    have eh : G1 h = some (.lst (bv (chunk l number))) := by rw [← hG1]; exact upd_same
    have e1 : (number : Int) + 1 = ((number + 1 : Nat) : Int) := by omega
    refine ⟨_, rfl, _, _, rfl, rfl, ?_⟩
    refine ⟨_, rfl, _, rfl, _, rfl, h, chunk l number, number + 1, o, (by show [V.ref h, V.int ((number : Int) + 1), cV o] ++ [] = _; rw [e1]; rfl), SqL.of eh, fun G2 s2 => ?_⟩
    have s3 := (sm.trans s1).trans s2
    refine ⟨_, rfl, ?_⟩
    by_cases b : IsBlk (chunk l number) (number + 1) o
    · rw [decide_eq_true b]
      refine iteF ?_
      have l64 := b.1
      have at_ : ∀ i : Nat, i < 64 → atI (bv (chunk l number)) (i : Int) = some (.int ((chunk l number).getD i 0 : Nat)) := fun i hi => bv_at (by omega)
      have eh2 := s2 _ _ eh
      refine ⟨.ref h, rfl, h, _, _, _, rfl, rfl, SqL.of eh2, at_ 2 (by decide), _, _, rfl, rfl, .inl ⟨by decide, by decide⟩, .ref h, rfl, h, _, _, _, rfl, rfl, SqL.of eh2, at_ 3 (by decide), _, _, rfl, rfl, ?_⟩
      have c0 : (256 : Int) * ((chunk l number).getD 2 0 : Nat) + ((chunk l number).getD 3 0 : Nat) = ((Crc.cnt (chunk l number) : Nat) : Int) := by
        unfold Crc.cnt
        omega
      dsimp only
      rw [c0]
      have hp2 := s2 _ _ (s1 _ _ hp)
      refine ⟨.ref p, rfl, .inl ⟨rfl, _, SqL.of hp2⟩, .ref h, rfl, _, rfl, _, rfl, h, _, rfl, SqL.of eh2, fun z nz => ?_⟩
      have ec2 : cutV (bv (chunk l number)) (some 4) (some 60) = bv (((chunk l number).drop 4).take 56) := by
        rw [show (4 : Int) = ((4 : Nat) : Int) from rfl, show (60 : Int) = ((60 : Nat) : Int) from rfl, cut_mid, bv_drop, bv_take]
      rw [ec2]
      have npz : p ≠ z := ne_of_none hp2 nz
      have cl : (((chunk l number).drop 4).take 56).length = 56 := by
        rw [List.length_take, List.length_drop, l64]
        rfl
      refine ⟨p, z, _, _, rfl, rfl, by rw [upd_ne npz]; exact hp2, upd_same, big (by rw [bv_len, bv_len, cl]; omega), ?_⟩
      rw [← bv_app]
      have lc : 64 * (number + 1) ≤ l.length := by
        unfold chunk at l64
        rw [List.length_take, List.length_drop] at l64
        omega
      refine ⟨_, _, number + 1, some (Crc.cnt (chunk l number)), _, rfl, same_mut (s3.trans (Same.new nz)) np, upd_same, lc, by rw [List.length_append, cl, hd]; omega, by omega, fun z => (by cases z), ?_⟩
      obtain ⟨k, rfl⟩ : ∃ k, m = k + 1 := ⟨m - 1, by omega⟩
      rw [← hgo, go_more c b]
      rfl
    · rw [decide_eq_false b]
      refine iteT ?_
      refine ⟨_, rfl, (by show 2 ≤ sizeLine; decide), fun t nt => ?_⟩
      refine q (.ref t) _ (s3.trans (Same.new nt)) ?_
      rw [← hgo, go_bad c b]
      exact ⟨t, rfl, upd_same⟩
  · obtain ⟨cc, rfl⟩ : ∃ cc, o = some cc := by
      cases o with
      | none => exact absurd (.inl rfl) c
      | some cc => exact ⟨cc, rfl⟩
    have hgo : fin l number cc data = Crc.dataOf l := by rw [← hgo, go_end c]; rfl
    -- last
    refine ⟨.ref p, rfl, _, rfl, _, rfl, p, _, rfl, SqL.of hp, fun x nx => ?_⟩
    have ec : cutV (bv data) (some (-56)) none = bv (data.drop (data.length - 56)) := by
      rw [show (-56 : Int) = -((56 : Nat) : Int) from rfl, cut_back _ _ (by decide), bv_len, bv_drop]
    rw [ec]
    refine ⟨x, data.drop (data.length - 56), rfl, SqL.of upd_same, fun v G2 s2 hv => ?_⟩
    have s3 := (Same.new nx).trans s2
    have s4 := sm.trans s3
    unfold fin at hgo
    refine ⟨v, rfl, rfl, _, rfl, ?_⟩
    cases ew : wend (data.drop (data.length - 56)) with
    | none =>
      rw [ew] at hv hgo
      subst hv
      refine ifD rfl ?_
      refine ⟨_, rfl, (by show 2 ≤ sizeLine; decide), fun t nt => ?_⟩
      refine q (.ref t) _ (s4.trans (Same.new nt)) ?_
      rw [← hgo]
      exact ⟨t, rfl, upd_same⟩
    | some ll =>
      rw [ew] at hv hgo
      obtain ⟨r, rfl, nr, er⟩ := hv
      refine ifND (fun z => by cases z) ?_
      refine ⟨.ref a, rfl, a, _, rfl, .inl (s3.seq ha'), _, rfl, _, _, rfl, rfl, .inl ⟨by decide, by decide⟩, _, _, rfl, rfl, _, rfl, ?_⟩
      by_cases gt : l.length > 64 * cc
      · refine ifD (by rw [bv_len]; omega) ?_
        refine ⟨_, rfl, _, _, rfl, rfl, (by show 2 ≤ sizeLine; decide), fun t nt => ?_⟩
        refine q (.ref t) _ (s4.trans (Same.new nt)) ?_
        rw [← hgo]
        dsimp only
        rw [if_pos gt]
        exact ⟨t, rfl, upd_same⟩
      · refine ifND (by rw [bv_len]; omega) ?_
        have hp3 := s3 _ _ hp
        refine ⟨.ref p, rfl, _, rfl, _, rfl, p, _, rfl, SqL.of hp3, fun y ny => ?_⟩
        have ec2 : cutV (bv data) none (some (-56)) = bv (data.take (data.length - 56)) := by
          rw [show (-56 : Int) = -((56 : Nat) : Int) from rfl, cut_front _ _ (by decide), bv_len, bv_take]
        rw [ec2]
        refine ⟨.ref r, rfl, y, r, _, _, rfl, rfl, upd_same, by rw [upd_ne (ne_of_none er ny)]; exact er, big (by
          have := wend_length ew
          rw [List.length_drop] at this
          rw [bv_len, bv_len, List.length_take]
          omega), fun u nu => ?_⟩
        rw [← bv_app]
        have s5 := (s4.trans (Same.new ny)).trans (Same.new (o := .lst (bv (data.take (data.length - 56) ++ ll))) nu)
        refine ⟨by show 2 ≤ sizeLine; decide, fun t nt => ?_⟩
        refine q (.ref t) _ (s5.trans (Same.new nt)) ?_
        rw [← hgo]
        dsimp only
        rw [if_neg gt]
        exact ⟨t, u, rfl, upd_same, by rw [upd_ne (ne_of_none upd_same nt)]; exact upd_same⟩
end
end My
set_option Elab.async false
set_option linter.all false
set_option maxRecDepth 100000
set_option maxHeartbeats 4000000
/-! The laws' own helpers of bits and blocks -/
namespace My
open PySem PySem.Spec PyProof.Rows L2 Crc
abbrev st_law_sum : Stmt := topS 33
theorem sc_law_sum : FnScope ["told", "factors", "power", "bits", "at", "k"] ["told"] (defScope st_law_sum) := ⟨rfl, rfl, rfl, by decide +kernel, rfl, by decide +kernel, by decide +kernel⟩
abbrev st_law_bits : Stmt := topS 36
theorem sc_law_bits : FnScope ["told", "found", "byte", "rest", "row", "k"] ["told"] (defScope st_law_bits) := ⟨rfl, rfl, rfl, by decide +kernel, rfl, by decide +kernel, by decide +kernel⟩
abbrev st_law_bytes_of_bits : Stmt := topS 37
theorem sc_law_bytes_of_bits : FnScope ["bits", "found", "at", "number", "bit"] ["bits"] (defScope st_law_bytes_of_bits) := ⟨rfl, rfl, rfl, by decide +kernel, rfl, by decide +kernel, by decide +kernel⟩
abbrev st_law_blocks : Stmt := topS 38
theorem sc_law_blocks : FnScope ["told", "data", "count", "found", "k", "head"] ["told"] (defScope st_law_blocks) := ⟨rfl, rfl, rfl, by decide +kernel, rfl, by decide +kernel, by decide +kernel⟩
abbrev st_law_changed : Stmt := topS 40
theorem sc_law_changed : FnScope ["pool", "told", "first", "wide", "bits", "last", "at"] ["pool", "told", "first", "wide"] (defScope st_law_changed) := ⟨rfl, rfl, rfl, by decide +kernel, rfl, by decide +kernel, by decide +kernel⟩
def spBits (K : PySem.W.Frag) : Sp := fun vs H Q _ => ∃ (a : Addr) (bs : List Nat), vs = [.ref a] ∧ SqL K H a (bv bs) ∧ bs.length ≤ 100000 ∧ Made H (bbv (bitsOf bs)) Q
def spUnbits (K : PySem.W.Frag) : Sp := fun vs H Q _ => ∃ (a : Addr) (bits : List Bool), vs = [.ref a] ∧ SqL K H a (bbv bits) ∧ bits.length ≤ 900000 ∧ 8 ∣ bits.length ∧ Made H (bv (bytesOf bits)) Q
def spLSum (K : PySem.W.Frag) : Sp := fun vs H Q _ => ∃ (a : Addr) (bs : List Nat), vs = [.ref a] ∧ SqL K H a (bv bs) ∧ bs.length ≤ 1000 ∧ Made H (bv (sumOf bs)) Q
section
variable {P : Program} {w : World} {K : PySem.W.Frag} {mg : Str → Option Value} {base : Heap}
theorem ok_bits (T : Top K mg "_law_bits" st_law_bits ["told"]) (z_range : mg "range" = none) (z_int : mg "int" = none) : Def P w K mg base 1 "_law_bits" ["told"] (spBits K) := by
  refine T.ok sc_law_bits (fun vs H Q E h => ?_) (fun f cdv A outer s H vs Q E hr h => ?_)
  · obtain ⟨a, bs, rfl, _⟩ := h
    rfl
  obtain ⟨a, bs, rfl, ha, hl, q⟩ := h
  have big : ∀ {n : Nat}, n ≤ 900000 → n ≤ sizeLine := fun h => Nat.le_trans h (by decide)
  refine ⟨_, (pss_cons (ps_set (i := 1) sc_law_bits.nd rfl (Or.inl rfl) (pe_lst pa_nil))
    (pss_cons (ps_for PassesOwn.never rfl (pi_list (pv 0)) (pg_name (i := 2) sc_law_bits.nd rfl (Or.inl rfl))
    (pss_cons (ps_set (i := 3) sc_law_bits.nd rfl (Or.inl rfl) (pv 2))
      (pss_cons (ps_set (i := 4) sc_law_bits.nd rfl (Or.inl rfl) (pe_lst pa_nil))
      (pss_cons (ps_for PassesOwn.never rfl (pi_range1 rfl z_range (pa_cons pe_int pa_nil)) (pg_name (i := 5) sc_law_bits.nd rfl (Or.inl rfl))
      (pss_cons (ps_set (i := 4) sc_law_bits.nd rfl (Or.inl rfl) (pe_op op_cat (pe_lst (pa_cons (pe_op op_mod (pe_callTy call_int1 rfl z_int (by decide +kernel) (pa_cons (pv 3) pa_nil)) pe_int) pa_nil)) (pv 4)))
        (pss_one (ps_set (i := 3) sc_law_bits.nd rfl (Or.inl rfl) (pe_op op_fdiv (pv 3) pe_int)))))
      (pss_one (ps_set (i := 1) sc_law_bits.nd rfl (Or.inl rfl) (pe_op op_cat (pv 1) (pv 4))))))))
    (pss_one (ps_ret (pv 1))))), ?_⟩
  refine ⟨Nat.zero_le _, fun fo nfo => ?_⟩
  refine ⟨.ref a, rfl, a, rfl, ⟨_, (Same.new nfo).seq ha⟩, for_list (K := K) (a := a) (xs := bv bs) (fun i σ H' => ∃ (fo : Addr) (x2 x3 x4 x5 : Option V), σ = [some (.ref a), some (.ref fo), x2, x3, x4, x5] ∧ Same H H' ∧ H fo = none ∧ H' fo = some (.lst (bbv (bitsOf (bs.take i))))) ⟨fo, _, _, _, _, rfl, Same.new nfo, nfo, upd_same⟩ (fun _ _ _ _ ⟨_, _, _, _, _, _, s, _⟩ => s.seq ha) ?_ ?_⟩
  · rintro i x σ H' hx ⟨fo, x2, x3, x4, x5, rfl, sm, nf, ef⟩
    obtain ⟨b, hb, rfl⟩ := bv_of hx
    refine ⟨_, rfl, Nat.zero_le _, fun ro nro => ?_⟩
    have ifl : i < bs.length := (List.getElem?_eq_some_iff.mp hb).1
    refine ⟨8, rfl, by decide, by decide, for_range (lo := 0) (n := 8) (fun j σ G => ∃ (ro : Addr) (y5 : Option V), σ = [some (.ref a), some (.ref fo), some (.int b), some (.int ((b / 2 ^ j : Nat) : Int)), some (.ref ro), y5] ∧ Same H G ∧ H ro = none ∧ G fo = some (.lst (bbv (bitsOf (bs.take i)))) ∧ G ro = some (.lst (bbv ((byteBits b).drop (8 - j)))))
      ⟨ro, _, by rw [Nat.pow_zero, Nat.div_one]; rfl, sm.trans (Same.new nro), sm.free nro, by rw [upd_ne (ne_of_none ef nro)]; exact ef, by rw [upd_same, List.drop_eq_nil_of_le (by rw [byteBits_length]; exact Nat.le_refl _)]; rfl⟩ ?_ ?_⟩
    · rintro j σ G hj ⟨ro, y5, rfl, sg, nr, eg, er⟩
      refine ⟨_, rfl, .inl ⟨_, rfl, _, _, rfl, rfl, (by show (0 : Int) < 2; decide), (by show 1 ≤ sizeLine; decide), fun o no => ?_⟩⟩
      have nor := ne_of_none er no
      refine ⟨.ref ro, rfl, o, ro, _, _, rfl, rfl, upd_same, by rw [upd_ne nor]; exact er, big (by
        show 1 + (bbv _).length ≤ _
        rw [bbv_len, List.length_drop, byteBits_length]
        omega), fun p np => ?_⟩
      have e1 : [V.int (((b / 2 ^ j : Nat) : Int) % 2)] ++ bbv ((byteBits b).drop (8 - j)) = bbv ((byteBits b).drop (8 - (j + 1))) := by
        have lt : 8 - (j + 1) < (byteBits b).length := by rw [byteBits_length]; omega
        have g := byteBits_get b (8 - (j + 1)) (by omega)
        rw [List.getElem?_eq_getElem lt] at g
        rw [List.drop_eq_getElem_cons lt, Option.some.inj g, show 7 - (8 - (j + 1)) = j by omega, show 8 - (j + 1) + 1 = 8 - j by omega]
        show V.int _ :: _ = V.int (bitI (b.testBit j)) :: _
        congr 2
        rw [Nat.testBit_eq_decide_div_mod_eq]
        unfold bitI
        have lt2 : b / 2 ^ j % 2 < 2 := Nat.mod_lt _ (by decide)
        by_cases h : b / 2 ^ j % 2 = 1
        · rw [decide_eq_true h, if_pos rfl]
          omega
        · rw [decide_eq_false h, if_neg Bool.false_ne_true]
          omega
      rw [e1]
      refine ⟨_, rfl, _, _, rfl, rfl, ⟨by decide, by decide⟩, p, some (.int (0 + (j : Int))), ?_, sg.trans ((Same.new no).trans (Same.new np)), ?_, ?_, upd_same⟩
      · have e2 : ((b / 2 ^ j : Nat) : Int) / 2 = ((b / 2 ^ (j + 1) : Nat) : Int) := by
          rw [Nat.pow_succ, ← Nat.div_div_eq_div_mul]
          omega
        show [_, _, _, some (V.int (((b / 2 ^ j : Nat) : Int) / 2)), _, _] = _
        rw [e2]
      · exact (sg.trans (Same.new no)).free np
      · have e3 : (upd G o (.lst [.int (((b / 2 ^ j : Nat) : Int) % 2)])) fo = _ := (upd_ne (ne_of_none eg no)).trans eg
        exact (upd_ne (ne_of_none e3 np)).trans e3
    · rintro σ G ⟨ro, y5, rfl, sg, nr, eg, er⟩
      refine ⟨.ref fo, rfl, .ref ro, rfl, fo, ro, _, _, rfl, rfl, eg, er, big (by
        rw [bbv_len, bbv_len, bitsOf_length, List.length_drop, byteBits_length, List.length_take]
        omega), fun p np => ?_⟩
      refine ⟨p, _, _, _, _, rfl, sg.trans (Same.new np), sg.free np, ?_⟩
      rw [upd_same, ← bbv_app, List.take_add_one (l := bs), hb, bitsOf_append]
      show some (HO.lst (bbv (_ ++ List.drop 0 (byteBits b)))) = some (HO.lst (bbv (_ ++ (byteBits b ++ []))))
      rw [List.drop_zero, List.append_nil]
  · rintro σ H' ⟨fo, x2, x3, x4, x5, rfl, sm, nf, ef⟩
    refine ⟨_, rfl, q fo H' sm nf ?_⟩
    rw [ef, List.take_of_length_le (by rw [bv_len]; exact Nat.le_refl _)]
theorem small_up {a b c : Int} {n : Nat} (e : Builtin.Range.rangeSize a b c = (n : Int)) (hn : n < 2 ^ 62) (hc : 0 < c) (hc2 : c < 2 ^ 30) (ha : -(2 ^ 62) ≤ a) (ha' : a < 2 ^ 62) (hb : -(2 ^ 62) ≤ b) (hb' : b < 2 ^ 62) : Builtin.Range.small a b c = true := by
  unfold Builtin.Range.small
  rw [e]
  simp only [Builtin.Range.rangeFitsLong, Bool.and_eq_true, Bool.or_eq_true, decide_eq_true_eq, beq_iff_eq, hc, gt_iff_lt, if_true]
  omega
theorem rg8 {n : Nat} (h : n < 2 ^ 40) : RgC 0 ((8 * n : Nat) : Int) 8 n := by
  have e : Builtin.Range.rangeSize 0 ((8 * n : Nat) : Int) 8 = (n : Int) := by
    unfold Builtin.Range.rangeSize
    rw [if_pos (by decide)]
    split <;> omega
  exact ⟨by decide, by decide, small_up e (by omega) (by decide) (by decide) (by decide) (by decide) (by omega) (by omega), e⟩
theorem num_snoc (l : List Bool) (b : Bool) : (num (l ++ [b]) : Int) = 2 * (num l : Int) + bitI b := by
  unfold num
  rw [List.foldl_append]
  show ((2 * _ + (if b then 1 else 0) : Nat) : Int) = _
  unfold bitI
  cases b <;> simp
theorem ok_unbits (T : Top K mg "_law_bytes_of_bits" st_law_bytes_of_bits ["bits"]) (z_range : mg "range" = none) (z_len : mg "len" = none) : Def P w K mg base 1 "_law_bytes_of_bits" ["bits"] (spUnbits K) := by
  refine T.ok sc_law_bytes_of_bits (fun vs H Q E h => ?_) (fun f cdv A outer s H vs Q E hr h => ?_)
  · obtain ⟨a, bs, rfl, _⟩ := h
    rfl
  obtain ⟨a, bits, rfl, ha, hl, h8, q⟩ := h
  have big : ∀ {n : Nat}, n ≤ 900000 → n ≤ sizeLine := fun h => Nat.le_trans h (by decide)
  refine ⟨_, (pss_cons (ps_set (i := 1) sc_law_bytes_of_bits.nd rfl (Or.inl rfl) (pe_lst pa_nil))
    (pss_cons (ps_for PassesOwn.never rfl (pi_range3 rfl z_range (pa_cons pe_int (pa_cons (pe_callB (lenQ K) rfl z_len (by decide +kernel) (pa_cons (pv 0) pa_nil)) (pa_cons pe_int pa_nil)))) (pg_name (i := 2) sc_law_bytes_of_bits.nd rfl (Or.inl rfl))
    (pss_cons (ps_set (i := 3) sc_law_bytes_of_bits.nd rfl (Or.inl rfl) pe_int)
      (pss_cons (ps_for PassesOwn.never rfl (pi_list (pe_slice (slL K) (pv 0) (po_some (pv 2)) (po_some (pe_op op_add (pv 2) pe_int)))) (pg_name (i := 4) sc_law_bytes_of_bits.nd rfl (Or.inl rfl))
      (pss_one (ps_set (i := 3) sc_law_bytes_of_bits.nd rfl (Or.inl rfl) (pe_op op_add (pe_op op_mul pe_int (pv 3)) (pv 4)))))
      (pss_one (ps_expr (pe_bm PySem.F.plainAttrs_list PySem.F.slot_list_append PySem.F.type_list_append mt_append (pv 1) (pa_cons (pv 3) pa_nil)))))))
    (pss_one (ps_ret (pv 1))))), ?_⟩
  refine ⟨Nat.zero_le _, fun fo nfo => ?_⟩
  obtain ⟨n, hn⟩ := h8
  have e8 : bits.length / 8 = n := by omega
  have hlen : ((bbv bits).length : Int) = ((8 * n : Nat) : Int) := by rw [bbv_len, hn]
  refine ⟨.ref a, rfl, a, _, rfl, .inl ((Same.new nfo).seq ha), _, _, _, n, rfl, by rw [hlen]; exact rg8 (by omega), for_rangeC (lo := 0) (c := 8) (n := n) (fun i σ H' => ∃ x2 x3 x4 : Option V, σ = [some (.ref a), some (.ref fo), x2, x3, x4] ∧ Same H H' ∧ H' fo = some (.lst (bv ((List.range i).map fun k => num ((bits.drop (8 * k)).take 8))))) ⟨_, _, _, rfl, Same.new nfo, upd_same⟩ ?_ ?_⟩
  · rintro i σ H' hi ⟨x2, x3, x4, rfl, sm, ef⟩
    have ei : (0 : Int) + (i : Int) * 8 = ((8 * i : Nat) : Int) := by omega
    rw [ei]
    refine ⟨.ref a, rfl, _, rfl, _, rfl, _, rfl, _, _, rfl, rfl, _, rfl, a, _, rfl, sm.seq ha, fun t nt => ?_⟩
    have ec : cutV (bbv bits) (some ((8 * i : Nat) : Int)) (some (((8 * i : Nat) : Int) + 8)) = bbv ((bits.drop (8 * i)).take 8) := by
      rw [show ((8 * i : Nat) : Int) + 8 = ((8 * i + 8 : Nat) : Int) by omega, cut_mid, bbv_drop, bbv_take, Nat.add_sub_cancel_left]
    rw [ec]
    generalize hcc : (bits.drop (8 * i)).take 8 = cc
    have nt' := ne_of_none ef nt
    refine ⟨t, rfl, ⟨_, SqL.of upd_same⟩, for_list (K := K) (a := t) (xs := bbv cc) (fun j σ G => ∃ y4 : Option V, σ = [some (.ref a), some (.ref fo), some (.int ((8 * i : Nat) : Int)), some (.int ((num (cc.take j) : Nat) : Int)), y4] ∧ G = upd H' t (.lst (bbv cc))) ⟨_, rfl, rfl⟩ (fun _ _ _ _ ⟨_, _, e⟩ => by rw [e]; exact SqL.of upd_same) ?_ ?_⟩
    · rintro j x σ G hx ⟨y4, rfl, rfl⟩
      obtain ⟨b, hb, rfl⟩ := bbv_of hx
      refine ⟨_, rfl, _, _, rfl, rfl, .inl ⟨by decide, by decide⟩, _, rfl, _, _, rfl, rfl, some (.int (bitI b)), ?_, rfl⟩
      rw [List.take_add_one, hb]
      show _ = [_, _, _, some (V.int ((num (cc.take j ++ [b]) : Nat) : Int)), _]
      rw [num_snoc]
      rfl
    · rintro σ G ⟨y4, rfl, rfl⟩
      rw [show cc.take (bbv cc).length = cc from List.take_of_length_le (by rw [bbv_len]; exact Nat.le_refl _)]
      have ef' : (upd H' t (.lst (bbv cc))) fo = _ := (upd_ne nt').trans ef
      refine ⟨.ref fo, rfl, .inl ⟨rfl, _, SqL.of ef'⟩, _, rfl, fo, _, _, rfl, rfl, ef', ?_, ?_⟩
      · rw [bv_len, List.length_map, List.length_range]
        exact sq_len (by omega)
      · refine ⟨_, _, _, rfl, same_mut (sm.trans (Same.new nt)) nfo, ?_⟩
        rw [upd_same, List.range_succ, List.map_append, bv_app, List.map_singleton, hcc]
        rfl
  · rintro σ H' ⟨x2, x3, x4, rfl, sm, ef⟩
    refine ⟨_, rfl, q fo H' sm nfo ?_⟩
    rw [ef]
    unfold bytesOf
    rw [e8]
theorem bbv_set (l : List Bool) (j : Nat) (b : Bool) : (bbv l).set j (.int (bitI b)) = bbv (l.set j b) := List.map_set.symm
theorem ne_bit (m f : Bool) : V.int (if (!decide (V.int (bitI m) = V.int (bitI f))) = true then 1 else 0) = V.int (bitI (m != f)) := by
  cases m <;> cases f <;> decide
def facIn : List V := [.int 26, .int 23, .int 22, .int 16, .int 12, .int 11, .int 10, .int 8, .int 7, .int 5, .int 4, .int 2, .int 1, .int 0]
theorem fac_in : ∀ i, i < 32 → V.int (if inV (.int (31 + (i : Nat) * -1)) facIn = true then 1 else 0) = V.int (bitI (fac.getMsbD i)) := by decide +kernel
theorem ok_lsum (T : Top K mg "_law_sum" st_law_sum ["told"]) (D_law_bits : Def P w K mg base 1 "_law_bits" ["told"] (spBits K)) (D_law_bytes_of_bits : Def P w K mg base 1 "_law_bytes_of_bits" ["bits"] (spUnbits K)) (z_range : mg "range" = none) (z_len : mg "len" = none) (z_int : mg "int" = none) : Def P w K mg base 2 "_law_sum" ["told"] (spLSum K) := by
  refine T.ok sc_law_sum (fun vs H Q E h => ?_) (fun f cdv A outer s H vs Q E hr h => ?_)
  · obtain ⟨a, bs, rfl, _⟩ := h
    rfl
  obtain ⟨a, bs, rfl, ha, hl, q⟩ := h
  have big : ∀ {n : Nat}, n ≤ 900000 → n ≤ sizeLine := fun h => Nat.le_trans h (by decide)
  refine ⟨_, (pss_cons (ps_set (i := 1) sc_law_sum.nd rfl (Or.inl rfl) (pe_op op_cat (pe_lst (pa_cons pe_int pa_nil)) (pe_lc (own := [("power", 2)]) (g := gName 2) (tt := tYes) rfl sc_law_sum.nd (pi_range3 rfl z_range (pa_cons pe_int (pa_cons (pe_un un_neg pe_int) (pa_cons (pe_un un_neg pe_int) pa_nil)))) (blkOk_by (own := [("power", 2)]) (N := ["told", "factors", "power", "bits", "at", "k"]) (sc := defScope st_law_sum) (by decide +kernel)) (fun _ _ _ _ _ => (pg_name (i := 2) sc_law_sum.nd rfl (Or.inl rfl))) (fun _ _ _ _ _ => pts_nil) (fun _ _ _ _ _ => (pe_ifExp (pt_cmpR (inQ K) (pv 2) (pe_tup (pa_cons pe_int (pa_cons pe_int (pa_cons pe_int (pa_cons pe_int (pa_cons pe_int (pa_cons pe_int (pa_cons pe_int (pa_cons pe_int (pa_cons pe_int (pa_cons pe_int (pa_cons pe_int (pa_cons pe_int (pa_cons pe_int (pa_cons pe_int pa_nil))))))))))))))) (by with_unfolding_all rfl)) pe_int pe_int)))))
    (pss_cons (ps_set (i := 3) sc_law_sum.nd rfl (Or.inl rfl) (pe_op op_cat (pe_def D_law_bits (hr.mono (by decide)) rfl (pa_cons (pv 0) pa_nil)) (pe_op op_rep (pe_lst (pa_cons pe_int pa_nil)) pe_int)))
    (pss_cons (ps_for PassesOwn.never rfl (pi_range1 rfl z_range (pa_cons (pe_op op_sub (pe_callB (lenQ K) rfl z_len (by decide +kernel) (pa_cons (pv 3) pa_nil)) pe_int) pa_nil)) (pg_name (i := 4) sc_law_sum.nd rfl (Or.inl rfl))
    (pss_one (ps_if (pt_cmpR op_eq (pe_ix (ixL K) (pv 3) (pv 4) (fun _ _ => rfl)) pe_int (nomark _))
      (pss_one (ps_for PassesOwn.never rfl (pi_range1 rfl z_range (pa_cons pe_int pa_nil)) (pg_name (i := 5) sc_law_sum.nd rfl (Or.inl rfl))
        (pss_one (ps_asg (pe_callTy call_int1 rfl z_int (by decide +kernel) (pa_cons (pe_cmpR op_ne (pe_ix (ixL K) (pv 3) (pe_op op_add (pv 4) (pv 5)) (fun _ _ => rfl)) (pe_ix (ixL K) (pv 1) (pv 5) (fun _ _ => rfl)) (nomark _)) pa_nil)) (pg_sub (pv 3) (pe_op op_add (pv 4) (pv 5)) set_list)))))
      pss_nil)))
    (pss_one (ps_ret (pe_def D_law_bytes_of_bits (hr.mono (by decide)) rfl (pa_cons (pe_slice (slL K) (pv 3) (po_some (pe_un un_neg pe_int)) po_none) pa_nil))))))), ?_⟩
  have le8 := bitsOf_length bs
  refine ⟨by show 1 ≤ sizeLine; decide, fun o no => ?_⟩
  have s1 : Same H (upd H o (.lst [.int 1])) := Same.new no
  refine ⟨_, rfl, _, rfl, 31, -1, -1, 32, rfl, RgC.neg (by decide) (by decide) (by decide) (by decide), fun D nD => lc_rangeC (lo := 31) (c := -1) (n := 32) (fun i G => Same H G ∧ G o = some (.lst [.int 1]) ∧ G D = some (.lst (bbv ((regBits fac).take i)))) ⟨s1.trans (Same.new nD), by rw [upd_ne (ne_of_none upd_same nD)]; exact upd_same, upd_same⟩ ?_ ?_⟩
  · rintro i G hi ⟨sg, eo, ed⟩
    refine ⟨rfl, ?_⟩
    dsimp only [tYes]
    refine iteT ⟨_, rfl, (by show 14 ≤ sizeLine; decide), fun t nt => ⟨t, facIn, rfl, .inr (SqT.of upd_same), rfl, rfl, ?_⟩⟩
    have e := fac_in i hi
    have fin : ∀ y, y = V.int (bitI (fac.getMsbD i)) → ∃ acc, (upd G t (.tup facIn)) D = some (.lst acc) ∧ acc.length < sizeLine ∧ Same H (upd (upd G t (.tup facIn)) D (.lst (acc ++ [y]))) ∧ (upd (upd G t (.tup facIn)) D (.lst (acc ++ [y]))) o = some (.lst [.int 1]) ∧ (upd (upd G t (.tup facIn)) D (.lst (acc ++ [y]))) D = some (.lst (bbv ((regBits fac).take (i + 1)))) := by
      rintro y rfl
      refine ⟨_, (upd_ne (ne_of_none ed nt)).trans ed, by rw [bbv_len, List.length_take, regBits_length]; exact sq_len (by omega), same_mut (sg.trans (Same.new nt)) (s1.free nD), ?_, ?_⟩
      · have od : o ≠ D := ne_of_none upd_same nD
        rw [upd_ne od, upd_ne (ne_of_none eo nt)]
        exact eo
      · rw [upd_same, List.take_add_one, regBits_get fac i hi, bbv_app]
        rfl
    refine ⟨_, rfl, ite2 (fun c => fin _ ?_) (fun c => fin _ ?_)⟩
    · have c' : inV (.int (31 + (i : Nat) * -1)) facIn = true := c
      rw [if_pos c'] at e
      exact e
    · have c' : ¬ inV (.int (31 + (i : Nat) * -1)) facIn = true := c
      rw [if_neg c'] at e
      exact e
  · rintro G ⟨sg, eo, ed⟩
    have nD0 : H D = none := s1.free nD
    refine ⟨o, D, _, _, rfl, rfl, eo, ed, big (by rw [bbv_len]; decide), fun fa nfa => ?_⟩
    generalize hG1 : upd G fa (.lst ([.int 1] ++ bbv ((regBits fac).take 32))) = G1
    have efa : G1 fa = some (.lst (bbv facBits)) := by rw [← hG1]; exact upd_same
    have s2 : Same H G1 := by rw [← hG1]; exact sg.trans (Same.new nfa)
    have nfa0 : H fa = none := sg.free nfa
    refine ⟨.ref a, rfl, a, bs, rfl, s2.seq ha, by omega, fun b G2 s3 nb eb => ?_⟩
    have nb0 : H b = none := s2.free nb
    refine ⟨by show 1 ≤ sizeLine; decide, fun z nz => ?_⟩
    refine ⟨z, _, [.int 0], rfl, rfl, upd_same, by decide, by decide, by decide, fun y ny => ?_⟩
    have er : (List.replicate (32 : Int).toNat [V.int 0]).flatten = bbv (List.replicate 32 false) := by decide +kernel
    rw [er]
    have eb2 : (upd G2 z (.lst [.int 0])) b = _ := (upd_ne (ne_of_none eb nz)).trans eb
    have eb3 := (upd_ne (o := HO.lst (bbv (List.replicate 32 false))) (ne_of_none eb2 ny)).trans eb2
    refine ⟨b, y, _, _, rfl, rfl, eb3, upd_same, big (by rw [bbv_len, bbv_len, le8, List.length_replicate]; omega), fun x nx => ?_⟩
    rw [← bbv_app]
    have s4 := ((s2.trans s3).trans (Same.new (o := .lst [.int 0]) nz)).trans (Same.new (o := .lst (bbv (List.replicate 32 false))) ny)
    have efa4 := Same.new (o := .lst (bbv (List.replicate 32 false))) ny _ _ (Same.new (o := .lst [.int 0]) nz _ _ (s3 _ _ efa))
    generalize upd (upd G2 z (.lst [.int 0])) y (.lst (bbv (List.replicate 32 false))) = G4 at *
    have nx0 : H x = none := s4.free nx
    have s5 : Same H (upd G4 x (.lst (bbv (bitsOf bs ++ List.replicate 32 false)))) := s4.trans (Same.new nx)
    have nfx : fa ≠ x := ne_of_none efa4 nx
    have efa5 : (upd G4 x (.lst (bbv (bitsOf bs ++ List.replicate 32 false)))) fa = some (.lst (bbv facBits)) := (upd_ne nfx).trans efa4
    have ex5 : (upd G4 x (.lst (bbv (bitsOf bs ++ List.replicate 32 false)))) x = some (.lst (bbv (bitsOf bs ++ List.replicate 32 false))) := upd_same
    generalize upd G4 x (.lst (bbv (bitsOf bs ++ List.replicate 32 false))) = G5 at *
    -- for at in range(len(bits) - 32)
    refine ⟨.ref x, rfl, x, _, rfl, .inl (SqL.of ex5), _, _, rfl, rfl, ?_⟩
    have en : ((bbv (bitsOf bs ++ List.replicate 32 false)).length : Int) - 32 = ((bitsOf bs).length : Int) := by
      rw [bbv_len, List.length_append, List.length_replicate]
      omega
    refine ⟨((bitsOf bs).length : Int), (by show [V.int (((bbv (bitsOf bs ++ List.replicate 32 false)).length : Int) - 32)] = _; rw [en]), by omega, by omega, for_range (lo := 0) (n := (((bitsOf bs).length : Nat) : Int).toNat) (fun i σ G => ∃ (x2 x4 x5 : Option V) (l : List Bool), σ = [some (.ref a), some (.ref fa), x2, some (.ref x), x4, x5] ∧ Same H G ∧ G fa = some (.lst (bbv facBits)) ∧ Div (bitsOf bs) i l ∧ G x = some (.lst (bbv l)))
      ⟨_, _, _, _, rfl, s5, efa5, Div.start _, ex5⟩ ?_ ?_⟩
    · rintro i σ G hi ⟨x2, x4, x5, l, rfl, sg, eg, dv, ex⟩
      rw [Int.toNat_natCast] at hi
      have ll := dv.length (Nat.le_of_lt hi)
      obtain ⟨c, pre, M, lp, rfl, lM, at_, no_, yes_⟩ := dv.next hi
      have e0 : (0 : Int) + (i : Int) = (i : Int) := by omega
      refine ⟨.ref x, rfl, _, rfl, x, _, _, _, rfl, rfl, SqL.of ex, (by rw [e0]; exact atI_nat (bbv_get at_)), rfl, _, rfl, ?_⟩
      cases c with
      | false => exact ifND (by decide) ⟨_, _, _, _, rfl, sg, eg, no_ rfl, ex⟩
      | true =>
        refine ifD (by decide) ?_
        refine ⟨33, rfl, by decide, by decide, for_range (lo := 0) (n := 33) (fun k σ G' => ∃ y5 : Option V, σ = [some (.ref a), some (.ref fa), x2, some (.ref x), some (.int (0 + i)), y5] ∧ Same H G' ∧ G' fa = some (.lst (bbv facBits)) ∧ G' x = some (.lst (bbv (pre ++ xor32 (facBits.take k) M)))) ⟨_, rfl, sg, eg, ex⟩ ?_ ?_⟩
        · rintro k σ G' hk ⟨y5, rfl, sg', eg', ex'⟩
          obtain ⟨f1, hf1⟩ : ∃ f1, facBits[k]? = some f1 := ⟨_, List.getElem?_eq_getElem (show k < facBits.length from hk)⟩
          obtain ⟨m1, hm1⟩ : ∃ m1, M[k]? = some m1 := ⟨_, List.getElem?_eq_getElem (by omega)⟩
          obtain ⟨g1, g2⟩ := xor_set (pre := pre) hf1 hm1
          rw [lp] at g1 g2
          have ek : (0 : Int) + (i : Int) + (0 + (k : Int)) = ((i + k : Nat) : Int) := by omega
          have ek0 : (0 : Int) + (k : Int) = (k : Int) := by omega
          refine ⟨.ref x, rfl, _, rfl, _, rfl, _, _, rfl, rfl, x, _, _, _, rfl, rfl, SqL.of ex', (by rw [ek]; exact atI_nat (bbv_get g1)), .ref fa, rfl, _, rfl, fa, _, _, _, rfl, rfl, SqL.of eg', (by rw [ek0]; exact atI_nat (bbv_get hf1)), rfl, .inr ⟨_, rfl, ?_⟩⟩
          refine ⟨.ref x, rfl, _, rfl, _, rfl, _, _, rfl, rfl, x, _, _, i + k, rfl, rfl, ex', (by rw [ek]; exact Evl.ixN_nat (by rw [bbv_len]; exact (List.getElem?_eq_some_iff.mp g1).1)), ?_⟩
          rw [ne_bit, bbv_set, g2]
          exact ⟨_, rfl, same_mut sg' nx0, (upd_ne nfx).trans eg', upd_same⟩
        · rintro σ G' ⟨y5, rfl, sg', eg', ex'⟩
          exact ⟨_, _, _, _, rfl, sg', eg', yes_ rfl, ex'⟩
    · rintro σ G ⟨x2, x4, x5, l, rfl, sg, eg, dv, ex⟩
      rw [Int.toNat_natCast] at dv
      refine ⟨.ref x, rfl, _, rfl, _, rfl, x, _, rfl, SqL.of ex, fun u nu => ?_⟩
      have ec : cutV (bbv l) (some (-32)) none = bbv (regBits (crc (bitsOf bs))) := by
        rw [show (-32 : Int) = -((32 : Nat) : Int) from rfl, cut_back _ _ (by decide), bbv_len, bbv_drop, dv.stop]
      rw [ec]
      refine ⟨u, regBits (crc (bitsOf bs)), rfl, SqL.of upd_same, by rw [regBits_length]; decide, ⟨4, by rw [regBits_length]⟩, fun p G' s' np ep => ?_⟩
      rw [bytesOf_reg] at ep
      exact q p G' (sg.trans ((Same.new nu).trans s')) ((sg.trans (Same.new nu)).free np) ep
theorem ok_lblocks (T : Top K mg "_law_blocks" st_law_blocks ["told"]) (D_law_sum : Def P w K mg base 2 "_law_sum" ["told"] (spLSum K)) (z_range : mg "range" = none) (z_len : mg "len" = none) (z_int : mg "int" = none) : Def P w K mg base 3 "_law_blocks" ["told"] spBlocksOf := by
  refine T.ok sc_law_blocks (fun vs H Q E h => ?_) (fun f cdv A outer s H vs Q E hr h => ?_)
  · obtain ⟨a, bs, rfl, _⟩ := h
    rfl
  obtain ⟨a, bs, rfl, ha, hl, q⟩ := h
  have big : ∀ {n : Nat}, n ≤ 900000 → n ≤ sizeLine := fun h => Nat.le_trans h (by decide)
  refine ⟨_, (pss_cons (ps_set (i := 1) sc_law_blocks.nd rfl (Or.inl rfl) (pe_op op_cat (pv 0) (pe_lst (pa_cons pe_int pa_nil))))
    (pss_cons (ps_set (i := 2) sc_law_blocks.nd rfl (Or.inl rfl) (pe_op op_fdiv (pe_op op_add (pe_callB (lenQ K) rfl z_len (by decide +kernel) (pa_cons (pv 1) pa_nil)) pe_int) pe_int))
    (pss_cons (ps_set (i := 1) sc_law_blocks.nd rfl (Or.inl rfl) (pe_op op_cat (pv 1) (pe_op op_rep (pe_lst (pa_cons pe_int pa_nil)) (pe_op op_sub (pe_op op_mul pe_int (pv 2)) (pe_callB (lenQ K) rfl z_len (by decide +kernel) (pa_cons (pv 1) pa_nil))))))
    (pss_cons (ps_set (i := 3) sc_law_blocks.nd rfl (Or.inl rfl) (pe_lst pa_nil))
    (pss_cons (ps_for PassesOwn.never rfl (pi_range1 rfl z_range (pa_cons (pv 2) pa_nil)) (pg_name (i := 4) sc_law_blocks.nd rfl (Or.inl rfl))
    (pss_cons (ps_set (i := 5) sc_law_blocks.nd rfl (Or.inl rfl) (pe_op op_cat (pe_lst (pa_cons (pe_op op_fdiv (pe_op op_add (pv 4) pe_int) pe_int) (pa_cons (pe_op op_mod (pe_callTy call_int1 rfl z_int (by decide +kernel) (pa_cons (pe_op op_add (pv 4) pe_int) pa_nil)) pe_int) (pa_cons (pe_op op_fdiv (pv 2) pe_int) (pa_cons (pe_op op_mod (pe_callTy call_int1 rfl z_int (by decide +kernel) (pa_cons (pv 2) pa_nil)) pe_int) pa_nil))))) (pe_slice (slL K) (pv 1) (po_some (pe_op op_mul pe_int (pv 4))) (po_some (pe_op op_add (pe_op op_mul pe_int (pv 4)) pe_int)))))
      (pss_one (ps_set (i := 3) sc_law_blocks.nd rfl (Or.inl rfl) (pe_op op_cat (pe_op op_cat (pv 3) (pv 5)) (pe_def D_law_sum (hr.mono (by decide)) rfl (pa_cons (pv 5) pa_nil)))))))
    (pss_one (ps_ret (pv 3)))))))), ?_⟩
  -- data = told + [1]
  refine ⟨.ref a, rfl, (by show 1 ≤ sizeLine; decide), fun o no => ?_⟩
  have s1 : Same H (upd H o (.lst [.int 1])) := Same.new no
  refine ⟨a, o, bv bs, [.int 1], rfl, rfl, s1 _ _ ha, upd_same, big (by rw [bv_len]; show bs.length + 1 ≤ 900000; omega), fun d nd => ?_⟩
  have s2 := s1.trans (Same.new (o := .lst (bv (bs ++ [1]))) nd)
  have e1 : bv bs ++ [V.int 1] = bv (bs ++ [1]) := (bv_app bs [1]).symm
  rw [e1]
  generalize hG : upd (upd H o (.lst [.int 1])) d (.lst (bv (bs ++ [1]))) = G at s2
  have ed : G d = some (.lst (bv (bs ++ [1]))) := by rw [← hG]; exact upd_same
  -- count = (len(data) + 55) // 56
  have ec : (((bv (bs ++ [1])).length : Int) + 55) / 56 = ((cntOf bs : Nat) : Int) := by
    rw [bv_len, List.length_append, List.length_singleton]
    unfold cntOf
    omega
  refine ⟨.ref d, rfl, d, _, rfl, .inl (SqL.of ed), _, _, rfl, rfl, _, _, rfl, rfl, ⟨by decide, by decide⟩, ?_⟩
  have cp := cnt_pos bs
  have cl := cnt_le bs
  have cu : 56 * cntOf bs ≤ bs.length + 56 := by unfold cntOf; omega
  -- data = data + [0] * (56 * count - len(data))
  refine ⟨.ref d, rfl, (by show 1 ≤ sizeLine; decide), fun z nz => ?_⟩
  have s3 := s2.trans (Same.new (o := .lst [.int 0]) nz)
  have ed3 : (upd G z (.lst [.int 0])) d = some (.lst (bv (bs ++ [1]))) := (upd_ne (ne_of_none ed nz)).trans ed
  have ek : (56 : Int) * ((((bv (bs ++ [1])).length : Int) + 55) / 56) - ((bv (bs ++ [1])).length : Int) = ((56 * cntOf bs - (bs.length + 1) : Nat) : Int) := by
    rw [ec, bv_len, List.length_append, List.length_singleton]
    omega
  refine ⟨_, rfl, _, _, rfl, rfl, .inl ⟨by decide, by decide⟩, .ref d, rfl, d, _, rfl, .inl (SqL.of ed3), _, _, rfl, rfl, ?_⟩
  refine ⟨z, ((56 * cntOf bs - (bs.length + 1) : Nat) : Int), [.int 0], rfl, (by show V.int ((56 : Int) * ((((bv (bs ++ [1])).length : Int) + 55) / 56) - ((bv (bs ++ [1])).length : Int)) = _; rw [ek]), upd_same, by omega, by omega, big (by rw [Int.toNat_natCast]; show 1 * _ ≤ 900000; omega), fun y ny => ?_⟩
  have er : (List.replicate ((56 * cntOf bs - (bs.length + 1) : Nat) : Int).toNat [V.int 0]).flatten = bv (List.replicate (56 * cntOf bs - (bs.length + 1)) 0) := by
    rw [Int.toNat_natCast]
    generalize 56 * cntOf bs - (bs.length + 1) = m
    unfold bv
    rw [List.map_replicate]
    induction m with
    | zero => rfl
    | succ m ih => rw [List.replicate_succ, List.flatten_cons, ih, List.replicate_succ]; rfl
  rw [er]
  generalize hG2 : upd (upd G z (.lst [.int 0])) y (.lst (bv (List.replicate (56 * cntOf bs - (bs.length + 1)) 0))) = G2
  have s4 : Same H G2 := by rw [← hG2]; exact s3.trans (Same.new ny)
  have ed4 : G2 d = some (.lst (bv (bs ++ [1]))) := by rw [← hG2, upd_ne (ne_of_none ed3 ny)]; exact ed3
  have ey : G2 y = some (.lst (bv (List.replicate (56 * cntOf bs - (bs.length + 1)) 0))) := by rw [← hG2]; exact upd_same
  refine ⟨d, y, _, _, rfl, rfl, ed4, ey, big (by rw [bv_len, bv_len, List.length_append, List.length_replicate, List.length_singleton]; omega), fun x nx => ?_⟩
  rw [← bv_app]
  generalize hG3 : upd G2 x (.lst (bv (bs ++ [1] ++ List.replicate (56 * cntOf bs - (bs.length + 1)) 0))) = G3
  have s5 : Same H G3 := by rw [← hG3]; exact s4.trans (Same.new nx)
  have ex : G3 x = some (.lst (bv (padded bs))) := by rw [← hG3]; exact upd_same
  -- found = []
  refine ⟨Nat.zero_le _, fun fo nfo => ?_⟩
  have nf0 : H fo = none := s5.free nfo
  have nxf : x ≠ fo := ne_of_none ex nfo
  -- for k in range(count)
  refine ⟨_, rfl, (cntOf bs : Int), (by show [V.int ((((bv (bs ++ [1])).length : Int) + 55) / 56)] = _; rw [ec]), by omega, by omega, for_range (lo := 0) (n := ((cntOf bs : Int)).toNat) (fun i σ H' => ∃ (fo : Addr) (y4 y5 : Option V), σ = [some (.ref a), some (.ref x), some (.int (cntOf bs)), some (.ref fo), y4, y5] ∧ Same H H' ∧ H fo = none ∧ H' x = some (.lst (bv (padded bs))) ∧
    H' fo = some (.lst (bv ((List.range i).flatMap fun k => blk (k + 1) (cntOf bs) (Crc.part bs k))))) ⟨fo, _, _, by rw [← ec]; rfl, s5.trans (Same.new nfo), nf0, by rw [upd_ne nxf]; exact ex, upd_same⟩ ?_ ?_⟩
  · rintro i σ H' hi ⟨fo, y4, y5, rfl, sm, nf, ex', ef⟩
    rw [Int.toNat_natCast] at hi
    have lf := flat_length (f := fun k => blk (k + 1) (cntOf bs) (Crc.part bs k)) i fun k hk => blk_length (part_length (by omega))
    have e0 : (0 : Int) + (i : Int) = (i : Int) := by omega
    rw [e0]
    refine ⟨_, rfl, _, _, rfl, rfl, _, _, rfl, rfl, ⟨by decide, by decide⟩, _, rfl, _, _, rfl, rfl, .inl ⟨_, rfl, _, _, rfl, rfl, (by show (0 : Int) < 256; decide), ?_⟩⟩
    refine ⟨_, rfl, _, _, rfl, rfl, ⟨by decide, by decide⟩, _, rfl, .inl ⟨_, rfl, _, _, rfl, rfl, (by show (0 : Int) < 256; decide), (by show 4 ≤ sizeLine; decide), fun h4 nh4 => ?_⟩⟩
    have ecut : cutV (bv (padded bs)) (some (56 * (i : Int))) (some (56 * (i : Int) + 56)) = bv (Crc.part bs i) := by
      rw [show (56 : Int) * (i : Int) = ((56 * i : Nat) : Int) by omega, show ((56 * i : Nat) : Int) + 56 = ((56 * i + 56 : Nat) : Int) by omega, cut_mid, bv_drop, bv_take]
      unfold Crc.part
      rw [show 56 * i + 56 - 56 * i = 56 by omega]
    have ex4 := (upd_ne (o := HO.lst [.int (((i : Int) + 1) / 256), .int (((i : Int) + 1) % 256), .int ((cntOf bs : Int) / 256), .int ((cntOf bs : Int) % 256)]) (ne_of_none ex' nh4)).trans ex'
    refine ⟨.ref x, rfl, _, rfl, _, _, rfl, rfl, .inl ⟨by decide, by decide⟩, _, rfl, _, rfl, _, _, rfl, rfl, .inl ⟨by decide, by decide⟩, _, _, rfl, rfl, _, rfl, x, _, rfl, SqL.of ex4, fun pt npt => ?_⟩
    have eh4 := (upd_ne (H := upd H' h4 (.lst [.int (((i : Int) + 1) / 256), .int (((i : Int) + 1) % 256), .int ((cntOf bs : Int) / 256), .int ((cntOf bs : Int) % 256)])) (o := HO.lst (cutV (bv (padded bs)) (some (56 * (i : Int))) (some (56 * (i : Int) + 56)))) (ne_of_none upd_same npt)).trans upd_same
    refine ⟨h4, pt, _, _, rfl, rfl, eh4, upd_same, big (by
      rw [ecut, bv_len, part_length hi]
      show 4 + 56 ≤ _
      decide), fun hp nhp => ?_⟩
    have eh : [V.int (((i : Int) + 1) / 256), V.int (((i : Int) + 1) % 256), V.int ((cntOf bs : Int) / 256), V.int ((cntOf bs : Int) % 256)] ++ cutV (bv (padded bs)) (some (56 * (i : Int))) (some (56 * (i : Int) + 56)) = bv ([(i + 1) / 256, (i + 1) % 256, cntOf bs / 256, cntOf bs % 256] ++ Crc.part bs i) := by
      rw [ecut, bv_app]
      rfl
    rw [eh]
    have lh : ([(i + 1) / 256, (i + 1) % 256, cntOf bs / 256, cntOf bs % 256] ++ Crc.part bs i).length = 60 := by
      rw [List.length_append, part_length hi]
      rfl
    have s6 := (Same.new (o := HO.lst [.int (((i : Int) + 1) / 256), .int (((i : Int) + 1) % 256), .int ((cntOf bs : Int) / 256), .int ((cntOf bs : Int) % 256)]) nh4).trans (Same.new (o := HO.lst (cutV (bv (padded bs)) (some (56 * (i : Int))) (some (56 * (i : Int) + 56)))) npt)
    generalize upd (upd H' h4 (.lst [.int (((i : Int) + 1) / 256), .int (((i : Int) + 1) % 256), .int ((cntOf bs : Int) / 256), .int ((cntOf bs : Int) % 256)])) pt (.lst (cutV (bv (padded bs)) (some (56 * (i : Int))) (some (56 * (i : Int) + 56)))) = H6 at *
    generalize hhd : [(i + 1) / 256, (i + 1) % 256, cntOf bs / 256, cntOf bs % 256] ++ Crc.part bs i = hd at *
    have s7 := s6.trans (Same.new (o := HO.lst (bv hd)) nhp)
    refine ⟨.ref fo, rfl, .ref hp, rfl, fo, hp, _, _, rfl, rfl, s7 _ _ ef, upd_same, big (by rw [bv_len, bv_len, lf, lh]; omega), fun u nu => ?_⟩
    rw [← bv_app]
    have ehp : (upd H6 hp (.lst (bv hd))) hp = some (.lst (bv hd)) := upd_same
    have s8 := s7.trans (Same.new (o := HO.lst (bv (((List.range i).flatMap fun k => blk (k + 1) (cntOf bs) (Crc.part bs k)) ++ hd))) nu)
    have ehp8 := (upd_ne (o := HO.lst (bv (((List.range i).flatMap fun k => blk (k + 1) (cntOf bs) (Crc.part bs k)) ++ hd))) (ne_of_none ehp nu)).trans ehp
    refine ⟨.ref hp, rfl, hp, hd, rfl, SqL.of ehp8, by rw [lh]; decide, fun v G2 sv nv ev => ?_⟩
    have eu : G2 u = _ := sv _ _ upd_same
    refine ⟨u, v, _, _, rfl, rfl, eu, ev, big (by rw [bv_len, bv_len, List.length_append, lf, lh]; show _ + 4 ≤ _; omega), fun y ny => ?_⟩
    rw [← bv_app]
    have s9 := (s8.trans sv).trans (Same.new (o := HO.lst (bv (((List.range i).flatMap fun k => blk (k + 1) (cntOf bs) (Crc.part bs k)) ++ hd ++ sumOf hd))) ny)
    refine ⟨y, _, _, rfl, sm.trans s9, sm.free ((s8.trans sv).free ny), s9 _ _ ex', ?_⟩
    rw [upd_same, List.range_succ, List.flatMap_append]
    simp only [List.flatMap_cons, List.flatMap_nil, List.append_nil]
    rw [List.append_assoc, ← hhd]
    rfl
  · rintro σ H' ⟨fo, y4, y5, rfl, sm, nf, ex', ef⟩
    rw [Int.toNat_natCast] at ef
    exact ⟨_, rfl, q fo H' sm nf ef⟩
end
end My
set_option Elab.async false
set_option linter.all false
set_option maxRecDepth 100000
set_option maxHeartbeats 4000000
/-! Bits changed -/
namespace My
open PySem PySem.Spec PyProof.Rows L2 Crc
def spChanged (K : PySem.W.Frag) : Sp := fun vs H Q _ => ∃ (p a t : Addr) (x : List Nat) (first wide : Nat), vs = [.ref p, .ref t, .int (first : Int), .int (wide : Int)] ∧ PoolAt K H p a ∧ t ≠ p ∧ H t = some (.lst (bv x)) ∧ x.length ≤ 100000 ∧ first < 8 * x.length ∧ 1 ≤ wide ∧
  ∀ (v : Addr) (y : List Nat) (H' : Hp), But p H H' → PoolAt K H' p a → H v = none → H' v = some (.lst (bv y)) → y.length = x.length → Bytes y → Agree (bitsOf x) (bitsOf y) first wide → (bitsOf y)[first]? ≠ (bitsOf x)[first]? → Q (.ref v) H'
def ChW (K : PySem.W.Frag) (H : Hp) (p a t b : Addr) (x : List Nat) (first wide L : Nat) (i : Nat) (σ : L2.St) (G : Hp) : Prop := ∃ (y6 : Option V) (l : List Bool), σ = [some (.ref p), some (.ref t), some (.int (first : Int)), some (.int (wide : Int)), some (.ref b), some (.int (L : Int)), y6] ∧
  But p H G ∧ PoolAt K G p a ∧ G b = some (.lst (bbv l)) ∧ l.length = 8 * x.length ∧ (∀ j, (j < first ∨ first + i ≤ j) → l[j]? = (bitsOf x)[j]?) ∧ (0 < i → l[first]? ≠ (bitsOf x)[first]?)
section
variable {P : Program} {w : World} {K : PySem.W.Frag} {mg : Str → Option Value} {base : Heap}
theorem ok_changed (T : Top K mg "_law_changed" st_law_changed ["pool", "told", "first", "wide"]) (D_law_bits : Def P w K mg base 1 "_law_bits" ["told"] (spBits K)) (D_law_bytes_of_bits : Def P w K mg base 1 "_law_bytes_of_bits" ["bits"] (spUnbits K)) (D_law_next : Def P w K mg base 3 "_law_next" ["pool"] (spNext K)) (D_law_draw : Def P w K mg base 3 "_law_draw" ["pool", "limit"] (spDraw K))
    (z_range : mg "range" = none) (z_len : mg "len" = none) (z_int : mg "int" = none) (z_min : mg "min" = none) : Def P w K mg base 4 "_law_changed" ["pool", "told", "first", "wide"] (spChanged K) := by
  refine T.ok sc_law_changed (fun vs H Q E h => ?_) (fun f cdv A outer s H vs Q E hr h => ?_)
  · obtain ⟨p, a, t, x, first, wide, rfl, _⟩ := h
    rfl
  obtain ⟨p, a, t, x, first, wide, rfl, hP, ntp, ht, hl, hf, hw, q⟩ := h
  have big : ∀ {n : Nat}, n ≤ 900000 → n ≤ sizeLine := fun h => Nat.le_trans h (by decide)
  refine ⟨_, (pss_cons (ps_set (i := 4) sc_law_changed.nd rfl (Or.inl rfl) (pe_def D_law_bits (hr.mono (by decide)) rfl (pa_cons (pv 1) pa_nil)))
    (pss_cons (ps_set (i := 5) sc_law_changed.nd rfl (Or.inl rfl) (pe_op op_sub (pe_callB (call_min2 rfl) rfl z_min (by decide +kernel) (pa_cons (pe_op op_add (pv 2) (pv 3)) (pa_cons (pe_callB (lenQ K) rfl z_len (by decide +kernel) (pa_cons (pv 4) pa_nil)) pa_nil))) pe_int))
    (pss_cons (ps_for PassesOwn.never rfl (pi_range2 rfl z_range (pa_cons (pv 2) (pa_cons (pe_op op_add (pv 5) pe_int) pa_nil))) (pg_name (i := 6) sc_law_changed.nd rfl (Or.inl rfl))
    (Evl.pss_cut (ps_if (pt_cmpR op_eq (pe_op op_mod (pe_callTy call_int1 rfl z_int (by decide +kernel) (pa_cons (pv 6) pa_nil)) pe_int) pe_int (nomark _))
      (pss_one (ps_expr (pe_def D_law_next (hr.mono (by decide)) rfl (pa_cons (pv 0) pa_nil))))
      pss_nil)
      (pss_one (ps_if (PW.pt (pw_or (pt_cmpR (inQ K) (pv 6) (pe_tup (pa_cons (pv 2) (pa_cons (pv 5) pa_nil))) (by with_unfolding_all rfl)) (pw_or1 (pt_cmpR op_eq (pe_def D_law_draw (hr.mono (by decide)) rfl (pa_cons (pv 0) (pa_cons pe_int pa_nil))) pe_int (nomark _)))))
      (pss_one (ps_asg (pe_op op_sub pe_int (pe_ix (ixL K) (pv 4) (pv 6) (fun _ _ => rfl))) (pg_sub (pv 4) (pv 6) set_list)))
      pss_nil))))
    (pss_one (ps_ret (pe_def D_law_bytes_of_bits (hr.mono (by decide)) rfl (pa_cons (pv 4) pa_nil))))))), ?_⟩
  have le8 := bitsOf_length x
  refine ⟨.ref t, rfl, t, x, rfl, SqL.of ht, hl, fun b G1 s1 nb eb => ?_⟩
  have P1 := hP.same s1
  have nbp := hP.ne nb
  obtain ⟨L, hL⟩ : ∃ L : Nat, L + 1 = min (first + wide) (8 * x.length) := ⟨min (first + wide) (8 * x.length) - 1, by omega⟩
  have eL : (if ((bbv (bitsOf x)).length : Int) < (first : Int) + (wide : Int) then ((bbv (bitsOf x)).length : Int) else (first : Int) + (wide : Int)) - 1 = (L : Int) := by
    rw [bbv_len, le8]
    split <;> omega
  refine ⟨_, rfl, _, rfl, _, _, rfl, rfl, .ref b, rfl, b, _, rfl, .inl (SqL.of eb), _, _, rfl, _, _, rfl, rfl, ?_⟩
  refine ⟨_, rfl, _, rfl, _, _, rfl, rfl, (first : Int), (L : Int) + 1, (by
    show [V.int (first : Int), V.int ((if ((bbv (bitsOf x)).length : Int) < (first : Int) + (wide : Int) then ((bbv (bitsOf x)).length : Int) else (first : Int) + (wide : Int)) - 1 + 1)] = _
    rw [eL]), ⟨by omega, by omega, by omega, by omega⟩, for_range (lo := (first : Int)) (n := ((L : Int) + 1 - (first : Int)).toNat) (ChW K H p a t b x first wide L) ⟨_, bitsOf x, (by rw [← eL]; rfl), Same.but s1, P1, eb, le8, fun _ _ => rfl, fun z => absurd z (Nat.lt_irrefl 0)⟩ ?_ ?_⟩
  · rintro i σ G hi ⟨y6, l, rfl, bt, PG, el, ll, alike, ch⟩
    have at_ : (first : Int) + (i : Int) = ((first + i : Nat) : Int) := by omega
    rw [at_]
    have lt : first + i < l.length := by omega
    refine ⟨fun σ' G' => σ' = [some (.ref p), some (.ref t), some (.int (first : Int)), some (.int (wide : Int)), some (.ref b), some (.int (L : Int)), some (.int ((first + i : Nat) : Int))] ∧ But p H G' ∧ PoolAt K G' p a ∧ G' b = some (.lst (bbv l)), ?_, ?_⟩
    · refine ⟨_, rfl, .inl ⟨_, rfl, _, _, rfl, rfl, (by show (0 : Int) < 12; decide), rfl, _, rfl, ite2 (fun _ => ?_) (fun _ => ?_)⟩⟩
      · refine ⟨.ref p, rfl, p, a, rfl, PG, fun G2 o2 P2 => ⟨rfl, bt.trans o2.but, P2, o2.get nbp el⟩⟩
      · exact ⟨rfl, bt, PG, el⟩
    rintro σ' G2 ⟨rfl, bt2, P2, el2⟩
    obtain ⟨c, hc⟩ : ∃ c, l[first + i]? = some c := ⟨_, List.getElem?_eq_getElem lt⟩
    have ixn : ixN (bbv l).length ((first + i : Nat) : Int) = some (first + i) := Evl.ixN_nat (by rw [bbv_len]; exact lt)
    have flip : ∀ G3 : Hp, But p H G3 → PoolAt K G3 p a → G3 b = some (.lst (bbv l)) → ChW K H p a t b x first wide L (i + 1) [some (.ref p), some (.ref t), some (.int (first : Int)), some (.int (wide : Int)), some (.ref b), some (.int (L : Int)), some (.int ((first + i : Nat) : Int))] (upd G3 b (.lst ((bbv l).set (first + i) (.int (1 - bitI c))))) := by
      intro G3 b3 P3 e3
      have ev : V.int (1 - bitI c) = V.int (bitI (!c)) := by cases c <;> rfl
      refine ⟨_, l.set (first + i) (!c), rfl, b3.mut nb, P3.put nbp e3, by rw [upd_same, ev, bbv_set], by rw [List.length_set]; exact ll, fun j hj => ?_, fun _ => ?_⟩
      · rw [List.getElem?_set_ne (by omega)]
        exact alike j (by omega)
      · by_cases z : i = 0
        · subst z
          rw [Nat.add_zero, List.getElem?_set_self (by omega), ← alike first (by omega), show l[first]? = some c by rw [← hc, Nat.add_zero]]
          cases c <;> decide
        · rw [List.getElem?_set_ne (by omega)]
          exact ch (by omega)
    have stay : i ≠ 0 → ∀ G3 : Hp, But p H G3 → PoolAt K G3 p a → G3 b = some (.lst (bbv l)) → ChW K H p a t b x first wide L (i + 1) [some (.ref p), some (.ref t), some (.int (first : Int)), some (.int (wide : Int)), some (.ref b), some (.int (L : Int)), some (.int ((first + i : Nat) : Int))] G3 := by
      intro z G3 b3 P3 e3
      exact ⟨_, l, rfl, b3, P3, e3, ll, fun j hj => alike j (by omega), fun _ => ch (by omega)⟩
    refine ⟨_, rfl, _, rfl, _, rfl, (by show 2 ≤ sizeLine; decide), fun tt ntt => ⟨tt, _, rfl, .inr (SqT.of upd_same), rfl, rfl, _, rfl, ite2 (fun _ => ?_) (fun c0 => ?_)⟩⟩
    · refine iteT ⟨.ref b, rfl, _, rfl, b, _, _, _, rfl, rfl, SqL.of ((upd_ne (ne_of_none el2 ntt)).trans el2), atI_nat (bbv_get hc), _, _, rfl, rfl, .ref b, rfl, _, rfl, b, _, _, _, rfl, rfl, (upd_ne (ne_of_none el2 ntt)).trans el2, ixn, ?_⟩
      exact flip _ (bt2.trans (Same.but (Same.new ntt))) (P2.new ntt) ((upd_ne (ne_of_none el2 ntt)).trans el2)
    · have ne0 : i ≠ 0 := fun z => c0 (by
        subst z
        show (eqV (V.int (first : Int)) (V.int ((first + 0 : Nat) : Int)) || _) = true
        rw [show eqV (V.int (first : Int)) (V.int ((first + 0 : Nat) : Int)) = true from beq_self_eq_true _, Bool.true_or])
      refine ⟨.ref p, rfl, p, a, 2, rfl, P2.new ntt, by decide, by decide, fun v G3 v0 v1 o3 P3 => ⟨rfl, _, rfl, ?_⟩⟩
      have el3 : G3 b = some (.lst (bbv l)) := o3.get nbp ((upd_ne (ne_of_none el2 ntt)).trans el2)
      have bt3 := (bt2.trans (Same.but (Same.new (o := .tup [.int (first : Int), .int (L : Int)]) ntt))).trans o3.but
      refine ite2 (fun _ => ?_) (fun _ => ?_)
      · refine ⟨.ref b, rfl, _, rfl, b, _, _, _, rfl, rfl, SqL.of el3, atI_nat (bbv_get hc), _, _, rfl, rfl, .ref b, rfl, _, rfl, b, _, _, _, rfl, rfl, el3, ixn, ?_⟩
        exact flip _ bt3 P3 el3
      · exact stay ne0 _ bt3 P3 el3
  · rintro σ G ⟨y6, l, rfl, bt, PG, el, ll, alike, ch⟩
    refine ⟨.ref b, rfl, b, l, rfl, SqL.of el, by omega, ⟨x.length, ll⟩, fun v G2 s2 nv ev => ?_⟩
    have eb2 := bits_bytesOf _ ll
    refine q v (bytesOf l) G2 (bt.trans (Same.but s2)) (PG.same s2) (bt.free PG nv) ev (by rw [bytesOf_length, ll]; omega) (bytes_bytesOf ll) ⟨by rw [eb2, ll, le8], fun j hj => ?_⟩ (by rw [eb2]; exact ch (by omega))
    rw [eb2]
    by_cases lt : j < 8 * x.length
    · exact (alike j (by omega)).symm
    · rw [List.getElem?_eq_none (by omega), List.getElem?_eq_none (by omega)]
end
end My
set_option linter.all false
/-! Records, one behind the other -/
namespace Logs
open Crc
def rec_ (v : Pv.Val) : List Nat := blocksOf (Pv.bytes v)
def sz (y : List Nat) : Nat := 64 * (256 * y.getD 2 0 + y.getD 3 0)
/-- no record begins here -/
def NoRec (y : List Nat) : Prop := y.length < 4 ∨ sz y = 0 ∨ y.length < sz y ∨ ∃ n, dataOf (y.take (sz y)) = .block n
theorem rec_length (v : Pv.Val) : (rec_ v).length = 64 * cntOf (Pv.bytes v) := blocks_length _
theorem rec_head {v : Pv.Val} {rest : List Nat} : (rec_ v ++ rest).getD 2 0 = cntOf (Pv.bytes v) / 256 ∧ (rec_ v ++ rest).getD 3 0 = cntOf (Pv.bytes v) % 256 := by
  have h := blocks_chunk (Pv.bytes v) rest 0 (cnt_pos _)
  unfold chunk at h
  rw [Nat.mul_zero, List.drop_zero] at h
  have l := rec_length v
  have c := cnt_pos (Pv.bytes v)
  have get : ∀ i, i < 64 → (rec_ v ++ rest)[i]? = (blk (0 + 1) (cntOf (Pv.bytes v)) (Crc.part (Pv.bytes v) 0))[i]? := fun i hi => by
    rw [← h, List.getElem?_take, if_pos hi]
    rfl
  refine ⟨?_, ?_⟩
  · rw [List.getD_eq_getElem?_getD, get 2 (by decide)]
    rfl
  · rw [List.getD_eq_getElem?_getD, get 3 (by decide)]
    rfl
theorem rec_sz (v : Pv.Val) (rest : List Nat) : sz (rec_ v ++ rest) = (rec_ v).length := by
  obtain ⟨h2, h3⟩ := rec_head (v := v) (rest := rest)
  unfold sz
  rw [h2, h3, rec_length]
  omega
theorem data_rec {v : Pv.Val} (hc : cntOf (Pv.bytes v) < 65536) : dataOf (rec_ v) = .data (Pv.bytes v) := by
  have := data_whole (told := Pv.bytes v) (t := []) hc
  rw [List.append_nil] at this
  exact this
theorem take_rec (v : Pv.Val) (rest : List Nat) : (rec_ v ++ rest).take (sz (rec_ v ++ rest)) = rec_ v := by
  rw [rec_sz, List.take_left' rfl]
theorem not_norec {v : Pv.Val} {rest : List Nat} (hc : cntOf (Pv.bytes v) < 65536) : ¬ NoRec (rec_ v ++ rest) := by
  have l := rec_length v
  have c := cnt_pos (Pv.bytes v)
  intro h
  rcases h with h | h | h | ⟨n, h⟩
  · rw [List.length_append] at h
    omega
  · rw [rec_sz] at h
    omega
  · rw [rec_sz, List.length_append] at h
    omega
  · rw [take_rec, data_rec hc] at h
    cases h
end Logs
set_option linter.all false
/-! Logs that are cut, and logs with bits changed -/
namespace Pv
open Crc
theorem nb_bytes (n : Nat) : Bytes (nb n) := by
  induction n using Nat.strongRecOn with
  | ind n ih =>
    by_cases h : n > 127
    · rw [nb_big h]
      intro b hb
      rcases List.mem_cons.mp hb with e | hb
      · omega
      · exact ih (n / 128) (by omega) b hb
    · rw [nb_small h]
      intro b hb
      rw [List.mem_singleton.mp hb]
      omega
mutual
theorem bytes_bytes : ∀ {v : Val}, Ok v → Bytes (bytes v)
  | .int i, _ => by
    rw [bytes]
    intro b hb
    rcases List.mem_cons.mp hb with e | hb
    · omega
    · exact nb_bytes _ b hb
  | .str ks, h => by
    rw [bytes]
    intro b hb
    rcases List.mem_cons.mp hb with e | hb
    · omega
    rcases List.mem_append.mp hb with hb | hb
    · exact nb_bytes _ b hb
    · have := h.2 b hb
      omega
  | .tup l, h => by
    rw [bytes]
    intro b hb
    rcases List.mem_cons.mp hb with e | hb
    · omega
    rcases List.mem_append.mp hb with hb | hb
    · exact nb_bytes _ b hb
    · exact bytesL_bytes h.2 b hb
theorem bytesL_bytes : ∀ {l : List Val}, OkL l → Bytes (bytesL l)
  | [], _ => by
    rw [bytesL]
    intro b hb
    cases hb
  | v :: l, h => by
    rw [bytesL]
    intro b hb
    rcases List.mem_append.mp hb with hb | hb
    · exact bytes_bytes h.1 b hb
    · exact bytesL_bytes h.2 b hb
end
end Pv
namespace Logs
open Crc
/-- how many ends lie at or before c -/
def ends (f : Nat → Nat) (n c : Nat) : List Nat := ((List.range n).map fun j => f (j + 1)).filter fun x => decide (x ≤ c)
theorem ends_spec {f : Nat → Nat} (mono : ∀ i, f i ≤ f (i + 1)) {c : Nat} (f0 : f 0 ≤ c) : ∀ n, (ends f n c).length ≤ n ∧ f (ends f n c).length ≤ c ∧ ((ends f n c).length < n → c < f ((ends f n c).length + 1))
  | 0 => ⟨Nat.le_refl _, f0, fun h => absurd h (Nat.lt_irrefl 0)⟩
  | n + 1 => by
    obtain ⟨h1, h2, h3⟩ := ends_spec mono f0 n
    have up : ∀ a b, a ≤ b → f a ≤ f b := fun a b hab => by
      induction hab with
      | refl => exact Nat.le_refl _
      | step _ ih => exact Nat.le_trans ih (mono _)
    have e : ends f (n + 1) c = ends f n c ++ [f (n + 1)].filter fun x => decide (x ≤ c) := by
      unfold ends
      rw [List.range_succ, List.map_append, List.filter_append]
      rfl
    by_cases g : f (n + 1) ≤ c
    · have e2 : ends f (n + 1) c = ends f n c ++ [f (n + 1)] := by rw [e]; simp [g]
      have en : (ends f n c).length = n := by
        apply Decidable.byContradiction
        intro z
        have := h3 (by omega)
        have := up ((ends f n c).length + 1) (n + 1) (by omega)
        omega
      rw [e2, List.length_append, en]
      exact ⟨Nat.le_refl _, g, fun z => absurd z (Nat.lt_irrefl _)⟩
    · have e2 : ends f (n + 1) c = ends f n c := by rw [e]; simp [g]
      rw [e2]
      refine ⟨by omega, h2, fun z => ?_⟩
      by_cases k : (ends f n c).length < n
      · exact h3 k
      · rw [show (ends f n c).length = n by omega]
        omega
def lens (ws : List Pv.Val) (j : Nat) : Nat := ((ws.take j).flatMap rec_).length
theorem lens_zero (ws : List Pv.Val) : lens ws 0 = 0 := rfl
theorem lens_all (ws : List Pv.Val) : lens ws ws.length = (ws.flatMap rec_).length := by unfold lens; rw [List.take_length]
theorem lens_succ {ws : List Pv.Val} {j : Nat} {u : Pv.Val} (h : ws[j]? = some u) : lens ws (j + 1) = lens ws j + (rec_ u).length := by
  unfold lens
  rw [List.take_add_one, h, List.flatMap_append, List.length_append]
  simp only [Option.toList, List.flatMap_cons, List.flatMap_nil, List.append_nil]
theorem lens_mono (ws : List Pv.Val) (i : Nat) : lens ws i ≤ lens ws (i + 1) := by
  cases h : ws[i]? with
  | none =>
    have := List.getElem?_eq_none_iff.mp h
    unfold lens
    rw [List.take_of_length_le this, List.take_of_length_le (by omega)]
    exact Nat.le_refl _
  | some u =>
    rw [lens_succ h]
    omega
/-- the values whose records lie before c -/
def before (ws : List Pv.Val) (c : Nat) : Nat := (ends (lens ws) ws.length c).length
theorem before_le (ws : List Pv.Val) (c : Nat) : before ws c ≤ ws.length := (ends_spec (lens_mono ws) (by rw [lens_zero]; omega) _).1
theorem before_lens (ws : List Pv.Val) (c : Nat) : lens ws (before ws c) ≤ c := (ends_spec (lens_mono ws) (by rw [lens_zero]; omega) _).2.1
theorem before_next (ws : List Pv.Val) (c : Nat) (h : before ws c < ws.length) : c < lens ws (before ws c + 1) := (ends_spec (lens_mono ws) (by rw [lens_zero]; omega) _).2.2 h
theorem flat_split (ws : List Pv.Val) (m : Nat) : ws.flatMap rec_ = (ws.take m).flatMap rec_ ++ (ws.drop m).flatMap rec_ := by
  rw [← List.flatMap_append, List.take_append_drop]
theorem take_lens (ws : List Pv.Val) (m : Nat) : (ws.flatMap rec_).take (lens ws m) = (ws.take m).flatMap rec_ := by
  rw [flat_split ws m]
  exact List.take_left' rfl
theorem drop_lens {ws : List Pv.Val} {m : Nat} {u : Pv.Val} (h : ws[m]? = some u) : (ws.flatMap rec_).drop (lens ws m) = rec_ u ++ (ws.drop (m + 1)).flatMap rec_ := by
  obtain ⟨lt, e⟩ := List.getElem?_eq_some_iff.mp h
  rw [flat_split ws m, show lens ws m = ((ws.take m).flatMap rec_).length from rfl, List.drop_left' rfl, List.drop_eq_getElem_cons lt, e, List.flatMap_cons]
theorem norec_nil : NoRec [] := .inl (by decide)
theorem norec_take {v : Pv.Val} {rest : List Nat} {k : Nat} (h : k < (rec_ v).length) : NoRec ((rec_ v ++ rest).take k) := by
  by_cases c : k < 4
  · exact .inl (by rw [List.length_take]; omega)
  have es : sz ((rec_ v ++ rest).take k) = (rec_ v).length := by
    have e := rec_sz v rest
    unfold sz at e ⊢
    rw [List.getD_eq_getElem?_getD, List.getD_eq_getElem?_getD, List.getElem?_take, List.getElem?_take, if_pos (by omega), if_pos (by omega), ← List.getD_eq_getElem?_getD, ← List.getD_eq_getElem?_getD]
    exact e
  refine .inr (.inr (.inl ?_))
  rw [es, List.length_take]
  omega
/-- a log that is cut -/
theorem cut_law (ws : List Pv.Val) {c : Nat} (h : c ≤ (ws.flatMap rec_).length) : ∃ rest, (ws.flatMap rec_).take c = (ws.take (before ws c)).flatMap rec_ ++ rest ∧ NoRec rest := by
  have h2 := before_lens ws c
  refine ⟨((ws.flatMap rec_).drop (lens ws (before ws c))).take (c - lens ws (before ws c)), ?_, ?_⟩
  · rw [← take_lens]
    conv => lhs; rw [show c = lens ws (before ws c) + (c - lens ws (before ws c)) by omega]
    rw [List.take_add]
  · by_cases k : before ws c < ws.length
    · obtain ⟨u, hu⟩ : ∃ u, ws[before ws c]? = some u := ⟨_, List.getElem?_eq_getElem k⟩
      have h3 := before_next ws c k
      rw [lens_succ hu] at h3
      rw [drop_lens hu]
      exact norec_take (by omega)
    · have e : before ws c = ws.length := by have := before_le ws c; omega
      rw [e, lens_all, List.drop_length, List.take_nil]
      exact norec_nil
theorem chunk0_take {y : List Nat} {S : Nat} (h : 64 ≤ S) : chunk (y.take S) 0 = chunk y 0 := by
  unfold chunk
  rw [Nat.mul_zero, List.drop_zero, List.drop_zero, List.take_take, Nat.min_eq_left h]
/-- bits changed in a block -/
theorem blk_changed {c y : List Nat} {n : Nat} {o : Option Nat} {n' : Nat} {o' : Option Nat} (hc : Bytes c) (hy : Bytes y) (ok : IsBlk c n o) (ly : y.length = 64) {a w : Nat} (ag : Agree (bitsOf c) (bitsOf y) a w) (w32 : w ≤ 32) (ne : c ≠ y) : ¬ IsBlk y n' o' := by
  intro b
  have c1 := (block_sum hy ly).mp b.2.1
  have c2 := (block_sum hc ok.1).mp ok.2.1
  exact ag.run (by omega) (fun z => ne (bitsOf_inj hc hy z)) (c2.trans c1.symm)
theorem norec_changed {v : Pv.Val} {t y : List Nat} (hv : Bytes (Pv.bytes v)) (hc : cntOf (Pv.bytes v) < 65536) (hy : Bytes y) (ly : y.length = (rec_ v ++ t).length) {a w q : Nat} (ag : Agree (bitsOf (rec_ v ++ t)) (bitsOf y) a w) (w32 : w ≤ 32)
    (hq : q < (rec_ v).length) (first : ∀ i, i < q → y[i]? = (rec_ v ++ t)[i]?) (ne : y[q]? ≠ (rec_ v ++ t)[q]?) : NoRec y := by
  have lr := rec_length v
  have cp := cnt_pos (Pv.bytes v)
  rw [List.length_append] at ly
  by_cases z0 : sz y = 0
  · exact .inr (.inl z0)
  by_cases z1 : y.length < sz y
  · exact .inr (.inr (.inl z1))
  have h64 : 64 ≤ sz y := by unfold sz at z0 ⊢; omega
  refine .inr (.inr (.inr ?_))
  by_cases c : q < 64
  · refine ⟨1, data_first ?_⟩
    rw [chunk0_take h64]
    have e0 := blocks_chunk (Pv.bytes v) t 0 cp
    have ok := (blk_is (k := 0 + 1) (c := cntOf (Pv.bytes v)) (part_length (told := Pv.bytes v) (k := 0) cp) (by omega) hc none (.inl rfl)).1
    rw [← e0] at ok
    obtain ⟨a', w', hw, ag'⟩ := ag.sub (s := 512 * 0) (n := 512)
    rw [← bits_chunk, ← bits_chunk] at ag'
    have ly0 : (chunk y 0).length = 64 := by
      unfold chunk
      rw [List.length_take, List.length_drop]
      omega
    have bc : Bytes (chunk (rec_ v ++ t) 0) := by
      have e0' : chunk (rec_ v ++ t) 0 = blk (0 + 1) (cntOf (Pv.bytes v)) (Crc.part (Pv.bytes v) 0) := e0
      rw [e0']
      exact bytes_blk (bytes_part hv 0) (by omega) hc
    have by_ : Bytes (chunk y 0) := fun x hx => hy x (List.mem_of_mem_drop (List.mem_of_mem_take hx))
    refine blk_changed bc by_ ok ly0 ag' (by omega) fun z => ?_
    have e := congrArg (fun l => l[q]?) z
    have e : (chunk (rec_ v ++ t) 0)[q]? = (chunk y 0)[q]? := e
    unfold chunk at e
    rw [Nat.mul_zero, List.drop_zero, List.drop_zero, List.getElem?_take, List.getElem?_take, if_pos c, if_pos c] at e
    exact ne e.symm
  · have es : sz y = (rec_ v).length := by
      have e := rec_sz v t
      rw [← e]
      unfold sz
      rw [List.getD_eq_getElem?_getD, List.getD_eq_getElem?_getD, first 2 (by omega), first 3 (by omega), ← List.getD_eq_getElem?_getD, ← List.getD_eq_getElem?_getD]
    refine ⟨q / 64 + 1, ?_⟩
    rw [es]
    obtain ⟨a', w', hw, ag'⟩ := ag.sub (s := 0) (n := 8 * (rec_ v).length)
    rw [List.drop_zero, List.drop_zero, ← bits_take, ← bits_take, List.take_left' rfl] at ag'
    refine data_changed hv hc (fun x hx => hy x (List.mem_of_mem_take hx)) ag' (by omega) (by rw [List.length_take]; omega) (fun i hi => ?_) ?_
    · rw [List.getElem?_take, if_pos (by omega), first i hi, List.getElem?_append_left (by omega)]
      rfl
    · rw [List.getElem?_take, if_pos hq]
      rw [List.getElem?_append_left hq] at ne
      exact ne
/-- a log with bits changed: what stands before the first changed byte -/
theorem bent_law (ws : List Pv.Val) (ok : ∀ w ∈ ws, Bytes (Pv.bytes w) ∧ cntOf (Pv.bytes w) < 65536) {y : List Nat} (hy : Bytes y) (ly : y.length = (ws.flatMap rec_).length) {a w p : Nat} (ag : Agree (bitsOf (ws.flatMap rec_)) (bitsOf y) a w) (w32 : w ≤ 32)
    (hp : p < y.length) (first : ∀ i, i < p → y[i]? = (ws.flatMap rec_)[i]?) (ne : y[p]? ≠ (ws.flatMap rec_)[p]?) : ∃ rest, y = (ws.take (before ws p)).flatMap rec_ ++ rest ∧ NoRec rest := by
  have h2 := before_lens ws p
  have k : before ws p < ws.length := by
    have := before_le ws p
    apply Decidable.byContradiction
    intro z
    have e : before ws p = ws.length := by omega
    rw [e, lens_all] at h2
    omega
  obtain ⟨u, hu⟩ : ∃ u, ws[before ws p]? = some u := ⟨_, List.getElem?_eq_getElem k⟩
  have h3 := before_next ws p k
  rw [lens_succ hu] at h3
  have hm := ok u (List.mem_of_getElem? hu)
  generalize before ws p = m at *
  have ed := drop_lens hu
  have lrest : (rec_ u ++ (ws.drop (m + 1)).flatMap rec_).length = y.length - lens ws m := by rw [← ed, List.length_drop, ly]
  refine ⟨y.drop (lens ws m), ?_, ?_⟩
  · conv => lhs; rw [← List.take_append_drop (lens ws m) y]
    congr 1
    rw [← take_lens]
    apply List.ext_getElem?
    intro i
    rw [List.getElem?_take, List.getElem?_take]
    split
    · exact first i (by omega)
    · rfl
  · obtain ⟨a', w', hw, ag'⟩ := ag.sub (s := 8 * lens ws m) (n := 8 * y.length)
    rw [← bits_drop, ← bits_drop, ← bits_take, ← bits_take, ed, List.take_of_length_le (by omega), List.take_of_length_le (by rw [List.length_drop]; omega)] at ag'
    have dg : ∀ i, (rec_ u ++ (ws.drop (m + 1)).flatMap rec_)[i]? = (ws.flatMap rec_)[lens ws m + i]? := fun i => by rw [← ed, List.getElem?_drop]
    refine norec_changed (q := p - lens ws m) hm.1 hm.2 (fun x hx => hy x (List.mem_of_mem_drop hx)) (by rw [List.length_drop]; omega) ag' (by omega) (by omega) (fun i hi => ?_) ?_
    · rw [dg, List.getElem?_drop]
      exact first _ (by omega)
    · rw [dg, List.getElem?_drop, show lens ws m + (p - lens ws m) = p by omega]
      exact ne
theorem filter_one (p : Nat → Bool) (i : Nat) : (List.range (i + 1)).filter p = (List.range i).filter p ++ (if p i = true then [i] else []) := by
  rw [List.range_succ, List.filter_append, List.filter_cons, List.filter_nil]
theorem wrong_first {x y : List Nat} (ly : y.length = x.length) {f : Nat} (ne : (bitsOf y)[f]? ≠ (bitsOf x)[f]?) : ∃ p rest, wrongs x y = p :: rest ∧ p < x.length ∧ (∀ i, i < p → y[i]? = x[i]?) ∧ y[p]? ≠ x[p]? := by
  rcases filter_first (fun i => decide (y[i]? ≠ x[i]?)) x.length with z | ⟨p, rest, e, lt, pp, all⟩
  · refine absurd ?_ ne
    have : y = x := by
      apply List.ext_getElem?
      intro i
      by_cases hi : i < x.length
      · exact Decidable.of_not_not (of_decide_eq_false (z i hi))
      · rw [List.getElem?_eq_none (by omega), List.getElem?_eq_none (by omega)]
    rw [this]
  · exact ⟨p, rest, e, lt, fun i hi => Decidable.of_not_not (of_decide_eq_false (all i hi)), of_decide_eq_true pp⟩
end Logs
set_option Elab.async false
set_option linter.all false
set_option maxRecDepth 100000
set_option maxHeartbeats 4000000
/-! Logs -/
namespace My
open PySem PySem.Spec PyProof.Rows L2 Logs Crc
local macro_rules
  | `(tactic| nofun) => `(tactic| (apply tup_at; nofun))
local macro_rules
  | `(tactic| nofun) => `(tactic| (apply seq_at; nofun))
local macro_rules
  | `(tactic| nofun) => `(tactic| (apply pool_same; assumption; nofun))
local macro_rules
  | `(tactic| nofun) => `(tactic| (apply but_get; assumption; assumption; nofun))
local macro_rules
  | `(tactic| nofun) => `(tactic| (apply off_get; assumption; assumption; nofun))
local macro_rules
  | `(tactic| nofun) => `(tactic| (apply same_get; assumption; nofun))
local macro_rules
  | `(tactic| nofun) => `(tactic| assumption)
abbrev st_record : Stmt := topS 21
theorem sc_record : FnScope ["value"] ["value"] (defScope st_record) := ⟨rfl, rfl, rfl, by decide +kernel, rfl, by decide +kernel, by decide +kernel⟩
abbrev st_log_of : Stmt := topS 22
theorem sc_log_of : FnScope ["values", "found", "value"] ["values"] (defScope st_log_of) := ⟨rfl, rfl, rfl, by decide +kernel, rfl, by decide +kernel, by decide +kernel⟩
abbrev st_first_record : Stmt := topS 23
theorem sc_first_record : FnScope ["told", "at", "head", "size", "here", "data", "value"] ["told", "at"] (defScope st_first_record) := ⟨rfl, rfl, rfl, by decide +kernel, rfl, by decide +kernel, by decide +kernel⟩
abbrev st_recovered : Stmt := topS 24
theorem sc_recovered : FnScope ["told", "found", "at", "here"] ["told"] (defScope st_recovered) := ⟨rfl, rfl, rfl, by decide +kernel, rfl, by decide +kernel, by decide +kernel⟩
/-- a value whose record can be written -/
structure Fine (v : Pv.Val) : Prop where
  ok : Pv.Ok v
  len : (Pv.bytes v).length ≤ 50000
  size : Pv.size v ≤ 50000
  dep : Pv.depth v ≤ 60
def spRecord (K : PySem.W.Frag) : Sp := fun vs H Q _ => ∃ (x : V) (v : Pv.Val) (n : Nat), vs = [x] ∧ VW K H n x v ∧ Fine v ∧ MadeL H (rec_ v) Q
def AllVW (K : PySem.W.Frag) (H : Hp) (xs : List V) (vs : List Pv.Val) : Prop := xs.length = vs.length ∧ ∀ (i : Nat) y e, xs[i]? = some y → vs[i]? = some e → VW K H (Pv.depth e) y e
def spLogOf (K : PySem.W.Frag) : Sp := fun vs H Q _ => ∃ (a : Addr) (xs : List V) (ws : List Pv.Val), vs = [.ref a] ∧ SqL K H a xs ∧ AllVW K H xs ws ∧ (∀ v ∈ ws, Fine v) ∧ (ws.flatMap rec_).length ≤ 90000 ∧ MadeL H (ws.flatMap rec_) Q
def spFirst (K : PySem.W.Frag) : Sp := fun vs H Q _ => ∃ (a : Addr) (l : List Nat) (at_ : Nat) (o : Option (Pv.Val × List Nat)), vs = [.ref a, .int (at_ : Nat)] ∧ SqL K H a (bv l) ∧ l.length ≤ 90000 ∧ at_ ≤ l.length ∧
  (match o with
  | none => NoRec (l.drop at_) ∧ ∀ H', Same H H' → Q .non H'
  | some (v, rest) => l.drop at_ = rec_ v ++ rest ∧ Fine v ∧ ∀ t x H', Same H H' → H' t = some (.tup [x, .int ((at_ + (rec_ v).length : Nat) : Int)]) → VW K H' (Pv.depth v) x v → Q (.ref t) H')
theorem flat_ge : ∀ ws : List Pv.Val, ws.length ≤ (ws.flatMap rec_).length
  | [] => Nat.le_refl _
  | b :: t => by
    have := flat_ge t
    have := Crc.cnt_pos (Pv.bytes b)
    rw [List.length_cons, List.flatMap_cons, List.length_append, rec_length]
    omega
def spRecovered (K : PySem.W.Frag) : Sp := fun vs H Q _ => ∃ (a : Addr) (l rest : List Nat) (ws : List Pv.Val), vs = [.ref a] ∧ SqL K H a (bv l) ∧ l.length ≤ 90000 ∧ l = ws.flatMap rec_ ++ rest ∧ NoRec rest ∧ (∀ v ∈ ws, Fine v) ∧
  ∀ t tv xs H', Same H H' → H' t = some (.tup [.ref tv, .int ((ws.flatMap rec_).length : Nat)]) → H' tv = some (.tup xs) → AllVW K H' xs ws → Q (.ref t) H'
/-- what stands in here before the record at place i -/
def Here (K : PySem.W.Frag) (G : Hp) (ws : List Pv.Val) (i : Nat) (v : V) : Prop := match ws[i]? with
  | none => v = .non
  | some e => ∃ t x, v = .ref t ∧ G t = some (.tup [x, .int (((ws.take (i + 1)).flatMap rec_).length : Nat)]) ∧ VW K G (Pv.depth e) x e
theorem Here.put {K : PySem.W.Frag} {G : Hp} {ws : List Pv.Val} {i : Nat} {v : V} {p : Addr} {ys zs : List V} (h : Here K G ws i v) (e : G p = some (.lst ys)) : Here K (upd G p (.lst zs)) ws i v := by
  unfold Here at h ⊢
  cases c : ws[i]? with
  | none => rw [c] at h; exact h
  | some d =>
    rw [c] at h
    obtain ⟨t, x, hv, ht, hx⟩ := h
    exact ⟨t, x, hv, (upd_ne (fun z => by rw [z, e] at ht; cases ht)).trans ht, hx.list e⟩
theorem AllVW.same {K : PySem.W.Frag} {G G' : Hp} {xs : List V} {ws : List Pv.Val} (h : AllVW K G xs ws) (s : Same G G') : AllVW K G' xs ws := ⟨h.1, fun i y e hy he => (h.2 i y e hy he).same s⟩
theorem AllVW.put {K : PySem.W.Frag} {G : Hp} {xs : List V} {ws : List Pv.Val} {p : Addr} {ys zs : List V} (h : AllVW K G xs ws) (e : G p = some (.lst ys)) : AllVW K (upd G p (.lst zs)) xs ws := ⟨h.1, fun i y d hy hd => (h.2 i y d hy hd).list e⟩
theorem AllVW.snoc {K : PySem.W.Frag} {G : Hp} {xs : List V} {ws : List Pv.Val} {x : V} {e : Pv.Val} (h : AllVW K G xs ws) (hx : VW K G (Pv.depth e) x e) : AllVW K G (xs ++ [x]) (ws ++ [e]) := by
  refine ⟨by rw [List.length_append, List.length_append, h.1]; rfl, fun i y d hy hd => ?_⟩
  have l := h.1
  by_cases lt : i < xs.length
  · rw [List.getElem?_append_left lt] at hy
    rw [List.getElem?_append_left (by omega)] at hd
    exact h.2 i y d hy hd
  · rw [List.getElem?_append_right (by omega)] at hy
    rw [List.getElem?_append_right (by omega), show i - ws.length = i - xs.length by omega] at hd
    cases k : i - xs.length with
    | zero =>
      rw [k] at hy hd
      obtain rfl := Option.some.inj hy
      obtain rfl := Option.some.inj hd
      exact hx
    | succ k' => rw [k] at hy; cases hy
section
variable {P : Program} {w : World} {K : PySem.W.Frag} {mg : Str → Option Value} {base : Heap}
theorem ok_record (T : Top K mg "record" st_record ["value"]) (D_blocks_of : Def P w K mg base 3 "blocks_of" ["told"] spBlocksOf) (D_bytes_of : Def P w K mg base 2 "bytes_of" ["value"] (spBytesOf K)) : Def P w K mg base 4 "record" ["value"] (spRecord K) := by
  refine T.ok sc_record (fun vs H Q E h => ?_) (fun f cdv A outer s H vs Q E hr h => ?_)
  · obtain ⟨x, v, n, rfl, _⟩ := h
    rfl
  obtain ⟨x, v, n, rfl, hx, hv, q⟩ := h
  refine ⟨_, (pss_one (ps_ret (pe_def D_blocks_of (hr.mono (by decide)) rfl (pa_cons (pe_def D_bytes_of (hr.mono (by decide)) rfl (pa_cons (pv 0) pa_nil)) pa_nil)))), ?_⟩
  have hl := hv.len
  have hs := hv.size
  refine ⟨_, rfl, x, v, n, rfl, hx, hv.ok, by omega, by omega, fun b G1 s1 n1 e1 => ⟨b, Pv.bytes v, rfl, e1, by omega, fun p G2 s2 n2 e2 => q p G2 (s1.trans s2) (s1.free n2) e2⟩⟩
theorem ok_log_of (T : Top K mg "log_of" st_log_of ["values"]) (D_record : Def P w K mg base 4 "record" ["value"] (spRecord K)) : Def P w K mg base 5 "log_of" ["values"] (spLogOf K) := by
  refine T.ok sc_log_of (fun vs H Q E h => ?_) (fun f cdv A outer s H vs Q E hr h => ?_)
  · obtain ⟨a, xs, ws, rfl, _⟩ := h
    rfl
  obtain ⟨a, xs, ws, rfl, ha, hxs, hf, hl, q⟩ := h
  have big : ∀ {n : Nat}, n ≤ 900000 → n ≤ sizeLine := fun h => Nat.le_trans h (by decide)
  refine ⟨_, (pss_cons (ps_set (i := 1) sc_log_of.nd rfl (Or.inl rfl) (pe_lst pa_nil))
    (pss_cons (ps_for PassesOwn.never rfl (pi_list (pv 0)) (pg_name (i := 2) sc_log_of.nd rfl (Or.inl rfl))
    (pss_one (ps_expr (pe_bm PySem.F.plainAttrs_list PySem.F.slot_list_extend PySem.F.type_list_extend mt_extend (pv 1) (pa_cons (pe_def D_record (hr.mono (by decide)) rfl (pa_cons (pv 2) pa_nil)) pa_nil)))))
    (pss_one (ps_ret (pv 1))))), ?_⟩
  refine ⟨Nat.zero_le _, fun fo nfo => ?_⟩
  refine ⟨.ref a, rfl, a, rfl, ⟨_, (Same.new nfo).seq ha⟩, for_list (K := K) (a := a) (xs := xs) (fun i σ G => ∃ x2 : Option V, σ = [some (.ref a), some (.ref fo), x2] ∧ Same H G ∧ G fo = some (.lst (bv ((ws.take i).flatMap rec_)))) ⟨_, rfl, Same.new nfo, upd_same⟩ (fun _ _ _ _ ⟨_, _, s, _⟩ => s.seq ha) ?_ ?_⟩
  · rintro i x σ G hx ⟨x2, rfl, sg, eg⟩
    have ilt := (List.getElem?_eq_some_iff.mp hx).1
    obtain ⟨e, he⟩ : ∃ e, ws[i]? = some e := ⟨_, List.getElem?_eq_getElem (by rw [← hxs.1]; exact ilt)⟩
    have fe := hf e (List.mem_of_getElem? he)
    have lt : ((ws.take i).flatMap rec_).length + (rec_ e).length ≤ 90000 := by
      have e1 : ws = ws.take i ++ e :: ws.drop (i + 1) := by
        obtain ⟨h1, h2⟩ := List.getElem?_eq_some_iff.mp he
        rw [← h2, ← List.drop_eq_getElem_cons h1, List.take_append_drop]
      have := congrArg (fun z => (z.flatMap rec_).length) e1
      have this : (ws.flatMap rec_).length = ((ws.take i ++ e :: ws.drop (i + 1)).flatMap rec_).length := this
      rw [List.flatMap_append, List.flatMap_cons, List.length_append, List.length_append] at this
      omega
    refine ⟨.ref fo, rfl, .inl ⟨rfl, _, SqL.of eg⟩, _, rfl, x, e, _, rfl, (hxs.2 i x e hx he).same sg, fe, fun p G2 s2 n2 e2 => ?_⟩
    refine ⟨fo, p, _, _, rfl, rfl, s2 _ _ eg, e2, big (by rw [bv_len, bv_len]; omega), _, rfl, same_mut (sg.trans s2) nfo, ?_⟩
    rw [upd_same, ← bv_app, List.take_add_one, he, List.flatMap_append]
    simp only [Option.toList, List.flatMap_cons, List.flatMap_nil, List.append_nil]
  · rintro σ G ⟨x2, rfl, sg, eg⟩
    refine ⟨_, rfl, q fo G sg nfo ?_⟩
    rw [eg, List.take_of_length_le (by rw [hxs.1]; exact Nat.le_refl _)]
theorem ok_first (T : Top K mg "first_record" st_first_record ["told", "at"]) (C : Consts mg) (D_data_of : Def P w K mg base 3 "data_of" ["told"] (spDataOf K)) (D_value_of : Def P w K mg base 4 "value_of" ["told"] (spValueOf K)) (z_len : mg "len" = none) : Def P w K mg base 5 "first_record" ["told", "at"] (spFirst K) := by
  obtain ⟨_, m_SIZE⟩ := C.SIZE
  refine T.ok sc_first_record (fun vs H Q E h => ?_) (fun f cdv A outer s H vs Q E hr h => ?_)
  · obtain ⟨a, l, at_, o, rfl, _⟩ := h
    rfl
  obtain ⟨a, l, at_, o, rfl, ha, hl, hat, q⟩ := h
  have big : ∀ {n : Nat}, n ≤ 900000 → n ≤ sizeLine := fun h => Nat.le_trans h (by decide)
  refine ⟨_, (pss_cons (ps_set (i := 2) sc_first_record.nd rfl (Or.inl rfl) (pe_slice (slL K) (pv 0) (po_some (pv 1)) (po_some (pe_op op_add (pv 1) pe_int))))
    (pss_cons (ps_if (pt_cmpR op_lt (pe_callB (lenQ K) rfl z_len (by decide +kernel) (pa_cons (pv 2) pa_nil)) pe_int (nomark _))
    (pss_one (ps_ret pe_non))
    pss_nil)
    (pss_cons (ps_set (i := 3) sc_first_record.nd rfl (Or.inl rfl) (pe_op op_mul (pe_glob (v := .int 64) rfl m_SIZE ⟨_, rfl⟩) (pe_op op_add (pe_op op_mul pe_int (pe_ix (ixL K) (pv 2) pe_int (fun _ _ => rfl))) (pe_ix (ixL K) (pv 2) pe_int (fun _ _ => rfl)))))
    (pss_cons (ps_set (i := 4) sc_first_record.nd rfl (Or.inl rfl) (pe_slice (slL K) (pv 0) (po_some (pv 1)) (po_some (pe_op op_add (pv 1) (pv 3)))))
    (pss_cons (ps_if (PW.pt (pw_or (pt_cmpR op_eq (pv 3) pe_int (nomark _)) (pw_or1 (pt_cmpR op_lt (pe_callB (lenQ K) rfl z_len (by decide +kernel) (pa_cons (pv 4) pa_nil)) (pv 3) (nomark _)))))
    (pss_one (ps_ret pe_non))
    pss_nil)
    (pss_cons (ps_set (i := 5) sc_first_record.nd rfl (Or.inl rfl) (pe_def D_data_of (hr.mono (by decide)) rfl (pa_cons (pv 4) pa_nil)))
    (pss_cons (ps_if (pt_cmpR op_ne (pe_ix (ixT K) (pv 5) pe_int (fun _ _ => rfl)) pe_str (nomark _))
    (pss_one (ps_ret pe_non))
    pss_nil)
    (pss_cons (ps_set (i := 6) sc_first_record.nd rfl (Or.inl rfl) (pe_def D_value_of (hr.mono (by decide)) rfl (pa_cons (pe_ix (ixT K) (pv 5) pe_int (fun _ _ => rfl)) pa_nil)))
    (pss_one (ps_ret (pe_ifExp (pt_cmpR op_eq (pe_ix (ixT K) (pv 6) pe_int (fun _ _ => rfl)) pe_str (nomark _)) (pe_tup (pa_cons (pe_ix (ixT K) (pv 6) pe_int (fun _ _ => rfl)) (pa_cons (pe_op op_add (pv 1) (pv 3)) pa_nil))) pe_non))))))))))), ?_⟩
  obtain ⟨y, hy⟩ : ∃ y, y = l.drop at_ := ⟨_, rfl⟩
  have cntf : ∀ v : Pv.Val, Fine v → cntOf (Pv.bytes v) < 65536 := fun v fv => by
    have := fv.len
    unfold cntOf
    omega
  have none_ : NoRec y → ∀ G, Same H G → Q .non G := fun h G s => by
    cases o with
    | none => exact q.2 G s
    | some vr =>
      obtain ⟨v, rest⟩ := vr
      rw [hy, q.1] at h
      exact absurd h (not_norec (cntf v q.2.1))
  have some_ : ¬ NoRec y → ∃ v rest, y = rec_ v ++ rest ∧ Fine v ∧ ∀ t x H', Same H H' → H' t = some (.tup [x, .int ((at_ + (rec_ v).length : Nat) : Int)]) → VW K H' (Pv.depth v) x v → Q (.ref t) H' := fun h => by
    cases o with
    | none => exact absurd (hy ▸ q.1) h
    | some vr =>
      obtain ⟨v, rest⟩ := vr
      exact ⟨v, rest, hy.trans q.1, q.2⟩
  clear q
  have ly : y.length = l.length - at_ := by rw [hy, List.length_drop]
  have slice : ∀ n : Nat, cutV (bv l) (some ((at_ : Nat) : Int)) (some (((at_ : Nat) : Int) + ((n : Nat) : Int))) = bv (y.take n) := fun n => by
    rw [show ((at_ : Nat) : Int) + ((n : Nat) : Int) = ((at_ + n : Nat) : Int) by omega, cut_mid, bv_drop, bv_take, Nat.add_sub_cancel_left, hy]
  refine ⟨.ref a, rfl, _, rfl, _, rfl, _, rfl, _, _, rfl, rfl, _, rfl, a, _, rfl, ha, fun h1 n1 => ?_⟩
  generalize hN1 : L2.upd H h1 _ = G1
  have s1 := new_of n1 hN1
  have e1 := at_of hN1
  try dsimp only at e1
  clear hN1
  have e1 : G1 h1 = some (.lst (bv (y.take 4))) := e1.trans (congrArg (fun z => some (HO.lst z)) (slice 4))
  have l4 : (y.take 4).length = min 4 y.length := List.length_take ..
  refine ⟨.ref h1, rfl, h1, _, rfl, .inl (SqL.of e1), _, _, rfl, rfl, _, rfl, ?_⟩
  by_cases c1 : y.length < 4
  · exact ifD (by rw [bv_len]; omega) (none_ (.inl c1) G1 s1)
  refine ifND (by rw [bv_len]; omega) ?_
  have g : ∀ i, i < 4 → atI (bv (y.take 4)) ((i : Nat) : Int) = some (.int (y.getD i 0 : Nat)) := fun i hi => atI_nat (bv_get (by
    rw [List.getElem?_take, if_pos hi, List.getD_eq_getElem?_getD, List.getElem?_eq_getElem (by omega)]
    rfl))
  refine ⟨.ref h1, rfl, h1, _, _, _, rfl, rfl, SqL.of e1, g 2 (by decide), _, _, rfl, rfl, .inl ⟨by decide, by decide⟩, .ref h1, rfl, h1, _, _, _, rfl, rfl, SqL.of e1, g 3 (by decide), _, _, rfl, rfl, _, _, rfl, rfl, .inl ⟨by decide, by decide⟩, ?_⟩
  have esz : (64 : Int) * ((256 : Int) * ((y.getD 2 0 : Nat) : Int) + ((y.getD 3 0 : Nat) : Int)) = ((sz y : Nat) : Int) := by
    unfold sz
    omega
  refine ⟨.ref a, rfl, _, rfl, _, rfl, _, rfl, _, rfl, _, _, rfl, rfl, _, rfl, a, _, rfl, s1.seq ha, fun h2 n2 => ?_⟩
  generalize hN2 : L2.upd G1 h2 _ = G2
  have s2 := new_of n2 hN2
  have e2 := at_of hN2
  try dsimp only at e2
  clear hN2
  rw [esz, slice (sz y)] at e2
  have lz : (y.take (sz y)).length = min (sz y) y.length := List.length_take ..
  have s12 := s1.trans s2
  refine ⟨_, rfl, rfl, _, rfl, ?_⟩
  by_cases c2 : sz y = 0
  · exact ifD (congrArg V.int (esz.trans (by rw [c2]; rfl))) (iteT (none_ (.inr (.inl c2)) G2 s12))
  refine ifND (fun z => c2 (by have := V.int.inj z; omega)) ?_
  refine ⟨.ref h2, rfl, h2, _, rfl, .inl (SqL.of e2), _, rfl, _, _, rfl, rfl, _, rfl, ?_⟩
  by_cases c3 : y.length < sz y
  · exact ifD (by rw [bv_len, esz]; omega) (none_ (.inr (.inr (.inl c3))) G2 s12)
  refine ifND (by rw [bv_len, esz]; omega) ?_
  refine ⟨.ref h2, rfl, h2, y.take (sz y), rfl, SqL.of e2, by omega, fun v G3 s3 hv => ?_⟩
  cases ed : Crc.dataOf (y.take (sz y)) with
  | block n =>
    rw [ed] at hv
    obtain ⟨t, rfl, e3⟩ := hv
    refine ⟨.ref t, rfl, t, _, _, _, rfl, rfl, SqT.of e3, rfl, rfl, _, rfl, ifnND (fun z => by cases z) ?_⟩
    exact none_ (.inr (.inr (.inr ⟨n, ed⟩))) G3 (s12.trans s3)
  | data d =>
    rw [ed] at hv
    obtain ⟨t, b, rfl, e3, eb⟩ := hv
    refine ⟨.ref t, rfl, t, _, _, _, rfl, rfl, SqT.of e3, rfl, rfl, _, rfl, ifnD rfl ?_⟩
    obtain ⟨u, rest, hyv, fu, q⟩ := some_ (fun z => by
      rcases z with z | z | z | ⟨n, z⟩
      · exact c1 z
      · exact c2 z
      · exact c3 z
      · rw [ed] at z; cases z)
    have esz2 : sz y = (rec_ u).length := by rw [hyv, rec_sz]
    have du : d = Pv.bytes u := by
      rw [hyv, take_rec, data_rec (cntf u fu)] at ed
      exact (Told.data.inj ed).symm
    subst du
    have lu := fu.len
    refine ⟨.ref t, rfl, t, _, _, _, rfl, rfl, SqT.of e3, rfl, b, u, rfl, SqL.of eb, fu.ok, by omega, fu.dep, fun t2 x G4 s4 n4 e4 hx => ?_⟩
    refine ⟨.ref t2, rfl, t2, _, _, _, rfl, rfl, SqT.of e4, rfl, rfl, _, rfl, ifD rfl ?_⟩
    refine ⟨.ref t2, rfl, t2, _, _, _, rfl, rfl, SqT.of e4, rfl, _, rfl, _, rfl, _, _, rfl, rfl, (by show 2 ≤ sizeLine; decide), fun t3 n5 => ?_⟩
    refine q t3 x _ ((s12.trans (s3.trans s4)).trans (Same.new n5)) ?_ (hx.same (Same.new n5))
    rw [upd_same]
    show some (HO.tup [x, V.int (((at_ : Nat) : Int) + (64 : Int) * ((256 : Int) * ((y.getD 2 0 : Nat) : Int) + ((y.getD 3 0 : Nat) : Int)))]) = _
    rw [esz, esz2]
    rfl
theorem ok_recovered (T : Top K mg "recovered" st_recovered ["told"]) (D_first_record : Def P w K mg base 5 "first_record" ["told", "at"] (spFirst K)) (z_tuple : mg "tuple" = none) : Def P w K mg base 6 "recovered" ["told"] (spRecovered K) := by
  refine T.ok sc_recovered (fun vs H Q E h => ?_) (fun f cdv A outer s H vs Q E hr h => ?_)
  · obtain ⟨a, l, rest, ws, rfl, _⟩ := h
    rfl
  obtain ⟨a, l, rest, ws, rfl, ha, hl, el, nr, hf, q⟩ := h
  refine ⟨_, (pss_cons (ps_set (i := 1) sc_recovered.nd rfl (Or.inl rfl) (pe_lst pa_nil))
    (pss_cons (ps_set (i := 2) sc_recovered.nd rfl (Or.inl rfl) pe_int)
    (Evl.pss_cut (ps_set (i := 3) sc_recovered.nd rfl (Or.inl rfl) (pe_def D_first_record (hr.mono (by decide)) rfl (pa_cons (pv 0) (pa_cons (pv 2) pa_nil))))
    (pss_cons (ps_while PassesOwn.never (pt_cmpR op_notN (pv 3) pe_non (nomark _))
    (pss_cons (ps_expr (pe_bm PySem.F.plainAttrs_list PySem.F.slot_list_append PySem.F.type_list_append mt_append (pv 1) (pa_cons (pe_ix (ixT K) (pv 3) pe_int (fun _ _ => rfl)) pa_nil)))
      (pss_cons (ps_set (i := 2) sc_recovered.nd rfl (Or.inl rfl) (pe_ix (ixT K) (pv 3) pe_int (fun _ _ => rfl)))
      (pss_one (ps_set (i := 3) sc_recovered.nd rfl (Or.inl rfl) (pe_def D_first_record (hr.mono (by decide)) rfl (pa_cons (pv 0) (pa_cons (pv 2) pa_nil))))))))
    (pss_one (ps_ret (pe_tup (pa_cons (pe_callTy (tupQ K) rfl z_tuple (by decide +kernel) (pa_cons (pv 1) pa_nil)) (pa_cons (pv 2) pa_nil))))))))), ?_⟩
  have big : ∀ {n : Nat}, n ≤ 900000 → n ≤ sizeLine := fun h => Nat.le_trans h (by decide)
  refine ⟨Nat.zero_le _, fun fo nfo => ?_⟩
  have drops : ∀ i, i ≤ ws.length → l.drop ((ws.take i).flatMap rec_).length = (ws.drop i).flatMap rec_ ++ rest := fun i hi => by
    have e : l = (ws.take i).flatMap rec_ ++ ((ws.drop i).flatMap rec_ ++ rest) := by
      rw [← List.append_assoc, ← List.flatMap_append, List.take_append_drop]
      exact el
    have := congrArg (fun z => z.drop ((ws.take i).flatMap rec_).length) e
    rw [List.drop_left' rfl] at this
    exact this
  have les : ∀ i, i ≤ ws.length → ((ws.take i).flatMap rec_).length ≤ l.length := fun i hi => by
    have e : l = (ws.take i).flatMap rec_ ++ ((ws.drop i).flatMap rec_ ++ rest) := by
      rw [← List.append_assoc, ← List.flatMap_append, List.take_append_drop]
      exact el
    rw [e, List.length_append]
    omega
  have dropN : ∀ i, i ≤ ws.length → ws[i]? = none → NoRec (l.drop ((ws.take i).flatMap rec_).length) := fun i hi c => by
    rw [drops i hi, List.drop_eq_nil_of_le (List.getElem?_eq_none_iff.mp c)]
    exact nr
  have dropS : ∀ i e, ws[i]? = some e → l.drop ((ws.take i).flatMap rec_).length = rec_ e ++ ((ws.drop (i + 1)).flatMap rec_ ++ rest) := fun i e c => by
    obtain ⟨lt, ei⟩ := List.getElem?_eq_some_iff.mp c
    rw [drops i (Nat.le_of_lt lt), List.drop_eq_getElem_cons lt, ei, List.flatMap_cons, List.append_assoc]
  have hereN : ∀ i (G : Hp), ws[i]? = none → Here K G ws i .non := fun i G c => by unfold Here; rw [c]
  have hereS : ∀ i e (G : Hp) t x, ws[i]? = some e → G t = some (.tup [x, .int (((ws.take i).flatMap rec_).length + (rec_ e).length : Nat)]) → VW K G (Pv.depth e) x e → Here K G ws i (.ref t) := fun i e G t x c ht hx => by
    unfold Here
    rw [c]
    refine ⟨t, x, rfl, ?_, hx⟩
    rw [ht, List.take_add_one, c, List.flatMap_append, List.length_append]
    simp only [Option.toList, List.flatMap_cons, List.flatMap_nil, List.append_nil]
  have s0 : Same H (upd H fo (.lst [])) := Same.new nfo
  have ef0 : (upd H fo (.lst [])) fo = some (.lst []) := upd_same
  generalize upd H fo (.lst []) = G0 at *
  refine ⟨fun σ' G' => ∃ v, σ' = [some (.ref a), some (.ref fo), some (.int 0), some v] ∧ Same G0 G' ∧ Here K G' ws 0 v, ?_, ?_⟩
  · refine ⟨.ref a, rfl, _, rfl, ?_⟩
    cases c : ws[0]? with
    | none => exact ⟨a, l, 0, none, rfl, s0.seq ha, hl, Nat.zero_le _, dropN 0 (Nat.zero_le _) c, fun G' s => ⟨.non, rfl, s, hereN 0 G' c⟩⟩
    | some e => exact ⟨a, l, 0, some (e, _), rfl, s0.seq ha, hl, Nat.zero_le _, dropS 0 e c, hf e (List.mem_of_getElem? c), fun t x G' s ht hx => ⟨.ref t, rfl, s, hereS 0 e G' t x c ht hx⟩⟩
  rintro σ' G1 ⟨v, rfl, s1, hv⟩
  refine ⟨fun m σ G => ∃ (i : Nat) (xs : List V) (v : V), i ≤ ws.length ∧ σ = [some (.ref a), some (.ref fo), some (.int (((ws.take i).flatMap rec_).length : Nat)), some v] ∧ Same H G ∧ G fo = some (.lst xs) ∧ AllVW K G xs (ws.take i) ∧ Here K G ws i v ∧ m = ws.length - i,
    ⟨ws.length, 0, [], v, Nat.zero_le _, rfl, s0.trans s1, s1 _ _ ef0, ⟨rfl, fun i y e hy _ => by cases hy⟩, hv, rfl⟩, ?_⟩
  rintro m σ G ⟨i, xs, v, hi, rfl, sg, ef, hxs, hv, rfl⟩
  refine ⟨_, rfl, rfl, _, rfl, ?_⟩
  have lws : ws.length ≤ 90000 := by
    have h := les ws.length (Nat.le_refl _)
    rw [List.take_length] at h
    have := flat_ge ws
    omega
  cases c : ws[i]? with
  | none =>
    unfold Here at hv
    rw [c] at hv
    subst hv
    have : ws.length ≤ i := List.getElem?_eq_none_iff.mp c
    have ei : i = ws.length := by omega
    subst ei
    rw [List.take_length] at hxs ⊢
    refine ifnD rfl ?_
    refine ⟨.ref fo, rfl, fo, _, rfl, .inl ⟨SqL.of ef, fun tv n2 => ?_⟩⟩
    generalize hN2 : L2.upd G tv _ = G2
    have s2 := new_of n2 hN2
    have e2 := at_of hN2
    try dsimp only at e2
    clear hN2
    refine ⟨_, rfl, (by show 2 ≤ sizeLine; decide), fun t n3 => ?_⟩
    generalize hN3 : L2.upd G2 t _ = G3
    have s3 := new_of n3 hN3
    have e3 := at_of hN3
    try dsimp only at e3
    clear hN3
    exact q t tv xs G3 (sg.trans (s2.trans s3)) e3 (s3 _ _ e2) (hxs.same (s2.trans s3))
  | some e =>
    have hv0 := hv
    unfold Here at hv
    rw [c] at hv
    obtain ⟨t, x, rfl, ht, hx⟩ := hv
    obtain ⟨lt, ei⟩ := List.getElem?_eq_some_iff.mp c
    refine ifnND (fun z => by cases z) ⟨fun σ' G' => ∃ m', m' < ws.length - i ∧ _, fun σ' G' w => w, ?_⟩
    refine ⟨.ref fo, rfl, .inl ⟨rfl, _, SqL.of ef⟩, .ref t, rfl, t, _, _, _, rfl, rfl, SqT.of ht, rfl, fo, xs, x, rfl, rfl, ef, by rw [hxs.1, List.length_take]; exact sq_len (by omega), ?_⟩
    have ht2 : (upd G fo (.lst (xs ++ [x]))) t = some (.tup [x, .int (((ws.take (i + 1)).flatMap rec_).length : Nat)]) := (upd_ne (fun z => by rw [z, ef] at ht; cases ht)).trans ht
    have hxs2 : AllVW K (upd G fo (.lst (xs ++ [x]))) (xs ++ [x]) (ws.take (i + 1)) := by
      rw [List.take_add_one, c]
      exact (hxs.snoc hx).put ef
    have sg2 : Same H (upd G fo (.lst (xs ++ [x]))) := same_mut sg nfo
    have ef2 : (upd G fo (.lst (xs ++ [x]))) fo = some (.lst (xs ++ [x])) := upd_same
    generalize upd G fo (.lst (xs ++ [x])) = G2 at *
    refine ⟨.ref t, rfl, t, _, _, _, rfl, rfl, SqT.of ht2, rfl, ?_⟩
    refine ⟨.ref a, rfl, _, rfl, ?_⟩
    cases c2 : ws[i + 1]? with
    | none => exact ⟨a, l, ((ws.take (i + 1)).flatMap rec_).length, none, rfl, sg2.seq ha, hl, les (i + 1) lt, dropN (i + 1) lt c2, fun G3 s3 => ⟨ws.length - (i + 1), by omega, i + 1, xs ++ [x], .non, lt, rfl, sg2.trans s3, s3 _ _ ef2, hxs2.same s3, hereN _ _ c2, rfl⟩⟩
    | some e2 => exact ⟨a, l, ((ws.take (i + 1)).flatMap rec_).length, some (e2, _), rfl, sg2.seq ha, hl, les (i + 1) lt, dropS (i + 1) e2 c2, hf e2 (List.mem_of_getElem? c2), fun t' x' G3 s3 ht' hx' => ⟨ws.length - (i + 1), by omega, i + 1, xs ++ [x], .ref t', lt, rfl, sg2.trans s3, s3 _ _ ef2, hxs2.same s3, hereS _ _ _ _ _ c2 ht' hx', rfl⟩⟩
end
end My
set_option Elab.async false
set_option linter.all false
set_option maxRecDepth 100000
set_option maxHeartbeats 4000000
/-! The law's own values -/
namespace My
open PySem PySem.Spec PyProof.Rows L2 Logs Crc
local macro_rules
  | `(tactic| nofun) => `(tactic| (apply tup_at; nofun))
local macro_rules
  | `(tactic| nofun) => `(tactic| (apply seq_at; nofun))
local macro_rules
  | `(tactic| nofun) => `(tactic| (apply pool_same; assumption; nofun))
local macro_rules
  | `(tactic| nofun) => `(tactic| (apply but_get; assumption; assumption; nofun))
local macro_rules
  | `(tactic| nofun) => `(tactic| (apply off_get; assumption; assumption; nofun))
local macro_rules
  | `(tactic| nofun) => `(tactic| (apply same_get; assumption; nofun))
local macro_rules
  | `(tactic| nofun) => `(tactic| assumption)
abbrev st_law_number_bytes : Stmt := topS 34
theorem sc_law_number_bytes : FnScope ["number", "found", "turn"] ["number"] (defScope st_law_number_bytes) := ⟨rfl, rfl, rfl, by decide +kernel, rfl, by decide +kernel, by decide +kernel⟩
abbrev st_law_bytes : Stmt := topS 35
theorem sc_law_bytes : FnScope ["value", "found", "one", "sign"] ["value"] (defScope st_law_bytes) := ⟨rfl, rfl, rfl, by decide +kernel, rfl, by decide +kernel, by decide +kernel⟩
abbrev st_law_value_drawn : Stmt := topS 39
theorem sc_law_value_drawn : FnScope ["pool", "deep", "way", "k"] ["pool", "deep"] (defScope st_law_value_drawn) := ⟨rfl, rfl, rfl, by decide +kernel, rfl, by decide +kernel, by decide +kernel⟩
def spLBytes (K : PySem.W.Frag) (d : Nat) : Sp := fun vs H Q _ => ∃ (x : V) (v : Pv.Val), vs = [x] ∧ VW K H d x v ∧ Pv.Ok v ∧ (Pv.bytes v).length ≤ 100000 ∧ MadeL H (Pv.bytes v) Q
section
variable {P : Program} {w : World} {K : PySem.W.Frag} {mg : Str → Option Value} {base : Heap}
theorem ok_lnb (T : Top K mg "_law_number_bytes" st_law_number_bytes ["number"]) (z_range : mg "range" = none) (z_int : mg "int" = none) : Def P w K mg base 1 "_law_number_bytes" ["number"] spNumBytes := by
  refine T.ok sc_law_number_bytes (fun vs H Q E h => ?_) (fun f cdv A outer s H vs Q E hr h => ?_)
  · obtain ⟨n, rfl, _⟩ := h
    rfl
  obtain ⟨n, rfl, hn, q⟩ := h
  have big : ∀ {n : Nat}, n ≤ 900000 → n ≤ sizeLine := fun h => Nat.le_trans h (by decide)
  have lnb : (Pv.nb n).length ≤ 9 := Pv.nb_length 8 n (by
    show n < 2 ^ 63
    exact hn)
  refine ⟨_, (pss_cons (ps_set (i := 1) sc_law_number_bytes.nd rfl (Or.inl rfl) (pe_lst pa_nil))
    (pss_cons (ps_for PassesOwn.never rfl (pi_range1 rfl z_range (pa_cons pe_int pa_nil)) (pg_name (i := 2) sc_law_number_bytes.nd rfl (Or.inl rfl))
    (pss_one (ps_if (pt_cmpR op_gt (pv 0) pe_int (nomark _))
      (pss_cons (ps_expr (pe_bm PySem.F.plainAttrs_list PySem.F.slot_list_append PySem.F.type_list_append mt_append (pv 1) (pa_cons (pe_op op_add pe_int (pe_op op_mod (pe_callTy call_int1 rfl z_int (by decide +kernel) (pa_cons (pv 0) pa_nil)) pe_int)) pa_nil)))
        (pss_one (ps_set (i := 0) sc_law_number_bytes.nd rfl (Or.inl rfl) (pe_op op_fdiv (pv 0) pe_int))))
      pss_nil)))
    (pss_one (ps_ret (pe_op op_cat (pv 1) (pe_lst (pa_cons (pv 0) pa_nil))))))), ?_⟩
  refine ⟨Nat.zero_le _, fun fo nfo => ?_⟩
  refine ⟨40, rfl, by decide, by decide, for_range (lo := 0) (n := 40) (fun i σ G => ∃ (cur : Nat) (acc : List Nat) (x2 : Option V), σ = [some (.int (cur : Nat)), some (.ref fo), x2] ∧ Same H G ∧ G fo = some (.lst (bv acc)) ∧ acc ++ Pv.nb cur = Pv.nb n ∧ (cur ≤ 127 ∨ cur * 128 ^ i ≤ n)) ⟨n, [], _, rfl, Same.new nfo, upd_same, rfl, .inr (by omega)⟩ ?_ ?_⟩
  · rintro i σ G hi ⟨cur, acc, x2, rfl, sg, eg, ea, hc⟩
    have la : acc.length ≤ 9 := by
      rw [← ea, List.length_append] at lnb
      omega
    refine ⟨_, rfl, _, _, rfl, rfl, _, rfl, ?_⟩
    by_cases h : cur > 127
    · have nbe := Pv.nb_big h
      rw [nbe] at ea
      refine ifD (by omega) ?_
      refine ⟨.ref fo, rfl, .inl ⟨rfl, _, SqL.of eg⟩, _, rfl, .inl ⟨_, rfl, _, _, rfl, rfl, (by show (0 : Int) < 128; decide), _, _, rfl, rfl, fo, _, _, rfl, rfl, eg, by rw [bv_len]; exact sq_len (by omega), ?_⟩⟩
      refine ⟨_, rfl, _, _, rfl, rfl, ⟨by decide, by decide⟩, cur / 128, acc ++ [128 + cur % 128], some (.int (0 + i)), ?_, same_mut sg nfo, ?_, by rw [List.append_assoc]; exact ea, ?_⟩
      · show [some (V.int ((cur : Int) / 128)), _, _] = _
        rw [show ((cur : Nat) : Int) / 128 = ((cur / 128 : Nat) : Int) by omega]
      · rw [upd_same, bv_app]
        show some (HO.lst (_ ++ [V.int (128 + (cur : Int) % 128)])) = _
        rw [show (128 : Int) + ((cur : Nat) : Int) % 128 = ((128 + cur % 128 : Nat) : Int) by omega]
        rfl
      · rcases hc with hc | hc
        · omega
        · refine .inr (Nat.le_trans ?_ hc)
          rw [Nat.pow_succ, Nat.mul_comm (128 ^ i), ← Nat.mul_assoc]
          exact Nat.mul_le_mul_right _ (Nat.div_mul_le_self cur 128)
    · exact ifND (by omega) ⟨cur, acc, _, rfl, sg, eg, ea, .inl (by omega)⟩
  · rintro σ G ⟨cur, acc, x2, rfl, sg, eg, ea, hc⟩
    have h : ¬ cur > 127 := by
      rcases hc with hc | hc
      · omega
      · intro h
        have : 1 * 128 ^ 40 ≤ cur * 128 ^ 40 := Nat.mul_le_mul_right _ (by omega)
        have e : (1 : Nat) * 128 ^ 40 ≥ 2 ^ 63 := by decide
        omega
    rw [Pv.nb_small h] at ea
    have la : acc.length ≤ 9 := by
      rw [← ea, List.length_append] at lnb
      omega
    refine ⟨.ref fo, rfl, _, rfl, (by show 1 ≤ sizeLine; decide), fun o no => ?_⟩
    refine ⟨fo, o, _, _, rfl, rfl, (Same.new no) _ _ eg, upd_same, big (by rw [bv_len]; show acc.length + 1 ≤ _; omega), fun p np => ?_⟩
    refine q p _ (sg.trans ((Same.new no).trans (Same.new np))) ((sg.trans (Same.new no)).free np) ?_
    rw [upd_same, ← ea, bv_app]
    rfl
theorem ok_lbytes0 (T : Top K mg "_law_bytes" st_law_bytes ["value"]) : Def P w K mg base 1 "_law_bytes" ["value"] (spLBytes K 0) :=
  T.def fun f fd F => ⟨fun vs H Q E h => by
    obtain ⟨x, v, _, h, _⟩ := h
    exact h.elim, fun A outer s H args us vs Q E _ _ _ _ h => by
    obtain ⟨x, v, _, h, _⟩ := h
    exact h.elim⟩
theorem ok_lbytes_up (T : Top K mg "_law_bytes" st_law_bytes ["value"]) (D_law_number_bytes : Def P w K mg base 1 "_law_number_bytes" ["number"] spNumBytes) (z_isinstance : mg "isinstance" = none) (z_tuple : mg "tuple" = none) (z_str : mg "str" = none) (z_len : mg "len" = none) {d : Nat} (D_law_bytes : Def P w K mg base (d + 1) "_law_bytes" ["value"] (spLBytes K d)) : Def P w K mg base (d + 2) "_law_bytes" ["value"] (spLBytes K (d + 1)) := by
  refine T.ok sc_law_bytes (fun vs H Q E h => ?_) (fun f cdv A outer s H vs Q E hr h => ?_)
  · obtain ⟨x, v, rfl, _⟩ := h
    rfl
  obtain ⟨x, v, rfl, hx, hok, hl, q⟩ := h
  have big : ∀ {n : Nat}, n ≤ 900000 → n ≤ sizeLine := fun h => Nat.le_trans h (by decide)
  refine ⟨_, (pss_cons (ps_if (pt_val (pe_callB (isiQ K) rfl z_isinstance (by decide +kernel) (pa_cons (pv 0) (pa_cons (pe_bltn (v := .ty "tuple") rfl z_tuple (by decide +kernel) rfl) pa_nil))))
    (pss_cons (ps_set (i := 1) sc_law_bytes.nd rfl (Or.inl rfl) (pe_op op_cat (pe_lst (pa_cons pe_int pa_nil)) (pe_def D_law_number_bytes (hr.mono (by omega)) rfl (pa_cons (pe_callB (lenQ K) rfl z_len (by decide +kernel) (pa_cons (pv 0) pa_nil)) pa_nil))))
      (pss_cons (ps_for PassesOwn.never rfl (pi_tup (pv 0)) (pg_name (i := 2) sc_law_bytes.nd rfl (Or.inl rfl))
      (pss_one (ps_set (i := 1) sc_law_bytes.nd rfl (Or.inl rfl) (pe_op op_cat (pv 1) (pe_def D_law_bytes hr rfl (pa_cons (pv 2) pa_nil))))))
      (pss_one (ps_ret (pv 1)))))
    pss_nil)
    (pss_cons (ps_if (pt_val (pe_callB (isiQ K) rfl z_isinstance (by decide +kernel) (pa_cons (pv 0) (pa_cons (pe_bltn (v := .ty "str") rfl z_str (by decide +kernel) rfl) pa_nil))))
    (pss_one (ps_ret (pe_op op_cat (pe_op op_cat (pe_lst (pa_cons pe_int pa_nil)) (pe_def D_law_number_bytes (hr.mono (by omega)) rfl (pa_cons (pe_callB call_len_str rfl z_len (by decide +kernel) (pa_cons (pv 0) pa_nil)) pa_nil))) (pe_lc (own := [("sign", 3)]) (g := gName 3) (tt := tYes) rfl sc_law_bytes.nd (pi_str (pv 0)) (blkOk_by (own := [("sign", 3)]) (N := ["value", "found", "one", "sign"]) (sc := defScope st_law_bytes) (by decide +kernel)) (fun _ _ _ _ _ => (pg_name (i := 3) sc_law_bytes.nd rfl (Or.inl rfl))) (fun _ _ _ _ _ => pts_nil) (fun _ _ _ _ _ => (pe_m1 PySem.F.slot_str_index PySem.F.type_str_index mt_sindex pe_str (pv 3)))))))
    pss_nil)
    (pss_one (ps_ret (pe_op op_cat (pe_lst (pa_cons pe_int pa_nil)) (pe_def D_law_number_bytes (hr.mono (by omega)) rfl (pa_cons (pe_ifExp (pt_cmpR op_ge (pv 0) pe_int (nomark _)) (pe_op op_mul pe_int (pv 0)) (pe_op op_sub (pe_op op_mul (pe_un un_neg pe_int) (pv 0)) pe_int)) pa_nil))))))), ?_⟩
  have lna : ∀ k : Nat, k < 2 ^ 63 → (Pv.nb k).length ≤ 9 := fun k h => Pv.nb_length 8 k h
  cases v with
  | tup l =>
    obtain ⟨ta, ts, rfl, hts, lts, kts⟩ := hx
    have lbe : (Pv.bytes (.tup l)).length = 1 + ((Pv.nb l.length).length + (Pv.bytesL l).length) := by rw [Pv.bytes, List.length_cons, List.length_append]; omega
    have ok1 := hok.1
    have lz := lna l.length (by omega)
    refine ⟨_, rfl, _, _, _, _, true, rfl, .ty _, (tyx_tuple hts), kit_ty (by decide +kernel), _, rfl, iteT ?_⟩
    refine ⟨by show 1 ≤ sizeLine; decide, fun o n1 => ?_⟩
    generalize hN1 : L2.upd H o _ = G1
    have s1 := new_of n1 hN1
    have e1 := at_of hN1
    try dsimp only at e1
    clear hN1
    refine ⟨.ref ta, rfl, ta, ts, rfl, .inr (sqT_same s1 hts), l.length, (by rw [lts]; rfl), by omega, fun p G2 s2 n2 e2 => ⟨o, p, _, _, rfl, rfl, s2 _ _ e1, e2, big (by rw [bv_len]; show 1 + _ ≤ _; omega), fun fo n3 => ?_⟩⟩
    generalize hN3 : L2.upd G2 fo _ = G3
    have s3 := new_of n3 hN3
    have e3 := at_of hN3
    try dsimp only at e3
    clear hN3
    have s13 := (s1.trans s2).trans s3
    have e3 : G3 fo = some (.lst (bv (2 :: Pv.nb l.length ++ Pv.bytesL (l.take 0)))) := by
      rw [e3, List.take_zero, Pv.bytesL, List.append_nil]
      rfl
    have split : ∀ i, Pv.bytesL l = Pv.bytesL (l.take i) ++ Pv.bytesL (l.drop i) := fun i => by rw [← Pv.bytesL_append, List.take_append_drop]
    refine ⟨.ref ta, rfl, ta, rfl, ⟨_, sqT_same s13 hts⟩, for_tup (K := K) (a := ta) (xs := ts) (fun i σ G => ∃ (fo : Addr) (x2 x3 : Option V), σ = [some (.ref ta), some (.ref fo), x2, x3] ∧ Same H G ∧ H fo = none ∧ G fo = some (.lst (bv (2 :: Pv.nb l.length ++ Pv.bytesL (l.take i))))) ⟨fo, _, _, rfl, s13, (s1.trans s2).free n3, e3⟩ (fun _ _ _ _ ⟨_, _, _, _, s, _⟩ => sqT_same s hts) ?_ ?_⟩
    · rintro i y σ G hy ⟨fo, x2, x3, rfl, sg, nf, ef⟩
      have ilt := (List.getElem?_eq_some_iff.mp hy).1
      obtain ⟨e, he⟩ : ∃ e, l[i]? = some e := ⟨_, List.getElem?_eq_getElem (by omega)⟩
      obtain ⟨ilt2, ee⟩ := List.getElem?_eq_some_iff.mp he
      have sp := congrArg List.length (split i)
      rw [List.length_append, List.drop_eq_getElem_cons ilt2, ee, Pv.bytesL, List.length_append] at sp
      refine ⟨.ref fo, rfl, _, rfl, y, e, rfl, (kts i y e hy he).same sg, Pv.OkL_mem hok.2 (List.mem_of_getElem? he), by omega, fun p G4 s4 n4 e4 => ?_⟩
      refine ⟨fo, p, _, _, rfl, rfl, s4 _ _ ef, e4, big (by rw [bv_len, bv_len, List.length_append, List.length_cons]; omega), fun fo2 n5 => ?_⟩
      generalize hN5 : L2.upd G4 fo2 _ = G5
      have s5 := new_of n5 hN5
      have e5 := at_of hN5
      try dsimp only at e5
      clear hN5
      refine ⟨fo2, _, _, rfl, (sg.trans s4).trans s5, (sg.trans s4).free n5, ?_⟩
      rw [e5, ← bv_app, List.take_add_one, he, Pv.bytesL_append, List.append_assoc]
      simp [Pv.bytesL]
    · rintro σ G ⟨fo, x2, x3, rfl, sg, nf, ef⟩
      refine ⟨_, rfl, q fo G sg nf ?_⟩
      rw [ef, Pv.bytes, List.take_of_length_le (by rw [lts]; exact Nat.le_refl _)]
      rfl
  | str ks =>
    obtain rfl : x = .str (Pv.txt ks) := hx
    have lbe : (Pv.bytes (.str ks)).length = 1 + ((Pv.nb ks.length).length + ks.length) := by rw [Pv.bytes, List.length_cons, List.length_append]; omega
    have ok1 := hok.1
    have lz := lna ks.length (by omega)
    refine ⟨_, rfl, _, _, _, _, false, rfl, .ty _, .base (.str _), kit_ty (by decide +kernel), _, rfl, iteF ?_⟩
    refine ⟨_, rfl, _, _, _, _, true, rfl, .ty _, .base (.str _), kit_ty (by decide +kernel), _, rfl, iteT ?_⟩
    refine ⟨by show 1 ≤ sizeLine; decide, fun o n1 => ?_⟩
    generalize hN1 : L2.upd H o _ = G1
    have s1 := new_of n1 hN1
    have e1 := at_of hN1
    try dsimp only at e1
    clear hN1
    refine ⟨_, rfl, Pv.txt ks, rfl, big (by show (Pv.txt ks).cps.size ≤ _; rw [Pv.txt_size]; omega), ks.length, (by show [V.int ((Pv.txt ks).cps.size : Int)] ++ [] = _; rw [Pv.txt_size]; rfl), by omega, fun p G2 s2 n2 e2 => ⟨o, p, _, _, rfl, rfl, s2 _ _ e1, e2, big (by rw [bv_len]; show 1 + _ ≤ _; omega), fun c n3 => ?_⟩⟩
    generalize hN3 : L2.upd G2 c _ = G3
    have s3 := new_of n3 hN3
    have e3 := at_of hN3
    try dsimp only at e3
    clear hN3
    refine ⟨_, rfl, _, rfl, fun D nD => lc_str (fun i G => Same G3 G ∧ G D = some (.lst (bv (ks.take i)))) ⟨Same.new nD, upd_same⟩ ?_ ?_⟩
    · rintro i ch G hc ⟨s6, ed⟩
      obtain ⟨k, hk, ek⟩ := Pv.txt_get hc
      rw [ek]
      refine ⟨rfl, ?_⟩
      dsimp only [tYes]
      refine iteT ⟨⟨_, rfl⟩, _, rfl, _, _, k, [], rfl, rfl, Pv.sign_at k (hok.2 k (List.mem_of_getElem? hk)), _, ed, by rw [bv_len, List.length_take]; exact sq_len (by omega), same_mut s6 nD, ?_⟩
      rw [upd_same, List.take_add_one, hk, bv_app]
      rfl
    · rintro G6 ⟨s6, ed⟩
      rw [Pv.txt_size, List.take_length] at ed
      refine ⟨c, D, _, _, rfl, rfl, s6 _ _ e3, ed, big (by rw [List.length_append, bv_len, bv_len]; show 1 + _ + _ ≤ _; omega), fun r n7 => ?_⟩
      have s16 := ((s1.trans s2).trans s3).trans s6
      refine q r _ (s16.trans (Same.new n7)) (s16.free n7) ?_
      rw [upd_same, Pv.bytes, List.append_assoc, ← bv_app]
      rfl
  | int i =>
    obtain rfl : x = .int i := hx
    have lbe : (Pv.bytes (.int i)).length = 1 + (Pv.nb (Pv.zig i)).length := by rw [Pv.bytes, List.length_cons]; omega
    have zl := Pv.zig_lt hok
    have lz := lna (Pv.zig i) (by omega)
    refine ⟨_, rfl, _, _, _, _, false, rfl, .ty _, .base (.int i), kit_ty (by decide +kernel), _, rfl, iteF ?_⟩
    refine ⟨_, rfl, _, _, _, _, false, rfl, .ty _, .base (.int i), kit_ty (by decide +kernel), _, rfl, iteF ?_⟩
    refine ⟨by show 1 ≤ sizeLine; decide, fun o n1 => ?_⟩
    generalize hN1 : L2.upd H o _ = G1
    have s1 := new_of n1 hN1
    have e1 := at_of hN1
    try dsimp only at e1
    clear hN1
    have f1 : [V.int 0].length + (bv (Pv.nb (Pv.zig i))).length ≤ sizeLine := big (by
      rw [bv_len]
      show 1 + _ ≤ _
      omega)
    have hz : ((Pv.zig i : Nat) : Int) = if 0 ≤ i then 2 * i else -2 * i - 1 := by
      unfold Pv.zig
      split <;> omega
    have fin : ∀ (G2 : Hp) (c : Addr), Same G1 G2 → G2 c = none → Q (.ref c) (upd G2 c (.lst ([V.int 0] ++ bv (Pv.nb (Pv.zig i))))) := fun G2 c s2 n3 => by
      refine q c _ ((s1.trans s2).trans (Same.new n3)) ((s1.trans s2).free n3) ?_
      rw [upd_same, Pv.bytes]
      rfl
    by_cases h : 0 ≤ i
    · rw [if_pos h] at hz
      refine ⟨_, rfl, _, _, rfl, rfl, _, rfl, ifD h ?_⟩
      exact ⟨_, rfl, _, _, rfl, rfl, .inl ⟨by decide, by decide⟩, Pv.zig i, (by rw [hz]; rfl), by omega, fun p G2 s2 _ e2 => ⟨o, p, _, _, rfl, rfl, s2 _ _ e1, e2, f1, fun c n3 => fin G2 c s2 n3⟩⟩
    · rw [if_neg h] at hz
      refine ⟨_, rfl, _, _, rfl, rfl, _, rfl, ifND h ?_⟩
      exact ⟨_, rfl, _, rfl, _, _, rfl, rfl, .inl ⟨by decide, by decide⟩, _, _, rfl, rfl, Pv.zig i, (by rw [hz]; rfl), by omega, fun p G2 s2 _ e2 => ⟨o, p, _, _, rfl, rfl, s2 _ _ e1, e2, f1, fun c n3 => fin G2 c s2 n3⟩⟩
end
end My
set_option Elab.async false
set_option linter.all false
set_option maxRecDepth 100000
set_option maxHeartbeats 4000000
/-! Values drawn -/
namespace My
open PySem PySem.Spec PyProof.Rows L2 Logs Crc
local macro_rules
  | `(tactic| nofun) => `(tactic| (apply tup_at; nofun))
local macro_rules
  | `(tactic| nofun) => `(tactic| (apply seq_at; nofun))
local macro_rules
  | `(tactic| nofun) => `(tactic| (apply pool_same; assumption; nofun))
local macro_rules
  | `(tactic| nofun) => `(tactic| (apply but_get; assumption; assumption; nofun))
local macro_rules
  | `(tactic| nofun) => `(tactic| (apply off_get; assumption; assumption; nofun))
local macro_rules
  | `(tactic| nofun) => `(tactic| (apply same_get; assumption; nofun))
local macro_rules
  | `(tactic| nofun) => `(tactic| assumption)
def bnd : Nat → Nat
  | 0 => 0
  | 1 => 80
  | d + 1 => 3 * bnd d + 10
structure Small (d : Nat) (v : Pv.Val) : Prop where
  ok : Pv.Ok v
  len : (Pv.bytes v).length ≤ bnd d
  size : Pv.size v ≤ bnd d
  dep : Pv.depth v ≤ d
def spDrawn (K : PySem.W.Frag) (d : Nat) : Sp := fun vs H Q _ => ∃ (p a : Addr) (deep : Nat), vs = [.ref p, .int (deep : Nat)] ∧ 0 < d ∧ deep + d = 4 ∧ PoolAt K H p a ∧
  ∀ x v H', But p H H' → PoolAt K H' p a → VW K H' (Pv.depth v) x v → Small d v → Q x H'
theorem VW.but {K : PySem.W.Frag} {H H' : Hp} {p a : Addr} (b : But p H H') (P : PoolAt K H p a) {n : Nat} {x : V} {v : Pv.Val} (h : VW K H n x v) : VW K H' n x v := h.mono fun c xs q => by
  obtain ⟨_, _, _, e⟩ := P.ex
  rcases q with q | q
  · exact b.tup (fun z => rd_lst e _ (z ▸ q)) (.inl q)
  · exact .inr q
theorem bnd_ge (d : Nat) : 80 ≤ bnd (d + 1) := by
  induction d with
  | zero => exact Nat.le_refl _
  | succ d ih => rw [bnd]; omega; exact fun z => by cases z
theorem sums_le {b : Nat} : ∀ {ws : List Pv.Val}, (∀ w ∈ ws, (Pv.bytes w).length ≤ b ∧ Pv.size w ≤ b) → (Pv.bytesL ws).length ≤ ws.length * b ∧ Pv.sizeL ws ≤ ws.length * b
  | [], _ => by simp [Pv.bytesL, Pv.sizeL]
  | w :: ws, h => by
    have h1 := h w (List.mem_cons_self ..)
    have h2 := sums_le fun x hx => h x (List.mem_cons_of_mem _ hx)
    rw [Pv.bytesL, Pv.sizeL, List.length_append, List.length_cons, Nat.add_mul]
    omega
theorem okL_of : ∀ {ws : List Pv.Val}, (∀ w ∈ ws, Pv.Ok w) → Pv.OkL ws
  | [], _ => trivial
  | w :: ws, h => ⟨h w (List.mem_cons_self ..), okL_of fun x hx => h x (List.mem_cons_of_mem _ hx)⟩
theorem depL_of {d : Nat} : ∀ {ws : List Pv.Val}, (∀ w ∈ ws, Pv.depth w ≤ d) → Pv.depthL ws ≤ d
  | [], _ => Nat.zero_le _
  | w :: ws, h => by
    have h1 := h w (List.mem_cons_self ..)
    have h2 := depL_of fun x hx => h x (List.mem_cons_of_mem _ hx)
    rw [Pv.depthL]
    omega
theorem letter : ∀ x : V, x ∈ ([.str "a", .str "Z", .str " ", .str "7"] : List V) → ∃ k, k < 73 ∧ x = .str (Pv.sign k) := fun x hx => by
  have e : ([.str "a", .str "Z", .str " ", .str "7"] : List V) = [2, 53, 1, 61].map fun k => V.str (Pv.sign k) := by
    show [V.str (Str.ofString "a"), V.str (Str.ofString "Z"), V.str (Str.ofString " "), V.str (Str.ofString "7")] = _
    rw [show Str.ofString "a" = Pv.sign 2 by decide +kernel, show Str.ofString "Z" = Pv.sign 53 by decide +kernel, show Str.ofString " " = Pv.sign 1 by decide +kernel, show Str.ofString "7" = Pv.sign 61 by decide +kernel]
    rfl
  rw [e] at hx
  obtain ⟨k, hk, rfl⟩ := List.mem_map.mp hx
  refine ⟨k, ?_, rfl⟩
  simp only [List.mem_cons, List.not_mem_nil, or_false] at hk
  omega
section
variable {P : Program} {w : World} {K : PySem.W.Frag} {mg : Str → Option Value} {base : Heap}
theorem ok_drawn0 (T : Top K mg "_law_value_drawn" st_law_value_drawn ["pool", "deep"]) : Def P w K mg base 4 "_law_value_drawn" ["pool", "deep"] (spDrawn K 0) :=
  T.def fun f fd F => ⟨fun vs H Q E h => by
    obtain ⟨p, a, deep, _, h, _⟩ := h
    exact absurd h (Nat.lt_irrefl 0), fun A outer s H args us vs Q E _ _ _ _ h => by
    obtain ⟨p, a, deep, _, h, _⟩ := h
    exact absurd h (Nat.lt_irrefl 0)⟩
theorem ok_drawn_up (T : Top K mg "_law_value_drawn" st_law_value_drawn ["pool", "deep"]) (D_law_draw : Def P w K mg base 3 "_law_draw" ["pool", "limit"] (spDraw K)) (D_law_next : Def P w K mg base 3 "_law_next" ["pool"] (spNext K)) (D_law_pick : Def P w K mg base 4 "_law_pick" ["pool", "options"] (spPick K)) (z_range : mg "range" = none) (z_tuple : mg "tuple" = none) {d : Nat} (D_law_value_drawn : Def P w K mg base (d + 4) "_law_value_drawn" ["pool", "deep"] (spDrawn K d)) : Def P w K mg base (d + 5) "_law_value_drawn" ["pool", "deep"] (spDrawn K (d + 1)) := by
  refine T.ok sc_law_value_drawn (fun vs H Q E h => ?_) (fun f cdv A outer s H vs Q E hr h => ?_)
  · obtain ⟨p, a, deep, rfl, _⟩ := h
    rfl
  obtain ⟨p, a, deep, rfl, _, hd, hP, q⟩ := h
  refine ⟨_, (Evl.pss_cut (ps_set (i := 2) sc_law_value_drawn.nd rfl (Or.inl rfl) (pe_def D_law_draw (hr.mono (by omega)) rfl (pa_cons (pv 0) (pa_cons (pe_ifExp (pt_cmpR op_lt (pv 1) pe_int (nomark _)) pe_int pe_int) pa_nil))))
    (pss_cons (ps_if (pt_cmpR op_eq (pv 2) pe_int (nomark _))
    (pss_one (ps_ret (pe_op op_sub (pe_def D_law_draw (hr.mono (by omega)) rfl (pa_cons (pv 0) (pa_cons pe_int pa_nil))) pe_int)))
    pss_nil)
    (pss_cons (ps_if (pt_cmpR op_lt (pv 2) pe_int (nomark _))
    (pss_one (ps_ret (pe_bm PySem.F.plainAttrs_str PySem.F.slot_str_join PySem.F.type_str_join mt_join pe_str (pa_cons (pe_lc (own := [("k", 3)]) (g := gName 3) (tt := tYes) rfl sc_law_value_drawn.nd (pi_range1 rfl z_range (pa_cons (pe_def D_law_draw (hr.mono (by omega)) rfl (pa_cons (pv 0) (pa_cons (pe_def D_law_pick (hr.mono (by omega)) rfl (pa_cons (pv 0) (pa_cons (pe_lst (pa_cons pe_int (pa_cons pe_int pa_nil))) pa_nil))) pa_nil))) pa_nil)) (blkOk_by (own := [("k", 3)]) (N := ["pool", "deep", "way", "k"]) (sc := defScope st_law_value_drawn) (by decide +kernel)) (fun _ _ _ _ _ => (pg_name (i := 3) sc_law_value_drawn.nd rfl (Or.inl rfl))) (fun _ _ _ _ _ => pts_nil) (fun _ _ _ _ _ => (pe_def D_law_pick (hr.mono (by omega)) rfl (pa_cons (pv 0) (pa_cons (pe_lst (pa_cons pe_str (pa_cons pe_str (pa_cons pe_str (pa_cons pe_str pa_nil))))) pa_nil))))) pa_nil))))
    pss_nil)
    (pss_cons (ps_expr (pe_def D_law_next (hr.mono (by omega)) rfl (pa_cons (pv 0) pa_nil)))
    (pss_one (ps_ret (pe_callTy (tupQ K) rfl z_tuple (by decide +kernel) (pa_cons (pe_lc (own := [("k", 3)]) (g := gName 3) (tt := tYes) rfl sc_law_value_drawn.nd (pi_range1 rfl z_range (pa_cons (pe_def D_law_draw (hr.mono (by omega)) rfl (pa_cons (pv 0) (pa_cons pe_int pa_nil))) pa_nil)) (blkOk_by (own := [("k", 3)]) (N := ["pool", "deep", "way", "k"]) (sc := defScope st_law_value_drawn) (by decide +kernel)) (fun _ _ _ _ _ => (pg_name (i := 3) sc_law_value_drawn.nd rfl (Or.inl rfl))) (fun _ _ _ _ _ => pts_nil) (fun _ _ _ _ _ => (pe_def D_law_value_drawn hr rfl (pa_cons (pv 0) (pa_cons (pe_op op_add (pv 1) pe_int) pa_nil))))) pa_nil)))))))), ?_⟩
  have bg := bnd_ge d
  refine ⟨fun σ' G => ∃ way : Int, σ' = [some (.ref p), some (.int (deep : Nat)), some (.int way), none] ∧ But p H G ∧ PoolAt K G p a ∧ 0 ≤ way ∧ (3 ≤ way → deep < 3), ?_, ?_⟩
  · refine ⟨.ref p, rfl, _, rfl, _, _, rfl, rfl, _, rfl, ite2 (fun c => ?_) (fun c => ?_)⟩
    · have := of_decide_eq_true c
      exact ⟨p, a, 5, rfl, hP, by decide, by decide, fun v G v0 v1 o P' => ⟨v, rfl, o.but, P', v0, fun _ => by omega⟩⟩
    · exact ⟨p, a, 3, rfl, hP, by decide, by decide, fun v G v0 v1 o P' => ⟨v, rfl, o.but, P', v0, fun _ => by omega⟩⟩
  rintro σ' G ⟨way, rfl, bt, PG, w0, w3⟩
  refine ⟨_, rfl, rfl, _, rfl, ite2 (fun _ => ?_) (fun _ => ?_)⟩
  · refine ⟨.ref p, rfl, p, a, 100000, rfl, PG, by decide, by decide, fun v G1 v0 v1 o1 P1 => ⟨_, _, rfl, rfl, ?_⟩⟩
    have hb : (Pv.bytes (.int (v - 50000))).length ≤ 10 := by
      rw [Pv.bytes, List.length_cons]
      have := Pv.nb_length 8 (Pv.zig (v - 50000)) (Nat.lt_trans (Pv.zig_lt (by omega)) (by decide))
      omega
    exact q _ (.int (v - 50000)) G1 (bt.trans o1.but) P1 (by rw [Pv.depth]; exact rfl) ⟨⟨by omega, by omega⟩, by omega, by rw [Pv.size]; omega, by rw [Pv.depth]; omega⟩
  refine ⟨_, rfl, _, _, rfl, rfl, _, rfl, ite2 (fun _ => ?_) (fun c3 => ?_)⟩
  · -- a text
    refine ⟨rfl, .ref p, rfl, .ref p, rfl, (by show 2 ≤ sizeLine; decide), fun o no => ⟨p, a, o, [.int 4, .int 70], rfl, PG.new no, SqL.of upd_same, PG.ne no, by decide, by decide, fun x G1 hx o1 P1 => ?_⟩⟩
    obtain ⟨lim, rfl, hlim⟩ : ∃ lim : Int, x = .int lim ∧ 0 < lim ∧ lim ≤ 70 := by
      rcases List.mem_cons.mp hx with e | e
      · exact ⟨4, e, by decide, by decide⟩
      · exact ⟨70, List.mem_singleton.mp e, by decide, by decide⟩
    have bt1 := (bt.trans (Same.but (Same.new (o := .lst [.int 4, .int 70]) no))).trans o1.but
    refine ⟨p, a, lim, rfl, P1, hlim.1, by omega, fun v G2 v0 v1 o2 P2 => ⟨v, rfl, by omega, by omega, fun D nD => lc_range (lo := 0) (n := v.toNat) (fun i G => ∃ ks : List Nat, ks.length = i ∧ (∀ k ∈ ks, k < 73) ∧ But p H G ∧ PoolAt K G p a ∧ G D = some (.lst ((ks.map Pv.sign).map V.str))) ⟨[], rfl, (fun k hk => by cases hk), (bt1.trans o2.but).trans (Same.but (Same.new nD)), P2.new nD, upd_same⟩ ?_ ?_⟩⟩
    · rintro i G3 hi ⟨ks, lk, hk, bt3, P3, ed⟩
      have nDp : D ≠ p := P2.ne nD
      refine ⟨rfl, ?_⟩
      dsimp only [tYes]
      refine iteT ⟨.ref p, rfl, (by show 4 ≤ sizeLine; decide), fun o4 n4 => ⟨p, a, o4, _, rfl, P3.new n4, SqL.of upd_same, P3.ne n4, by decide, by decide, fun x G4 hx o5 P4 => ?_⟩⟩
      obtain ⟨k, k73, rfl⟩ := letter x hx
      have ed4 : G4 D = some (.lst ((ks.map Pv.sign).map V.str)) := o5.get nDp ((upd_ne (ne_of_none ed n4)).trans ed)
      have nDH : H D = none := But.free (bt1.trans o2.but) P2 nD
      refine ⟨_, ed4, by rw [List.length_map, List.length_map]; exact sq_len (by omega), ks ++ [k], by rw [List.length_append, lk]; rfl, fun j hj => ?_, ((bt3.trans (Same.but (Same.new n4))).trans o5.but).mut nDH, P4.put nDp ed4, by rw [upd_same, List.map_append, List.map_append]; rfl⟩
      rcases List.mem_append.mp hj with hj | hj
      · exact hk j hj
      · rw [List.mem_singleton.mp hj]
        exact k73
    · rintro G3 ⟨ks, lk, hk, bt3, P3, ed⟩
      have sum := signs_sum ks
      refine ⟨_, D, ks.map Pv.sign, rfl, rfl, .inl (SqL.of ed), ?_, ?_⟩
      · rw [sum, show (Str.ofString "").length = 0 from rfl]
        omega
      · rw [join_signs]
        have hb : (Pv.bytes (.str ks)).length ≤ 80 := by
          rw [Pv.bytes, List.length_cons, List.length_append]
          have := Pv.nb_length 1 ks.length (Nat.lt_of_lt_of_le (show ks.length < 128 by omega) (by decide))
          omega
        exact q _ (.str ks) G3 bt3 P3 (by rw [Pv.depth]; exact rfl) ⟨⟨by omega, hk⟩, by omega, by rw [Pv.size]; omega, by rw [Pv.depth]; omega⟩
  · have w33 : 3 ≤ way := by
      have : ¬ way < 3 := fun z => c3 (decide_eq_true z)
      omega
    have dl := w3 w33
    obtain ⟨d', rfl⟩ : ∃ d', d = d' + 1 := ⟨d - 1, by omega⟩
    refine ⟨.ref p, rfl, p, a, rfl, PG, fun G1 o1 P1 => ?_⟩
    have bt1 := bt.trans o1.but
    refine ⟨.ref p, rfl, p, a, 4, rfl, P1, by decide, by decide, fun v G2 v0 v1 o2 P2 => ⟨v, rfl, by omega, by omega, fun D nD => lc_range (lo := 0) (n := v.toNat) (fun i G => ∃ (ws : List Pv.Val) (xs : List V), ws.length = i ∧ AllVW K G xs ws ∧ (∀ w ∈ ws, Small (d' + 1) w) ∧ But p H G ∧ PoolAt K G p a ∧ G D = some (.lst xs)) ⟨[], [], rfl, ⟨rfl, fun i y e hy _ => by cases hy⟩, (fun k hk => by cases hk), (bt1.trans o2.but).trans (Same.but (Same.new nD)), P2.new nD, upd_same⟩ ?_ ?_⟩⟩
    · rintro i G3 hi ⟨ws, xs, lw, hx, sm, bt3, P3, ed⟩
      have nDp : D ≠ p := P2.ne nD
      have nDH : H D = none := But.free (bt1.trans o2.but) P2 nD
      refine ⟨rfl, ?_⟩
      dsimp only [tYes]
      refine iteT ⟨.ref p, rfl, _, rfl, _, _, rfl, rfl, p, a, deep + 1, rfl, by omega, by omega, P3, fun x u G4 bt4 P4 hu su => ?_⟩
      have ed4 := bt4.get nDp ed
      have hx4 : AllVW K G4 xs ws := ⟨hx.1, fun j y e hy he => (hx.2 j y e hy he).but bt4 P3⟩
      refine ⟨_, ed4, by rw [hx.1]; exact sq_len (by omega), ws ++ [u], xs ++ [x], by rw [List.length_append, lw]; rfl, (hx4.snoc hu).put ed4, fun z hz => ?_, (bt3.trans bt4).mut nDH, P4.put nDp ed4, upd_same⟩
      rcases List.mem_append.mp hz with hz | hz
      · exact sm z hz
      · rw [List.mem_singleton.mp hz]
        exact su
    · rintro G3 ⟨ws, xs, lw, hx, sm, bt3, P3, ed⟩
      have l3 : ws.length ≤ 3 := by omega
      obtain ⟨sb, ss⟩ := sums_le (b := bnd (d' + 1)) (ws := ws) fun z hz => ⟨(sm z hz).len, (sm z hz).size⟩
      have mul : ws.length * bnd (d' + 1) ≤ 3 * bnd (d' + 1) := Nat.mul_le_mul_right _ l3
      have eb : bnd (d' + 1 + 1) = 3 * bnd (d' + 1) + 10 := by rw [bnd]; exact fun z => by cases z
      have okl : Pv.OkL ws := okL_of fun z hz => (sm z hz).ok
      have dpl : Pv.depthL ws ≤ d' + 1 := depL_of fun z hz => (sm z hz).dep
      refine ⟨D, xs, rfl, .inl ⟨SqL.of ed, fun l nl => ?_⟩⟩
      have hb : (Pv.bytes (.tup ws)).length ≤ 2 + 3 * bnd (d' + 1) := by
        rw [Pv.bytes, List.length_cons, List.length_append]
        have := Pv.nb_length 0 ws.length (Nat.lt_of_lt_of_le (show ws.length < 128 by omega) (by decide))
        omega
      refine q _ (.tup ws) _ (bt3.trans (Same.but (Same.new nl))) (P3.new nl) ?_ ⟨⟨by omega, okl⟩, by omega, by rw [Pv.size]; omega, by rw [Pv.depth]; omega⟩
      rw [Pv.depth, Nat.add_comm]
      exact ⟨l, xs, rfl, SqT.of upd_same, hx.1, fun i y e hy he => ((hx.2 i y e hy he).same (Same.new nl)).up (Pv.depthL_mem (List.mem_of_getElem? he))⟩
end
end My
set_option Elab.async false
set_option linter.all false
set_option maxRecDepth 100000
set_option maxHeartbeats 4000000
/-! The law of the logs -/
namespace My
open PySem PySem.Spec PyProof.Rows L2 Logs Crc
local macro_rules
  | `(tactic| nofun) => `(tactic| (apply tup_at; nofun))
local macro_rules
  | `(tactic| nofun) => `(tactic| (apply seq_at; nofun))
local macro_rules
  | `(tactic| nofun) => `(tactic| (apply pool_same; assumption; nofun))
local macro_rules
  | `(tactic| nofun) => `(tactic| (apply but_get; assumption; assumption; nofun))
local macro_rules
  | `(tactic| nofun) => `(tactic| (apply off_get; assumption; assumption; nofun))
local macro_rules
  | `(tactic| nofun) => `(tactic| (apply same_get; assumption; nofun))
local macro_rules
  | `(tactic| nofun) => `(tactic| assumption)
abbrev st_law : Stmt := topS 41
theorem sc_law : FnScope ["script", "pool", "values", "k", "records", "value", "whole", "places", "one", "turn", "cut", "many", "place", "handed", "more", "first", "bent", "wrong", "at"] ["script"] (defScope st_law) := ⟨rfl, rfl, rfl, by decide +kernel, rfl, by decide +kernel, by decide +kernel⟩
def spLaw (K : PySem.W.Frag) : Sp := fun vs H Q _ => ∃ (a : Addr) (ns : List Int), vs = [.ref a] ∧ Scr K H a ns ∧ ns.length ≤ 63 ∧ ∀ H', Q (.bl true) H'
theorem AllVW.but {K : PySem.W.Frag} {G G' : Hp} {p a : Addr} {xs : List V} {ws : List Pv.Val} (h : AllVW K G xs ws) (b : But p G G') (P : PoolAt K G p a) : AllVW K G' xs ws := ⟨h.1, fun i y e hy he => (h.2 i y e hy he).but b P⟩
theorem Small.fine {d : Nat} {v : Pv.Val} (h : Small d v) (hd : d ≤ 4) : Fine v := by
  have b : bnd d ≤ 2290 := by
    match d, hd with
    | 0, _ => decide
    | 1, _ => decide
    | 2, _ => decide
    | 3, _ => decide
    | 4, _ => decide
  exact ⟨h.ok, by have := h.len; omega, by have := h.size; omega, by have := h.dep; omega⟩
section
variable {P : Program} {w : World} {K : PySem.W.Frag} {mg : Str → Option Value} {base : Heap}
structure Defs (P : Program) (w : World) (K : PySem.W.Frag) (mg : Str → Option Value) (base : Heap) : Prop where
  pool : Def P w K mg base 3 "_law_pool" ["script"] (spPool K)
  next : Def P w K mg base 3 "_law_next" ["pool"] (spNext K)
  draw : Def P w K mg base 3 "_law_draw" ["pool", "limit"] (spDraw K)
  same : Def P w K mg base 8 "_law_same" ["answer", "due"] (spSame K 8)
  lblocks : Def P w K mg base 3 "_law_blocks" ["told"] spBlocksOf
  lbytes : Def P w K mg base 5 "_law_bytes" ["value"] (spLBytes K 4)
  drawn4 : Def P w K mg base 8 "_law_value_drawn" ["pool", "deep"] (spDrawn K 4)
  drawn3 : Def P w K mg base 8 "_law_value_drawn" ["pool", "deep"] (spDrawn K 3)
  changed : Def P w K mg base 4 "_law_changed" ["pool", "told", "first", "wide"] (spChanged K)
  record : Def P w K mg base 4 "record" ["value"] (spRecord K)
  log_of : Def P w K mg base 5 "log_of" ["values"] (spLogOf K)
  recovered : Def P w K mg base 6 "recovered" ["told"] (spRecovered K)
theorem AllVW.dw {K : PySem.W.Frag} {G : Hp} {xs : List V} {ws : List Pv.Val} {tv : Addr} (h : AllVW K G xs ws) (e : SqT K G tv xs) (sm : ∀ w ∈ ws, Small 4 w) (l : ws.length ≤ 100) : DW K G 6 (.ref tv) (.tuple (Pv.toDataL ws)) := by
  have d : Pv.depthL ws ≤ 4 := depL_of fun w hw => (sm w hw).dep
  have v : VW K G (Pv.depthL ws + 1) (.ref tv) (.tup ws) := ⟨tv, xs, rfl, e, h.1, fun i y d hy hd => (h.2 i y d hy hd).up (Pv.depthL_mem (List.mem_of_getElem? hd))⟩
  have z := (v.up (show Pv.depthL ws + 1 ≤ 6 by omega)).dw ⟨by omega, okL_of fun w hw => (sm w hw).ok⟩
  rw [Pv.toData] at z
  exact z
theorem flat_le : ∀ {ws : List Pv.Val}, (∀ w ∈ ws, Small 4 w) → (ws.flatMap rec_).length ≤ ws.length * 2700
  | [], _ => Nat.le_refl _
  | w :: ws, h => by
    have h1 := (h w (List.mem_cons_self ..)).len
    have b : bnd 4 = 2290 := by decide
    have h2 := flat_le fun x hx => h x (List.mem_cons_of_mem _ hx)
    rw [List.flatMap_cons, List.length_append, rec_length, List.length_cons, Nat.add_mul]
    have : Crc.cntOf (Pv.bytes w) ≤ 42 := by unfold Crc.cntOf; omega
    omega
theorem AllVW.take {K : PySem.W.Frag} {G : Hp} {xs : List V} {ws : List Pv.Val} (h : AllVW K G xs ws) (m : Nat) : AllVW K G (xs.take m) (ws.take m) := by
  refine ⟨by rw [List.length_take, List.length_take, h.1], fun i y e hy he => ?_⟩
  rw [List.getElem?_take] at hy he
  by_cases c : i < m
  · rw [if_pos c] at hy he
    exact h.2 i y e hy he
  · rw [if_neg c] at hy
    cases hy
theorem cat_all {K : PySem.W.Frag} {tv d : Addr} {G : Hp} {xs ys : List V} {Q : VK} (ht : SqT K G tv xs) (hd : SqT K G d ys) (l : xs.length + ys.length ≤ sizeLine) (hy : ys ≠ []) (k : ∀ q G', Same G G' → SqT K G' q (xs ++ ys) → Q (.ref q) G') : rCatA K (.ref tv) (.ref d) G Q := by
  refine ⟨tv, d, xs, ys, rfl, rfl, ht, hd, l, fun e => ?_, fun _ e => absurd e hy, fun _ _ p np => k p _ (Same.new np) (SqT.of upd_same)⟩
  subst e
  exact k d G (Same.refl _) hd
theorem drop_one (ws : List Pv.Val) : ((List.range (ws.length + 1)).map (lens ws)).drop 1 = (List.range ws.length).map fun j => lens ws (j + 1) := by
  rw [List.range_succ_eq_map, List.map_cons, List.map_map]
  rfl
theorem ok_law (T : Top K mg "law" st_law ["script"]) (F : Defs P w K mg base) (z_range : mg "range" = none) (z_len : mg "len" = none) (z_int : mg "int" = none) (z_list : mg "list" = none) (z_tuple : mg "tuple" = none) (z_all : mg "all" = none) : Def P w K mg base 9 "law" ["script"] (spLaw K) := by
  have ⟨D_law_pool, D_law_next, D_law_draw, D_law_same, D_law_blocks, D_law_bytes, D_law_value_drawn, D_drawn3, D_law_changed, D_record, D_log_of, D_recovered⟩ := F
  refine T.ok sc_law (fun vs H Q E h => ?_) (fun f cdv A outer s H vs Q E hr h => ?_)
  · obtain ⟨a, ns, rfl, _⟩ := h
    rfl
  obtain ⟨a, ns, rfl, hC, hl, q⟩ := h
  have big : ∀ {n : Nat}, n ≤ 900000 → n ≤ sizeLine := fun h => Nat.le_trans h (by decide)
  have hu := hu_of hr
  refine ⟨_, (pss_cons (ps_set (i := 1) sc_law.nd rfl (Or.inl rfl) (pe_def D_law_pool (hr.mono (by decide)) rfl (pa_cons (pv 0) pa_nil)))
    (pss_cons (ps_set (i := 2) sc_law.nd rfl (Or.inr rfl) (pe_lst pa_nil))
    (pss_cons (ps_for PassesOwn.never rfl (pi_range1 rfl z_range (pa_cons (pe_def D_law_draw (hr.mono (by decide)) rfl (pa_cons (pv 1) (pa_cons pe_int pa_nil))) pa_nil)) (pg_name (i := 3) sc_law.nd rfl (Or.inl rfl))
    (pss_cons (ps_expr (pe_def D_law_next (hr.mono (by decide)) rfl (pa_cons (pv 1) pa_nil)))
      (pss_one (ps_expr (pe_bm PySem.F.plainAttrs_list PySem.F.slot_list_append PySem.F.type_list_append mt_append (pv 2) (pa_cons (pe_def D_law_value_drawn (hr.mono (by decide)) rfl (pa_cons (pv 1) (pa_cons pe_int pa_nil))) pa_nil))))))
    (pss_cons (ps_set (i := 4) sc_law.nd rfl (Or.inr rfl) (pe_lc (own := [("value", 5)]) (g := gName 5) (tt := tYes) rfl sc_law.nd (pi_list (pv 2)) (blkOk_by (own := [("value", 5)]) (N := ["script", "pool", "values", "k", "records", "value", "whole", "places", "one", "turn", "cut", "many", "place", "handed", "more", "first", "bent", "wrong", "at"]) (sc := defScope st_law) (by decide +kernel)) (fun _ _ _ _ _ => (pg_name (i := 5) sc_law.nd rfl (Or.inl rfl))) (fun _ _ _ _ _ => pts_nil) (fun _ _ _ _ _ => (pe_def D_law_blocks (hr.mono (by decide)) rfl (pa_cons (pe_def D_law_bytes (hr.mono (by decide)) rfl (pa_cons (pv 5) pa_nil)) pa_nil)))))
    (pss_cons (ps_set (i := 6) sc_law.nd rfl (Or.inr rfl) (pe_lst pa_nil))
    (pss_cons (ps_set (i := 7) sc_law.nd rfl (Or.inl rfl) (pe_lst (pa_cons pe_int pa_nil)))
    (pss_cons (ps_for PassesOwn.never rfl (pi_list (pv 4)) (pg_name (i := 8) sc_law.nd rfl (Or.inl rfl))
    (pss_cons (ps_set (i := 6) sc_law.nd rfl (Or.inr rfl) (pe_op op_cat (pv 6) (pv 8)))
      (pss_one (ps_expr (pe_bm PySem.F.plainAttrs_list PySem.F.slot_list_append PySem.F.type_list_append mt_append (pv 7) (pa_cons (pe_callB (lenQ K) rfl z_len (by decide +kernel) (pa_cons (pv 6) pa_nil)) pa_nil))))))
    (pss_cons (ps_if (pt_not (pt_val (pe_def D_law_same (hr.mono (by decide)) rfl (pa_cons (pe_lst (pa_cons (pe_def D_log_of (hr.mono (by decide)) rfl (pa_cons (pe_callTy (lstQ K) rfl z_list (by decide +kernel) (pa_cons (pv 2) pa_nil)) pa_nil)) (pa_cons (pe_def D_recovered (hr.mono (by decide)) rfl (pa_cons (pe_callTy (lstQ K) rfl z_list (by decide +kernel) (pa_cons (pv 6) pa_nil)) pa_nil)) pa_nil))) (pa_cons (pe_lst (pa_cons (pv 6) (pa_cons (pe_tup (pa_cons (pe_callTy (tupQ K) rfl z_tuple (by decide +kernel) (pa_cons (pv 2) pa_nil)) (pa_cons (pe_callB (lenQ K) rfl z_len (by decide +kernel) (pa_cons (pv 6) pa_nil)) pa_nil))) pa_nil))) pa_nil)))))
    (pss_one (ps_ret pe_bl))
    pss_nil)
    (pss_cons (ps_if (pt_not (pt_val (pe_callB (allQ K) rfl z_all (by decide +kernel) (pa_cons (pe_lc (own := [("k", 3)]) (g := gName 3) (tt := tYes) rfl sc_law.nd (pi_range1 rfl z_range (pa_cons (pe_callB (lenQ K) rfl z_len (by decide +kernel) (pa_cons (pv 2) pa_nil)) pa_nil)) (blkOk_by (own := [("k", 3)]) (N := ["script", "pool", "values", "k", "records", "value", "whole", "places", "one", "turn", "cut", "many", "place", "handed", "more", "first", "bent", "wrong", "at"]) (sc := defScope st_law) (by decide +kernel)) (fun _ _ _ _ _ => (pg_name (i := 3) sc_law.nd rfl (Or.inl rfl))) (fun _ _ _ _ _ => pts_nil) (fun _ _ _ _ _ => (pe_def D_law_same (hr.mono (by decide)) rfl (pa_cons (pe_def D_record (hr.mono (by decide)) rfl (pa_cons (pe_ix (ixL K) (pv 2) (pv 3) (fun _ _ => rfl)) pa_nil)) (pa_cons (pe_ix (ixL K) (pv 4) (pv 3) (fun _ _ => rfl)) pa_nil))))) pa_nil))))
    (pss_one (ps_ret pe_bl))
    pss_nil)
    (pss_cons (ps_for PassesOwn.never rfl (pi_range1 rfl z_range (pa_cons pe_int pa_nil)) (pg_name (i := 9) sc_law.nd rfl (Or.inl rfl))
    (pss_cons (ps_expr (pe_def D_law_next (hr.mono (by decide)) rfl (pa_cons (pv 1) pa_nil)))
      (pss_cons (ps_set (i := 10) sc_law.nd rfl (Or.inr rfl) (pe_def D_law_draw (hr.mono (by decide)) rfl (pa_cons (pv 1) (pa_cons (pe_op op_add (pe_callB (lenQ K) rfl z_len (by decide +kernel) (pa_cons (pv 6) pa_nil)) pe_int) pa_nil))))
      (pss_cons (ps_set (i := 11) sc_law.nd rfl (Or.inl rfl) (pe_callB (lenQ K) rfl z_len (by decide +kernel) (pa_cons (pe_lc (own := [("place", 12)]) (g := gName 12) rfl sc_law.nd (pi_list (pe_slice (slL K) (pv 7) (po_some pe_int) po_none)) (blkOk_by (own := [("place", 12)]) (N := ["script", "pool", "values", "k", "records", "value", "whole", "places", "one", "turn", "cut", "many", "place", "handed", "more", "first", "bent", "wrong", "at"]) (sc := defScope st_law) (by decide +kernel)) (fun _ _ _ _ _ => (pg_name (i := 12) sc_law.nd rfl (Or.inl rfl))) (fun _ _ _ _ _ => pts_one (pt_cmpR op_le (pv 12) (pv 10) (nomark _))) (fun _ _ _ _ _ => (pv 12))) pa_nil)))
      (pss_cons (ps_set (i := 13) sc_law.nd rfl (Or.inl rfl) (pe_slice (slL K) (pv 6) po_none (po_some (pv 10))))
      (pss_cons (ps_if (pt_not (pt_val (pe_def D_law_same (hr.mono (by decide)) rfl (pa_cons (pe_def D_recovered (hr.mono (by decide)) rfl (pa_cons (pv 13) pa_nil)) (pa_cons (pe_tup (pa_cons (pe_callTy (tupQ K) rfl z_tuple (by decide +kernel) (pa_cons (pe_slice (slL K) (pv 2) po_none (po_some (pv 11))) pa_nil)) (pa_cons (pe_ix (ixL K) (pv 7) (pv 11) (fun _ _ => rfl)) pa_nil))) pa_nil)))))
      (pss_one (ps_ret pe_bl))
      pss_nil)
      (pss_cons (ps_set (i := 14) sc_law.nd rfl (Or.inl rfl) (pe_def D_drawn3 (hr.mono (by decide)) rfl (pa_cons (pv 1) (pa_cons pe_int pa_nil))))
      (pss_cons (ps_if (pt_not (pt_val (pe_def D_law_same (hr.mono (by decide)) rfl (pa_cons (pe_ix (ixT K) (pe_def D_recovered (hr.mono (by decide)) rfl (pa_cons (pe_op op_cat (pe_slice (slL K) (pv 13) po_none (po_some (pe_ix (ixL K) (pv 7) (pv 11) (fun _ _ => rfl)))) (pe_def D_record (hr.mono (by decide)) rfl (pa_cons (pv 14) pa_nil))) pa_nil)) pe_int (fun _ _ => rfl)) (pa_cons (pe_op op_catA (pe_callTy (tupQ K) rfl z_tuple (by decide +kernel) (pa_cons (pe_slice (slL K) (pv 2) po_none (po_some (pv 11))) pa_nil)) (pe_tup (pa_cons (pv 14) pa_nil))) pa_nil)))))
      (pss_one (ps_ret pe_bl))
      pss_nil)
      (pss_one (ps_if (pt_cmpR (neQ K hr.units) (pv 6) (pe_lst pa_nil) (nomark _))
      (pss_cons (ps_set (i := 15) sc_law.nd rfl (Or.inl rfl) (pe_def D_law_draw (hr.mono (by decide)) rfl (pa_cons (pv 1) (pa_cons (pe_op op_mul pe_int (pe_callB (lenQ K) rfl z_len (by decide +kernel) (pa_cons (pv 6) pa_nil))) pa_nil))))
        (pss_cons (ps_set (i := 16) sc_law.nd rfl (Or.inr rfl) (pe_def D_law_changed (hr.mono (by decide)) rfl (pa_cons (pv 1) (pa_cons (pv 6) (pa_cons (pv 15) (pa_cons (pe_op op_add pe_int (pe_def D_law_draw (hr.mono (by decide)) rfl (pa_cons (pv 1) (pa_cons pe_int pa_nil)))) pa_nil))))))
        (pss_cons (ps_set (i := 17) sc_law.nd rfl (Or.inr rfl) (pe_ix (ixL K) (pe_lc (own := [("at", 18)]) (g := gName 18) rfl sc_law.nd (pi_range1 rfl z_range (pa_cons (pe_callB (lenQ K) rfl z_len (by decide +kernel) (pa_cons (pv 6) pa_nil)) pa_nil)) (blkOk_by (own := [("at", 18)]) (N := ["script", "pool", "values", "k", "records", "value", "whole", "places", "one", "turn", "cut", "many", "place", "handed", "more", "first", "bent", "wrong", "at"]) (sc := defScope st_law) (by decide +kernel)) (fun _ _ _ _ _ => (pg_name (i := 18) sc_law.nd rfl (Or.inl rfl))) (fun _ _ _ _ _ => pts_one (pt_cmpR op_ne (pe_ix (ixL K) (pv 16) (pv 18) (fun _ _ => rfl)) (pe_ix (ixL K) (pv 6) (pv 18) (fun _ _ => rfl)) (nomark _))) (fun _ _ _ _ _ => (pv 18))) pe_int (fun _ _ => rfl)))
        (pss_cons (ps_set (i := 11) sc_law.nd rfl (Or.inl rfl) (pe_callB (lenQ K) rfl z_len (by decide +kernel) (pa_cons (pe_lc (own := [("place", 12)]) (g := gName 12) rfl sc_law.nd (pi_list (pe_slice (slL K) (pv 7) (po_some pe_int) po_none)) (blkOk_by (own := [("place", 12)]) (N := ["script", "pool", "values", "k", "records", "value", "whole", "places", "one", "turn", "cut", "many", "place", "handed", "more", "first", "bent", "wrong", "at"]) (sc := defScope st_law) (by decide +kernel)) (fun _ _ _ _ _ => (pg_name (i := 12) sc_law.nd rfl (Or.inl rfl))) (fun _ _ _ _ _ => pts_one (pt_cmpR op_le (pv 12) (pv 17) (nomark _))) (fun _ _ _ _ _ => (pv 12))) pa_nil)))
        (pss_one (ps_if (pt_not (pt_val (pe_def D_law_same (hr.mono (by decide)) rfl (pa_cons (pe_def D_recovered (hr.mono (by decide)) rfl (pa_cons (pv 16) pa_nil)) (pa_cons (pe_tup (pa_cons (pe_callTy (tupQ K) rfl z_tuple (by decide +kernel) (pa_cons (pe_slice (slL K) (pv 2) po_none (po_some (pv 11))) pa_nil)) (pa_cons (pe_ix (ixL K) (pv 7) (pv 11) (fun _ _ => rfl)) pa_nil))) pa_nil)))))
        (pss_one (ps_ret pe_bl))
        pss_nil))))))
      pss_nil))))))))))
    (pss_one (ps_ret (pe_and (pe_def D_law_same (hr.mono (by decide)) rfl (pa_cons (pe_def D_recovered (hr.mono (by decide)) rfl (pa_cons (pe_op op_rep (pe_lst (pa_cons pe_int pa_nil)) pe_int) pa_nil)) (pa_cons (pe_tup (pa_cons (pe_tup pa_nil) (pa_cons pe_int pa_nil))) pa_nil))) (pe_one (pe_def D_law_same (hr.mono (by decide)) rfl (pa_cons (pe_def D_recovered (hr.mono (by decide)) rfl (pa_cons (pe_lst pa_nil) pa_nil)) (pa_cons (pe_tup (pa_cons (pe_tup pa_nil) (pa_cons pe_int pa_nil))) pa_nil))))))))))))))))), ?_⟩
  refine ⟨.ref a, rfl, a, ns, rfl, hC, hl, fun p H0 np o0 hP0 => ?_⟩
  refine ⟨Nat.zero_le _, fun vl nvl => ?_⟩
  have nvp : vl ≠ p := hP0.ne nvl
  -- values
  refine ⟨.ref p, rfl, p, a, 9, rfl, hP0.new nvl, by decide, by decide, fun n H1 n0 n1 o1 P1 => ?_⟩
  refine ⟨n, rfl, by omega, by omega, for_range (lo := 0) (n := n.toNat) (fun i σ G => ∃ (x3 : Option V) (ws : List Pv.Val) (xs : List V), σ = [some (.ref a), some (.ref p), some (.ref vl), x3, none, none, none, none, none, none, none, none, none, none, none, none, none, none, none] ∧ PoolAt K G p a ∧ G vl = some (.lst xs) ∧ AllVW K G xs ws ∧ (∀ w ∈ ws, Small 4 w) ∧ ws.length = i) ⟨_, [], [], rfl, P1, o1.get nvp upd_same, ⟨rfl, fun i y e hy _ => by cases hy⟩, (fun w hw => by cases hw), rfl⟩ ?_ ?_⟩
  · rintro i σ G hi ⟨x3, ws, xs, rfl, PG, ev, hx, sm, lw⟩
    refine ⟨.ref p, rfl, p, a, rfl, PG, fun G2 o2 P2 => ?_⟩
    have ev2 := o2.get nvp ev
    have hx2 := hx.but o2.but PG
    refine ⟨.ref vl, rfl, .inl ⟨rfl, _, SqL.of ev2⟩, .ref p, rfl, p, a, 0, rfl, by decide, rfl, P2, fun x u G3 b3 P3 hu su => ?_⟩
    have ev3 := b3.get nvp ev2
    refine ⟨vl, xs, x, rfl, rfl, ev3, by rw [hx.1]; exact sq_len (by omega), ?_⟩
    refine ⟨_, ws ++ [u], xs ++ [x], rfl, P3.put nvp ev3, upd_same, ((hx2.but b3 P2).snoc hu).put ev3, fun z hz => ?_, by rw [List.length_append, lw]; rfl⟩
    rcases List.mem_append.mp hz with hz | hz
    · exact sm z hz
    · rw [List.mem_singleton.mp hz]
      exact su
  rintro σ G1 ⟨x3, ws, xs, rfl, P1', ev, hx, sm, lw⟩
  have l8 : ws.length < 9 := by omega
  have fine : ∀ w ∈ ws, Fine w := fun w hw => (sm w hw).fine (Nat.le_refl _)
  -- records
  refine ⟨.ref vl, rfl, vl, rfl, ⟨_, SqL.of ev⟩, fun D nD => lc_list (K := K) (a := vl) (xs := xs) (fun i G => ∃ rs : List Addr, rs.length = i ∧ Same G1 G ∧ G D = some (.lst (rs.map V.ref)) ∧ ∀ (j : Nat) r w, rs[j]? = some r → ws[j]? = some w → G r = some (.lst (bv (rec_ w))) ∧ r ≠ D) ⟨[], rfl, Same.new nD, upd_same, fun j r w h _ => by cases h⟩ ?_ ?_ ?_⟩
  · rintro i G _ ⟨rs, _, sg, _⟩
    exact SqL.of (sg _ _ ev)
  · rintro i x G hx' ⟨rs, lr, sg, ed, hr'⟩
    have ilt := (List.getElem?_eq_some_iff.mp hx').1
    obtain ⟨u, hu⟩ : ∃ u, ws[i]? = some u := ⟨_, List.getElem?_eq_getElem (by rw [← hx.1]; exact ilt)⟩
    have smu := sm u (List.mem_of_getElem? hu)
    have fu := fine u (List.mem_of_getElem? hu)
    have lu := fu.len
    have du := smu.dep
    have iw := (List.getElem?_eq_some_iff.mp hu).1
    refine ⟨rfl, ?_⟩
    dsimp only [tYes]
    refine iteT ⟨_, rfl, x, u, rfl, ((hx.2 i x u hx' hu).same sg).up du, smu.ok, by omega, fun b G2 s2 n2 e2 => ⟨b, Pv.bytes u, rfl, e2, by omega, fun r G3 s3 n3 e3 => ?_⟩⟩
    have nDH : G1 D = none := nD
    refine ⟨_, s3 _ _ (s2 _ _ ed), by rw [List.length_map]; exact sq_len (by omega), rs ++ [r], by rw [List.length_append, lr]; rfl, same_mut ((sg.trans s2).trans s3) nDH, by rw [upd_same, List.map_append]; rfl, fun j r' w' hj hw => ?_⟩
    have rD : r ≠ D := fun z => by have := s2 _ _ ed; rw [← z, n3] at this; cases this
    by_cases lt : j < rs.length
    · rw [List.getElem?_append_left lt] at hj
      obtain ⟨h1, h2⟩ := hr' j r' w' hj hw
      exact ⟨(upd_ne h2).trans (s3 _ _ (s2 _ _ h1)), h2⟩
    · rw [List.getElem?_append_right (by omega)] at hj
      cases k : j - rs.length with
      | zero =>
        rw [k] at hj
        obtain rfl : r = r' := Option.some.inj hj
        have ji : j = i := by omega
        rw [ji, hu] at hw
        obtain rfl := Option.some.inj hw
        exact ⟨(upd_ne rD).trans e3, rD⟩
      | succ k' => rw [k] at hj; cases hj
  · rintro G ⟨rs, lr, sg, ed, hr'⟩
    rw [hx.1] at lr
    have evG := sg _ _ ev
    have hxG := hx.same sg
    have PG : PoolAt K G p a := P1'.same sg
    have nDv : D ≠ vl := fun z => by rw [z, ev] at nD; cases nD
    have nDp : D ≠ p := P1'.ne nD
    -- whole, places
    refine ⟨Nat.zero_le _, fun wh0 n2 => ?_⟩
    generalize hN2 : L2.upd G wh0 _ = G2
    have s2 := new_of n2 hN2
    have e2 := at_of hN2
    try dsimp only at e2
    clear hN2
    refine ⟨by show 1 ≤ sizeLine; decide, fun pl n3 => ?_⟩
    generalize hN3 : L2.upd G2 pl _ = G3
    have s3 := new_of n3 hN3
    have e3 := at_of hN3
    try dsimp only at e3
    clear hN3
    have npl : G pl = none := s2.free n3
    refine ⟨.ref D, rfl, D, rfl, ⟨_, SqL.of (by nofun)⟩, for_list (K := K) (a := D) (xs := rs.map V.ref) (fun i σ G' => ∃ (wh : Addr) (x8 : Option V), σ = [some (.ref a), some (.ref p), some (.ref vl), x3, some (.ref D), none, some (.ref wh), some (.ref pl), x8, none, none, none, none, none, none, none, none, none, none] ∧ Same G G' ∧ G wh = none ∧ wh ≠ pl ∧ G' wh = some (.lst (bv ((ws.take i).flatMap rec_))) ∧ G' pl = some (.lst (bv ((List.range (i + 1)).map fun j => ((ws.take j).flatMap rec_).length)))) ⟨wh0, _, rfl, s2.trans s3, n2, ne_of_none e2 n3, s3 _ _ e2, e3⟩ (fun _ _ _ _ ⟨_, _, _, s, _⟩ => SqL.of (s _ _ ed)) ?_ ?_⟩
    · rintro i y σ G4 hy ⟨wh, x8, rfl, sg4, nwh, nwp, ewh, epl⟩
      rw [List.getElem?_map] at hy
      obtain ⟨r, hri, rfl⟩ : ∃ r, rs[i]? = some r ∧ V.ref r = y := by
        cases c : rs[i]? with
        | none => rw [c] at hy; cases hy
        | some r => rw [c] at hy; exact ⟨r, rfl, Option.some.inj hy⟩
      have ilt := (List.getElem?_eq_some_iff.mp hri).1
      obtain ⟨u, hu⟩ : ∃ u, ws[i]? = some u := ⟨_, List.getElem?_eq_getElem (by omega)⟩
      have er := sg4 _ _ (hr' i r u hri hu).1
      refine ⟨.ref wh, rfl, .ref r, rfl, wh, r, _, _, rfl, rfl, ewh, er, ?_, fun w2 n5 => ?_⟩
      · have f1 := flat_le (ws := ws.take (i + 1)) fun x hx => sm x (List.mem_of_mem_take hx)
        have et : (ws.take (i + 1)).flatMap rec_ = (ws.take i).flatMap rec_ ++ rec_ u := by
          rw [List.take_add_one, hu, List.flatMap_append]
          simp only [Option.toList, List.flatMap_cons, List.flatMap_nil, List.append_nil]
        rw [et, List.length_append, List.length_take] at f1
        exact big (by rw [bv_len, bv_len]; omega)
      generalize hN5 : L2.upd G4 w2 _ = G5
      have s5 := new_of n5 hN5
      have e5 := at_of hN5
      try dsimp only at e5
      clear hN5
      have epl5 := s5 _ _ epl
      refine ⟨.ref pl, rfl, .inl ⟨rfl, _, SqL.of epl5⟩, .ref w2, rfl, w2, _, rfl, .inl (SqL.of e5), pl, _, _, rfl, rfl, epl5, by rw [bv_len, List.length_map, List.length_range]; exact sq_len (by omega), ?_⟩
      have w2pl : w2 ≠ pl := (ne_of_none epl n5).symm
      have et : (ws.take (i + 1)).flatMap rec_ = (ws.take i).flatMap rec_ ++ rec_ u := by
        rw [List.take_add_one, hu, List.flatMap_append]
        simp only [Option.toList, List.flatMap_cons, List.flatMap_nil, List.append_nil]
      rw [← bv_app, ← et] at e5
      refine ⟨w2, _, rfl, same_mut (sg4.trans s5) npl, sg4.free n5, w2pl, (upd_ne w2pl).trans e5, ?_⟩
      rw [upd_same, List.range_succ (n := i + 1), List.map_append, bv_app, ← bv_app, ← et, bv_len]
      rfl
    rintro σ G4 ⟨wh, x8, rfl, sg4, nwh, nwp, ewh, epl⟩
    have lrs : (rs.map V.ref).length = ws.length := by rw [List.length_map, lr]
    rw [lrs, List.take_length] at ewh
    rw [lrs] at epl
    have lW := flat_le sm
    obtain ⟨W, hW⟩ : ∃ W, W = ws.flatMap rec_ := ⟨_, rfl⟩
    rw [← hW] at ewh lW
    have norec : NoRec [] := .inl (by decide)
    refine ⟨.ref vl, rfl, vl, xs, rfl, .inl (by nofun), fun l1 n5 => ?_⟩
    generalize hN5 : L2.upd G4 l1 _ = G5
    have s5 := new_of n5 hN5
    have e5 := at_of hN5
    try dsimp only at e5
    clear hN5
    refine ⟨l1, xs, ws, rfl, SqL.of e5, (hxG.same sg4).same s5, fine, by rw [← hW]; omega, fun r1 G6 s6 n6 e6 => ?_⟩
    refine ⟨.ref wh, rfl, wh, _, rfl, .inl (by nofun), fun l2 n7 => ?_⟩
    generalize hN7 : L2.upd G6 l2 _ = G7
    have s7 := new_of n7 hN7
    have e7 := at_of hN7
    try dsimp only at e7
    clear hN7
    refine ⟨l2, W, [], ws, rfl, SqL.of e7, by omega, by rw [List.append_nil]; exact hW, norec, fine, fun t tv ys G8 s8 ht htv hys => ?_⟩
    rw [← hW] at e6 ht
    refine ⟨by show 2 ≤ sizeLine; decide, fun Z1 n9 => ?_⟩
    generalize hN9 : L2.upd G8 Z1 _ = G9
    have s9 := new_of n9 hN9
    have e9 := at_of hN9
    try dsimp only at e9
    clear hN9
    refine ⟨.ref wh, rfl, .ref vl, rfl, vl, xs, rfl, .inl ⟨by nofun, fun tv2 n10 => ?_⟩⟩
    generalize hN10 : L2.upd G9 tv2 _ = G10
    have s10 := new_of n10 hN10
    have e10 := at_of hN10
    try dsimp only at e10
    clear hN10
    refine ⟨.ref wh, rfl, wh, _, rfl, .inl (by nofun), (by show 2 ≤ sizeLine; decide), fun d1 n11 => ?_⟩
    generalize hN11 : L2.upd G10 d1 _ = G11
    have s11 := new_of n11 hN11
    have e11 := at_of hN11
    try dsimp only at e11
    clear hN11
    refine ⟨by show 2 ≤ sizeLine; decide, fun Z2 n12 => ?_⟩
    generalize hN12 : L2.upd G11 Z2 _ = G12
    have s12 := new_of n12 hN12
    have e12 := at_of hN12
    try dsimp only at e12
    clear hN12
    have lW6 : W.length ≤ 1000000 := by omega
    have two : ∀ a b : V, [a, b].length ≤ 1000000 := fun _ _ => by show 2 ≤ 1000000; decide
    have dv := (hys.dw (SqT.of htv) sm (by omega)).same (((s9.trans s10).trans s11).trans s12)
    have dv2 := (((hxG.same sg4).same s5).same ((((((s6.trans s7).trans s8).trans s9).trans s10).trans s11).trans s12)).dw (tv := tv2) (SqT.of (by nofun)) sm (by omega)
    have dl : DW K G12 6 (.int ((bv W).length : Nat)) (.int (W.length : Nat)) := by rw [bv_len]; exact rfl
    refine ⟨.ref Z1, .ref Z2, .list [nd W, .tuple [.tuple (Pv.toDataL ws), .int (W.length : Nat)]], rfl,
      DW.lst (by nofun) (two _ _) (.cons (DW.nums (by nofun) lW6 5) (.cons (DW.tup (by nofun) (two _ _) (.cons dv (.cons rfl .nil))) .nil)),
      DW.lst (by nofun) (two _ _) (.cons (DW.nums (by nofun) lW6 5) (.cons (DW.tup (by nofun) (two _ _) (.cons dv2 (.cons dl .nil))) .nil)), fun G13 s13 => ⟨_, rfl, iteF ?_⟩⟩
    have ev13 : G13 vl = some (.lst xs) := by nofun
    have ew13 : G13 wh = some (.lst (bv W)) := by nofun
    have epl13 : G13 pl = _ := s13 _ _ (s12 _ _ (s11 _ _ (s10 _ _ (s9 _ _ (s8 _ _ (s7 _ _ (s6 _ _ (s5 _ _ epl))))))))
    have hx13 : AllVW K G13 xs ws := ((hxG.same sg4).same (s5.trans (s6.trans (s7.trans (s8.trans (s9.trans (s10.trans (s11.trans (s12.trans s13)))))))))
    have eD13 : G13 D = some (.lst (rs.map V.ref)) := by nofun
    have er13 : ∀ (j : Nat) r w, rs[j]? = some r → ws[j]? = some w → G13 r = some (.lst (bv (rec_ w))) := fun j r w h1 h2 => (s5.trans (s6.trans (s7.trans (s8.trans (s9.trans (s10.trans (s11.trans (s12.trans s13)))))))) _ _ (sg4 _ _ (hr' j r w h1 h2).1)
    have P13 : PoolAt K G13 p a := by nofun
    clear e5 e6 e7 e9 e10 e11 e12 ht htv hys dv dv2 dl s5 s6 s7 s8 s9 s10 s11 s12 s13
    -- each record
    refine ⟨.ref vl, rfl, vl, xs, rfl, .inl (SqL.of ev13), _, rfl, by rw [hx.1]; omega, by rw [hx.1]; omega, fun D2 n14 => lc_range (lo := 0) (n := ((xs.length : Nat) : Int).toNat) (fun i G' => Same G13 G' ∧ G' D2 = some (.lst ((List.replicate i true).map V.bl))) ⟨Same.new n14, upd_same⟩ ?_ ?_⟩
    · rintro i G14 hi ⟨s14, e14⟩
      rw [Int.toNat_natCast] at hi
      have lx := hx.1
      obtain ⟨x, hxi⟩ : ∃ x, xs[i]? = some x := ⟨_, List.getElem?_eq_getElem hi⟩
      obtain ⟨u, hu⟩ : ∃ u, ws[i]? = some u := ⟨_, List.getElem?_eq_getElem (by omega)⟩
      obtain ⟨r, hri⟩ : ∃ r, rs[i]? = some r := ⟨_, List.getElem?_eq_getElem (by omega)⟩
      have e0 : (0 : Int) + (i : Int) = (i : Int) := by omega
      refine ⟨rfl, ?_⟩
      dsimp only [tYes]
      refine iteT ?_
      rw [e0]
      refine ⟨.ref vl, rfl, _, rfl, vl, xs, _, x, rfl, rfl, SqL.of (s14 _ _ ev13), atI_nat hxi, x, u, _, rfl, (hx13.2 i x u hxi hu).same s14, fine u (List.mem_of_getElem? hu), fun b G15 s15 n15 e15 => ?_⟩
      have er15 := s15 _ _ (s14 _ _ (er13 i r u hri hu))
      have lu : (rec_ u).length ≤ 1000000 := by
        have := flat_le (ws := [u]) fun z hz => by rw [List.mem_singleton.mp hz]; exact sm u (List.mem_of_getElem? hu)
        rw [List.flatMap_cons, List.flatMap_nil, List.append_nil, List.length_singleton] at this
        omega
      refine ⟨.ref D, rfl, _, rfl, D, rs.map V.ref, _, .ref r, rfl, rfl, SqL.of (s15 _ _ (s14 _ _ eD13)), atI_nat (by rw [List.getElem?_map, hri]; rfl), .ref b, .ref r, nd (rec_ u), rfl, DW.nums (SqL.of e15) lu 6, DW.nums (SqL.of er15) lu 6, fun G16 s16 => ?_⟩
      refine ⟨_, s16 _ _ (s15 _ _ e14), by rw [List.length_map, List.length_replicate]; exact sq_len (by omega), same_mut ((s14.trans s15).trans s16) n14, ?_⟩
      rw [upd_same, List.replicate_succ', List.map_append]
      rfl
    · rintro G14 ⟨s14, e14⟩
      refine ⟨D2, _, rfl, SqL.of e14, _, rfl, ?_⟩
      refine ifV (b := false) (by rw [List.all_replicate]; simp) (iteF ?_)
      have ev14 := s14 _ _ ev13
      have ew14 := s14 _ _ ew13
      have epl14 := s14 _ _ epl13
      have P14 : PoolAt K G14 p a := P13.same s14
      have hx14 := hx13.same s14
      clear e14 s14
      -- five turns
      have nwp : wh ≠ p := PG.ne nwh
      have npp : pl ≠ p := PG.ne npl
      have epl14' : G14 pl = some (.lst (bv ((List.range (ws.length + 1)).map (lens ws)))) := epl14
      refine ⟨5, rfl, by decide, by decide, for_range (lo := 0) (n := 5) (fun i σ G => ∃ x9 x10 x11 x13 x14 x15 x16 x17 : Option V, σ = [some (.ref a), some (.ref p), some (.ref vl), x3, some (.ref D), none, some (.ref wh), some (.ref pl), x8, x9, x10, x11, none, x13, x14, x15, x16, x17, none] ∧ PoolAt K G p a ∧ G vl = some (.lst xs) ∧ G wh = some (.lst (bv W)) ∧ G pl = some (.lst (bv ((List.range (ws.length + 1)).map (lens ws)))) ∧ AllVW K G xs ws) ⟨_, _, _, _, _, _, _, _, rfl, P14, ev14, ew14, epl14', hx14⟩ ?_ ?_⟩
      · rintro i σ G15 hi ⟨x9, x10, x11, x13, x14, x15, x16, x17, rfl, P15, ev15, ew15, epl15, hx15⟩
        refine ⟨.ref p, rfl, p, a, rfl, P15, fun G16 o16 P16 => ?_⟩
        have ev16 := o16.get nvp ev15
        have ew16 := o16.get nwp ew15
        have epl16 := o16.get npp epl15
        have hx16 := hx15.but o16.but P15
        clear ev15 ew15 epl15 hx15 P15 o16
        refine ⟨.ref p, rfl, .ref wh, rfl, wh, _, rfl, .inl (SqL.of ew16), _, _, rfl, rfl, p, a, _, rfl, P16, by omega, by rw [bv_len]; omega, fun c0 G17 c1 c2 o17 P17 => ?_⟩
        obtain ⟨c, rfl⟩ := Int.eq_ofNat_of_zero_le c1
        have hc : c ≤ W.length := by rw [bv_len] at c2; omega
        have ev17 := o17.get nvp ev16
        have ew17 := o17.get nwp ew16
        have epl17 := o17.get npp epl16
        have hx17 := hx16.but o17.but P16
        clear ev16 ew16 epl16 hx16 P16 o17
        -- many
        refine ⟨.ref pl, rfl, _, rfl, pl, _, rfl, SqL.of epl17, fun u n18 => ?_⟩
        generalize hN18 : L2.upd G17 u _ = G18
        have s18 := new_of n18 hN18
        have e18 := at_of hN18
        try dsimp only at e18
        clear hN18
        rw [show (1 : Int) = ((1 : Nat) : Int) from rfl, cut_ge, bv_drop, drop_one] at e18
        refine ⟨u, rfl, ⟨_, SqL.of e18⟩, fun D3 n19 => lc_list (K := K) (a := u) (xs := bv ((List.range ws.length).map fun j => lens ws (j + 1))) (fun i G' => Same G18 G' ∧ G' D3 = some (.lst (bv ((((List.range ws.length).map fun j => lens ws (j + 1)).take i).filter fun x => decide (x ≤ c))))) ⟨Same.new n19, upd_same⟩ ?_ ?_ ?_⟩
        · rintro i G' _ ⟨sg, _⟩
          exact SqL.of (sg _ _ e18)
        · rintro i y G' hy ⟨sg, ed'⟩
          refine ⟨rfl, ?_⟩
          obtain ⟨j, hj, rfl⟩ : ∃ j, ((List.range ws.length).map fun j => lens ws (j + 1))[i]? = some j ∧ V.int (j : Nat) = y := by
            have hy : (((List.range ws.length).map fun j => lens ws (j + 1)).map fun z : Nat => V.int (z : Nat))[i]? = some y := hy
            rw [List.getElem?_map] at hy
            cases k : ((List.range ws.length).map fun j => lens ws (j + 1))[i]? with
            | none => rw [k] at hy; cases hy
            | some z => rw [k] at hy; exact ⟨z, rfl, Option.some.inj hy⟩
          have lt := (List.getElem?_eq_some_iff.mp hj).1
          rw [List.length_map, List.length_range] at lt
          refine ⟨_, rfl, _, rfl, _, _, rfl, rfl, _, rfl, ?_⟩
          rw [List.take_add_one, hj, List.filter_append]
          by_cases le : j ≤ c
          · refine ifD (by omega) ⟨_, rfl, _, ed', ?_, same_mut sg n19, ?_⟩
            · rw [bv_len]
              exact sq_len (Nat.le_trans (List.length_filter_le _ _) (by rw [List.length_take, List.length_map, List.length_range]; omega))
            rw [upd_same, bv_app]
            simp [le, bv]
          · refine ifND (by omega) ⟨sg, ?_⟩
            rw [ed']
            simp [le]
        rintro G19 ⟨s19, e19⟩
        rw [bv_len, List.take_of_length_le (Nat.le_refl _)] at e19
        have e19 : G19 D3 = some (.lst (bv (ends (lens ws) ws.length c))) := e19
        refine ⟨D3, _, rfl, .inl (SqL.of e19), ?_⟩
        have hm1 := before_le ws c
        have hm2 := before_lens ws c
        obtain ⟨rest, hr1, hr2⟩ := cut_law ws (c := c) (by rw [← hW]; exact hc)
        rw [bv_len, show (ends (lens ws) ws.length c).length = before ws c from rfl]
        generalize before ws c = m at *
        clear e19
        -- handed
        refine ⟨.ref wh, rfl, _, rfl, _, rfl, wh, _, rfl, SqL.of (by nofun), fun hd n20 => ?_⟩
        generalize hN20 : L2.upd G19 hd _ = G20
        have s20 := new_of n20 hN20
        have e20 := at_of hN20
        try dsimp only at e20
        clear hN20
        rw [cut_lt, bv_take] at e20
        have lc : (W.take c).length ≤ 90000 := by rw [List.length_take]; omega
        have fm : ∀ v ∈ ws.take m, Fine v := fun v hv => fine v (List.mem_of_mem_take hv)
        have smm : ∀ v ∈ ws.take m, Small 4 v := fun v hv => sm v (List.mem_of_mem_take hv)
        have lm : (ws.take m).length ≤ 8 := by rw [List.length_take]; omega
        have am : atI (bv ((List.range (ws.length + 1)).map (lens ws))) ((m : Nat) : Int) = some (.int (lens ws m : Nat)) := atI_nat (bv_get (by rw [List.getElem?_map, List.getElem?_range (by omega)]; rfl))
        rw [← hW] at hr1
        -- what is recovered
        refine ⟨.ref hd, rfl, hd, W.take c, rest, ws.take m, rfl, SqL.of e20, lc, hr1, hr2, fm, fun t2 tv2 ys2 G21 s21 ht2 htv2 hys2 => ?_⟩
        refine ⟨.ref vl, rfl, _, rfl, _, rfl, vl, _, rfl, SqL.of (by nofun), fun l3 n22 => ?_⟩
        generalize hN22 : L2.upd G21 l3 _ = G22
        have s22 := new_of n22 hN22
        have e22 := at_of hN22
        try dsimp only at e22
        clear hN22
        rw [cut_lt] at e22
        refine ⟨l3, _, rfl, .inl ⟨SqL.of e22, fun tv3 n23 => ?_⟩⟩
        generalize hN23 : L2.upd G22 tv3 _ = G23
        have s23 := new_of n23 hN23
        have e23 := at_of hN23
        try dsimp only at e23
        clear hN23
        refine ⟨.ref pl, rfl, _, rfl, pl, _, _, _, rfl, rfl, SqL.of (by nofun), am, (by show 2 ≤ sizeLine; decide), fun d3 n24 => ?_⟩
        generalize hN24 : L2.upd G23 d3 _ = G24
        have s24 := new_of n24 hN24
        have e24 := at_of hN24
        try dsimp only at e24
        clear hN24
        have hx24 : AllVW K G24 xs ws := hx17.same (s18.trans (s19.trans (s20.trans (s21.trans (s22.trans (s23.trans s24))))))
        have dv := (hys2.dw (SqT.of htv2) smm (by omega)).same (((s22.trans s23).trans s24))
        have dv2 := (hx24.take m).dw (tv := tv3) (SqT.of (by nofun)) smm (by omega)
        refine ⟨.ref t2, .ref d3, .tuple [.tuple (Pv.toDataL (ws.take m)), .int (lens ws m : Nat)], rfl, DW.tup (n := 7) (by nofun) (two _ _) (.cons (dv.up (by decide)) (.cons rfl .nil)), DW.tup (n := 7) (by nofun) (two _ _) (.cons (dv2.up (by decide)) (.cons rfl .nil)), fun G25 s25 => ⟨_, rfl, iteF ?_⟩⟩
        have ev25 : G25 vl = some (.lst xs) := by nofun
        have ew25 : G25 wh = some (.lst (bv W)) := by nofun
        have epl25 : G25 pl = some (.lst (bv ((List.range (ws.length + 1)).map (lens ws)))) := by nofun
        have ehd25 : G25 hd = some (.lst (bv (W.take c))) := by nofun
        have hx25 := hx24.same s25
        have P25 : PoolAt K G25 p a := by nofun
        have hdp : hd ≠ p := PoolAt.ne (H := G19) (by nofun) n20
        clear e18 e20 e22 e23 e24 ht2 htv2 hys2 dv dv2 s18 s19 s20 s21 s22 s23 s24 s25 ev17 ew17 epl17 hx17 P17 hx24
        -- more
        refine ⟨.ref p, rfl, p, a, 1, rfl, by decide, rfl, P25, fun x u G26 b26 P26 hu su => ?_⟩
        have ev26 := b26.get nvp ev25
        have ew26 := b26.get nwp ew25
        have epl26 := b26.get npp epl25
        have ehd26 := b26.get hdp ehd25
        have hx26 := hx25.but b26 P25
        clear ev25 ew25 epl25 ehd25 hx25 P25 b26
        have su4 : Small 4 u := ⟨su.ok, Nat.le_trans su.len (by decide), Nat.le_trans su.size (by decide), Nat.le_trans su.dep (by decide)⟩
        have fu : Fine u := su4.fine (Nat.le_refl _)
        have lr := flat_le (ws := ws.take m ++ [u]) fun z hz => by
          rcases List.mem_append.mp hz with hz | hz
          · exact smm z hz
          · rw [List.mem_singleton.mp hz]
            exact su4
        have et : (ws.take m ++ [u]).flatMap rec_ = W.take (lens ws m) ++ rec_ u := by
          rw [List.flatMap_append, hW, take_lens]
          simp only [List.flatMap_cons, List.flatMap_nil, List.append_nil]
        have lm1 : (ws.take m ++ [u]).length ≤ 9 := by rw [List.length_append]; simp only [List.length_cons, List.length_nil]; omega
        have lr9 : (W.take (lens ws m) ++ rec_ u).length ≤ 30000 := by rw [← et]; omega
        have ec : (W.take c).take (lens ws m) = W.take (lens ws m) := by rw [List.take_take, Nat.min_eq_left hm2]
        -- written on
        refine ⟨.ref hd, rfl, .ref pl, rfl, _, rfl, pl, _, _, _, rfl, rfl, SqL.of epl26, am, _, rfl, hd, _, rfl, SqL.of ehd26, fun l4 n27 => ?_⟩
        generalize hN27 : L2.upd G26 l4 _ = G27
        have s27 := new_of n27 hN27
        have e27 := at_of hN27
        try dsimp only at e27
        clear hN27
        rw [cut_lt, bv_take, ec] at e27
        refine ⟨x, rfl, x, u, _, rfl, hu.same s27, fu, fun r G28 s28 n28 e28 => ?_⟩
        refine ⟨l4, r, _, _, rfl, rfl, s28 _ _ e27, e28, by rw [bv_len, bv_len, ← List.length_append]; exact big (by omega), fun w2 n29 => ?_⟩
        generalize hN29 : L2.upd G28 w2 _ = G29
        have s29 := new_of n29 hN29
        have e29 := at_of hN29
        try dsimp only at e29
        clear hN29
        rw [← bv_app, ← et] at e29
        refine ⟨w2, _, [], ws.take m ++ [u], rfl, SqL.of e29, by rw [et]; omega, (List.append_nil _).symm, norec_nil, fun z hz => by
          rcases List.mem_append.mp hz with hz | hz
          · exact fm z hz
          · rw [List.mem_singleton.mp hz]
            exact fu, fun t3 tv4 ys3 G30 s30 ht3 htv4 hys3 => ?_⟩
        refine ⟨t3, _, _, _, rfl, rfl, SqT.of ht3, rfl, ?_⟩
        refine ⟨.ref vl, rfl, _, rfl, _, rfl, vl, _, rfl, SqL.of (by nofun), fun l5 n31 => ?_⟩
        generalize hN31 : L2.upd G30 l5 _ = G31
        have s31 := new_of n31 hN31
        have e31 := at_of hN31
        try dsimp only at e31
        clear hN31
        rw [cut_lt] at e31
        refine ⟨l5, _, rfl, .inl ⟨SqL.of e31, fun tv5 n32 => ?_⟩⟩
        generalize hN32 : L2.upd G31 tv5 _ = G32
        have s32 := new_of n32 hN32
        have e32 := at_of hN32
        try dsimp only at e32
        clear hN32
        refine ⟨x, rfl, (by show 1 ≤ sizeLine; decide), fun d4 n33 => ?_⟩
        generalize hN33 : L2.upd G32 d4 _ = G33
        have s33 := new_of n33 hN33
        have e33 := at_of hN33
        try dsimp only at e33
        clear hN33
        refine cat_all (xs := xs.take m) (ys := [x]) (SqT.of (by nofun)) (SqT.of e33) (by rw [List.length_take]; exact big (by simp only [List.length_cons, List.length_nil]; omega)) (fun z => by cases z) fun q2 G34 s34 h34 => ?_
        have hx34 : AllVW K G34 xs ws := hx26.same (s27.trans (s28.trans (s29.trans (s30.trans (s31.trans (s32.trans (s33.trans s34)))))))
        have hu34 : VW K G34 (Pv.depth u) x u := hu.same (s27.trans (s28.trans (s29.trans (s30.trans (s31.trans (s32.trans (s33.trans s34)))))))
        have sm1 : ∀ v ∈ ws.take m ++ [u], Small 4 v := fun z hz => by
          rcases List.mem_append.mp hz with hz | hz
          · exact smm z hz
          · rw [List.mem_singleton.mp hz]
            exact su4
        have dv := (hys3.dw (SqT.of htv4) sm1 (by omega)).same (((s31.trans s32).trans s33).trans s34)
        have dv2 := ((hx34.take m).snoc hu34).dw (tv := q2) h34 sm1 (by omega)
        refine ⟨.ref tv4, .ref q2, .tuple (Pv.toDataL (ws.take m ++ [u])), rfl, dv.up (by decide), dv2.up (by decide), fun G35 s35 => ⟨_, rfl, iteF ?_⟩⟩
        have ev35 : G35 vl = some (.lst xs) := by nofun
        have ew35 : G35 wh = some (.lst (bv W)) := by nofun
        have epl35 : G35 pl = some (.lst (bv ((List.range (ws.length + 1)).map (lens ws)))) := by nofun
        have hx35 := hx34.same s35
        have P35 : PoolAt K G35 p a := by nofun
        clear e27 e28 e29 e31 e32 e33 ht3 htv4 hys3 dv dv2 s27 s28 s29 s30 s31 s32 s33 s34 s35 ev26 ew26 epl26 ehd26 hx26 P26 hx34 hu34 h34 hu
        -- bent
        refine ⟨.ref wh, rfl, Nat.zero_le _, fun z0 n36 => ?_⟩
        generalize hN36 : L2.upd G35 z0 _ = G36
        have s36 := new_of n36 hN36
        have e36 := at_of hN36
        try dsimp only at e36
        clear hN36
        have e36 : G36 z0 = some (.lst (bv [])) := e36
        have ev36 : G36 vl = some (.lst xs) := by nofun
        have ew36 : G36 wh = some (.lst (bv W)) := by nofun
        have epl36 : G36 pl = some (.lst (bv ((List.range (ws.length + 1)).map (lens ws)))) := by nofun
        have hx36 := hx35.same s36
        have P36 : PoolAt K G36 p a := by nofun
        clear s36 ev35 ew35 epl35 hx35 P35
        refine ⟨nd W, nd [], dp_list (SqL.of ew36), dp_list (SqL.of e36), shaped_nums W, shaped_nums [], _, rfl, ?_⟩
        by_cases we : W = []
        · refine ifV (b := false) (by rw [eqv_nums, decide_eq_true we]; rfl) ?_
          exact ⟨_, _, _, _, _, _, _, _, rfl, P36, ev36, ew36, epl36, hx36⟩
        refine ifV (b := true) (by rw [eqv_nums, decide_eq_false we]; rfl) ?_
        have lpos : 0 < W.length := List.length_pos_iff.mpr we
        refine ⟨.ref p, rfl, .ref wh, rfl, wh, _, rfl, .inl (SqL.of ew36), _, _, rfl, rfl, .inl ⟨by decide, by decide⟩, p, a, _, rfl, P36, by rw [bv_len]; omega, by rw [bv_len]; omega, fun v G37 v0 v1 o37 P37 => ?_⟩
        have ev37 := o37.get nvp ev36
        have ew37 := o37.get nwp ew36
        have epl37 := o37.get npp epl36
        have hx37 := hx36.but o37.but P36
        rw [bv_len] at v1
        obtain ⟨fi, rfl⟩ := Int.eq_ofNat_of_zero_le v0
        clear ev36 ew36 epl36 hx36 P36 o37 e36
        refine ⟨.ref p, rfl, .ref wh, rfl, _, rfl, .ref p, rfl, p, a, 32, rfl, P37, by decide, by decide, fun d G38 d0 d1 o38 P38 => ?_⟩
        obtain ⟨wide, rfl⟩ := Int.eq_ofNat_of_zero_le d0
        have ev38 := o38.get nvp ev37
        have ew38 := o38.get nwp ew37
        have epl38 := o38.get npp epl37
        have hx38 := hx37.but o38.but P37
        clear ev37 ew37 epl37 hx37 P37 o38
        refine ⟨_, _, rfl, rfl, p, a, wh, W, fi, 1 + wide, (by
          show [V.ref p, V.ref wh, V.int (fi : Nat), V.int (1 + (wide : Int))] ++ [] = _
          rw [show (1 : Int) + (wide : Int) = ((1 + wide : Nat) : Int) by omega]
          rfl), P38, nwp, ew38, by omega, by omega, by omega, fun be y G39 b39 P39 nbe ebe ly by39 ag ne39 => ?_⟩
        have ev39 := b39.get nvp ev38
        have ew39 := b39.get nwp ew38
        have epl39 := b39.get npp epl38
        have hx39 := hx38.but b39 P38
        clear ev38 ew38 epl38 hx38 P38 b39
        -- wrong
        refine ⟨.ref wh, rfl, wh, _, rfl, .inl (SqL.of ew39), _, rfl, by rw [bv_len]; omega, by rw [bv_len]; omega, fun D4 n40 => lc_range (lo := 0) (n := ((bv W).length : Int).toNat) (fun i G => Same G39 G ∧ G D4 = some (.lst (bv ((List.range i).filter fun j => decide (y[j]? ≠ W[j]?))))) ⟨Same.new n40, upd_same⟩ ?_ ?_⟩
        · rintro i G hi ⟨sg, ed⟩
          have hi : i < W.length := by rw [Int.toNat_natCast, bv_len] at hi; exact hi
          refine ⟨rfl, ?_⟩
          obtain ⟨yi, hy⟩ : ∃ yi, y[i]? = some yi := ⟨_, List.getElem?_eq_getElem (by omega)⟩
          obtain ⟨wi, hw⟩ : ∃ wi, W[i]? = some wi := ⟨_, List.getElem?_eq_getElem hi⟩
          have e0 : (0 : Int) + (i : Int) = (i : Int) := by omega
          have lf := List.length_filter_le (fun j => decide (y[j]? ≠ W[j]?)) (List.range i)
          rw [List.length_range] at lf
          refine ⟨.ref be, rfl, _, rfl, be, _, _, _, rfl, rfl, SqL.of (sg _ _ ebe), (by rw [e0]; exact atI_nat (bv_get hy)), .ref wh, rfl, _, rfl, wh, _, _, _, rfl, rfl, SqL.of (sg _ _ ew39), (by rw [e0]; exact atI_nat (bv_get hw)), rfl, _, rfl, ?_⟩
          by_cases eq : yi = wi
          · refine ifnD (by rw [eq]) ⟨sg, ?_⟩
            rw [filter_one, hy, hw, eq, if_neg (by simp), List.append_nil]
            exact ed
          · refine ifnND (fun z => eq (by have := V.int.inj z; omega)) ⟨_, rfl, _, ed, by rw [bv_len]; exact sq_len (by omega), same_mut sg n40, ?_⟩
            rw [upd_same, filter_one, hy, hw, if_pos (by simp [eq]), bv_app]
            show some (HO.lst (_ ++ [V.int (0 + (i : Int))])) = _
            rw [e0]
            rfl
        rintro G40 ⟨s40, e40⟩
        obtain ⟨pw, rw_, epw, lpw, firstw, new_⟩ := wrong_first ly ne39
        rw [Int.toNat_natCast, bv_len, show (List.range W.length).filter (fun j => decide (y[j]? ≠ W[j]?)) = pw :: rw_ from epw] at e40
        refine ⟨D4, _, 0, .int (pw : Nat), rfl, rfl, SqL.of e40, atI_nat (j := 0) rfl, ?_⟩
        have hpw : pw < y.length := by rw [ly]; exact lpw
        have w32 : 1 + wide ≤ 32 := by omega
        have ev40 : G40 vl = some (.lst xs) := by nofun
        have ew40 : G40 wh = some (.lst (bv W)) := by nofun
        have epl40 : G40 pl = some (.lst (bv ((List.range (ws.length + 1)).map (lens ws)))) := by nofun
        have ebe40 : G40 be = some (.lst (bv y)) := by nofun
        have hx40 := hx39.same s40
        have P40 : PoolAt K G40 p a := by nofun
        clear s40 ev39 ew39 epl39 hx39 P39 e40 ebe hm1 hm2 hr1 hr2 fm smm lm am
        -- many
        refine ⟨.ref pl, rfl, _, rfl, pl, _, rfl, SqL.of epl40, fun u n41 => ?_⟩
        generalize hN41 : L2.upd G40 u _ = G41
        have s41 := new_of n41 hN41
        have e41 := at_of hN41
        try dsimp only at e41
        clear hN41
        rw [show (1 : Int) = ((1 : Nat) : Int) from rfl, cut_ge, bv_drop, drop_one] at e41
        refine ⟨u, rfl, ⟨_, SqL.of e41⟩, fun D5 n42 => lc_list (K := K) (a := u) (xs := bv ((List.range ws.length).map fun j => lens ws (j + 1))) (fun i G' => Same G41 G' ∧ G' D5 = some (.lst (bv ((((List.range ws.length).map fun j => lens ws (j + 1)).take i).filter fun x => decide (x ≤ pw))))) ⟨Same.new n42, upd_same⟩ ?_ ?_ ?_⟩
        · rintro i G' _ ⟨sg, _⟩
          exact SqL.of (sg _ _ e41)
        · rintro i y G' hy ⟨sg, ed'⟩
          refine ⟨rfl, ?_⟩
          obtain ⟨j, hj, rfl⟩ : ∃ j, ((List.range ws.length).map fun j => lens ws (j + 1))[i]? = some j ∧ V.int (j : Nat) = y := by
            have hy : (((List.range ws.length).map fun j => lens ws (j + 1)).map fun z : Nat => V.int (z : Nat))[i]? = some y := hy
            rw [List.getElem?_map] at hy
            cases k : ((List.range ws.length).map fun j => lens ws (j + 1))[i]? with
            | none => rw [k] at hy; cases hy
            | some z => rw [k] at hy; exact ⟨z, rfl, Option.some.inj hy⟩
          have lt := (List.getElem?_eq_some_iff.mp hj).1
          rw [List.length_map, List.length_range] at lt
          refine ⟨_, rfl, _, rfl, _, _, rfl, rfl, _, rfl, ?_⟩
          rw [List.take_add_one, hj, List.filter_append]
          by_cases le : j ≤ pw
          · refine ifD (by omega) ⟨_, rfl, _, ed', ?_, same_mut sg n42, ?_⟩
            · rw [bv_len]
              exact sq_len (Nat.le_trans (List.length_filter_le _ _) (by rw [List.length_take, List.length_map, List.length_range]; omega))
            rw [upd_same, bv_app]
            simp [le, bv]
          · refine ifND (by omega) ⟨sg, ?_⟩
            rw [ed']
            simp [le]
        rintro G42 ⟨s42, e42⟩
        rw [bv_len, List.take_of_length_le (Nat.le_refl _)] at e42
        have e42 : G42 D5 = some (.lst (bv (ends (lens ws) ws.length pw))) := e42
        refine ⟨D5, _, rfl, .inl (SqL.of e42), ?_⟩
        have hm1 := before_le ws pw
        have hm2 := before_lens ws pw
        obtain ⟨rest2, hr1, hr2⟩ := bent_law ws (fun w hw => ⟨Pv.bytes_bytes (sm w hw).ok, by have := (fine w hw).len; unfold cntOf; omega⟩) by39 (by rw [← hW]; exact ly) (by rw [← hW]; exact ag) w32 hpw (by rw [← hW]; exact firstw) (by rw [← hW]; exact new_)
        rw [bv_len, show (ends (lens ws) ws.length pw).length = before ws pw from rfl]
        generalize before ws pw = m2 at *
        clear e42
        have ly9 : y.length ≤ 90000 := by omega
        have fm : ∀ v ∈ ws.take m2, Fine v := fun v hv => fine v (List.mem_of_mem_take hv)
        have smm : ∀ v ∈ ws.take m2, Small 4 v := fun v hv => sm v (List.mem_of_mem_take hv)
        have lm : (ws.take m2).length ≤ 8 := by rw [List.length_take]; omega
        have am : atI (bv ((List.range (ws.length + 1)).map (lens ws))) ((m2 : Nat) : Int) = some (.int (lens ws m2 : Nat)) := atI_nat (bv_get (by rw [List.getElem?_map, List.getElem?_range (by omega)]; rfl))
                -- what is recovered
        refine ⟨.ref be, rfl, be, y, rest2, ws.take m2, rfl, SqL.of (by nofun), ly9, hr1, hr2, fm, fun t2 tv2 ys2 G44 s44 ht2 htv2 hys2 => ?_⟩
        refine ⟨.ref vl, rfl, _, rfl, _, rfl, vl, _, rfl, SqL.of (by nofun), fun l3 n45 => ?_⟩
        generalize hN45 : L2.upd G44 l3 _ = G45
        have s45 := new_of n45 hN45
        have e45 := at_of hN45
        try dsimp only at e45
        clear hN45
        rw [cut_lt] at e45
        refine ⟨l3, _, rfl, .inl ⟨SqL.of e45, fun tv3 n46 => ?_⟩⟩
        generalize hN46 : L2.upd G45 tv3 _ = G46
        have s46 := new_of n46 hN46
        have e46 := at_of hN46
        try dsimp only at e46
        clear hN46
        refine ⟨.ref pl, rfl, _, rfl, pl, _, _, _, rfl, rfl, SqL.of (by nofun), am, (by show 2 ≤ sizeLine; decide), fun d3 n47 => ?_⟩
        generalize hN47 : L2.upd G46 d3 _ = G47
        have s47 := new_of n47 hN47
        have e47 := at_of hN47
        try dsimp only at e47
        clear hN47
        have hx47 : AllVW K G47 xs ws := hx40.same (s41.trans (s42.trans (s44.trans (s45.trans (s46.trans s47)))))
        have dv := (hys2.dw (SqT.of htv2) smm (by omega)).same (((s45.trans s46).trans s47))
        have dv2 := (hx47.take m2).dw (tv := tv3) (SqT.of (by nofun)) smm (by omega)
        refine ⟨.ref t2, .ref d3, .tuple [.tuple (Pv.toDataL (ws.take m2)), .int (lens ws m2 : Nat)], rfl, DW.tup (n := 7) (by nofun) (two _ _) (.cons (dv.up (by decide)) (.cons rfl .nil)), DW.tup (n := 7) (by nofun) (two _ _) (.cons (dv2.up (by decide)) (.cons rfl .nil)), fun G48 s48 => ⟨_, rfl, iteF ?_⟩⟩
        refine ⟨_, _, _, _, _, _, _, _, rfl, ?_, ?_, ?_, ?_, hx47.same s48⟩
        · nofun
        · nofun
        · nofun
        · nofun
      rintro σ G15 ⟨x9, x10, x11, x13, x14, x15, x16, x17, rfl, P15, ev15, ew15, epl15, hx15⟩
      clear ev15 ew15 epl15 hx15 P15
      refine ⟨(by show 1 ≤ sizeLine; decide), fun z1 n16 => ?_⟩
      generalize hN16 : L2.upd G15 z1 _ = G16
      have s16 := new_of n16 hN16
      have e16 := at_of hN16
      try dsimp only at e16
      clear hN16
      have e16 : G16 z1 = some (.lst [.int 0]) := e16
      refine ⟨z1, 64, [.int 0], rfl, rfl, e16, by decide, by decide, (by show 1 * 64 ≤ sizeLine; decide), fun z2 n17 => ?_⟩
      generalize hN17 : L2.upd G16 z2 _ = G17
      have s17 := new_of n17 hN17
      have e17 := at_of hN17
      try dsimp only at e17
      clear hN17
      have e17 : G17 z2 = some (.lst (bv (List.replicate 64 0))) := e17
      refine ⟨z2, List.replicate 64 0, List.replicate 64 0, [], rfl, SqL.of e17, by decide, rfl, .inr (.inl (by decide)), (fun v hv => by cases hv), fun t2 tv2 ys2 G18 s18 ht2 htv2 hys2 => ?_⟩
      have ys0 : ys2 = [] := List.eq_nil_of_length_eq_zero hys2.1
      subst ys0
      refine ⟨Nat.zero_le _, fun w3 n19 => ?_⟩
      generalize hN19 : L2.upd G18 w3 _ = G19
      have s19 := new_of n19 hN19
      have e19 := at_of hN19
      try dsimp only at e19
      clear hN19
      refine ⟨(by show 2 ≤ sizeLine; decide), fun d5 n20 => ?_⟩
      generalize hN20 : L2.upd G19 d5 _ = G20
      have s20 := new_of n20 hN20
      have e20 := at_of hN20
      try dsimp only at e20
      clear hN20
      refine ⟨.ref t2, .ref d5, .tuple [.tuple [], .int 0], rfl, DW.tup (n := 7) (SqT.of (by nofun)) (two _ _) (.cons (DW.tup (n := 6) (SqT.of (by nofun)) (by decide) .nil) (.cons rfl .nil)), DW.tup (n := 7) (SqT.of (by nofun)) (two _ _) (.cons (DW.tup (n := 6) (SqT.of (by nofun)) (by decide) .nil) (.cons rfl .nil)), fun G21 s21 => ⟨_, rfl, iteT ?_⟩⟩
      refine ⟨Nat.zero_le _, fun z3 n22 => ?_⟩
      generalize hN22 : L2.upd G21 z3 _ = G22
      have s22 := new_of n22 hN22
      have e22 := at_of hN22
      try dsimp only at e22
      clear hN22
      have e22 : G22 z3 = some (.lst (bv [])) := e22
      refine ⟨z3, [], [], [], rfl, SqL.of e22, by decide, rfl, norec_nil, (fun v hv => by cases hv), fun t3 tv3 ys3 G23 s23 ht3 htv3 hys3 => ?_⟩
      have ys0 : ys3 = [] := List.eq_nil_of_length_eq_zero hys3.1
      subst ys0
      refine ⟨Nat.zero_le _, fun w4 n24 => ?_⟩
      generalize hN24 : L2.upd G23 w4 _ = G24
      have s24 := new_of n24 hN24
      have e24 := at_of hN24
      try dsimp only at e24
      clear hN24
      refine ⟨(by show 2 ≤ sizeLine; decide), fun d6 n25 => ?_⟩
      generalize hN25 : L2.upd G24 d6 _ = G25
      have s25 := new_of n25 hN25
      have e25 := at_of hN25
      try dsimp only at e25
      clear hN25
      refine ⟨.ref t3, .ref d6, .tuple [.tuple [], .int 0], rfl, DW.tup (n := 7) (SqT.of (by nofun)) (two _ _) (.cons (DW.tup (n := 6) (SqT.of (by nofun)) (by decide) .nil) (.cons rfl .nil)), DW.tup (n := 7) (SqT.of (by nofun)) (two _ _) (.cons (DW.tup (n := 6) (SqT.of (by nofun)) (by decide) .nil) (.cons rfl .nil)), fun G26 s26 => q G26⟩
end
end My
set_option Elab.async false
set_option linter.all false
set_option maxRecDepth 100000
set_option maxHeartbeats 4000000
namespace My
open PySem PySem.Spec PyProof.Rows L2
theorem all_mk {l : PySem.W.OpenLaw} {w : World} {K : PySem.W.Frag} {h : Heap} {mg : Str → Option Value} {fa : Addr} (X : K.In h) (G : h.Ns mainGlobals mg) (hfa : mg "law" = some (.ref fa))
    {f0 : Addr} {od0 an0 : Option Addr} {sl0 : Array (Option Value)} {oc0 kV0 dc0 pm0 cd0 ct0 : Value}
    (a0 : PySem.W.nsIn K mainGlobals "sum_of_bits" = some (some (.ref f0))) (l0 : K.lookup f0 = some ⟨oc0, od0, .func (PySem.W.fnOf "sum_of_bits" "sum_of_bits" (defArgs st_sum_of_bits) (defBody st_sum_of_bits) (defScope st_sum_of_bits) .none kV0 dc0 pm0 an0 cd0 ct0), sl0⟩) (c0 : PySem.W.codeIn K cd0 "sum_of_bits" = true) (k0 : PySem.W.keepIn K (.ref f0) = true)
    {f1 : Addr} {od1 an1 : Option Addr} {sl1 : Array (Option Value)} {oc1 kV1 dc1 pm1 cd1 ct1 : Value}
    (a1 : PySem.W.nsIn K mainGlobals "block" = some (some (.ref f1))) (l1 : K.lookup f1 = some ⟨oc1, od1, .func (PySem.W.fnOf "block" "block" (defArgs st_block) (defBody st_block) (defScope st_block) .none kV1 dc1 pm1 an1 cd1 ct1), sl1⟩) (c1 : PySem.W.codeIn K cd1 "block" = true) (k1 : PySem.W.keepIn K (.ref f1) = true)
    {f2 : Addr} {od2 an2 : Option Addr} {sl2 : Array (Option Value)} {oc2 kV2 dc2 pm2 cd2 ct2 : Value}
    (a2 : PySem.W.nsIn K mainGlobals "blocks_of" = some (some (.ref f2))) (l2 : K.lookup f2 = some ⟨oc2, od2, .func (PySem.W.fnOf "blocks_of" "blocks_of" (defArgs st_blocks_of) (defBody st_blocks_of) (defScope st_blocks_of) .none kV2 dc2 pm2 an2 cd2 ct2), sl2⟩) (c2 : PySem.W.codeIn K cd2 "blocks_of" = true) (k2 : PySem.W.keepIn K (.ref f2) = true)
    {f3 : Addr} {od3 an3 : Option Addr} {sl3 : Array (Option Value)} {oc3 kV3 dc3 pm3 cd3 ct3 : Value}
    (a3 : PySem.W.nsIn K mainGlobals "is_block" = some (some (.ref f3))) (l3 : K.lookup f3 = some ⟨oc3, od3, .func (PySem.W.fnOf "is_block" "is_block" (defArgs st_is_block) (defBody st_is_block) (defScope st_is_block) .none kV3 dc3 pm3 an3 cd3 ct3), sl3⟩) (c3 : PySem.W.codeIn K cd3 "is_block" = true) (k3 : PySem.W.keepIn K (.ref f3) = true)
    {f4 : Addr} {od4 an4 : Option Addr} {sl4 : Array (Option Value)} {oc4 kV4 dc4 pm4 cd4 ct4 : Value}
    (a4 : PySem.W.nsIn K mainGlobals "without_end" = some (some (.ref f4))) (l4 : K.lookup f4 = some ⟨oc4, od4, .func (PySem.W.fnOf "without_end" "without_end" (defArgs st_without_end) (defBody st_without_end) (defScope st_without_end) .none kV4 dc4 pm4 an4 cd4 ct4), sl4⟩) (c4 : PySem.W.codeIn K cd4 "without_end" = true) (k4 : PySem.W.keepIn K (.ref f4) = true)
    {f5 : Addr} {od5 an5 : Option Addr} {sl5 : Array (Option Value)} {oc5 kV5 dc5 pm5 cd5 ct5 : Value}
    (a5 : PySem.W.nsIn K mainGlobals "data_of" = some (some (.ref f5))) (l5 : K.lookup f5 = some ⟨oc5, od5, .func (PySem.W.fnOf "data_of" "data_of" (defArgs st_data_of) (defBody st_data_of) (defScope st_data_of) .none kV5 dc5 pm5 an5 cd5 ct5), sl5⟩) (c5 : PySem.W.codeIn K cd5 "data_of" = true) (k5 : PySem.W.keepIn K (.ref f5) = true)
    {f6 : Addr} {od6 an6 : Option Addr} {sl6 : Array (Option Value)} {oc6 kV6 dc6 pm6 cd6 ct6 : Value}
    (a6 : PySem.W.nsIn K mainGlobals "number_bytes" = some (some (.ref f6))) (l6 : K.lookup f6 = some ⟨oc6, od6, .func (PySem.W.fnOf "number_bytes" "number_bytes" (defArgs st_number_bytes) (defBody st_number_bytes) (defScope st_number_bytes) .none kV6 dc6 pm6 an6 cd6 ct6), sl6⟩) (c6 : PySem.W.codeIn K cd6 "number_bytes" = true) (k6 : PySem.W.keepIn K (.ref f6) = true)
    {f7 : Addr} {od7 an7 : Option Addr} {sl7 : Array (Option Value)} {oc7 kV7 dc7 pm7 cd7 ct7 : Value}
    (a7 : PySem.W.nsIn K mainGlobals "bytes_of" = some (some (.ref f7))) (l7 : K.lookup f7 = some ⟨oc7, od7, .func (PySem.W.fnOf "bytes_of" "bytes_of" (defArgs st_bytes_of) (defBody st_bytes_of) (defScope st_bytes_of) .none kV7 dc7 pm7 an7 cd7 ct7), sl7⟩) (c7 : PySem.W.codeIn K cd7 "bytes_of" = true) (k7 : PySem.W.keepIn K (.ref f7) = true)
    {f8 : Addr} {od8 an8 : Option Addr} {sl8 : Array (Option Value)} {oc8 kV8 dc8 pm8 cd8 ct8 : Value}
    (a8 : PySem.W.nsIn K mainGlobals "read_number" = some (some (.ref f8))) (l8 : K.lookup f8 = some ⟨oc8, od8, .func (PySem.W.fnOf "read_number" "read_number" (defArgs st_read_number) (defBody st_read_number) (defScope st_read_number) .none kV8 dc8 pm8 an8 cd8 ct8), sl8⟩) (c8 : PySem.W.codeIn K cd8 "read_number" = true) (k8 : PySem.W.keepIn K (.ref f8) = true)
    {f9 : Addr} {od9 an9 : Option Addr} {sl9 : Array (Option Value)} {oc9 kV9 dc9 pm9 cd9 ct9 : Value}
    (a9 : PySem.W.nsIn K mainGlobals "read_string" = some (some (.ref f9))) (l9 : K.lookup f9 = some ⟨oc9, od9, .func (PySem.W.fnOf "read_string" "read_string" (defArgs st_read_string) (defBody st_read_string) (defScope st_read_string) .none kV9 dc9 pm9 an9 cd9 ct9), sl9⟩) (c9 : PySem.W.codeIn K cd9 "read_string" = true) (k9 : PySem.W.keepIn K (.ref f9) = true)
    {f10 : Addr} {od10 an10 : Option Addr} {sl10 : Array (Option Value)} {oc10 kV10 dc10 pm10 cd10 ct10 : Value}
    (a10 : PySem.W.nsIn K mainGlobals "read_one" = some (some (.ref f10))) (l10 : K.lookup f10 = some ⟨oc10, od10, .func (PySem.W.fnOf "read_one" "read_one" (defArgs st_read_one) (defBody st_read_one) (defScope st_read_one) .none kV10 dc10 pm10 an10 cd10 ct10), sl10⟩) (c10 : PySem.W.codeIn K cd10 "read_one" = true) (k10 : PySem.W.keepIn K (.ref f10) = true)
    {f11 : Addr} {od11 an11 : Option Addr} {sl11 : Array (Option Value)} {oc11 kV11 dc11 pm11 cd11 ct11 : Value}
    (a11 : PySem.W.nsIn K mainGlobals "value_of" = some (some (.ref f11))) (l11 : K.lookup f11 = some ⟨oc11, od11, .func (PySem.W.fnOf "value_of" "value_of" (defArgs st_value_of) (defBody st_value_of) (defScope st_value_of) .none kV11 dc11 pm11 an11 cd11 ct11), sl11⟩) (c11 : PySem.W.codeIn K cd11 "value_of" = true) (k11 : PySem.W.keepIn K (.ref f11) = true)
    {f12 : Addr} {od12 an12 : Option Addr} {sl12 : Array (Option Value)} {oc12 kV12 dc12 pm12 cd12 ct12 : Value}
    (a12 : PySem.W.nsIn K mainGlobals "record" = some (some (.ref f12))) (l12 : K.lookup f12 = some ⟨oc12, od12, .func (PySem.W.fnOf "record" "record" (defArgs st_record) (defBody st_record) (defScope st_record) .none kV12 dc12 pm12 an12 cd12 ct12), sl12⟩) (c12 : PySem.W.codeIn K cd12 "record" = true) (k12 : PySem.W.keepIn K (.ref f12) = true)
    {f13 : Addr} {od13 an13 : Option Addr} {sl13 : Array (Option Value)} {oc13 kV13 dc13 pm13 cd13 ct13 : Value}
    (a13 : PySem.W.nsIn K mainGlobals "log_of" = some (some (.ref f13))) (l13 : K.lookup f13 = some ⟨oc13, od13, .func (PySem.W.fnOf "log_of" "log_of" (defArgs st_log_of) (defBody st_log_of) (defScope st_log_of) .none kV13 dc13 pm13 an13 cd13 ct13), sl13⟩) (c13 : PySem.W.codeIn K cd13 "log_of" = true) (k13 : PySem.W.keepIn K (.ref f13) = true)
    {f14 : Addr} {od14 an14 : Option Addr} {sl14 : Array (Option Value)} {oc14 kV14 dc14 pm14 cd14 ct14 : Value}
    (a14 : PySem.W.nsIn K mainGlobals "first_record" = some (some (.ref f14))) (l14 : K.lookup f14 = some ⟨oc14, od14, .func (PySem.W.fnOf "first_record" "first_record" (defArgs st_first_record) (defBody st_first_record) (defScope st_first_record) .none kV14 dc14 pm14 an14 cd14 ct14), sl14⟩) (c14 : PySem.W.codeIn K cd14 "first_record" = true) (k14 : PySem.W.keepIn K (.ref f14) = true)
    {f15 : Addr} {od15 an15 : Option Addr} {sl15 : Array (Option Value)} {oc15 kV15 dc15 pm15 cd15 ct15 : Value}
    (a15 : PySem.W.nsIn K mainGlobals "recovered" = some (some (.ref f15))) (l15 : K.lookup f15 = some ⟨oc15, od15, .func (PySem.W.fnOf "recovered" "recovered" (defArgs st_recovered) (defBody st_recovered) (defScope st_recovered) .none kV15 dc15 pm15 an15 cd15 ct15), sl15⟩) (c15 : PySem.W.codeIn K cd15 "recovered" = true) (k15 : PySem.W.keepIn K (.ref f15) = true)
    {f16 : Addr} {od16 an16 : Option Addr} {sl16 : Array (Option Value)} {oc16 kV16 dc16 pm16 cd16 ct16 : Value}
    (a16 : PySem.W.nsIn K mainGlobals "_law_mixed" = some (some (.ref f16))) (l16 : K.lookup f16 = some ⟨oc16, od16, .func (PySem.W.fnOf "_law_mixed" "_law_mixed" (defArgs st_law_mixed) (defBody st_law_mixed) (defScope st_law_mixed) .none kV16 dc16 pm16 an16 cd16 ct16), sl16⟩) (c16 : PySem.W.codeIn K cd16 "_law_mixed" = true) (k16 : PySem.W.keepIn K (.ref f16) = true)
    {f17 : Addr} {od17 an17 : Option Addr} {sl17 : Array (Option Value)} {oc17 kV17 dc17 pm17 cd17 ct17 : Value}
    (a17 : PySem.W.nsIn K mainGlobals "_law_rest" = some (some (.ref f17))) (l17 : K.lookup f17 = some ⟨oc17, od17, .func (PySem.W.fnOf "_law_rest" "_law_rest" (defArgs st_law_rest) (defBody st_law_rest) (defScope st_law_rest) .none kV17 dc17 pm17 an17 cd17 ct17), sl17⟩) (c17 : PySem.W.codeIn K cd17 "_law_rest" = true) (k17 : PySem.W.keepIn K (.ref f17) = true)
    {f18 : Addr} {od18 an18 : Option Addr} {sl18 : Array (Option Value)} {oc18 kV18 dc18 pm18 cd18 ct18 : Value}
    (a18 : PySem.W.nsIn K mainGlobals "_law_pool" = some (some (.ref f18))) (l18 : K.lookup f18 = some ⟨oc18, od18, .func (PySem.W.fnOf "_law_pool" "_law_pool" (defArgs st_law_pool) (defBody st_law_pool) (defScope st_law_pool) .none kV18 dc18 pm18 an18 cd18 ct18), sl18⟩) (c18 : PySem.W.codeIn K cd18 "_law_pool" = true) (k18 : PySem.W.keepIn K (.ref f18) = true)
    {f19 : Addr} {od19 an19 : Option Addr} {sl19 : Array (Option Value)} {oc19 kV19 dc19 pm19 cd19 ct19 : Value}
    (a19 : PySem.W.nsIn K mainGlobals "_law_next" = some (some (.ref f19))) (l19 : K.lookup f19 = some ⟨oc19, od19, .func (PySem.W.fnOf "_law_next" "_law_next" (defArgs st_law_next) (defBody st_law_next) (defScope st_law_next) .none kV19 dc19 pm19 an19 cd19 ct19), sl19⟩) (c19 : PySem.W.codeIn K cd19 "_law_next" = true) (k19 : PySem.W.keepIn K (.ref f19) = true)
    {f20 : Addr} {od20 an20 : Option Addr} {sl20 : Array (Option Value)} {oc20 kV20 dc20 pm20 cd20 ct20 : Value}
    (a20 : PySem.W.nsIn K mainGlobals "_law_draw" = some (some (.ref f20))) (l20 : K.lookup f20 = some ⟨oc20, od20, .func (PySem.W.fnOf "_law_draw" "_law_draw" (defArgs st_law_draw) (defBody st_law_draw) (defScope st_law_draw) .none kV20 dc20 pm20 an20 cd20 ct20), sl20⟩) (c20 : PySem.W.codeIn K cd20 "_law_draw" = true) (k20 : PySem.W.keepIn K (.ref f20) = true)
    {f21 : Addr} {od21 an21 : Option Addr} {sl21 : Array (Option Value)} {oc21 kV21 dc21 pm21 cd21 ct21 : Value}
    (a21 : PySem.W.nsIn K mainGlobals "_law_pick" = some (some (.ref f21))) (l21 : K.lookup f21 = some ⟨oc21, od21, .func (PySem.W.fnOf "_law_pick" "_law_pick" (defArgs st_law_pick) (defBody st_law_pick) (defScope st_law_pick) .none kV21 dc21 pm21 an21 cd21 ct21), sl21⟩) (c21 : PySem.W.codeIn K cd21 "_law_pick" = true) (k21 : PySem.W.keepIn K (.ref f21) = true)
    {f22 : Addr} {od22 an22 : Option Addr} {sl22 : Array (Option Value)} {oc22 kV22 dc22 pm22 cd22 ct22 : Value}
    (a22 : PySem.W.nsIn K mainGlobals "_law_same" = some (some (.ref f22))) (l22 : K.lookup f22 = some ⟨oc22, od22, .func (PySem.W.fnOf "_law_same" "_law_same" (defArgs st_law_same) (defBody st_law_same) (defScope st_law_same) .none kV22 dc22 pm22 an22 cd22 ct22), sl22⟩) (c22 : PySem.W.codeIn K cd22 "_law_same" = true) (k22 : PySem.W.keepIn K (.ref f22) = true)
    {f23 : Addr} {od23 an23 : Option Addr} {sl23 : Array (Option Value)} {oc23 kV23 dc23 pm23 cd23 ct23 : Value}
    (a23 : PySem.W.nsIn K mainGlobals "_law_sum" = some (some (.ref f23))) (l23 : K.lookup f23 = some ⟨oc23, od23, .func (PySem.W.fnOf "_law_sum" "_law_sum" (defArgs st_law_sum) (defBody st_law_sum) (defScope st_law_sum) .none kV23 dc23 pm23 an23 cd23 ct23), sl23⟩) (c23 : PySem.W.codeIn K cd23 "_law_sum" = true) (k23 : PySem.W.keepIn K (.ref f23) = true)
    {f24 : Addr} {od24 an24 : Option Addr} {sl24 : Array (Option Value)} {oc24 kV24 dc24 pm24 cd24 ct24 : Value}
    (a24 : PySem.W.nsIn K mainGlobals "_law_number_bytes" = some (some (.ref f24))) (l24 : K.lookup f24 = some ⟨oc24, od24, .func (PySem.W.fnOf "_law_number_bytes" "_law_number_bytes" (defArgs st_law_number_bytes) (defBody st_law_number_bytes) (defScope st_law_number_bytes) .none kV24 dc24 pm24 an24 cd24 ct24), sl24⟩) (c24 : PySem.W.codeIn K cd24 "_law_number_bytes" = true) (k24 : PySem.W.keepIn K (.ref f24) = true)
    {f25 : Addr} {od25 an25 : Option Addr} {sl25 : Array (Option Value)} {oc25 kV25 dc25 pm25 cd25 ct25 : Value}
    (a25 : PySem.W.nsIn K mainGlobals "_law_bytes" = some (some (.ref f25))) (l25 : K.lookup f25 = some ⟨oc25, od25, .func (PySem.W.fnOf "_law_bytes" "_law_bytes" (defArgs st_law_bytes) (defBody st_law_bytes) (defScope st_law_bytes) .none kV25 dc25 pm25 an25 cd25 ct25), sl25⟩) (c25 : PySem.W.codeIn K cd25 "_law_bytes" = true) (k25 : PySem.W.keepIn K (.ref f25) = true)
    {f26 : Addr} {od26 an26 : Option Addr} {sl26 : Array (Option Value)} {oc26 kV26 dc26 pm26 cd26 ct26 : Value}
    (a26 : PySem.W.nsIn K mainGlobals "_law_bits" = some (some (.ref f26))) (l26 : K.lookup f26 = some ⟨oc26, od26, .func (PySem.W.fnOf "_law_bits" "_law_bits" (defArgs st_law_bits) (defBody st_law_bits) (defScope st_law_bits) .none kV26 dc26 pm26 an26 cd26 ct26), sl26⟩) (c26 : PySem.W.codeIn K cd26 "_law_bits" = true) (k26 : PySem.W.keepIn K (.ref f26) = true)
    {f27 : Addr} {od27 an27 : Option Addr} {sl27 : Array (Option Value)} {oc27 kV27 dc27 pm27 cd27 ct27 : Value}
    (a27 : PySem.W.nsIn K mainGlobals "_law_bytes_of_bits" = some (some (.ref f27))) (l27 : K.lookup f27 = some ⟨oc27, od27, .func (PySem.W.fnOf "_law_bytes_of_bits" "_law_bytes_of_bits" (defArgs st_law_bytes_of_bits) (defBody st_law_bytes_of_bits) (defScope st_law_bytes_of_bits) .none kV27 dc27 pm27 an27 cd27 ct27), sl27⟩) (c27 : PySem.W.codeIn K cd27 "_law_bytes_of_bits" = true) (k27 : PySem.W.keepIn K (.ref f27) = true)
    {f28 : Addr} {od28 an28 : Option Addr} {sl28 : Array (Option Value)} {oc28 kV28 dc28 pm28 cd28 ct28 : Value}
    (a28 : PySem.W.nsIn K mainGlobals "_law_blocks" = some (some (.ref f28))) (l28 : K.lookup f28 = some ⟨oc28, od28, .func (PySem.W.fnOf "_law_blocks" "_law_blocks" (defArgs st_law_blocks) (defBody st_law_blocks) (defScope st_law_blocks) .none kV28 dc28 pm28 an28 cd28 ct28), sl28⟩) (c28 : PySem.W.codeIn K cd28 "_law_blocks" = true) (k28 : PySem.W.keepIn K (.ref f28) = true)
    {f29 : Addr} {od29 an29 : Option Addr} {sl29 : Array (Option Value)} {oc29 kV29 dc29 pm29 cd29 ct29 : Value}
    (a29 : PySem.W.nsIn K mainGlobals "_law_value_drawn" = some (some (.ref f29))) (l29 : K.lookup f29 = some ⟨oc29, od29, .func (PySem.W.fnOf "_law_value_drawn" "_law_value_drawn" (defArgs st_law_value_drawn) (defBody st_law_value_drawn) (defScope st_law_value_drawn) .none kV29 dc29 pm29 an29 cd29 ct29), sl29⟩) (c29 : PySem.W.codeIn K cd29 "_law_value_drawn" = true) (k29 : PySem.W.keepIn K (.ref f29) = true)
    {f30 : Addr} {od30 an30 : Option Addr} {sl30 : Array (Option Value)} {oc30 kV30 dc30 pm30 cd30 ct30 : Value}
    (a30 : PySem.W.nsIn K mainGlobals "_law_changed" = some (some (.ref f30))) (l30 : K.lookup f30 = some ⟨oc30, od30, .func (PySem.W.fnOf "_law_changed" "_law_changed" (defArgs st_law_changed) (defBody st_law_changed) (defScope st_law_changed) .none kV30 dc30 pm30 an30 cd30 ct30), sl30⟩) (c30 : PySem.W.codeIn K cd30 "_law_changed" = true) (k30 : PySem.W.keepIn K (.ref f30) = true)
    {f31 : Addr} {od31 an31 : Option Addr} {sl31 : Array (Option Value)} {oc31 kV31 dc31 pm31 cd31 ct31 : Value}
    (a31 : PySem.W.nsIn K mainGlobals "law" = some (some (.ref f31))) (l31 : K.lookup f31 = some ⟨oc31, od31, .func (PySem.W.fnOf "law" "law" (defArgs st_law) (defBody st_law) (defScope st_law) .none kV31 dc31 pm31 an31 cd31 ct31), sl31⟩) (c31 : PySem.W.codeIn K cd31 "law" = true) (k31 : PySem.W.keepIn K (.ref f31) = true)
    {v0 : Tok} (q0 : PySem.W.nsIn K mainGlobals "SIZE" = some (some (.int 64 v0)))
    {v1 : Tok} (q1 : PySem.W.nsIn K mainGlobals "DATA" = some (some (.int 56 v1)))
    {v2 : Tok} (q2 : PySem.W.nsIn K mainGlobals "FACTORS" = some (some (.int 79764919 v2)))
    {v3 : Tok} (q3 : PySem.W.nsIn K mainGlobals "TOP" = some (some (.int 4294967296 v3)))
    {v4 : Tok} (q4 : PySem.W.nsIn K mainGlobals "DEEPEST" = some (some (.int 60 v4)))
    {v5 : Tok} (q5 : PySem.W.nsIn K mainGlobals "SIGNS" = some (some (.str (Str.ofString "\n abcdefghijklmnopqrstuvwxyzABCDEFGHIJKLMNOPQRSTUVWXYZ0123456789(),=!<+-.") v5)))
    (z_isinstance : PySem.W.nsIn K mainGlobals "isinstance" = some none)
    (z_dict : PySem.W.nsIn K mainGlobals "dict" = some none)
    (z_list : PySem.W.nsIn K mainGlobals "list" = some none)
    (z_tuple : PySem.W.nsIn K mainGlobals "tuple" = some none)
    (z_bool : PySem.W.nsIn K mainGlobals "bool" = some none)
    (z_str : PySem.W.nsIn K mainGlobals "str" = some none)
    (z_int : PySem.W.nsIn K mainGlobals "int" = some none)
    (z_len : PySem.W.nsIn K mainGlobals "len" = some none)
    (z_range : PySem.W.nsIn K mainGlobals "range" = some none)
    (z_all : PySem.W.nsIn K mainGlobals "all" = some none)
    (z_min : PySem.W.nsIn K mainGlobals "min" = some none)
    : ∃ fd : FuncData, (∀ (s : Shared) (v : Value), BindsTo s fd ⟨[v], []⟩ [("script", v)]) ∧ ∀ base : Heap, K.In base → base.Ns mainGlobals mg → FnOk l.prog w K mg base CX0 9 fa fd ["script"] (spLaw K) := by
  have T_sum_of_bits : Top K mg "sum_of_bits" st_sum_of_bits ["told"] := top_mk X G a0 l0 c0 k0 (fun _ _ _ _ _ _ us hl => match us, hl with | [_], _ => rfl)
  have T_block : Top K mg "block" st_block ["number", "count", "data"] := top_mk X G a1 l1 c1 k1 (fun _ _ _ _ _ _ us hl => match us, hl with | [_, _, _], _ => rfl)
  have T_blocks_of : Top K mg "blocks_of" st_blocks_of ["told"] := top_mk X G a2 l2 c2 k2 (fun _ _ _ _ _ _ us hl => match us, hl with | [_], _ => rfl)
  have T_is_block : Top K mg "is_block" st_is_block ["told", "number", "count"] := top_mk X G a3 l3 c3 k3 (fun _ _ _ _ _ _ us hl => match us, hl with | [_, _, _], _ => rfl)
  have T_without_end : Top K mg "without_end" st_without_end ["data"] := top_mk X G a4 l4 c4 k4 (fun _ _ _ _ _ _ us hl => match us, hl with | [_], _ => rfl)
  have T_data_of : Top K mg "data_of" st_data_of ["told"] := top_mk X G a5 l5 c5 k5 (fun _ _ _ _ _ _ us hl => match us, hl with | [_], _ => rfl)
  have T_number_bytes : Top K mg "number_bytes" st_number_bytes ["number"] := top_mk X G a6 l6 c6 k6 (fun _ _ _ _ _ _ us hl => match us, hl with | [_], _ => rfl)
  have T_bytes_of : Top K mg "bytes_of" st_bytes_of ["value"] := top_mk X G a7 l7 c7 k7 (fun _ _ _ _ _ _ us hl => match us, hl with | [_], _ => rfl)
  have T_read_number : Top K mg "read_number" st_read_number ["told", "at"] := top_mk X G a8 l8 c8 k8 (fun _ _ _ _ _ _ us hl => match us, hl with | [_, _], _ => rfl)
  have T_read_string : Top K mg "read_string" st_read_string ["told", "at"] := top_mk X G a9 l9 c9 k9 (fun _ _ _ _ _ _ us hl => match us, hl with | [_, _], _ => rfl)
  have T_read_one : Top K mg "read_one" st_read_one ["told", "at"] := top_mk X G a10 l10 c10 k10 (fun _ _ _ _ _ _ us hl => match us, hl with | [_, _], _ => rfl)
  have T_value_of : Top K mg "value_of" st_value_of ["told"] := top_mk X G a11 l11 c11 k11 (fun _ _ _ _ _ _ us hl => match us, hl with | [_], _ => rfl)
  have T_record : Top K mg "record" st_record ["value"] := top_mk X G a12 l12 c12 k12 (fun _ _ _ _ _ _ us hl => match us, hl with | [_], _ => rfl)
  have T_log_of : Top K mg "log_of" st_log_of ["values"] := top_mk X G a13 l13 c13 k13 (fun _ _ _ _ _ _ us hl => match us, hl with | [_], _ => rfl)
  have T_first_record : Top K mg "first_record" st_first_record ["told", "at"] := top_mk X G a14 l14 c14 k14 (fun _ _ _ _ _ _ us hl => match us, hl with | [_, _], _ => rfl)
  have T_recovered : Top K mg "recovered" st_recovered ["told"] := top_mk X G a15 l15 c15 k15 (fun _ _ _ _ _ _ us hl => match us, hl with | [_], _ => rfl)
  have T_law_mixed : Top K mg "_law_mixed" st_law_mixed ["number", "place"] := top_mk X G a16 l16 c16 k16 (fun _ _ _ _ _ _ us hl => match us, hl with | [_, _], _ => rfl)
  have T_law_rest : Top K mg "_law_rest" st_law_rest ["script", "place", "fills"] := top_mk X G a17 l17 c17 k17 (fun _ _ _ _ _ _ us hl => match us, hl with | [_, _, _], _ => rfl)
  have T_law_pool : Top K mg "_law_pool" st_law_pool ["script"] := top_mk X G a18 l18 c18 k18 (fun _ _ _ _ _ _ us hl => match us, hl with | [_], _ => rfl)
  have T_law_next : Top K mg "_law_next" st_law_next ["pool"] := top_mk X G a19 l19 c19 k19 (fun _ _ _ _ _ _ us hl => match us, hl with | [_], _ => rfl)
  have T_law_draw : Top K mg "_law_draw" st_law_draw ["pool", "limit"] := top_mk X G a20 l20 c20 k20 (fun _ _ _ _ _ _ us hl => match us, hl with | [_, _], _ => rfl)
  have T_law_pick : Top K mg "_law_pick" st_law_pick ["pool", "options"] := top_mk X G a21 l21 c21 k21 (fun _ _ _ _ _ _ us hl => match us, hl with | [_, _], _ => rfl)
  have T_law_same : Top K mg "_law_same" st_law_same ["answer", "due"] := top_mk X G a22 l22 c22 k22 (fun _ _ _ _ _ _ us hl => match us, hl with | [_, _], _ => rfl)
  have T_law_sum : Top K mg "_law_sum" st_law_sum ["told"] := top_mk X G a23 l23 c23 k23 (fun _ _ _ _ _ _ us hl => match us, hl with | [_], _ => rfl)
  have T_law_number_bytes : Top K mg "_law_number_bytes" st_law_number_bytes ["number"] := top_mk X G a24 l24 c24 k24 (fun _ _ _ _ _ _ us hl => match us, hl with | [_], _ => rfl)
  have T_law_bytes : Top K mg "_law_bytes" st_law_bytes ["value"] := top_mk X G a25 l25 c25 k25 (fun _ _ _ _ _ _ us hl => match us, hl with | [_], _ => rfl)
  have T_law_bits : Top K mg "_law_bits" st_law_bits ["told"] := top_mk X G a26 l26 c26 k26 (fun _ _ _ _ _ _ us hl => match us, hl with | [_], _ => rfl)
  have T_law_bytes_of_bits : Top K mg "_law_bytes_of_bits" st_law_bytes_of_bits ["bits"] := top_mk X G a27 l27 c27 k27 (fun _ _ _ _ _ _ us hl => match us, hl with | [_], _ => rfl)
  have T_law_blocks : Top K mg "_law_blocks" st_law_blocks ["told"] := top_mk X G a28 l28 c28 k28 (fun _ _ _ _ _ _ us hl => match us, hl with | [_], _ => rfl)
  have T_law_value_drawn : Top K mg "_law_value_drawn" st_law_value_drawn ["pool", "deep"] := top_mk X G a29 l29 c29 k29 (fun _ _ _ _ _ _ us hl => match us, hl with | [_, _], _ => rfl)
  have T_law_changed : Top K mg "_law_changed" st_law_changed ["pool", "told", "first", "wide"] := top_mk X G a30 l30 c30 k30 (fun _ _ _ _ _ _ us hl => match us, hl with | [_, _, _, _], _ => rfl)
  have T_law : Top K mg "law" st_law ["script"] := top_mk X G a31 l31 c31 k31 (fun _ _ _ _ _ _ us hl => match us, hl with | [_], _ => rfl)
  have m_SIZE := PySem.W.mg_of X G q0
  have m_DATA := PySem.W.mg_of X G q1
  have m_FACTORS := PySem.W.mg_of X G q2
  have m_TOP := PySem.W.mg_of X G q3
  have m_DEEPEST := PySem.W.mg_of X G q4
  have m_SIGNS := PySem.W.mg_of X G q5
  replace z_isinstance := PySem.W.mg_none_of X G z_isinstance
  replace z_dict := PySem.W.mg_none_of X G z_dict
  replace z_list := PySem.W.mg_none_of X G z_list
  replace z_tuple := PySem.W.mg_none_of X G z_tuple
  replace z_bool := PySem.W.mg_none_of X G z_bool
  replace z_str := PySem.W.mg_none_of X G z_str
  replace z_int := PySem.W.mg_none_of X G z_int
  replace z_len := PySem.W.mg_none_of X G z_len
  replace z_range := PySem.W.mg_none_of X G z_range
  replace z_all := PySem.W.mg_none_of X G z_all
  replace z_min := PySem.W.mg_none_of X G z_min
  have e := hfa.symm.trans (PySem.W.mg_of X G a31)
  cases e
  refine ⟨PySem.W.fnOf "law" "law" (defArgs st_law) (defBody st_law) (defScope st_law) .none kV31 dc31 pm31 an31 cd31 ct31, fun s v => .of_eq rfl, fun base _ _ => ?_⟩
  have Z : ZSame mg := ⟨z_isinstance, z_dict, z_list, z_tuple, z_bool, z_str, z_int, z_len, z_range, z_all⟩
  have C : Consts mg := ⟨⟨_, m_SIZE⟩, ⟨_, m_DATA⟩, ⟨_, m_FACTORS⟩, ⟨_, m_TOP⟩⟩
  have hS : ∃ t, mg "SIGNS" = some (.str Pv.SIGNS t) := ⟨_, m_SIGNS⟩
  have hD : ∃ t, mg "DEEPEST" = some (.int 60 t) := ⟨_, m_DEEPEST⟩
  have D_mixed : Def l.prog w K mg base 1 "_law_mixed" ["number", "place"] spMixed := ok_mixed T_law_mixed z_int
  have D_rest := ok_rest T_law_rest D_mixed z_int z_len
  have D_draw := ok_draw T_law_draw D_rest z_int
  have D_next := ok_next T_law_next D_rest
  have D_pick := ok_pick T_law_pick D_draw z_len
  have D_sum : Def l.prog w K mg base 1 "sum_of_bits" ["told"] (spSum K) := ok_sum T_sum_of_bits C z_range
  have D_block := ok_block T_block D_sum
  have D_blocks := ok_blocks_of T_blocks_of C D_block z_len z_range
  have D_is := ok_is_block T_is_block C D_sum z_len
  have D_data := ok_data_of T_data_of C z_len D_is (ok_without_end T_without_end z_len)
  have D_bits : Def l.prog w K mg base 1 "_law_bits" ["told"] (spBits K) := ok_bits T_law_bits z_range z_int
  have D_unbits : Def l.prog w K mg base 1 "_law_bytes_of_bits" ["bits"] (spUnbits K) := ok_unbits T_law_bytes_of_bits z_range z_len
  have D_lsum := ok_lsum T_law_sum D_bits D_unbits z_range z_len z_int
  have D_lblocks := ok_lblocks T_law_blocks D_lsum z_range z_len z_int
  have D_nb : Def l.prog w K mg base 1 "number_bytes" ["number"] spNumBytes := ok_number_bytes T_number_bytes
  have D_bytes := ok_bytes_of T_bytes_of hS D_nb z_isinstance z_tuple z_str z_len
  have D_rn : Def l.prog w K mg base 1 "read_number" ["told", "at"] (spReadNum K) := ok_read_number T_read_number z_len
  have D_value := ok_value_of T_value_of hD (ok_read_one T_read_one D_rn (ok_read_string T_read_string hS D_rn z_len)) z_len z_tuple
  have D_record := ok_record T_record D_blocks D_bytes
  have D_log := ok_log_of T_log_of D_record
  have D_rec := ok_recovered T_recovered (ok_first T_first_record C D_data D_value z_len) z_tuple
  have D_lnb : Def l.prog w K mg base 1 "_law_number_bytes" ["number"] spNumBytes := ok_lnb T_law_number_bytes z_range z_int
  have L0 : Def l.prog w K mg base 1 "_law_bytes" ["value"] (spLBytes K 0) := ok_lbytes0 T_law_bytes
  have L1 := ok_lbytes_up T_law_bytes D_lnb z_isinstance z_tuple z_str z_len L0
  have L2 := ok_lbytes_up T_law_bytes D_lnb z_isinstance z_tuple z_str z_len L1
  have L3 := ok_lbytes_up T_law_bytes D_lnb z_isinstance z_tuple z_str z_len L2
  have L4 := ok_lbytes_up T_law_bytes D_lnb z_isinstance z_tuple z_str z_len L3
  have V0 : Def l.prog w K mg base 4 "_law_value_drawn" ["pool", "deep"] (spDrawn K 0) := ok_drawn0 T_law_value_drawn
  have V1 := ok_drawn_up T_law_value_drawn D_draw D_next D_pick z_range z_tuple V0
  have V2 := ok_drawn_up T_law_value_drawn D_draw D_next D_pick z_range z_tuple V1
  have V3 := ok_drawn_up T_law_value_drawn D_draw D_next D_pick z_range z_tuple V2
  have V4 := ok_drawn_up T_law_value_drawn D_draw D_next D_pick z_range z_tuple V3
  have D_law := ok_law T_law ⟨ok_pool T_law_pool D_rest, D_next, D_draw, ok_same T_law_same Z 8, D_lblocks, L4, V4, V3.mono (by decide), ok_changed T_law_changed D_bits D_unbits D_next D_draw z_range z_len z_int z_min, D_record, D_log, D_rec⟩ z_range z_len z_int z_list z_tuple z_all
  exact D_law.at_ hfa l31
end My
open PySem PySem.W PyProof.Rows
set_option maxHeartbeats 0 in
theorem PySem.Challenge.cw_playproof_k60_whole_logs_that_are_cut_holds : PySem.Challenge.rw_playproof_k60_whole_logs_that_are_cut.Holds := by
  w_on; o_law; k_head; (case hw => w_witness2)
  k_fill
  refine L2.walk_of (l := PySem.Challenge.rw_playproof_k60_whole_logs_that_are_cut) (n := 63) (k := 9) (x := "script") (CX := fun _ => L2.CX0) (sp := fun w => My.spLaw _) rfl (by decide) rfl ⟨rfl, by decide, by decide⟩ (fun w h Y => PySem.W.kIn_of Y) ?F (fun _ _ a ns hl ho hS => ⟨a, ns, rfl, My.Scr.of ho hS, hl, fun _ => rfl⟩) (fun _ _ _ _ _ h => h)
  case F =>
    intro w mg fa h KX G hmg
    refine' My.all_mk KX G hmg ?a0 ?l0 ?c0 ?k0 ?a1 ?l1 ?c1 ?k1 ?a2 ?l2 ?c2 ?k2 ?a3 ?l3 ?c3 ?k3 ?a4 ?l4 ?c4 ?k4 ?a5 ?l5 ?c5 ?k5 ?a6 ?l6 ?c6 ?k6 ?a7 ?l7 ?c7 ?k7 ?a8 ?l8 ?c8 ?k8 ?a9 ?l9 ?c9 ?k9 ?a10 ?l10 ?c10 ?k10 ?a11 ?l11 ?c11 ?k11 ?a12 ?l12 ?c12 ?k12 ?a13 ?l13 ?c13 ?k13 ?a14 ?l14 ?c14 ?k14 ?a15 ?l15 ?c15 ?k15 ?a16 ?l16 ?c16 ?k16 ?a17 ?l17 ?c17 ?k17 ?a18 ?l18 ?c18 ?k18 ?a19 ?l19 ?c19 ?k19 ?a20 ?l20 ?c20 ?k20 ?a21 ?l21 ?c21 ?k21 ?a22 ?l22 ?c22 ?k22 ?a23 ?l23 ?c23 ?k23 ?a24 ?l24 ?c24 ?k24 ?a25 ?l25 ?c25 ?k25 ?a26 ?l26 ?c26 ?k26 ?a27 ?l27 ?c27 ?k27 ?a28 ?l28 ?c28 ?k28 ?a29 ?l29 ?c29 ?k29 ?a30 ?l30 ?c30 ?k30 ?a31 ?l31 ?c31 ?k31 ?q0 ?q1 ?q2 ?q3 ?q4 ?q5 ?z_isinstance ?z_dict ?z_list ?z_tuple ?z_bool ?z_str ?z_int ?z_len ?z_range ?z_all ?z_min
    (case a0 => k_is)
    (case l0 => k_is)
    (case c0 => k_is)
    (case k0 => k_is)
    (case a1 => k_is)
    (case l1 => k_is)
    (case c1 => k_is)
    (case k1 => k_is)
    (case a2 => k_is)
    (case l2 => k_is)
    (case c2 => k_is)
    (case k2 => k_is)
    (case a3 => k_is)
    (case l3 => k_is)
    (case c3 => k_is)
    (case k3 => k_is)
    (case a4 => k_is)
    (case l4 => k_is)
    (case c4 => k_is)
    (case k4 => k_is)
    (case a5 => k_is)
    (case l5 => k_is)
    (case c5 => k_is)
    (case k5 => k_is)
    (case a6 => k_is)
    (case l6 => k_is)
    (case c6 => k_is)
    (case k6 => k_is)
    (case a7 => k_is)
    (case l7 => k_is)
    (case c7 => k_is)
    (case k7 => k_is)
    (case a8 => k_is)
    (case l8 => k_is)
    (case c8 => k_is)
    (case k8 => k_is)
    (case a9 => k_is)
    (case l9 => k_is)
    (case c9 => k_is)
    (case k9 => k_is)
    (case a10 => k_is)
    (case l10 => k_is)
    (case c10 => k_is)
    (case k10 => k_is)
    (case a11 => k_is)
    (case l11 => k_is)
    (case c11 => k_is)
    (case k11 => k_is)
    (case a12 => k_is)
    (case l12 => k_is)
    (case c12 => k_is)
    (case k12 => k_is)
    (case a13 => k_is)
    (case l13 => k_is)
    (case c13 => k_is)
    (case k13 => k_is)
    (case a14 => k_is)
    (case l14 => k_is)
    (case c14 => k_is)
    (case k14 => k_is)
    (case a15 => k_is)
    (case l15 => k_is)
    (case c15 => k_is)
    (case k15 => k_is)
    (case a16 => k_is)
    (case l16 => k_is)
    (case c16 => k_is)
    (case k16 => k_is)
    (case a17 => k_is)
    (case l17 => k_is)
    (case c17 => k_is)
    (case k17 => k_is)
    (case a18 => k_is)
    (case l18 => k_is)
    (case c18 => k_is)
    (case k18 => k_is)
    (case a19 => k_is)
    (case l19 => k_is)
    (case c19 => k_is)
    (case k19 => k_is)
    (case a20 => k_is)
    (case l20 => k_is)
    (case c20 => k_is)
    (case k20 => k_is)
    (case a21 => k_is)
    (case l21 => k_is)
    (case c21 => k_is)
    (case k21 => k_is)
    (case a22 => k_is)
    (case l22 => k_is)
    (case c22 => k_is)
    (case k22 => k_is)
    (case a23 => k_is)
    (case l23 => k_is)
    (case c23 => k_is)
    (case k23 => k_is)
    (case a24 => k_is)
    (case l24 => k_is)
    (case c24 => k_is)
    (case k24 => k_is)
    (case a25 => k_is)
    (case l25 => k_is)
    (case c25 => k_is)
    (case k25 => k_is)
    (case a26 => k_is)
    (case l26 => k_is)
    (case c26 => k_is)
    (case k26 => k_is)
    (case a27 => k_is)
    (case l27 => k_is)
    (case c27 => k_is)
    (case k27 => k_is)
    (case a28 => k_is)
    (case l28 => k_is)
    (case c28 => k_is)
    (case k28 => k_is)
    (case a29 => k_is)
    (case l29 => k_is)
    (case c29 => k_is)
    (case k29 => k_is)
    (case a30 => k_is)
    (case l30 => k_is)
    (case c30 => k_is)
    (case k30 => k_is)
    (case a31 => k_is)
    (case l31 => k_is)
    (case c31 => k_is)
    (case k31 => k_is)
    (case q0 => k_is)
    (case q1 => k_is)
    (case q2 => k_is)
    (case q3 => k_is)
    (case q4 => k_is)
    (case q5 => k_is)
    (case z_isinstance => k_is)
    (case z_dict => k_is)
    (case z_list => k_is)
    (case z_tuple => k_is)
    (case z_bool => k_is)
    (case z_str => k_is)
    (case z_int => k_is)
    (case z_len => k_is)
    (case z_range => k_is)
    (case z_all => k_is)
    (case z_min => k_is)
