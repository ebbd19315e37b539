import PyProof.Rows.All
import Wide.All
import OpenK.AllK
import Wide.FinOn
import HandS.ForMost
import HandS.Wide
import HandS.DictComp
import HandS.IsInst
import HandS.Evl
import HandS.Style
import HandS.Replace
import HandS.TupLe
import PySem.Challenge.RW_playproof_k48_whole_files_fed_in_pieces
set_option Elab.async false
set_option linter.all false
set_option maxRecDepth 100000
set_option maxHeartbeats 4000000
/-! Own base: a def by its contract (Def), heaps but for one address (Off), the law's pool of numbers -/
namespace My
open PySem PySem.Spec PyProof.Rows L2
/-- a def of the top that keeps its promise, by the name that it is called by -/
structure Def (P : Program) (w : World) (K : PySem.W.Frag) (mg : Str → Option Value) (base : Heap) (k : Nat) (x : Str) (ps : List Str) (sp : Sp) : Prop where
  ex : ∃ (f : Addr) (fd : FuncData), FnOk P w K mg base CX0 k f fd ps sp ∧ mg x = some (.ref f) ∧ PySem.W.keepIn K (.ref f) = true ∧ Binds K fd ps [] ∧ ∃ oc od osl, K.lookup f = some ⟨oc, od, .func fd, osl⟩
/-- a def as it stands behind the top -/
structure Top (K : PySem.W.Frag) (mg : Str → Option Value) (x : Str) (st : Stmt) (ps : List Str) : Prop where
  ex : ∃ (f : Addr) (fd : FuncData), Fun K x x st f fd ∧ mg x = some (.ref f) ∧ Binds K fd ps []
section
variable {P : Program} {w : World} {K : PySem.W.Frag} {mg : Str → Option Value} {base : Heap} {x : Str} {st : Stmt} {ps N : List Str} {k : Nat} {sp : Sp}
theorem Top.def (T : Top K mg x st ps) (h : ∀ f fd, Fun K x x st f fd → FnOk P w K mg base CX0 k f fd ps sp) : Def P w K mg base k x ps sp := by
  obtain ⟨f, fd, F, m, b⟩ := T.ex
  obtain ⟨oc, od, kV, doc, pm, an, cdv, ct, osl, _, l, _⟩ := F.ex
  exact ⟨f, fd, h f fd F, m, F.kp, b, oc, od, osl, l⟩
theorem Def.mono {j : Nat} (D : Def P w K mg base j x ps sp) (h : j ≤ k) : Def P w K mg base k x ps sp := by
  obtain ⟨f, fd, F, m, kp, b, l⟩ := D.ex
  exact ⟨f, fd, F.mono h, m, kp, b, l⟩
theorem Def.imp {sp' : Sp} (D : Def P w K mg base k x ps sp) (h : ∀ vs H Q E, sp' vs H Q E → sp vs H Q E) : Def P w K mg base k x ps sp' := by
  obtain ⟨f, fd, F, m, kp, b, l⟩ := D.ex
  exact ⟨f, fd, F.imp h, m, kp, b, l⟩
theorem Def.at_ {f : Addr} {fd : FuncData} {oc : Value} {od : Option Addr} {osl : Array (Option Value)} (D : Def P w K mg base k x ps sp) (hm : mg x = some (.ref f)) (hl : K.lookup f = some ⟨oc, od, .func fd, osl⟩) : FnOk P w K mg base CX0 k f fd ps sp := by
  obtain ⟨f', fd', F, m, _, _, oc', od', osl', l⟩ := D.ex
  obtain rfl : f' = f := by
    rw [hm] at m
    injection m with e
    injection e with e
    exact e.symm
  rw [hl] at l
  injection l with e
  injection e with _ _ e _
  injection e with e
  subst e
  exact F
/-- a def of the top, by what the head's facts say of it -/
theorem top_mk {h : Heap} {f : Addr} {od an : Option Addr} {osl : Array (Option Value)} {oc kV doc pm cd ct : Value} (X : K.In h) (G : h.Ns mainGlobals mg) (a : PySem.W.nsIn K mainGlobals x = some (some (.ref f)))
    (l : K.lookup f = some ⟨oc, od, .func (PySem.W.fnOf x x (defArgs st) (defBody st) (defScope st) .none kV doc pm an cd ct), osl⟩) (c : PySem.W.codeIn K cd x = true) (kp : PySem.W.keepIn K (.ref f) = true)
    (hb : ∀ (kV doc pm : Value) (an : Option Addr) (cdv ct : Value) (us : List Value), us.length = ps.length → bindArgs (PySem.W.fnOf x x (defArgs st) (defBody st) (defScope st) .none kV doc pm an cdv ct) ⟨us, []⟩ = pure (ps.zip us)) : Top K mg x st ps :=
  have F := fun_mk (st := st) l c kp
  ⟨f, _, F, PySem.W.mg_of X G a, F.binds hb⟩
theorem rel_abs : ∀ {u : Value} {y : V}, absV u = some y → RelV y u := fun {u y} e => by
  cases u <;> cases e <;> first | rfl | exact ⟨_, rfl⟩
theorem vals_abs : ∀ {us : List Value} {ys : List V}, us.map absV = ys.map some → Vals ys us
  | [], [], _ => .nil
  | [], _ :: _, e => by cases e
  | _ :: _, [], e => by cases e
  | u :: us, y :: ys, e => by
    injection e with e1 e2
    exact .cons (rel_abs e1) (vals_abs e2)
/-- a tuple of the module -/
theorem tup_mk {a : Addr} {od : Option Addr} {its : Array Value} {n : Nat} {osl : Array (Option Value)} {ys : List V} (l : K.lookup a = some ⟨.type "tuple", od, .seq its n, osl⟩) (z : its.size ≤ 1000) (e : its.toList.map absV = ys.map some) (H : Hp) : SqT K H a ys :=
  .inr ⟨_, its, n, l, rfl, rfl, Nat.le_of_lt (small1000 z), vals_abs e⟩
/-- THE RULE for a def: as Fun.ok -/
theorem Top.ok (T : Top K mg x st ps) (S : FnScope N ps (defScope st)) (len : ∀ vs H Q E, sp vs H Q E → vs.length = ps.length)
    (hbody : ∀ (f : Addr) (cdv : Value) (A : Around) (outer : List Env) (s : Shared) (H : Hp) (vs : List V) (Q : VK) (E : XK), Room k (A.deeper (envOfC x (defScope st) s.heap.objs.size f cdv)) → sp vs H Q E →
      ∃ t, PSs (cxOf CX0 P w K mg base N x (defScope st) f cdv A outer s H E).nox (defBody st) t ∧ t { nx := fun _ H' => Q .non H', rt := Q } (start N vs) H) : Def P w K mg base (k + 1) x ps sp :=
  T.def fun f fd F => F.ok S len (hbody f)
end
section
variable {X : Cx} {x : Str} {p pos : Pos} {e : Expr} {es : List Expr} {t : TA} {k : Nat} {ps : List Str} {sp : Sp}
theorem pe_def (D : Def X.prog X.w X.K X.mg X.base k x ps sp) (hr : Room k X.A) (hg : Gl X x) (ha : PA X (e :: es) t) (hdb : (x == ("__debug__" : Str)) = false := by decide)
    (he : starEach (e :: es) X.env = (false, eval e X.env) :: starEach es X.env := by rfl) (hpl : (backTo pos (starEach es X.env)).any (·.1) = false := by rfl) : PE X (.Call (.Name x p) (e :: es) [] pos) (tCall sp [] E0 t) := by
  obtain ⟨f, fd, F, m, kp, b, _⟩ := D.ex
  exact pe_call F hr hg m kp b .nil pass0 ha hdb he hpl
theorem pe_def0 (D : Def X.prog X.w X.K X.mg X.base k x ps sp) (hr : Room k X.A) (hg : Gl X x) (hdb : (x == ("__debug__" : Str)) = false := by decide) : PE X (.Call (.Name x p) [] [] pos) (tCall sp [] E0 tNil) := by
  obtain ⟨f, fd, F, m, kp, b, _⟩ := D.ex
  exact pe_call0 F hr hg m kp b .nil pass0 hdb
end
/-! rules that name the written part, K told: they serve within a comprehension, too -/
section
variable {X : Cx}
theorem ixL (K : PySem.W.Frag) (h : X.K = K := by rfl) : IxR X (rIxL K) := by subst h; exact ix_list
theorem ixT (K : PySem.W.Frag) (h : X.K = K := by rfl) : IxR X (rIxT K) := by subst h; exact ix_tup
theorem ixQ (K : PySem.W.Frag) (h : X.K = K := by rfl) : IxR X (rIx K) := by subst h; exact ix_seq
theorem slL (K : PySem.W.Frag) (h : X.K = K := by rfl) : SlR X (rSlL K) := by subst h; exact sl_list
theorem slT (K : PySem.W.Frag) (h : X.K = K := by rfl) : SlR X (rSlT K) := by subst h; exact sl_tup
def rLen (K : PySem.W.Frag) : List V → Hp → VK → Prop := fun xs H Q => ∃ p ys, xs = [.ref p] ∧ (SqL K H p ys ∨ SqT K H p ys) ∧ Q (.int ys.length) H
theorem lenQ (K : PySem.W.Frag) (h : X.K = K := by rfl) : CallR X (.builtin "len") (rLen K) := by subst h; exact call_len_seq
def rLstOf (K : PySem.W.Frag) : List V → Hp → VK → Prop := fun xs H Q => ∃ p ys, xs = [.ref p] ∧ (SqL K H p ys ∨ SqT K H p ys) ∧ ∀ l, H l = none → Q (.ref l) (upd H l (.lst ys))
theorem lstQ (K : PySem.W.Frag) (h : X.K = K := by rfl) : CallR X (.type "list") (rLstOf K) := by subst h; exact call_list_of
def rTupOf (K : PySem.W.Frag) : List V → Hp → VK → Prop := fun xs H Q => ∃ p ys, xs = [.ref p] ∧ ((SqL K H p ys ∧ ∀ l, H l = none → Q (.ref l) (upd H l (.tup ys))) ∨ (SqT K H p ys ∧ Q (.ref p) H))
theorem tupQ (K : PySem.W.Frag) (h : X.K = K := by rfl) : CallR X (.type "tuple") (rTupOf K) := by subst h; exact call_tuple_of
theorem inQ (K : PySem.W.Frag) (h : X.K = K := by rfl) : OpR X (compareOp .In) (rIn K false) := by subst h; exact op_in_seq
theorem ninQ (K : PySem.W.Frag) (h : X.K = K := by rfl) : OpR X (compareOp .NotIn) (rIn K true) := by subst h; exact op_notIn_seq
theorem isiQ (K : PySem.W.Frag) (h : X.K = K := by rfl) : CallR X (.builtin "isinstance") (rIsi K) := by subst h; exact call_isi
theorem allQ (K : PySem.W.Frag) (hc : X.calm = true := by rfl) (h : X.K = K := by rfl) : CallR X (.builtin "all") (rAll K) := by subst h; exact cr_all hc
theorem anyQ (K : PySem.W.Frag) (hc : X.calm = true := by rfl) (h : X.K = K := by rfl) : CallR X (.builtin "any") (rAny K) := by subst h; exact cr_any hc
theorem eqQ (K : PySem.W.Frag) (hu : X.A.units + 64 < cLine) (h : X.K = K := by rfl) : OpR X (compareOp .Eq) (rEqD K) := by subst h; exact op_eqD hu
theorem neQ (K : PySem.W.Frag) (hu : X.A.units + 64 < cLine) (h : X.K = K := by rfl) : OpR X (compareOp .NotEq) (rNeD K) := by subst h; exact op_neD hu
end
/-- over a locked dict's keys -/
theorem for_keys {d : Addr} {o : Obj} {kvs : List (Key × V)} {g : TG} {tb : TS} {D : Ends} {σ : L2.St} {H : Hp} (Pv : Nat → L2.St → Hp → Prop) (h0 : Pv 0 σ H) (hl : ∀ i σ H, Pv i σ H → H d = some (.frz o (.dK kvs)))
    (hs : ∀ i k v σ H, kvs[i]? = some (k, v) → Pv i σ H → g (kV k) σ H fun σ2 H2 => tb { D with nx := Pv (i + 1), ct := Pv (i + 1), bk := D.nx } σ2 H2) (hd : ∀ σ H, Pv kvs.length σ H → D.nx σ H) :
    ∃ W : Nat → Nat → L2.St → Hp → Prop, (∃ m, W 0 m σ H) ∧ ∀ i m σ H, W i m σ H → ((Itk d o kvs).stop i H ∧ D.nx σ H) ∨ ((Itk d o kvs).go i H ∧ ∃ N : L2.St → Hp → Prop, (∀ σ' H', N σ' H' → ∃ m', m' < m ∧ W (i + 1) m' σ' H') ∧
      ∀ x H', (Itk d o kvs).yld i H x H' → g x σ H' fun σ2 H2 => tb { D with nx := N, ct := N, bk := D.nx } σ2 H2) := by
  refine ⟨fun i m σ H => m = kvs.length - i ∧ i ≤ kvs.length ∧ Pv i σ H, ⟨_, rfl, Nat.zero_le _, h0⟩, ?_⟩
  rintro i m σ H ⟨rfl, hi, p⟩
  by_cases lt : i < kvs.length
  · refine .inr ⟨⟨hl i σ H p, lt⟩, Pv (i + 1), fun σ' H' p' => ⟨_, by omega, rfl, lt, p'⟩, fun x H' y => ?_⟩
    obtain ⟨rfl, k, v, e, rfl⟩ := y
    exact hs i k v σ H' e p
  · have e : i = kvs.length := Nat.le_antisymm hi (Nat.le_of_not_lt lt)
    exact .inl ⟨⟨hl i σ H p, by omega⟩, hd σ H (e ▸ p)⟩
/-! ### heaps -/
/-- all but p is as it was -/
def Off (p : Addr) (H H' : Hp) : Prop := ∀ b, b ≠ p → H' b = H b
theorem Off.refl {p : Addr} (H : Hp) : Off p H H := fun _ _ => rfl
theorem Off.trans {p : Addr} {H H1 H2 : Hp} (a : Off p H H1) (b : Off p H1 H2) : Off p H H2 := fun c h => (b c h).trans (a c h)
theorem Off.upd {p : Addr} {H : Hp} {o : HO} : Off p H (L2.upd H p o) := fun _ h => upd_ne h
theorem Off.get {p : Addr} {H H' : Hp} (a : Off p H H') {b : Addr} {o : HO} (h : b ≠ p) (e : H b = some o) : H' b = some o := (a b h).trans e
theorem Off.tup {p : Addr} {H H' : Hp} (a : Off p H H') {b : Addr} {xs ys : List V} (hp : H p = some (.lst xs)) (e : H b = some (.tup ys)) : H' b = some (.tup ys) :=
  a.get (fun z => by subst z; rw [hp] at e; cases e) e
theorem sqL_off {K : PySem.W.Frag} {p a : Addr} {H H' : Hp} {xs : List V} (o : Off p H H') (n : a ≠ p) (h : SqL K H a xs) : SqL K H' a xs := by
  rcases h with (h | ⟨u, h⟩) | h
  · exact .inl (.inl (o.get n h))
  · exact .inl (.inr ⟨u, o.get n h⟩)
  · exact .inr h
theorem sqT_off {K : PySem.W.Frag} {p a : Addr} {H H' : Hp} {xs : List V} (o : Off p H H') (n : a ≠ p) (h : SqT K H a xs) : SqT K H' a xs := by
  rcases h with (h | ⟨u, h⟩) | h
  · exact .inl (.inl (o.get n h))
  · exact .inl (.inr ⟨u, o.get n h⟩)
  · exact .inr h
theorem sqL_upd {K : PySem.W.Frag} {p a : Addr} {H : Hp} {o : HO} {xs : List V} (n : a ≠ p) (h : SqL K H a xs) : SqL K (upd H p o) a xs := sqL_off Off.upd n h
theorem sqT_upd {K : PySem.W.Frag} {p a : Addr} {H : Hp} {o : HO} {xs : List V} (n : a ≠ p) (h : SqT K H a xs) : SqT K (upd H p o) a xs := sqT_off Off.upd n h
/-! ### the pool of numbers: [script, place, rest, fills] -/
def poolO (a : Addr) (i : Nat) (n f : Int) : HO := .lst [.ref a, .int i, .int n, .int f]
/-- the script: locked, or an object of the module -/
def Scr (K : PySem.W.Frag) (H : Hp) (a : Addr) (ns : List Int) : Prop :=
  (∃ u, H a = some (.frz u (.lst (ns.map V.int)))) ∨ ∀ H', SqL K H' a (ns.map V.int)
theorem Scr.sq {K : PySem.W.Frag} {H : Hp} {a : Addr} {ns : List Int} (h : Scr K H a ns) : SqL K H a (ns.map V.int) := by
  rcases h with ⟨u, h⟩ | h
  · exact .inl (.inr ⟨u, h⟩)
  · exact h H
theorem Scr.of {K : PySem.W.Frag} {H : Hp} {a : Addr} {ns : List Int} (ho : Only H) (h : SqL K H a (ns.map V.int)) : Scr K H a ns := by
  rcases h with (h | ⟨u, h⟩) | h
  · rcases ho a with e | ⟨o, xs, e⟩ <;> rw [h] at e <;> cases e
  · exact .inl ⟨u, h⟩
  · exact .inr fun _ => .inr h
/-- what may change: nothing that is locked -/
def Fz : Option HO → Prop
  | some (.frz _ _) => False
  | _ => True
theorem Scr.off {K : PySem.W.Frag} {H H' : Hp} {a q : Addr} {ns : List Int} (h : Scr K H a ns) (o : Off q H H') (n : Fz (H q)) : Scr K H' a ns := by
  rcases h with ⟨u, h⟩ | h
  · refine .inl ⟨u, o.get (fun z => ?_) h⟩
    subst z
    rw [h] at n
    exact n
  · exact .inr h
structure PoolAt (K : PySem.W.Frag) (H : Hp) (p a : Addr) : Prop where
  ex : ∃ (i : Nat) (n f : Int), H p = some (poolO a i n f)
  sc : ∃ ns : List Int, ns.length ≤ 63 ∧ Scr K H a ns
theorem PoolAt.off {K : PySem.W.Frag} {H H' : Hp} {p a q : Addr} (h : PoolAt K H p a) (o : Off q H H') (n : p ≠ q) (z : Fz (H q)) : PoolAt K H' p a := by
  obtain ⟨⟨i, y, f, e⟩, ⟨ns, l, s⟩⟩ := h
  exact ⟨⟨i, y, f, o.get n e⟩, ⟨ns, l, s.off o z⟩⟩
/-- a new object beside it -/
theorem PoolAt.new {K : PySem.W.Frag} {H : Hp} {p a q : Addr} {o : HO} (h : PoolAt K H p a) (n : H q = none) : PoolAt K (L2.upd H q o) p a := by
  obtain ⟨i, y, f, e⟩ := h.ex
  exact h.off Off.upd (ne_of_none e n) (by rw [n]; trivial)
theorem PoolAt.upd {K : PySem.W.Frag} {H : Hp} {p a : Addr} {i : Nat} {n f : Int} (h : PoolAt K H p a) : PoolAt K (L2.upd H p (poolO a i n f)) p a := by
  obtain ⟨⟨i', n', f', e⟩, ⟨ns, l, s⟩⟩ := h
  exact ⟨⟨i, n, f, upd_same⟩, ⟨ns, l, s.off Off.upd (by rw [e]; trivial)⟩⟩
/-! ### the promises of the law's own numbers -/
def spMixed : Sp := fun vs H Q _ => ∃ n p : Int, vs = [.int n, .int p] ∧ ∀ v : Int, Q (.int v) H
/-- a rest at a place of the script -/
def spRest (K : PySem.W.Frag) : Sp := fun vs H Q _ => ∃ (a : Addr) (ns : List Int) (i f : Int), vs = [.ref a, .int i, .int f] ∧ Scr K H a ns ∧ ns.length ≤ 63 ∧ ∀ v : Int, Q (.int v) H
def spPool (K : PySem.W.Frag) : Sp := fun vs H Q _ => ∃ (a : Addr) (ns : List Int), vs = [.ref a] ∧ Scr K H a ns ∧ ns.length ≤ 63 ∧ ∀ (p : Addr) (H' : Hp), H p = none → Off p H H' → PoolAt K H' p a → Q (.ref p) H'
def spNext (K : PySem.W.Frag) : Sp := fun vs H Q _ => ∃ p a : Addr, vs = [.ref p] ∧ PoolAt K H p a ∧ ∀ H', Off p H H' → PoolAt K H' p a → Q .non H'
/-- a number below the limit -/
def spDraw (K : PySem.W.Frag) : Sp := fun vs H Q _ => ∃ (p a : Addr) (lim : Int), vs = [.ref p, .int lim] ∧ PoolAt K H p a ∧ 0 < lim ∧ lim < 1073741824 ∧ ∀ (v : Int) (H' : Hp), 0 ≤ v → v < lim → Off p H H' → PoolAt K H' p a → Q (.int v) H'
/-- one of a list's items -/
def spPick (K : PySem.W.Frag) : Sp := fun vs H Q _ => ∃ (p a o : Addr) (xs : List V), vs = [.ref p, .ref o] ∧ PoolAt K H p a ∧ SqL K H o xs ∧ o ≠ p ∧ 0 < xs.length ∧ xs.length ≤ 100000 ∧ ∀ (x : V) (H' : Hp), x ∈ xs → Off p H H' → PoolAt K H' p a → Q x H'
/-- the item of a list at a place that % gives -/
theorem at_mod {α : Type} {xs : List α} {i : Int} (h : 0 < xs.length) : ∃ x, atI xs (i % (xs.length : Int)) = some x ∧ x ∈ xs := by
  have h0 : 0 ≤ i % (xs.length : Int) := Int.emod_nonneg _ (by omega)
  have h1 : i % (xs.length : Int) < (xs.length : Int) := Int.emod_lt_of_pos _ (by omega)
  obtain ⟨j, e⟩ := Int.eq_ofNat_of_zero_le h0
  have hj : j < xs.length := by omega
  rw [e]
  exact ⟨xs[j], atI_nat (List.getElem?_eq_getElem hj), List.getElem_mem hj⟩
theorem at_in {α : Type} {xs : List α} {i : Int} (h0 : 0 ≤ i) (h1 : i < (xs.length : Int)) : ∃ x, atI xs i = some x ∧ x ∈ xs := by
  obtain ⟨j, e⟩ := Int.eq_ofNat_of_zero_le h0
  have hj : j < xs.length := by omega
  rw [e]
  exact ⟨xs[j], atI_nat (List.getElem?_eq_getElem hj), List.getElem_mem hj⟩
theorem emod_abs {i m : Int} {b : Nat} (h : 0 < m) (hm : m ≤ 2 ^ b) : (i % m).natAbs < 2 ^ b := by
  have h0 := Int.emod_nonneg i (Int.ne_of_gt h)
  have h1 := Int.emod_lt_of_pos i h
  have h2 : i % m < ((2 ^ b : Nat) : Int) := Int.lt_of_lt_of_le h1 (by exact_mod_cast hm)
  omega
end My
set_option Elab.async false
set_option linter.all false
set_option maxRecDepth 100000
set_option maxHeartbeats 4000000
/-! Data that the laws compare; small tests; a comprehension over a range with a step; is True -/
namespace My
open PySem PySem.Spec PyProof.Rows L2
theorem ifS {x : Str} {A B : Prop} (h : A) : if decide (V.str x = V.str x) = true then A else B := by
  rw [decide_eq_true rfl]
  exact iteT h
theorem ifN {x y : Str} {A B : Prop} (n : x ≠ y) (h : B) : if decide (V.str x = V.str y) = true then A else B := by
  rw [decide_eq_false fun z => n (V.str.inj z)]
  exact iteF h
theorem ifB {c A B : Prop} [Decidable c] {b : Bool} (h : decide c = b) (k : if b = true then A else B) : if decide c = true then A else B := by
  rw [h]
  exact k
theorem ifnB {c A B : Prop} [Decidable c] {b : Bool} (h : decide c = b) (k : if b = true then B else A) : if (!decide c) = true then A else B := by
  rw [h]
  cases b
  · exact iteT k
  · exact iteF k
theorem ifD {c A B : Prop} [Decidable c] (h : c) (a : A) : if decide c = true then A else B := by
  rw [decide_eq_true h]
  exact iteT a
theorem ifND {c A B : Prop} [Decidable c] (h : ¬ c) (b : B) : if decide c = true then A else B := by
  rw [decide_eq_false h]
  exact iteF b
theorem ifnD {c A B : Prop} [Decidable c] (h : c) (b : B) : if (!decide c) = true then A else B := by
  rw [decide_eq_true h]
  exact iteF b
theorem ifnND {c A B : Prop} [Decidable c] (h : ¬ c) (a : A) : if (!decide c) = true then A else B := by
  rw [decide_eq_false h]
  exact iteT a
/-- any test: by its value -/
theorem ifV {t b : Bool} {A B : Prop} (h : t = b) (k : if b = true then A else B) : if t = true then A else B := by
  rw [h]
  exact k
theorem dec_i (i j : Int) : decide (V.int i = V.int j) = decide (i = j) := by
  by_cases e : i = j
  · subst e
    rw [decide_eq_true rfl, decide_eq_true rfl]
  · rw [decide_eq_false e, decide_eq_false fun z => e (V.int.inj z)]
theorem dec_b (i j : Bool) : decide (V.bl i = V.bl j) = decide (i = j) := by
  by_cases e : i = j
  · subst e
    rw [decide_eq_true rfl, decide_eq_true rfl]
  · rw [decide_eq_false e, decide_eq_false fun z => e (V.bl.inj z)]
theorem sqT_same {K : PySem.W.Frag} {H H' : Hp} {a : Addr} {xs : List V} (s : Same H H') (h : SqT K H a xs) : SqT K H' a xs := by
  rcases h with (h | ⟨u, h⟩) | h
  · exact .inl (.inl (s _ _ h))
  · exact .inl (.inr ⟨u, s _ _ h⟩)
  · exact .inr h
theorem Same.new {H : Hp} {p : Addr} {o : HO} (h : H p = none) : Same H (upd H p o) := fun b x e => by
  rw [upd_ne (ne_of_none e h)]
  exact e
/-- what H does not know may change -/
theorem same_mut {H H' : Hp} {d : Addr} {o : HO} (s : Same H H') (n : H d = none) : Same H (upd H' d o) := fun b x e => by
  rw [upd_ne (ne_of_none e n)]
  exact s b x e
theorem PoolAt.same {K : PySem.W.Frag} {H H' : Hp} {p a : Addr} (h : PoolAt K H p a) (s : Same H H') : PoolAt K H' p a := by
  obtain ⟨⟨i, n, f, e⟩, ns, l, sc⟩ := h
  refine ⟨⟨i, n, f, s _ _ e⟩, ns, l, ?_⟩
  rcases sc with ⟨u, h⟩ | h
  · exact .inl ⟨u, s _ _ h⟩
  · exact .inr h
theorem rd_lst {H : Hp} {q : Addr} {ys : List V} (h : H q = some (.lst ys)) : ∀ xs, ¬ Rd H q (.tup xs) := fun xs r => by
  rcases r with r | ⟨u, r⟩ <;> rw [h] at r <;> cases r
theorem rd_none {H : Hp} {q : Addr} (h : H q = none) : ∀ xs, ¬ Rd H q (.tup xs) := fun xs r => by
  rcases r with r | ⟨u, r⟩ <;> rw [h] at r <;> cases r
theorem sq_len {n : Nat} (h : n ≤ 1000000) : n < sizeLine := by
  rw [sizeLine_eq]
  omega
/-! ### a list of numbers, a list of bits -/
def bv (bs : List Nat) : List V := bs.map fun (n : Nat) => V.int (n : Int)
def bitI (b : Bool) : Int := if b then 1 else 0
def bbv (bs : List Bool) : List V := bs.map fun b => V.int (bitI b)
theorem bv_len (bs : List Nat) : (bv bs).length = bs.length := List.length_map _
theorem bbv_len (bs : List Bool) : (bbv bs).length = bs.length := List.length_map _
theorem bv_app (a b : List Nat) : bv (a ++ b) = bv a ++ bv b := List.map_append
theorem bbv_app (a b : List Bool) : bbv (a ++ b) = bbv a ++ bbv b := List.map_append
theorem bv_get {bs : List Nat} {i n : Nat} (h : bs[i]? = some n) : (bv bs)[i]? = some (.int n) := by
  unfold bv
  rw [List.getElem?_map, h]
  rfl
theorem bv_of {bs : List Nat} {i : Nat} {x : V} (h : (bv bs)[i]? = some x) : ∃ n : Nat, bs[i]? = some n ∧ x = .int n := by
  unfold bv at h
  rw [List.getElem?_map] at h
  cases e : bs[i]? with
  | none => rw [e] at h; cases h
  | some n =>
    rw [e] at h
    exact ⟨n, rfl, (Option.some.inj h).symm⟩
theorem bbv_get {bs : List Bool} {i : Nat} {b : Bool} (h : bs[i]? = some b) : (bbv bs)[i]? = some (.int (bitI b)) := by
  unfold bbv
  rw [List.getElem?_map, h]
  rfl
theorem bbv_of {bs : List Bool} {i : Nat} {x : V} (h : (bbv bs)[i]? = some x) : ∃ b : Bool, bs[i]? = some b ∧ x = .int (bitI b) := by
  unfold bbv at h
  rw [List.getElem?_map] at h
  cases e : bs[i]? with
  | none => rw [e] at h; cases h
  | some n =>
    rw [e] at h
    exact ⟨n, rfl, (Option.some.inj h).symm⟩
/-- slices -/
theorem cut_ge (xs : List V) (n : Nat) : cutV xs (some (n : Int)) none = xs.drop n := by
  unfold cutV
  rw [HT.sIx_nat, HT.sIx_none]
  by_cases h : n ≤ xs.length
  · rw [Nat.min_eq_left h, List.take_of_length_le (by rw [List.length_drop]; omega)]
  · rw [Nat.min_eq_right (by omega), List.drop_eq_nil_of_le (Nat.le_refl _), List.drop_eq_nil_of_le (by omega), List.take_nil]
theorem cut_lt (xs : List V) (n : Nat) : cutV xs none (some (n : Int)) = xs.take n := by
  unfold cutV
  rw [HT.sIx_nat, HT.sIx_none, List.drop_zero, Nat.sub_zero]
  by_cases h : n ≤ xs.length
  · rw [Nat.min_eq_left h]
  · rw [Nat.min_eq_right (by omega), List.take_of_length_le (Nat.le_refl _), List.take_of_length_le (by omega)]
theorem cut_mid (xs : List V) (n m : Nat) : cutV xs (some (n : Int)) (some (m : Int)) = (xs.drop n).take (m - n) := by
  unfold cutV
  rw [HT.sIx_nat, HT.sIx_nat]
  by_cases h : n ≤ xs.length
  · rw [Nat.min_eq_left h]
    by_cases h2 : m ≤ xs.length
    · rw [Nat.min_eq_left h2]
    · rw [Nat.min_eq_right (by omega), List.take_of_length_le (by rw [List.length_drop]; omega), List.take_of_length_le (by rw [List.length_drop]; omega)]
  · rw [Nat.min_eq_right (a := n) (by omega), List.drop_eq_nil_of_le (Nat.le_refl _), List.drop_eq_nil_of_le (by omega), List.take_nil, List.take_nil]
/-- from the end: xs[-n:], xs[:-n] -/
theorem cut_back (xs : List V) (n : Nat) (h : 0 < n) : cutV xs (some (-(n : Int))) none = xs.drop (xs.length - n) := by
  unfold cutV
  have e : HT.sIx xs.length 0 (some (-(n : Int))) = xs.length - n := by
    show (if (-(n : Int)) < 0 then ((-(n : Int)) + (xs.length : Int)).toNat else min (-(n : Int)).toNat xs.length) = _
    rw [if_pos (by omega)]
    omega
  rw [e, HT.sIx_none, List.take_of_length_le (by rw [List.length_drop]; omega)]
theorem cut_front (xs : List V) (n : Nat) (h : 0 < n) : cutV xs none (some (-(n : Int))) = xs.take (xs.length - n) := by
  unfold cutV
  have e : HT.sIx xs.length xs.length (some (-(n : Int))) = xs.length - n := by
    show (if (-(n : Int)) < 0 then ((-(n : Int)) + (xs.length : Int)).toNat else min (-(n : Int)).toNat xs.length) = _
    rw [if_pos (by omega)]
    omega
  rw [e, HT.sIx_none, List.drop_zero, Nat.sub_zero]
theorem bv_drop (bs : List Nat) (n : Nat) : (bv bs).drop n = bv (bs.drop n) := List.map_drop.symm
theorem bv_take (bs : List Nat) (n : Nat) : (bv bs).take n = bv (bs.take n) := List.map_take.symm
theorem bbv_drop (bs : List Bool) (n : Nat) : (bbv bs).drop n = bbv (bs.drop n) := List.map_drop.symm
theorem bbv_take (bs : List Bool) (n : Nat) : (bbv bs).take n = bbv (bs.take n) := List.map_take.symm
/-! ### data, by depth -/
def DW (K : PySem.W.Frag) (H : Hp) : Nat → V → PyData → Prop
  | 0, _, _ => False
  | n + 1, x, d => match d with
    | .none => x = .non
    | .bool b => x = .bl b
    | .int i => x = .int i
    | .str s => x = .str s
    | .list ds => ∃ a xs, x = .ref a ∧ SqL K H a xs ∧ xs.length = ds.length ∧ xs.length ≤ 1000000 ∧ ∀ (i : Nat) y e, xs[i]? = some y → ds[i]? = some e → DW K H n y e
    | .tuple ds => ∃ a xs, x = .ref a ∧ SqT K H a xs ∧ xs.length = ds.length ∧ xs.length ≤ 1000000 ∧ ∀ (i : Nat) y e, xs[i]? = some y → ds[i]? = some e → DW K H n y e
    | .dict _ => False
theorem DW.same {K : PySem.W.Frag} {H H' : Hp} (s : Same H H') : ∀ {n : Nat} {x : V} {d : PyData}, DW K H n x d → DW K H' n x d
  | 0, _, _, h => h
  | n + 1, x, d, h => by
    cases d with
    | none => exact h
    | bool b => exact h
    | int i => exact h
    | str z => exact h
    | dict _ => exact h
    | list ds =>
      obtain ⟨a, xs, e, l, n1, n2, k⟩ := h
      exact ⟨a, xs, e, s.seq l, n1, n2, fun i y e hy he => DW.same s (k i y e hy he)⟩
    | tuple ds =>
      obtain ⟨a, xs, e, l, n1, n2, k⟩ := h
      exact ⟨a, xs, e, sqT_same s l, n1, n2, fun i y e hy he => DW.same s (k i y e hy he)⟩
theorem DW.up {K : PySem.W.Frag} {H : Hp} : ∀ {n m : Nat} {x : V} {d : PyData}, n ≤ m → DW K H n x d → DW K H m x d
  | 0, _, _, _, _, h => h.elim
  | n + 1, 0, _, _, l, _ => by omega
  | n + 1, m + 1, x, d, l, h => by
    cases d with
    | none => exact h
    | bool b => exact h
    | int i => exact h
    | str z => exact h
    | dict _ => exact h
    | list ds =>
      obtain ⟨a, xs, e, l', n1, n2, k⟩ := h
      exact ⟨a, xs, e, l', n1, n2, fun i y e hy he => DW.up (by omega) (k i y e hy he)⟩
    | tuple ds =>
      obtain ⟨a, xs, e, l', n1, n2, k⟩ := h
      exact ⟨a, xs, e, l', n1, n2, fun i y e hy he => DW.up (by omega) (k i y e hy he)⟩
/-- a list of numbers as data -/
def nd (bs : List Nat) : PyData := .list (bs.map fun (n : Nat) => .int (n : Int))
theorem DW.nums {K : PySem.W.Frag} {H : Hp} {a : Addr} {bs : List Nat} (h : SqL K H a (bv bs)) (l : bs.length ≤ 1000000) (n : Nat) : DW K H (n + 2) (.ref a) (nd bs) :=
  ⟨a, bv bs, rfl, h, by rw [bv_len, List.length_map], by rw [bv_len]; exact l, fun i y e hy he => by
    obtain ⟨m, hm, rfl⟩ := bv_of hy
    rw [List.getElem?_map, hm] at he
    obtain rfl := Option.some.inj he
    rfl⟩
/-- what is walked item by item: two lists of the same length -/
theorem DW.items {K : PySem.W.Frag} {H : Hp} {n : Nat} : ∀ {xs : List V} {ds : List PyData}, Paired (DW K H n) xs ds → ∀ (i : Nat) y e, xs[i]? = some y → ds[i]? = some e → DW K H n y e := by
  intro xs ds h
  induction h with
  | nil => intro i y e hy; simp at hy
  | cons h t ih =>
    intro i y e hy he
    cases i with
    | zero =>
      obtain rfl := Option.some.inj hy
      obtain rfl := Option.some.inj he
      exact h
    | succ i => exact ih i y e hy he
theorem paired_len {α β : Type} {F : α → β → Prop} {xs : List α} {ds : List β} (h : Paired F xs ds) : xs.length = ds.length := by
  induction h with
  | nil => rfl
  | cons h t ih => rw [List.length_cons, List.length_cons, ih]
theorem DW.tup {K : PySem.W.Frag} {H : Hp} {n : Nat} {a : Addr} {xs : List V} {ds : List PyData} (h : SqT K H a xs) (l : xs.length ≤ 1000000) (p : Paired (DW K H n) xs ds) : DW K H (n + 1) (.ref a) (.tuple ds) :=
  ⟨a, xs, rfl, h, paired_len p, l, DW.items p⟩
theorem DW.lst {K : PySem.W.Frag} {H : Hp} {n : Nat} {a : Addr} {xs : List V} {ds : List PyData} (h : SqL K H a xs) (l : xs.length ≤ 1000000) (p : Paired (DW K H n) xs ds) : DW K H (n + 1) (.ref a) (.list ds) :=
  ⟨a, xs, rfl, h, paired_len p, l, DW.items p⟩
theorem tyx_list {K : PySem.W.Frag} {H : Hp} {a : Addr} {xs : List V} (h : SqL K H a xs) : TyX K H (.ref a) (.type "list") := by
  rcases h with (h | ⟨u, h⟩) | ⟨o, its, n, h, c, _⟩
  · exact .base (.lst h)
  · exact .base (.frz h)
  · exact .kList h c
theorem tyx_tuple {K : PySem.W.Frag} {H : Hp} {a : Addr} {xs : List V} (h : SqT K H a xs) : TyX K H (.ref a) (.type "tuple") := by
  rcases h with (h | ⟨u, h⟩) | ⟨o, its, n, h, c, _⟩
  · exact .base (.tup h)
  · exact .fTuple h
  · exact .kTuple h c
/-! ### lists of numbers by == -/
theorem dp_nums {K : PySem.W.Frag} {H : Hp} : ∀ bs : List Nat, DpAll K H (bv bs) (bs.map fun (n : Nat) => .int (n : Int))
  | [] => .nil
  | b :: bs => .cons (.int _) (dp_nums bs)
theorem dp_list {K : PySem.W.Frag} {H : Hp} {a : Addr} {bs : List Nat} (h : SqL K H a (bv bs)) : Dp K H (.ref a) (nd bs) := .lst h (dp_nums bs)
theorem lay_nums : ∀ bs : List Nat, PyData.canLayAll0 (bs.map fun (n : Nat) => .int (n : Int)) = true
  | [] => by simp only [List.map_nil, PyData.canLayAll0]
  | b :: bs => by
    simp only [List.map_cons, PyData.canLayAll0, PyData.canLay0, Bool.true_and]
    exact lay_nums bs
theorem deep_nums : ∀ bs : List Nat, PyData.depthAll (bs.map fun (n : Nat) => .int (n : Int)) = 0
  | [] => by simp only [List.map_nil, PyData.depthAll]
  | b :: bs => by
    simp only [List.map_cons, PyData.depthAll, PyData.depth]
    rw [deep_nums bs]
    rfl
theorem shaped_nums (bs : List Nat) : SeqAt.shaped (nd bs) = true := by
  unfold SeqAt.shaped nd
  simp only [PyData.canLay0, PyData.depth, lay_nums, deep_nums]
  rfl
theorem eqvAll_nums : ∀ as bs : List Nat, PyData.eqvAll (as.map fun (n : Nat) => .int (n : Int)) (bs.map fun (n : Nat) => .int (n : Int)) = decide (as = bs)
  | [], [] => by simp only [List.map_nil, PyData.eqvAll]; decide
  | [], b :: bs => by simp only [List.map_nil, List.map_cons, PyData.eqvAll]; exact (decide_eq_false (by simp)).symm
  | a :: as, [] => by simp only [List.map_nil, List.map_cons, PyData.eqvAll]; exact (decide_eq_false (by simp)).symm
  | a :: as, b :: bs => by
    simp only [List.map_cons, PyData.eqvAll, PyData.eqv]
    rw [eqvAll_nums as bs]
    by_cases e : a = b
    · subst e
      simp
    · have e2 : ((a : Int) == (b : Int)) = false := by
        rw [beq_eq_false_iff_ne]
        omega
      rw [e2, Bool.false_and]
      exact (decide_eq_false (by simp [e])).symm
theorem eqv_nums (as bs : List Nat) : PyData.eqv (nd as) (nd bs) = decide (as = bs) := by
  unfold nd
  simp only [PyData.eqv]
  exact eqvAll_nums as bs
/-! ### is True, is False, is None -/
section
variable {X : Cx}
def rIsC : R2 := fun x y H Q => ((∃ b, y = .bl b) ∨ y = .non) ∧ Q (.bl (decide (x = y))) H
theorem op_isC : OpR X (compareOp .Is) rIsC := by
  intro pins s σ H x y v u Q I rx ry h
  obtain ⟨⟨b, rfl⟩ | rfl, q⟩ := h
  · cases (show u = Value.bool b from ry)
    by_cases e : x = .bl b
    · subst e
      cases (show v = Value.bool b from rx)
      rw [decide_eq_true rfl] at q
      exact wpAny_is_self rfl (fin_bl I q rfl)
    · rw [decide_eq_false e] at q
      cases x with
      | non =>
        cases (show v = Value.none from rx)
        exact wpAny_is_other rfl (fun z => by cases z) (fin_bl I q rfl)
      | bl c =>
        cases (show v = Value.bool c from rx)
        exact wpAny_is_other rfl (fun z => e (by cases z; rfl)) (fin_bl I q rfl)
      | int i =>
        obtain ⟨t, rfl⟩ := (show ∃ t, v = Value.int i t from rx)
        exact wpAny_is_other rfl (fun z => by cases z) (fin_bl I q rfl)
      | str i =>
        obtain ⟨t, rfl⟩ := (show ∃ t, v = Value.str i t from rx)
        exact wpAny_is_other rfl (fun z => by cases z) (fin_bl I q rfl)
      | byt i =>
        obtain ⟨t, rfl⟩ := (show ∃ t, v = Value.bytes i t from rx)
        exact wpAny_is_other rfl (fun z => by cases z) (fin_bl I q rfl)
      | flt i =>
        obtain ⟨t, rfl⟩ := (show ∃ t, v = Value.float i t from rx)
        exact wpAny_is_other rfl (fun z => by cases z) (fin_bl I q rfl)
      | ref a =>
        cases (show v = Value.ref a from rx)
        exact wpAny_is_other rfl (fun z => by cases z) (fin_bl I q rfl)
      | ty n =>
        cases (show v = Value.type n from rx)
        exact wpAny_is_other rfl (fun z => by cases z) (fin_bl I q rfl)
  · exact op_isN pins s σ H x .non v u Q I rx ry ⟨rfl, q⟩
end
/-! ### [.. for x in range(i, j, c)] -/
theorem lc_rangeC {lo c : Int} {n : Nat} {g : TG} {tt : TT} {te : TE} {vs : List Nat} {σ : L2.St} {H1 : Hp} {D : Addr} {Qd : Hp → Prop} (Pv : Nat → Hp → Prop) (h0 : Pv 0 (upd H1 D (.lst [])))
    (hs : ∀ i H, i < n → Pv i H → g (.int (lo + (i : Nat) * c)) (wipe σ vs) H fun σ2 H2 => wipe σ2 vs = wipe σ vs ∧ tt σ2 H2 fun b H3 =>
      if b = true then te σ2 H3 fun y H4 => ∃ acc, H4 D = some (.lst acc) ∧ acc.length < sizeLine ∧ Pv (i + 1) (upd H4 D (.lst (acc ++ [y]))) else Pv (i + 1) H3) (hd : ∀ H, Pv n H → Qd H) :
    ∃ W : Nat → Nat → Hp → Prop, (∃ m, W 0 m (upd H1 D (.lst []))) ∧ ∀ i m H, W i m H →
      ((Itc lo c n).stop i H ∧ Qd H) ∨ ((Itc lo c n).go i H ∧ ∃ Nx : Hp → Prop, (∀ H', Nx H' → ∃ m', m' < m ∧ W (i + 1) m' H') ∧ ∀ x H', (Itc lo c n).yld i H x H' → g x (wipe σ vs) H' fun σ2 H2 => wipe σ2 vs = wipe σ vs ∧ tt σ2 H2 fun b H3 =>
        if b = true then te σ2 H3 fun y H4 => ∃ acc, H4 D = some (.lst acc) ∧ acc.length < sizeLine ∧ Nx (upd H4 D (.lst (acc ++ [y]))) else Nx H3) := by
  refine ⟨fun i m G => m = n - i ∧ i ≤ n ∧ Pv i G, ⟨n, rfl, Nat.zero_le _, h0⟩, ?_⟩
  rintro i m G ⟨rfl, hi, p⟩
  by_cases lt : i < n
  · refine .inr ⟨lt, Pv (i + 1), fun G' p' => ⟨n - (i + 1), by omega, rfl, lt, p'⟩, fun x G' y => ?_⟩
    obtain ⟨rfl, rfl⟩ := y
    exact hs i _ lt p
  · have e : i = n := Nat.le_antisymm hi (Nat.le_of_not_lt lt)
    exact .inl ⟨Nat.le_of_not_lt lt, hd G (e ▸ p)⟩
/-- a step below nought -/
theorem RgC.down {i j c : Int} {n : Nat} (h : RgC i j c n) : RgC i j c n := h
end My
set_option linter.all false
namespace My
open PySem
/-- the text by places -/
def topS (i : Nat) : Stmt := PySem.Challenge.pw_playproof_k48_whole_files_fed_in_pieces.main.body.getD i (.Pass ⟨0, 0, 0, 0⟩)
end My
set_option linter.all false
/-! All but one object as it was; new ones may have come -/
namespace My
open PySem PySem.Spec PyProof.Rows L2
def But (p : Addr) (H H' : Hp) : Prop := ∀ b o, b ≠ p → H b = some o → H' b = some o
section
variable {p : Addr} {H H1 H2 H' : Hp} {K : PySem.W.Frag}
theorem But.refl (H : Hp) : But p H H := fun _ _ _ h => h
theorem But.trans (a : But p H H1) (b : But p H1 H2) : But p H H2 := fun c o n h => b c o n (a c o n h)
theorem Off.but (a : Off p H H') : But p H H' := fun c o n h => (a c n).trans h
theorem Same.but (a : Same H H') : But p H H' := fun c o _ h => a c o h
theorem But.get {b : Addr} {o : HO} (a : But p H H') (n : b ≠ p) (h : H b = some o) : H' b = some o := a b o n h
theorem But.mut {d : Addr} {o : HO} (a : But p H H') (n : H d = none) : But p H (upd H' d o) := fun c x nc e => by
  have : c ≠ d := ne_of_none e n
  exact (upd_ne this).trans (a c x nc e)
theorem But.seq {a : Addr} {xs : List V} (o : But p H H') (n : a ≠ p) (h : SqL K H a xs) : SqL K H' a xs := by
  rcases h with (h | ⟨u, h⟩) | h
  · exact .inl (.inl (o.get n h))
  · exact .inl (.inr ⟨u, o.get n h⟩)
  · exact .inr h
theorem But.tup {a : Addr} {xs : List V} (o : But p H H') (n : a ≠ p) (h : SqT K H a xs) : SqT K H' a xs := by
  rcases h with (h | ⟨u, h⟩) | h
  · exact .inl (.inl (o.get n h))
  · exact .inl (.inr ⟨u, o.get n h⟩)
  · exact .inr h
theorem But.free {l : Addr} {a : Addr} (o : But p H H') (e : PoolAt K H' p a) (h : H' l = none) : H l = none := by
  cases x : H l with
  | none => rfl
  | some y =>
    by_cases z : l = p
    · subst z
      obtain ⟨_, _, _, e⟩ := e.ex
      rw [h] at e
      cases e
    · rw [o l y z x] at h
      cases h
theorem PoolAt.ne {q a : Addr} (h : PoolAt K H p a) (n : H q = none) : q ≠ p := fun z => by
  obtain ⟨_, _, _, e⟩ := h.ex
  rw [z, e] at n
  cases n
/-- a list that another than the pool's holds -/
theorem PoolAt.put {q a : Addr} {xs ys : List V} (h : PoolAt K H p a) (n : q ≠ p) (e : H q = some (.lst xs)) : PoolAt K (L2.upd H q (.lst ys)) p a :=
  h.off Off.upd (Ne.symm n) (by rw [e]; trivial)
end
end My
set_option linter.all false
/-! Facts of an older heap in a newer one -/
namespace My
open PySem PySem.Spec PyProof.Rows L2
theorem new_of {H G : Hp} {p : Addr} {o : HO} (n : H p = none) (h : upd H p o = G) : Same H G := h ▸ Same.new n
theorem at_of {H G : Hp} {p : Addr} {o : HO} (h : upd H p o = G) : G p = some o := h ▸ upd_same
theorem same_get {H G : Hp} {b : Addr} {o : HO} (s : Same H G) (h : H b = some o) : G b = some o := s _ _ h
theorem off_get {p : Addr} {H G : Hp} {b : Addr} {o : HO} (s : Off p H G) (n : b ≠ p) (h : H b = some o) : G b = some o := s.get n h
theorem but_get {p : Addr} {H G : Hp} {b : Addr} {o : HO} (s : But p H G) (n : b ≠ p) (h : H b = some o) : G b = some o := s.get n h
theorem seq_at {K : PySem.W.Frag} {G : Hp} {b : Addr} {xs : List V} (h : G b = some (.lst xs)) : SqL K G b xs := SqL.of h
theorem tup_at {K : PySem.W.Frag} {G : Hp} {b : Addr} {xs : List V} (h : G b = some (.tup xs)) : SqT K G b xs := SqT.of h
theorem pool_same {K : PySem.W.Frag} {H G : Hp} {p a : Addr} (s : Same H G) (h : PoolAt K H p a) : PoolAt K G p a := h.same s
end My
set_option Elab.async false
set_option linter.all false
/-! for i, x in enumerate(a list) -/
namespace My
open PySem PySem.Spec PyProof.Rows L2
theorem for_enum {K : PySem.W.Frag} {a : Addr} {xs : List V} {g : TG} {tb : TS} {D : Ends} {σ : L2.St} {H : Hp} (Pv : Nat → L2.St → Hp → Prop) (h0 : Pv 0 σ H) (hl : ∀ i σ H, i ≤ xs.length → Pv i σ H → SqL K H a xs)
    (hs : ∀ i x σ H T, xs[i]? = some x → Pv i σ H → H T = none → g (.ref T) σ (upd H T (.tup [.int (i : Nat), x])) fun σ2 H2 => tb { D with nx := Pv (i + 1), ct := Pv (i + 1), bk := D.nx } σ2 H2) (hd : ∀ σ H, Pv xs.length σ H → D.nx σ H) :
    ∃ W : Nat → Nat → L2.St → Hp → Prop, (∃ m, W 0 m σ H) ∧ ∀ i m σ H, W i m σ H →
      ((Ite K a).stop i H ∧ D.nx σ H) ∨ ((Ite K a).go i H ∧ ∃ N : L2.St → Hp → Prop, (∀ σ' H', N σ' H' → ∃ m', m' < m ∧ W (i + 1) m' σ' H') ∧ ∀ x H', (Ite K a).yld i H x H' → g x σ H' fun σ2 H2 => tb { D with nx := N, ct := N, bk := D.nx } σ2 H2) := by
  refine ⟨fun i m σ H => m = xs.length - i ∧ i ≤ xs.length ∧ Pv i σ H, ⟨xs.length, by simp, Nat.zero_le _, h0⟩, ?_⟩
  rintro i m σ H ⟨rfl, hi, p⟩
  have q := hl i σ H hi p
  by_cases hlt : i < xs.length
  · refine .inr ⟨⟨xs, xs[i], q, by simp [hlt]⟩, Pv (i + 1), fun σ' H' p' => ⟨xs.length - (i + 1), by omega, rfl, hlt, p'⟩, fun v H' y => ?_⟩
    obtain ⟨T, x, rfl, hT, rfl, y⟩ := y
    exact hs i x σ H T (y xs q) p hT
  · have e : i = xs.length := by omega
    subst e
    exact .inl ⟨⟨xs, q, Nat.le_refl _⟩, hd σ H p⟩
/-- [.. for sign in a text] -/
theorem lc_str {x : Str} {g : TG} {tt : TT} {te : TE} {vs : List Nat} {σ : L2.St} {H1 : Hp} {D : Addr} {Qd : Hp → Prop} (Pv : Nat → Hp → Prop) (h0 : Pv 0 (upd H1 D (.lst [])))
    (hs : ∀ i c H, x.cps[i]? = some c → Pv i H → g (.str ⟨#[c]⟩) (wipe σ vs) H fun σ2 H2 => wipe σ2 vs = wipe σ vs ∧ tt σ2 H2 fun b H3 =>
      if b = true then te σ2 H3 fun y H4 => ∃ acc, H4 D = some (.lst acc) ∧ acc.length < sizeLine ∧ Pv (i + 1) (upd H4 D (.lst (acc ++ [y]))) else Pv (i + 1) H3) (hd : ∀ H, Pv x.cps.size H → Qd H) :
    ∃ W : Nat → Nat → Hp → Prop, (∃ m, W 0 m (upd H1 D (.lst []))) ∧ ∀ i m H, W i m H →
      ((Its x).stop i H ∧ Qd H) ∨ ((Its x).go i H ∧ ∃ Nx : Hp → Prop, (∀ H', Nx H' → ∃ m', m' < m ∧ W (i + 1) m' H') ∧ ∀ v H', (Its x).yld i H v H' → g v (wipe σ vs) H' fun σ2 H2 => wipe σ2 vs = wipe σ vs ∧ tt σ2 H2 fun b H3 =>
        if b = true then te σ2 H3 fun y H4 => ∃ acc, H4 D = some (.lst acc) ∧ acc.length < sizeLine ∧ Nx (upd H4 D (.lst (acc ++ [y]))) else Nx H3) := by
  refine ⟨fun i m G => m = x.cps.size - i ∧ i ≤ x.cps.size ∧ Pv i G, ⟨x.cps.size, rfl, Nat.zero_le _, h0⟩, ?_⟩
  rintro i m G ⟨rfl, hi, p⟩
  by_cases lt : i < x.cps.size
  · refine .inr ⟨lt, Pv (i + 1), fun G' p' => ⟨x.cps.size - (i + 1), by omega, rfl, lt, p'⟩, fun v G' y => ?_⟩
    obtain ⟨rfl, c, hc, rfl⟩ := y
    exact hs i c _ hc p
  · have e : i = x.cps.size := Nat.le_antisymm hi (Nat.le_of_not_lt lt)
    exact .inl ⟨Nat.le_of_not_lt lt, hd G (e ▸ p)⟩
end My
set_option Elab.async false
set_option linter.all false
set_option maxRecDepth 100000
set_option maxHeartbeats 4000000
/-! a tuple turned round: t[::-1] -/
namespace My
open PySem PySem.Spec PyProof.Rows L2
section
variable {prog : Program} {w : World} {A : Around} {E : Value → Shared → Prop} {s : Shared}
theorem rev_adjust (n : Nat) : Builtin.Slice.sliceAdjust none none (-1) (n : Int) = ((n : Int) - 1, -1) := rfl
theorem rev_places (n : Nat) : Builtin.Slice.slicePlaces ((n : Int) - 1) (-1) (-1) = n := by
  unfold Builtin.Slice.slicePlaces
  rw [if_neg (by decide)]
  by_cases h : (n : Int) - 1 > -1
  · rw [if_pos h, show (- -1 : Int) = 1 from rfl, Int.ediv_one]
    omega
  · rw [if_neg h]
    omega
theorem rev_applied {sl : Addr} {vs : Value} {n : Nat} {Q : Int × Int × Nat → Shared → Prop} (hs : s.heap.IsSliceOf sl .none .none vs) (ps : IsPart vs (some (-1)))
    (h : Q ((n : Int) - 1, -1, n) s) : wpAny (model prog w) A (Builtin.Slice.sliceApplied (.ref sl) (pure (n : Int))) Q E s := by
  obtain ⟨os, hos, hcs, hds⟩ := id hs
  unfold Builtin.Slice.sliceApplied Builtin.Slice.sliceFields
  refine wpAny_bind (wpAny_bind (wpAny_field hos hds (x := .none) rfl (wpAny_bind (wpAny_field hos hds (x := .none) rfl (wpAny_bind (wpAny_field hos hds (x := vs) rfl (wpAny_pure ?_)))))))
  refine wpAny_bind (HT.slicePart_ ps ?_)
  show wpAny _ _ (if ((-1 : Int) == 0) = true then _ else _) _ _ s
  rw [if_neg (by decide)]
  refine wpAny_bind (slicePart_none (wpAny_bind (slicePart_none (wpAny_bind (wpAny_pure ?_)))))
  show wpAny _ _ (match Builtin.Slice.sliceAdjust none none (-1) (n : Int) with | (lo, hi) => pure (lo, (-1 : Int), Builtin.Slice.slicePlaces lo hi (-1))) _ _ s
  rw [rev_adjust]
  show wpAny _ _ (pure ((n : Int) - 1, (-1 : Int), Builtin.Slice.slicePlaces ((n : Int) - 1) (-1) (-1))) _ _ s
  rw [rev_places]
  exact wpAny_pure h
theorem fm_congr {α β : Type} {f g : α → Option β} : ∀ {l : List α}, (∀ x ∈ l, f x = g x) → l.filterMap f = l.filterMap g
  | [], _ => rfl
  | a :: l, h => by
    rw [List.filterMap_cons, List.filterMap_cons, h a (List.mem_cons_self ..), fm_congr fun x hx => h x (List.mem_cons_of_mem _ hx)]
theorem rev_pick (xs : Array Value) : ((List.range xs.size).filterMap fun (m : Nat) => xs[(((xs.size : Int) - 1) + (m : Int) * -1).toNat]?).toArray = xs.toList.reverse.toArray := by
  have e : ((List.range xs.size).filterMap fun (m : Nat) => xs[(((xs.size : Int) - 1) + (m : Int) * -1).toNat]?) = ((List.range xs.size).map fun k => xs.size - 1 - k).filterMap (xs[·]?) := by
    rw [List.filterMap_map]
    apply fm_congr
    intro m hm
    have := List.mem_range.mp hm
    show xs[_]? = xs[xs.size - 1 - m]?
    congr 1
    omega
  rw [e, PySem.W.krv_range, List.filterMap_reverse, PySem.W.krv_all]
theorem getItem_tuple_rev {t sl : Addr} {items : Array Value} {vs : Value} {Q : Value → Shared → Prop} (ht : IsTup s.heap t items) (hs : s.heap.IsSliceOf sl .none .none vs) (ps : IsPart vs (some (-1)))
    (h : Q (.ref s.heap.objs.size) { s with heap := s.heap.push { cls := .type "tuple", data := .seq items.toList.reverse.toArray } })
    (hsz : items.size ≤ sizeLine) : wpAny (model prog w) A (getItem (.ref t) (.ref sl)) Q E s := by
  have htake : sizeOk (.seq items.toList.reverse.toArray) := by
    show items.toList.reverse.toArray.size ≤ sizeLine
    rw [List.size_toArray, List.length_reverse, Array.length_toList]
    exact hsz
  obtain ⟨os, hos, hcs, hds⟩ := id hs
  have hTs : s.TypeIs (.ref sl) "slice" := ⟨os, hos, hcs⟩
  unfold getItem
  try with_reducible refine wpAny_holding ?_
  first | refine wpAny_bind (wpAny_pure ?_) | skip
  refine wpAny_bind (wpAny_sequenceKey ht.typeIs (by decide) ?_)
  refine wpAny_bind (wpAny_callSpecial?_slot (name := Str.ofString "__getitem__") ht.typeIs PyProof.Rows.slot_tuple_getitem
    (wpAny_call_entry PyProof.Rows.slot_tuple_getitem ht.typeIs entry_tuple_getitem ?_ (args_tuple_getitem _ _)))
  show wpAny _ _ (Builtin.Tuple.tupleItemsOf (.ref t) >>= _) _ _ s
  refine wpAny_bind (tupleItemsOf_ ht ?_)
  refine wpAny_bind (wpAny_typeOf hTs ?_)
  rw [if_pos (by decide)]
  refine wpAny_bind (rev_applied hs ps ?_)
  have hno : ¬ ((((items.size : Int) - 1) == 0 && (-1 : Int) == 1 && items.size == items.size) = true) := by
    intro q
    rw [Bool.and_eq_true, Bool.and_eq_true] at q
    exact absurd q.1.2 (by decide)
  show wpAny _ _ (if ((((items.size : Int) - 1) == 0 && (-1 : Int) == 1 && items.size == items.size)) = true then _ else _) _ _ s
  rw [if_neg hno, rev_pick]
  first
    | exact wpAny_bind (m := Builtin.Tuple.tupleExact _) (wpAny_newObj_type (wpAny_pure ⟨_, rfl, wpAny_pure h⟩) htake)
    | exact wpAny_bind (m := Builtin.Tuple.tupleExact _) (wpAny_newObj_type (wpAny_bind (wpAny_pure (wpAny_pure ⟨_, rfl, wpAny_pure h⟩))) htake)
    | exact wpAny_bind (wpAny_bind (m := Builtin.Tuple.tupleExact _) (wpAny_newObj_type (wpAny_pure (wpAny_pure ⟨_, rfl, wpAny_pure h⟩)) htake))
    | exact wpAny_bind (wpAny_bind (m := Builtin.Tuple.tupleExact _) (wpAny_newObj_type (wpAny_pure ⟨_, rfl, wpAny_pure h⟩) htake))
end
section
variable {X : Cx}
def tRevT (K : PySem.W.Frag) (te : TE) : TE := fun σ H Q => te σ H fun x H1 => ∃ a xs, x = .ref a ∧ SqT K H1 a xs ∧ ∀ p, H1 p = none → Q (.ref p) (upd H1 p (.tup xs.reverse))
theorem pe_revT {e : Expr} {te : TE} {k : Nat} {p1 p2 p3 pos : Pos} (he : PE X e te) : PE X (.Subscript e (.Slice none none (some (.UnaryOp .USub (.Constant (.int 1) k p1) p2)) p3) pos) (tRevT X.K te) := by
  refine ⟨fun pins s σ H Q I h => ?_⟩
  refine Subscript_ (thn (he.run pins s σ H _ I h) fun v s1 ⟨x, H1, I1, r1, q1⟩ => ?_)
  obtain ⟨a, xs, ex, hx, q⟩ := q1
  subst ex
  cases r1
  have hst : PO X (some (.UnaryOp .USub (.Constant (.int 1) k p1) p2)) (tPart (tUn (rU fun i => .int (-i)) (tC (.int 1)))) := po_some (pe_un un_neg pe_int)
  refine wpAny_Slice (thn (po_none.run pins s1 σ H1 (fun o H2 => o = none ∧ H2 = H1) I1 ⟨rfl, rfl⟩) fun vl s2 ⟨l, H2, I2, pl, el, e2⟩ => ?_)
  subst el e2
  refine thn (po_none.run pins s2 σ H2 (fun o H3 => o = none ∧ H3 = H2) I2 ⟨rfl, rfl⟩) fun vu s3 ⟨u, H3, I3, pu, eu, e3⟩ => ?_
  subst eu e3
  refine thn (hst.run pins s3 σ H3 (fun o H4 => o = some (-1) ∧ H4 = H3) I3 ⟨1, rfl, -1, rfl, rfl, rfl⟩) fun vs s4 ⟨o, H4, I4, ps, eo, e4⟩ => ?_
  subst eo e4
  cases pl
  cases pu
  have I5 : Inv X pins σ H4 { s4 with heap := s4.heap.push { cls := .type "slice", data := .fields #[.none, .none, vs] } } := I4.kept (t' := s4.toks) fun b ob q => Heap.get?_push_of_some _ q
  obtain ⟨its, r, ht, hz⟩ := I5.tuple hx
  have hlen := r.length
  show wpAny (model X.prog X.w) X.A (subscriptTail e (.Slice none none (some (.UnaryOp .USub (.Constant (.int 1) k p1) p2)) p3) (.ref a) (.ref s4.heap.objs.size)) (EP X pins σ Q) X.xe { s4 with heap := s4.heap.push { cls := .type "slice", data := .fields #[.none, .none, vs] } }
  refine tail_any (ops := [.ref a, .ref s4.heap.objs.size]) ht.typeIs (PyProof.Rows.slot_tuple_getitem.lookup) ?_ (by with_unfolding_all rfl)
  refine getItem_tuple_rev ht (Heap.IsSliceOf.new _ .none .none vs) ps ?_ (by rw [List.size_toArray]; omega)
  refine ⟨.ref _, _, I5.laid (t' := s4.toks) (o := .tup xs.reverse) (fun b ob q => Heap.get?_push_of_some _ q) (Nat.le_refl _) ?_, rfl, q _ (I5.hok.fresh (Nat.le_refl _))⟩
  exact ⟨by rw [List.length_reverse]; exact hz, _, r.reverse, IsTup.new _ _⟩
end
/-! ### a list longer by a tuple's items -/
section
theorem meets_longer (l b : Addr) (its its2 : Array Value) (n : Nat) (hn : ¬ (!its.isEmpty && Builtin.List.listTooLong (its.size + its2.size)) = true) (hz : its.size + its2.size ≤ sizeLine) :
    Meets (Builtin.«list.extend» ⟨[.ref l, .ref b], []⟩) (fun _ R s => s.heap.get? l = some { cls := .type "list", data := .seq its n } ∧ IsTup s.heap b its2 ∧
      R (.ok (.ret Value.none)) { s with heap := s.heap.update l (Obj.mapSeq (· ++ its2)) }) :=
  .of_wp fun prog w A R s h => by
    obtain ⟨hl, ⟨o, ho, hc, m, hd⟩, h⟩ := h
    show wpAny _ A.in1 (Builtin.List.listExtendWith (.ref l) (.ref b) .none) _ _ s
    unfold Builtin.List.listExtendWith
    refine wpAny_bind (wpAny_typeOf ⟨o, ho, hc⟩ ?_)
    rw [if_pos (by simp)]
    refine wpAny_bind ?_
    unfold Builtin.List.listItems
    refine wpAny_bind (wpAny_seqItems ho hd (wpAny_pure ?_))
    refine wpAny_bind ?_
    refine wpAny_bind (wpAny_seqItems hl rfl (wpAny_pure ?_))
    rw [if_neg hn]
    show wpAny _ A.in1 (updateSeq l (· ++ its2) >>= fun _ => ret .none) _ _ s
    refine wpAny_bind (wpAny_updateSeq hl rfl ?_ (by omega) (by rw [Array.size_append]; omega))
    exact wpAny_pure ⟨_, rfl, h⟩
end
section
variable {X : Cx}
def rLonger (K : PySem.W.Frag) : V → List V → Hp → VK → Prop := fun x vs H Q => ∃ l b xs zs, x = .ref l ∧ vs = [.ref b] ∧ H l = some (.lst xs) ∧ SqT K H b zs ∧ xs.length + zs.length ≤ sizeLine ∧ Q .non (upd H l (.lst (xs ++ zs)))
theorem mt_longer : MtM X "list.extend" (rLonger X.K) := by
  intro pins s σ H x vs v us Q I rx rv h
  obtain ⟨l, b, xs, zs, rfl, rfl, hl, hb, hz, q⟩ := h
  cases rx
  obtain ⟨u, rfl, ru⟩ := rv.one
  cases ru
  obtain ⟨z, its, n, r, el, e⟩ := I.lstM hl
  obtain ⟨its2, r2, p2, z2⟩ := I.tuple hb
  have l2 := r2.length
  have fits : its.toArray.size + its2.toArray.size ≤ sizeLine := by rw [List.size_toArray, List.size_toArray]; omega
  refine call_meets F.slot_list_extend ⟨_, e, rfl⟩ F.entry_list_extend (F.args_list_extend_2 _ _) (meets_longer l b its.toArray its2.toArray n (by rw [notLongL fits, Bool.and_false]; exact Bool.false_ne_true) fits) ⟨e, p2, ?_⟩
  refine ⟨.non, _, I.lset (its' := its ++ its2) (t' := s.toks) hl e (by simp) (r.append r2) (by rw [List.length_append]; exact hz), rfl, q⟩
end
end My
set_option linter.all false
/-! Plain values, and the bytes that tell them -/
namespace Pv
open PySem
inductive Val where
  | int (i : Int)
  | str (ks : List Nat)
  | tup (l : List Val)
def nb (n : Nat) : List Nat := if n > 127 then (128 + n % 128) :: nb (n / 128) else [n]
termination_by n
theorem nb_big {n : Nat} (h : n > 127) : nb n = (128 + n % 128) :: nb (n / 128) := by rw [nb, if_pos h]
theorem nb_small {n : Nat} (h : ¬ n > 127) : nb n = [n] := by rw [nb, if_neg h]
def zig (i : Int) : Nat := if 0 ≤ i then (2 * i).toNat else (-2 * i - 1).toNat
def zag (n : Nat) : Int := if n % 2 = 0 then ((n / 2 : Nat) : Int) else -(((n + 1) / 2 : Nat) : Int)
theorem zag_zig (i : Int) : zag (zig i) = i := by
  unfold zag zig
  by_cases h : 0 ≤ i
  · rw [if_pos h, if_pos (by omega)]
    omega
  · rw [if_neg h, if_neg (by omega)]
    omega
mutual
def bytes : Val → List Nat
  | .int i => 0 :: nb (zig i)
  | .str ks => 1 :: (nb ks.length ++ ks)
  | .tup l => 2 :: (nb l.length ++ bytesL l)
def bytesL : List Val → List Nat
  | [] => []
  | v :: l => bytes v ++ bytesL l
end
mutual
def size : Val → Nat
  | .int _ => 1
  | .str _ => 1
  | .tup l => 1 + sizeL l
def sizeL : List Val → Nat
  | [] => 0
  | v :: l => size v + sizeL l
end
theorem size_pos (v : Val) : 0 < size v := by
  cases v <;> simp [size]
  omega
theorem bytesL_append : ∀ a b : List Val, bytesL (a ++ b) = bytesL a ++ bytesL b
  | [], b => by simp [bytesL]
  | v :: a, b => by rw [List.cons_append, bytesL, bytesL, bytesL_append a b, List.append_assoc]
theorem sizeL_append : ∀ a b : List Val, sizeL (a ++ b) = sizeL a + sizeL b
  | [], b => by simp [sizeL]
  | v :: a, b => by rw [List.cons_append, sizeL, sizeL, sizeL_append a b, Nat.add_assoc]
theorem nb_pos (n : Nat) : 0 < (nb n).length := by
  rw [nb]
  split <;> simp
/-- numbers below 2 to the 7 times k take at most k bytes -/
theorem nb_length : ∀ (k n : Nat), n < 2 ^ (7 * (k + 1)) → (nb n).length ≤ k + 1
  | 0, n, h => by
    rw [nb_small (by
      have : (2 : Nat) ^ (7 * (0 + 1)) = 128 := by decide
      omega)]
    simp
  | k + 1, n, h => by
    by_cases g : n > 127
    · rw [nb_big g, List.length_cons]
      have : n / 128 < 2 ^ (7 * (k + 1)) := by
        rw [Nat.div_lt_iff_lt_mul (by decide)]
        have e : (2 : Nat) ^ (7 * (k + 1 + 1)) = 2 ^ (7 * (k + 1)) * 128 := by
          rw [show 7 * (k + 1 + 1) = 7 * (k + 1) + 7 by omega, Nat.pow_add]
        omega
      have := nb_length k _ this
      omega
    · rw [nb_small g]
      simp
/-- the signs -/
def SIGNS : Str := Str.ofString "\n abcdefghijklmnopqrstuvwxyzABCDEFGHIJKLMNOPQRSTUVWXYZ0123456789(),=!<+-."
theorem signs_length : SIGNS.cps.toList.length = 73 := by decide +kernel
def sign (k : Nat) : Str := ⟨#[SIGNS.cps.toList.getD k 0]⟩
theorem sign_at : ∀ k, k < 73 → Builtin.Str.occurrences SIGNS (sign k) 0 SIGNS.length 1 = [k] := by decide +kernel
def txt (ks : List Nat) : Str := ⟨(ks.map fun k => SIGNS.cps.toList.getD k 0).toArray⟩
mutual
/-- signs in their range, few enough -/
def Ok : Val → Prop
  | .int i => -(2 ^ 60) < i ∧ i < 2 ^ 60
  | .str ks => ks.length ≤ 1000000 ∧ ∀ k ∈ ks, k < 73
  | .tup l => l.length ≤ 1000000 ∧ OkL l
def OkL : List Val → Prop
  | [] => True
  | v :: l => Ok v ∧ OkL l
end
theorem OkL_append : ∀ {a b : List Val}, OkL a → OkL b → OkL (a ++ b)
  | [], b, _, h => h
  | v :: a, b, h, g => ⟨h.1, OkL_append h.2 g⟩
theorem OkL_split : ∀ {a b : List Val}, OkL (a ++ b) → OkL a ∧ OkL b
  | [], b, h => ⟨trivial, h⟩
  | v :: a, b, h => ⟨⟨h.1, (OkL_split h.2).1⟩, (OkL_split h.2).2⟩
theorem OkL_reverse {l : List Val} (h : OkL l) : OkL l.reverse := by
  induction l with
  | nil => trivial
  | cons a b ih => rw [List.reverse_cons]; exact OkL_append (ih h.2) ⟨h.1, trivial⟩
theorem sizeL_reverse : ∀ l : List Val, sizeL l.reverse = sizeL l
  | [] => rfl
  | v :: l => by rw [List.reverse_cons, sizeL_append, sizeL_reverse l, sizeL, sizeL, sizeL]; omega
theorem length_sizeL : ∀ l : List Val, l.length ≤ sizeL l
  | [] => Nat.le_refl _
  | v :: l => by
    have := length_sizeL l
    have := size_pos v
    rw [sizeL, List.length_cons]
    omega
theorem txt_get {ks : List Nat} {i c : Nat} (h : (txt ks).cps[i]? = some c) : ∃ k, ks[i]? = some k ∧ (⟨#[c]⟩ : Str) = sign k := by
  have h : (ks.map fun k => SIGNS.cps.toList.getD k 0)[i]? = some c := by
    unfold txt at h
    simpa using h
  rw [List.getElem?_map] at h
  cases e : ks[i]? with
  | none => rw [e] at h; cases h
  | some k =>
    rw [e] at h
    refine ⟨k, rfl, ?_⟩
    unfold sign
    rw [← Option.some.inj h]
theorem txt_size (ks : List Nat) : (txt ks).cps.size = ks.length := by
  unfold txt
  simp
theorem OkL_mem : ∀ {l : List Val} {v : Val}, OkL l → v ∈ l → Ok v
  | w :: l, v, h, m => by
    rcases List.mem_cons.mp m with e | m
    · rw [e]; exact h.1
    · exact OkL_mem h.2 m
theorem zig_lt {i : Int} (h : -(2 ^ 60) < i ∧ i < 2 ^ 60) : zig i < 2 ^ 61 := by
  unfold zig
  split <;> omega
mutual
def toData : Val → PyData
  | .int i => .int i
  | .str ks => .str (txt ks)
  | .tup l => .tuple (toDataL l)
def toDataL : List Val → List PyData
  | [] => []
  | v :: l => toData v :: toDataL l
end
theorem toDataL_map : ∀ l : List Val, toDataL l = l.map toData
  | [] => rfl
  | v :: l => by rw [toDataL, toDataL_map l, List.map_cons]
mutual
def depth : Val → Nat
  | .int _ => 1
  | .str _ => 1
  | .tup l => 1 + depthL l
def depthL : List Val → Nat
  | [] => 0
  | v :: l => max (depth v) (depthL l)
end
theorem depthL_mem : ∀ {l : List Val} {v : Val}, v ∈ l → depth v ≤ depthL l
  | w :: l, v, m => by
    rw [depthL]
    rcases List.mem_cons.mp m with e | m
    · rw [e]; omega
    · have := depthL_mem m
      omega
end Pv
set_option Elab.async false
set_option linter.all false
set_option maxRecDepth 100000
set_option maxHeartbeats 4000000
/-! The program's plain values -/
namespace My
open PySem PySem.Spec PyProof.Rows L2
local macro_rules
  | `(tactic| nofun) => `(tactic| (apply tup_at; nofun))
local macro_rules
  | `(tactic| nofun) => `(tactic| (apply seq_at; nofun))
local macro_rules
  | `(tactic| nofun) => `(tactic| (apply pool_same; assumption; nofun))
local macro_rules
  | `(tactic| nofun) => `(tactic| (apply but_get; assumption; assumption; nofun))
local macro_rules
  | `(tactic| nofun) => `(tactic| (apply off_get; assumption; assumption; nofun))
local macro_rules
  | `(tactic| nofun) => `(tactic| (apply same_get; assumption; nofun))
local macro_rules
  | `(tactic| nofun) => `(tactic| assumption)
abbrev st_number_bytes : Stmt := topS 18
theorem sc_number_bytes : FnScope ["number", "found"] ["number"] (defScope st_number_bytes) := ⟨rfl, rfl, rfl, by decide +kernel, rfl, by decide +kernel, by decide +kernel⟩
abbrev st_bytes_of : Stmt := topS 19
theorem sc_bytes_of : FnScope ["value", "found", "queue", "one", "sign"] ["value"] (defScope st_bytes_of) := ⟨rfl, rfl, rfl, by decide +kernel, rfl, by decide +kernel, by decide +kernel⟩
abbrev st_read_number : Stmt := topS 20
theorem sc_read_number : FnScope ["told", "at", "number", "worth", "first", "byte"] ["told", "at"] (defScope st_read_number) := ⟨rfl, rfl, rfl, by decide +kernel, rfl, by decide +kernel, by decide +kernel⟩
abbrev st_read_string : Stmt := topS 21
theorem sc_read_string : FnScope ["told", "at", "count", "signs"] ["told", "at"] (defScope st_read_string) := ⟨rfl, rfl, rfl, by decide +kernel, rfl, by decide +kernel, by decide +kernel⟩
abbrev st_read_one : Stmt := topS 22
theorem sc_read_one : FnScope ["told", "at", "value", "number"] ["told", "at"] (defScope st_read_one) := ⟨rfl, rfl, rfl, by decide +kernel, rfl, by decide +kernel, by decide +kernel⟩
abbrev st_value_of : Stmt := topS 23
theorem sc_value_of : FnScope ["told", "at", "opened", "tag", "_", "value"] ["told"] (defScope st_value_of) := ⟨rfl, rfl, rfl, by decide +kernel, rfl, by decide +kernel, by decide +kernel⟩
/-- a list is made -/
def MadeL (H : Hp) (bs : List Nat) (Q : VK) : Prop := ∀ p H', Same H H' → H p = none → H' p = some (.lst (bv bs)) → Q (.ref p) H'
def VW (K : PySem.W.Frag) (H : Hp) : Nat → V → Pv.Val → Prop
  | 0, _, _ => False
  | n + 1, x, v => match v with
    | .int i => x = .int i
    | .str ks => x = .str (Pv.txt ks)
    | .tup l => ∃ a xs, x = .ref a ∧ SqT K H a xs ∧ xs.length = l.length ∧ ∀ (i : Nat) y e, xs[i]? = some y → l[i]? = some e → VW K H n y e
def spNumBytes : Sp := fun vs H Q _ => ∃ n : Nat, vs = [.int n] ∧ n < 2 ^ 63 ∧ MadeL H (Pv.nb n) Q
def spBytesOf (K : PySem.W.Frag) : Sp := fun vs H Q _ => ∃ (x : V) (v : Pv.Val) (n : Nat), vs = [x] ∧ VW K H n x v ∧ Pv.Ok v ∧ (Pv.bytes v).length ≤ 900000 ∧ Pv.size v ≤ 900000 ∧ MadeL H (Pv.bytes v) Q
theorem VW.mono {K : PySem.W.Frag} {H H' : Hp} (s : ∀ a xs, SqT K H a xs → SqT K H' a xs) : ∀ {n : Nat} {x : V} {v : Pv.Val}, VW K H n x v → VW K H' n x v
  | 0, _, _, h => h
  | n + 1, x, v, h => by
    cases v with
    | int i => exact h
    | str ks => exact h
    | tup l =>
      obtain ⟨a, xs, e, q, le, k⟩ := h
      exact ⟨a, xs, e, s _ _ q, le, fun i y e hy he => VW.mono s (k i y e hy he)⟩
theorem VW.same {K : PySem.W.Frag} {H H' : Hp} (s : Same H H') {n : Nat} {x : V} {v : Pv.Val} (h : VW K H n x v) : VW K H' n x v := h.mono fun _ _ q => sqT_same s q
theorem VW.up {K : PySem.W.Frag} {H : Hp} : ∀ {n m : Nat} {x : V} {v : Pv.Val}, n ≤ m → VW K H n x v → VW K H m x v
  | 0, _, _, _, _, h => h.elim
  | n + 1, 0, _, _, l, _ => by omega
  | n + 1, m + 1, x, v, l, h => by
    cases v with
    | int i => exact h
    | str ks => exact h
    | tup l' =>
      obtain ⟨a, xs, e, q, le, k⟩ := h
      exact ⟨a, xs, e, q, le, fun i y e hy he => VW.up (by omega) (k i y e hy he)⟩
/-- a change of a list leaves the values as they are -/
theorem VW.list {K : PySem.W.Frag} {H : Hp} {l : Addr} {xs ys : List V} (e : H l = some (.lst xs)) {n : Nat} {x : V} {v : Pv.Val} (h : VW K H n x v) : VW K (upd H l (.lst ys)) n x v :=
  h.mono fun a zs q => by
    rcases q with q | q
    · exact sqT_off Off.upd (fun z => rd_lst e _ (z ▸ q)) (.inl q)
    · exact .inr q
theorem VW.dw {K : PySem.W.Frag} {H : Hp} : ∀ {n : Nat} {x : V} {v : Pv.Val}, VW K H n x v → Pv.Ok v → DW K H n x (Pv.toData v)
  | 0, _, _, h, _ => h.elim
  | n + 1, x, v, h, ok => by
    cases v with
    | int i => rw [Pv.toData]; exact h
    | str ks => rw [Pv.toData]; exact h
    | tup l =>
      obtain ⟨a, xs, e, q, le, k⟩ := h
      rw [Pv.toData, Pv.toDataL_map]
      refine ⟨a, xs, e, q, by rw [List.length_map, le], by rw [le]; exact ok.1, fun i y d hy hd => ?_⟩
      rw [List.getElem?_map] at hd
      cases c : l[i]? with
      | none => rw [c] at hd; cases hd
      | some u =>
        rw [c] at hd
        obtain rfl := Option.some.inj hd
        exact VW.dw (k i y u hy c) (Pv.OkL_mem ok.2 (List.mem_of_getElem? c))
section
variable {P : Program} {w : World} {K : PySem.W.Frag} {mg : Str → Option Value} {base : Heap}
theorem ok_number_bytes (T : Top K mg "number_bytes" st_number_bytes ["number"]) : Def P w K mg base 1 "number_bytes" ["number"] spNumBytes := by
  refine T.ok sc_number_bytes (fun vs H Q E h => ?_) (fun f cdv A outer s H vs Q E hr h => ?_)
  · obtain ⟨n, rfl, _⟩ := h
    rfl
  obtain ⟨n, rfl, hn, q⟩ := h
  refine ⟨_, (pss_cons (ps_set (i := 1) sc_number_bytes.nd rfl (Or.inl rfl) (pe_lst pa_nil))
    (pss_cons (ps_while PassesOwn.never (pt_cmpR op_gt (pv 0) pe_int (nomark _))
    (pss_cons (ps_expr (pe_bm PySem.F.plainAttrs_list PySem.F.slot_list_append PySem.F.type_list_append mt_append (pv 1) (pa_cons (pe_op op_add pe_int (pe_op op_mod (pv 0) pe_int)) pa_nil)))
      (pss_one (ps_set (i := 0) sc_number_bytes.nd rfl (Or.inl rfl) (pe_op op_fdiv (pv 0) pe_int)))))
    (pss_one (ps_ret (pe_op op_cat (pv 1) (pe_lst (pa_cons (pv 0) pa_nil))))))), ?_⟩
  have big : ∀ {n : Nat}, n ≤ 900000 → n ≤ sizeLine := fun h => Nat.le_trans h (by decide)
  refine ⟨Nat.zero_le _, fun fo nfo => ?_⟩
  refine ⟨fun m σ G => ∃ (k : Nat) (acc : List Nat), σ = [some (.int (k : Nat)), some (.ref fo)] ∧ Same H G ∧ G fo = some (.lst (bv acc)) ∧ acc ++ Pv.nb k = Pv.nb n ∧ k = m, ⟨n, n, [], rfl, Same.new nfo, upd_same, rfl, rfl⟩, ?_⟩
  rintro m σ G ⟨k, acc, rfl, sg, eg, ea, hm⟩
  subst hm
  have lnb : (Pv.nb n).length ≤ 9 := Pv.nb_length 8 n (by
    show n < 2 ^ 63
    exact hn)
  have la : acc.length ≤ 9 := by
    rw [← ea, List.length_append] at lnb
    omega
  refine ⟨_, rfl, _, _, rfl, rfl, _, rfl, ?_⟩
  by_cases h : k > 127
  · rw [Pv.nb_big h] at ea
    refine ifD (by omega) ⟨fun σ' G' => ∃ (j : Nat) (acc : List Nat), σ' = [some (.int (j : Nat)), some (.ref fo)] ∧ Same H G' ∧ G' fo = some (.lst (bv acc)) ∧ acc ++ Pv.nb j = Pv.nb n ∧ j < k, fun σ' G' ⟨j, acc, e, s, e2, e3, lt⟩ => ⟨j, lt, j, acc, e, s, e2, e3, rfl⟩, ?_⟩
    refine ⟨.ref fo, rfl, .inl ⟨rfl, _, SqL.of eg⟩, _, rfl, _, _, rfl, rfl, (by show (0 : Int) < 128; decide), _, _, rfl, rfl, fo, _, _, rfl, rfl, eg, by rw [bv_len]; exact sq_len (by omega), ?_⟩
    refine ⟨_, rfl, _, _, rfl, rfl, ⟨by decide, by decide⟩, k / 128, acc ++ [128 + k % 128], ?_, same_mut sg nfo, ?_, by rw [List.append_assoc]; exact ea, by omega⟩
    · show [some (V.int ((k : Int) / 128)), _] = _
      rw [show ((k : Nat) : Int) / 128 = ((k / 128 : Nat) : Int) by omega]
    · rw [upd_same, bv_app]
      show some (HO.lst (_ ++ [V.int (128 + (k : Int) % 128)])) = _
      rw [show (128 : Int) + ((k : Nat) : Int) % 128 = ((128 + k % 128 : Nat) : Int) by omega]
      rfl
  · rw [Pv.nb_small h] at ea
    refine ifND (by omega) ?_
    refine ⟨.ref fo, rfl, _, rfl, (by show 1 ≤ sizeLine; decide), fun o no => ?_⟩
    refine ⟨fo, o, _, _, rfl, rfl, (Same.new no) _ _ eg, upd_same, big (by rw [bv_len]; show acc.length + 1 ≤ _; omega), fun p np => ?_⟩
    refine q p _ (sg.trans ((Same.new no).trans (Same.new np))) ((sg.trans (Same.new no)).free np) ?_
    rw [upd_same, ← ea, bv_app]
    rfl
theorem ok_bytes_of (T : Top K mg "bytes_of" st_bytes_of ["value"]) (hS : ∃ t, mg "SIGNS" = some (.str Pv.SIGNS t)) (D_number_bytes : Def P w K mg base 1 "number_bytes" ["number"] spNumBytes) (z_isinstance : mg "isinstance" = none) (z_tuple : mg "tuple" = none) (z_str : mg "str" = none) (z_len : mg "len" = none) : Def P w K mg base 2 "bytes_of" ["value"] (spBytesOf K) := by
  obtain ⟨_, m_SIGNS⟩ := hS
  refine T.ok sc_bytes_of (fun vs H Q E h => ?_) (fun f cdv A outer s H vs Q E hr h => ?_)
  · obtain ⟨x, v, n, rfl, _⟩ := h
    rfl
  obtain ⟨x, v, n, rfl, hx, hv, hl, hsz, q⟩ := h
  refine ⟨_, (pss_cons (ps_set (i := 1) sc_bytes_of.nd rfl (Or.inl rfl) (pe_lst pa_nil))
    (pss_cons (ps_set (i := 2) sc_bytes_of.nd rfl (Or.inl rfl) (pe_lst (pa_cons (pv 0) pa_nil)))
    (pss_cons (ps_while PassesOwn.never (pt_truth (pv 2) (by intro _; rfl))
    (pss_cons (ps_set (i := 3) sc_bytes_of.nd rfl (Or.inl rfl) (pe_bm0 PySem.F.plainAttrs_list PySem.F.slot_list_pop PySem.F.type_list_pop mt_pop (pv 2)))
      (pss_one (ps_if (pt_val (pe_callB (isiQ K) rfl z_isinstance (by decide +kernel) (pa_cons (pv 3) (pa_cons (pe_bltn (v := .ty "tuple") rfl z_tuple (by decide +kernel) rfl) pa_nil))))
      (pss_cons (ps_expr (pe_bm PySem.F.plainAttrs_list PySem.F.slot_list_extend PySem.F.type_list_extend mt_extend (pv 1) (pa_cons (pe_op op_cat (pe_lst (pa_cons pe_int pa_nil)) (pe_def D_number_bytes (hr.mono (by decide)) rfl (pa_cons (pe_callB (lenQ K) rfl z_len (by decide +kernel) (pa_cons (pv 3) pa_nil)) pa_nil))) pa_nil)))
        (pss_one (ps_expr (pe_bm PySem.F.plainAttrs_list PySem.F.slot_list_extend PySem.F.type_list_extend mt_longer (pv 2) (pa_cons (pe_revT (pv 3)) pa_nil)))))
      (pss_one (ps_if (pt_val (pe_callB (isiQ K) rfl z_isinstance (by decide +kernel) (pa_cons (pv 3) (pa_cons (pe_bltn (v := .ty "str") rfl z_str (by decide +kernel) rfl) pa_nil))))
        (pss_cons (ps_expr (pe_bm PySem.F.plainAttrs_list PySem.F.slot_list_extend PySem.F.type_list_extend mt_extend (pv 1) (pa_cons (pe_op op_cat (pe_lst (pa_cons pe_int pa_nil)) (pe_def D_number_bytes (hr.mono (by decide)) rfl (pa_cons (pe_callB call_len_str rfl z_len (by decide +kernel) (pa_cons (pv 3) pa_nil)) pa_nil))) pa_nil)))
          (pss_one (ps_expr (pe_bm PySem.F.plainAttrs_list PySem.F.slot_list_extend PySem.F.type_list_extend mt_extend (pv 1) (pa_cons (pe_lc (own := [("sign", 4)]) (g := gName 4) (tt := tYes) rfl sc_bytes_of.nd (pi_str (pv 3)) (blkOk_by (own := [("sign", 4)]) (N := ["value", "found", "queue", "one", "sign"]) (sc := defScope st_bytes_of) (by decide +kernel)) (fun _ _ _ _ _ => (pg_name (i := 4) sc_bytes_of.nd rfl (Or.inl rfl))) (fun _ _ _ _ _ => pts_nil) (fun _ _ _ _ _ => (pe_m1 PySem.F.slot_str_index PySem.F.type_str_index mt_sindex (pe_glob (v := .str Pv.SIGNS) rfl m_SIGNS ⟨_, rfl⟩) (pv 4)))) pa_nil)))))
        (pss_one (ps_expr (pe_bm PySem.F.plainAttrs_list PySem.F.slot_list_extend PySem.F.type_list_extend mt_extend (pv 1) (pa_cons (pe_op op_cat (pe_lst (pa_cons pe_int pa_nil)) (pe_def D_number_bytes (hr.mono (by decide)) rfl (pa_cons (pe_ifExp (pt_cmpR op_ge (pv 3) pe_int (nomark _)) (pe_op op_mul pe_int (pv 3)) (pe_op op_sub (pe_op op_mul (pe_un un_neg pe_int) (pv 3)) pe_int)) pa_nil))) pa_nil))))))))))
    (pss_one (ps_ret (pv 1)))))), ?_⟩
  have big : ∀ {n : Nat}, n ≤ 900000 → n ≤ sizeLine := fun h => Nat.le_trans h (by decide)
  refine ⟨Nat.zero_le _, fun fo nfo => ?_⟩
  refine ⟨_, rfl, (by show 1 ≤ sizeLine; decide), fun qu nqu => ?_⟩
  have nfq : fo ≠ qu := ne_of_none upd_same nqu
  have s0 := (Same.new (o := .lst []) nfo).trans (Same.new (o := .lst [x]) nqu)
  have nqu0 : H qu = none := (Same.new nfo).free nqu
  refine ⟨fun m σ G => ∃ (x3 x4 : Option V) (xs : List V) (vs : List Pv.Val) (acc : List Nat), σ = [some x, some (.ref fo), some (.ref qu), x3, x4] ∧ Same H G ∧ G fo = some (.lst (bv acc)) ∧ G qu = some (.lst xs) ∧ xs.length = vs.length ∧
    (∀ (i : Nat) y e, xs[i]? = some y → vs[i]? = some e → VW K G n y e) ∧ Pv.OkL vs ∧ acc ++ Pv.bytesL vs.reverse = Pv.bytes v ∧ Pv.sizeL vs = m ∧ m ≤ Pv.size v, ⟨Pv.size v, none, none, [x], [v], [], rfl, s0, by rw [upd_ne nfq]; exact upd_same, upd_same, rfl, ?_, ⟨hv, trivial⟩, ?_, ?_, Nat.le_refl _⟩, ?_⟩
  · intro i y e hy he
    cases i with
    | zero =>
      obtain rfl := Option.some.inj hy
      obtain rfl := Option.some.inj he
      exact hx.same s0
    | succ i => cases hy
  · simp [Pv.bytesL]
  · simp [Pv.sizeL]
  rintro m σ G ⟨x3, x4, xs, vs, acc, rfl, sg, ef, eq, lx, hw, ok, eb, hm, hmv⟩
  have la : acc.length + (Pv.bytesL vs.reverse).length ≤ 900000 := by
    rw [← eb, List.length_append] at hl
    exact hl
  refine ⟨.ref qu, rfl, _, .inl ⟨xs, SqL.of eq, rfl⟩, ?_⟩
  rcases List.eq_nil_or_concat vs with hnil | ⟨ws, e, hvs⟩
  · subst hnil
    obtain rfl : xs = [] := List.eq_nil_of_length_eq_zero lx
    refine iteF ⟨_, rfl, q fo G sg nfo ?_⟩
    rw [ef, ← eb]
    simp [Pv.bytesL]
  rw [List.concat_eq_append] at hvs
  subst hvs
  obtain ⟨ys, y, rfl⟩ : ∃ ys y, xs = ys ++ [y] := by
    rcases List.eq_nil_or_concat xs with hnil | ⟨ys, y, h⟩
    · rw [hnil, List.length_append] at lx
      simp at lx
    · exact ⟨ys, y, by rw [h, List.concat_eq_append]⟩
  have ly : ys.length = ws.length := by
    rw [List.length_append, List.length_append] at lx
    simpa using lx
  refine ifV (b := true) (by simp) (iteT ?_)
  have ew : VW K G n y e := hw ws.length y e (by rw [List.getElem?_append_right (by omega), show ws.length - ys.length = 0 by omega]; rfl) (by rw [List.getElem?_append_right (Nat.le_refl _), Nat.sub_self]; rfl)
  have okw := Pv.OkL_split ok
  have hws : ∀ (i : Nat) y' e', ys[i]? = some y' → ws[i]? = some e' → VW K G n y' e' := fun i y' e' hy he => hw i y' e' (by rw [List.getElem?_append_left (List.getElem?_eq_some_iff.mp hy).1]; exact hy) (by rw [List.getElem?_append_left (List.getElem?_eq_some_iff.mp he).1]; exact he)
  rw [List.reverse_append, List.reverse_singleton, List.singleton_append, Pv.bytesL] at eb la
  rw [Pv.sizeL_append, show Pv.sizeL [e] = Pv.size e by simp [Pv.sizeL]] at hm
  have spos := Pv.size_pos e
  rw [List.length_append] at la
  have lws := Pv.length_sizeL ws
  refine ⟨fun σ' G' => ∃ m', m' < m ∧ _, fun σ' G' w => w, ?_⟩
  refine ⟨.ref qu, rfl, .inl ⟨rfl, _, SqL.of eq⟩, qu, ys ++ [y], y, rfl, rfl, eq, by simp, ?_⟩
  rw [List.dropLast_concat]
  have s1 : Same H (upd G qu (.lst ys)) := same_mut sg nqu0
  have ef1 : (upd G qu (.lst ys)) fo = some (.lst (bv acc)) := (upd_ne nfq).trans ef
  have eq1 : (upd G qu (.lst ys)) qu = some (.lst ys) := upd_same
  have ew1 : VW K (upd G qu (.lst ys)) n y e := ew.list eq
  have hw1 : ∀ (i : Nat) y' e', ys[i]? = some y' → ws[i]? = some e' → VW K (upd G qu (.lst ys)) n y' e' := fun i y' e' hy he => (hws i y' e' hy he).list eq
  generalize upd G qu (.lst ys) = G1 at *
  have okw2 := okw.1
  have fin : ∀ (G5 : Hp) (zs zs' : List V), Same H G5 → G5 fo = some (.lst zs) → G5 qu = some (.lst ys) → (∀ (i : Nat) y' e', ys[i]? = some y' → ws[i]? = some e' → VW K G5 n y' e') → zs' = bv (acc ++ Pv.bytes e) → ∃ m', m' < m ∧ ∃ (x3' x4' : Option V) (xs : List V) (vs : List Pv.Val) (acc' : List Nat), [some x, some (.ref fo), some (.ref qu), some y, x4] = [some x, some (.ref fo), some (.ref qu), x3', x4'] ∧ Same H (upd G5 fo (.lst zs')) ∧
      (upd G5 fo (.lst zs')) fo = some (.lst (bv acc')) ∧ (upd G5 fo (.lst zs')) qu = some (.lst xs) ∧ xs.length = vs.length ∧
      (∀ (i : Nat) y e, xs[i]? = some y → vs[i]? = some e → VW K (upd G5 fo (.lst zs')) n y e) ∧ Pv.OkL vs ∧ acc' ++ Pv.bytesL vs.reverse = Pv.bytes v ∧ Pv.sizeL vs = m' ∧ m' ≤ Pv.size v := by
    intro G5 zs zs' s5 e5 q5 w5 hb
    refine ⟨Pv.sizeL ws, by omega, _, _, ys, ws, acc ++ Pv.bytes e, rfl, same_mut s5 nfo, by rw [upd_same, hb], by rw [upd_ne (Ne.symm nfq)]; exact q5, ly, fun i y' e' hy he => (w5 i y' e' hy he).list e5, okw2, ?_, rfl, by omega⟩
    rw [List.append_assoc]
    exact eb
  have lna : ∀ k : Nat, k < 2 ^ 63 → (Pv.nb k).length ≤ 9 := fun k h => Pv.nb_length 8 k h
  cases n with
  | zero => exact ew1.elim
  | succ n =>
  cases e with
  | tup l =>
    obtain ⟨ta, ts, rfl, hts, lts, kts⟩ := ew1
    have lbe : (Pv.bytes (.tup l)).length = 1 + ((Pv.nb l.length).length + (Pv.bytesL l).length) := by rw [Pv.bytes, List.length_cons, List.length_append]; omega
    have lse : Pv.size (.tup l) = 1 + Pv.sizeL l := by rw [Pv.size]
    have lsl := Pv.length_sizeL l
    refine ⟨_, rfl, _, _, _, _, true, rfl, .ty _, (tyx_tuple hts), kit_ty (by decide +kernel), _, rfl, iteT ?_⟩
    have lz := lna l.length (by omega)
    have f1 : [V.int 2].length + (bv (Pv.nb l.length)).length ≤ sizeLine := big (by
      rw [bv_len]
      show 1 + _ ≤ _
      omega)
    have f2 : (bv acc).length + ([V.int 2] ++ bv (Pv.nb l.length)).length ≤ sizeLine := big (by
      rw [List.length_append, bv_len, bv_len]
      show _ + (1 + _) ≤ _
      omega)
    refine ⟨.ref fo, rfl, .inl ⟨rfl, _, SqL.of ef1⟩, (by show 1 ≤ sizeLine; decide), fun o n2 => ?_⟩
    generalize hN2 : L2.upd G1 o _ = G2
    have s2 := new_of n2 hN2
    have e2 := at_of hN2
    try dsimp only at e2
    clear hN2
    refine ⟨.ref ta, rfl, ta, ts, rfl, .inr (sqT_same s2 hts), l.length, (by rw [lts]; rfl), by omega, fun p G3 s3 n3 e3 => ⟨o, p, _, _, rfl, rfl, by nofun, e3, f1, fun c n4 => ?_⟩⟩
    generalize hN4 : L2.upd G3 c _ = G4
    have s4 := new_of n4 hN4
    have e4 := at_of hN4
    try dsimp only at e4
    clear hN4
    have s14 := (s2.trans s3).trans s4
    have ef4 := s14 _ _ ef1
    refine ⟨fo, c, _, _, rfl, rfl, ef4, e4, f2, ?_⟩
    have s5 : Same H (upd G4 fo (.lst (bv acc ++ ([V.int 2] ++ bv (Pv.nb l.length))))) := same_mut (s1.trans s14) nfo
    have eq5 : (upd G4 fo (.lst (bv acc ++ ([V.int 2] ++ bv (Pv.nb l.length))))) qu = some (.lst ys) := (upd_ne (Ne.symm nfq)).trans (s14 _ _ eq1)
    have ef5 : (upd G4 fo (.lst (bv acc ++ ([V.int 2] ++ bv (Pv.nb l.length))))) fo = some (.lst (bv (acc ++ (2 :: Pv.nb l.length)))) := by
      rw [upd_same, bv_app]
      rfl
    have hw5 : ∀ (i : Nat) y' e', ys[i]? = some y' → ws[i]? = some e' → VW K (upd G4 fo (.lst (bv acc ++ ([V.int 2] ++ bv (Pv.nb l.length))))) (n + 1) y' e' := fun i y' e' hy he => ((hw1 i y' e' hy he).same s14).list ef4
    have ts5 : VW K (upd G4 fo (.lst (bv acc ++ ([V.int 2] ++ bv (Pv.nb l.length))))) (n + 1) (.ref ta) (.tup l) := VW.list ef4 (VW.same s14 ⟨ta, ts, rfl, hts, lts, kts⟩)
    generalize upd G4 fo (.lst (bv acc ++ ([V.int 2] ++ bv (Pv.nb l.length)))) = G5 at *
    obtain ⟨ta', ts', ea, hts5, lts5, kts5⟩ := ts5
    cases ea
    refine ⟨.ref qu, rfl, .inl ⟨rfl, _, SqL.of eq5⟩, .ref ta, rfl, ta, ts', rfl, hts5, fun r n6 => ?_⟩
    generalize hN6 : L2.upd G5 r _ = G6
    have s6 := new_of n6 hN6
    have e6 := at_of hN6
    try dsimp only at e6
    clear hN6
    refine ⟨qu, r, _, _, rfl, rfl, s6 _ _ eq5, SqT.of e6, big (by rw [List.length_reverse, lts5, ly]; omega), ?_⟩
    refine ⟨Pv.sizeL (ws ++ l.reverse), by rw [Pv.sizeL_append, Pv.sizeL_reverse]; omega, _, _, ys ++ ts'.reverse, ws ++ l.reverse, acc ++ (2 :: Pv.nb l.length), rfl, same_mut (s5.trans s6) nqu0, by rw [upd_ne nfq]; exact s6 _ _ ef5, upd_same, by rw [List.length_append, List.length_append, List.length_reverse, List.length_reverse, ly, lts5], ?_, Pv.OkL_append okw2 (Pv.OkL_reverse okw.2.1.2), ?_, rfl, by rw [Pv.sizeL_append, Pv.sizeL_reverse]; omega⟩
    · intro i y' e' hy he
      refine VW.list (s6 _ _ eq5) (VW.same s6 ?_)
      by_cases lt : i < ys.length
      · rw [List.getElem?_append_left lt] at hy
        rw [List.getElem?_append_left (by omega)] at he
        exact hw5 i y' e' hy he
      · rw [List.getElem?_append_right (by omega)] at hy
        rw [List.getElem?_append_right (by omega)] at he
        have li : i - ys.length < ts'.length := by
          have := (List.getElem?_eq_some_iff.mp hy).1
          rw [List.length_reverse] at this
          exact this
        rw [List.getElem?_reverse li] at hy
        rw [List.getElem?_reverse (by omega)] at he
        exact VW.up (Nat.le_succ n) (kts5 _ y' e' hy (by rw [show ts'.length - 1 - (i - ys.length) = l.length - 1 - (i - ws.length) by omega]; exact he))
    · rw [List.reverse_append, List.reverse_reverse, Pv.bytesL_append, ← eb, Pv.bytes]
      simp
  | str ks =>
    obtain rfl : y = .str (Pv.txt ks) := ew1
    have lbe : (Pv.bytes (.str ks)).length = 1 + ((Pv.nb ks.length).length + ks.length) := by rw [Pv.bytes, List.length_cons, List.length_append]; omega
    have okk := okw.2.1
    refine ⟨_, rfl, _, _, _, _, false, rfl, .ty _, .base (.str _), kit_ty (by decide +kernel), _, rfl, iteF ?_⟩
    refine ⟨_, rfl, _, _, _, _, true, rfl, .ty _, .base (.str _), kit_ty (by decide +kernel), _, rfl, iteT ?_⟩
    have lz := lna ks.length (by omega)
    have f1 : [V.int 1].length + (bv (Pv.nb ks.length)).length ≤ sizeLine := big (by
      rw [bv_len]
      show 1 + _ ≤ _
      omega)
    have f2 : (bv acc).length + ([V.int 1] ++ bv (Pv.nb ks.length)).length ≤ sizeLine := big (by
      rw [List.length_append, bv_len, bv_len]
      show _ + (1 + _) ≤ _
      omega)
    refine ⟨.ref fo, rfl, .inl ⟨rfl, _, SqL.of ef1⟩, (by show 1 ≤ sizeLine; decide), fun o n2 => ?_⟩
    generalize hN2 : L2.upd G1 o _ = G2
    have s2 := new_of n2 hN2
    have e2 := at_of hN2
    try dsimp only at e2
    clear hN2
    refine ⟨_, rfl, Pv.txt ks, rfl, big (by show (Pv.txt ks).cps.size ≤ _; rw [Pv.txt_size]; omega), ks.length, (by show [V.int ((Pv.txt ks).cps.size : Int)] ++ [] = _; rw [Pv.txt_size]; rfl), by omega, fun p G3 s3 n3 e3 => ⟨o, p, _, _, rfl, rfl, by nofun, e3, f1, fun c n4 => ?_⟩⟩
    generalize hN4 : L2.upd G3 c _ = G4
    have s4 := new_of n4 hN4
    have e4 := at_of hN4
    try dsimp only at e4
    clear hN4
    have s14 := (s2.trans s3).trans s4
    have ef4 := s14 _ _ ef1
    refine ⟨fo, c, _, _, rfl, rfl, ef4, e4, f2, ?_⟩
    have s5 : Same H (upd G4 fo (.lst (bv acc ++ ([V.int 1] ++ bv (Pv.nb ks.length))))) := same_mut (s1.trans s14) nfo
    have eq5 : (upd G4 fo (.lst (bv acc ++ ([V.int 1] ++ bv (Pv.nb ks.length))))) qu = some (.lst ys) := (upd_ne (Ne.symm nfq)).trans (s14 _ _ eq1)
    have ef5 : (upd G4 fo (.lst (bv acc ++ ([V.int 1] ++ bv (Pv.nb ks.length))))) fo = some (.lst (bv (acc ++ (1 :: Pv.nb ks.length)))) := by
      rw [upd_same, bv_app]
      rfl
    have hw5 : ∀ (i : Nat) y' e', ys[i]? = some y' → ws[i]? = some e' → VW K (upd G4 fo (.lst (bv acc ++ ([V.int 1] ++ bv (Pv.nb ks.length))))) (n + 1) y' e' := fun i y' e' hy he => ((hw1 i y' e' hy he).same s14).list ef4
    generalize upd G4 fo (.lst (bv acc ++ ([V.int 1] ++ bv (Pv.nb ks.length)))) = G5 at *
    refine ⟨.ref fo, rfl, .inl ⟨rfl, _, SqL.of ef5⟩, _, rfl, _, rfl, fun D nD => lc_str (fun i G => Same G5 G ∧ G D = some (.lst (bv (ks.take i)))) ⟨Same.new nD, upd_same⟩ ?_ ?_⟩
    · rintro i c G hc ⟨s6, ed⟩
      obtain ⟨k, hk, ek⟩ := Pv.txt_get hc
      rw [ek]
      refine ⟨rfl, ?_⟩
      dsimp only [tYes]
      refine iteT ⟨⟨_, rfl⟩, _, rfl, _, _, k, [], rfl, rfl, Pv.sign_at k (okk.2 k (List.mem_of_getElem? hk)), _, ed, by rw [bv_len, List.length_take]; exact sq_len (by omega), same_mut s6 nD, ?_⟩
      rw [upd_same, List.take_add_one, hk, bv_app]
      rfl
    · rintro G6 ⟨s6, ed⟩
      rw [Pv.txt_size, List.take_length] at ed
      refine ⟨fo, D, _, _, rfl, rfl, s6 _ _ ef5, ed, big (by rw [bv_len, bv_len, List.length_append, List.length_cons]; omega), ?_⟩
      refine fin G6 _ _ (s5.trans s6) (s6 _ _ ef5) (s6 _ _ eq5) (fun i y' e' hy he => (hw5 i y' e' hy he).same s6) ?_
      rw [← bv_app, Pv.bytes, List.append_assoc]
      rfl
  | int i =>
    obtain rfl : y = .int i := ew1
    have lbe : (Pv.bytes (.int i)).length = 1 + (Pv.nb (Pv.zig i)).length := by rw [Pv.bytes, List.length_cons]; omega
    refine ⟨_, rfl, _, _, _, _, false, rfl, .ty _, .base (.int i), kit_ty (by decide +kernel), _, rfl, iteF ?_⟩
    refine ⟨_, rfl, _, _, _, _, false, rfl, .ty _, .base (.int i), kit_ty (by decide +kernel), _, rfl, iteF ?_⟩
    have zl := Pv.zig_lt okw.2.1
    refine ⟨.ref fo, rfl, .inl ⟨rfl, _, SqL.of ef1⟩, (by show 1 ≤ sizeLine; decide), fun o n2 => ?_⟩
    generalize hN2 : L2.upd G1 o _ = G2
    have s2 := new_of n2 hN2
    have e2 := at_of hN2
    try dsimp only at e2
    clear hN2
    have lz := lna (Pv.zig i) (by omega)
    have f1 : [V.int 0].length + (bv (Pv.nb (Pv.zig i))).length ≤ sizeLine := big (by
      rw [bv_len]
      show 1 + _ ≤ _
      omega)
    have f2 : (bv acc).length + ([V.int 0] ++ bv (Pv.nb (Pv.zig i))).length ≤ sizeLine := big (by
      rw [List.length_append, bv_len, bv_len]
      show _ + (1 + _) ≤ _
      omega)
    have hz : ((Pv.zig i : Nat) : Int) = if 0 ≤ i then 2 * i else -2 * i - 1 := by
      unfold Pv.zig
      split <;> omega
    have eb0 : bv acc ++ ([V.int 0] ++ bv (Pv.nb (Pv.zig i))) = bv (acc ++ Pv.bytes (.int i)) := by
      rw [Pv.bytes, bv_app]
      rfl
    by_cases h : 0 ≤ i
    · rw [if_pos h] at hz
      refine ⟨_, rfl, _, _, rfl, rfl, _, rfl, ifD h ?_⟩
      refine ⟨_, rfl, _, _, rfl, rfl, .inl ⟨by decide, by decide⟩, Pv.zig i, (by rw [hz]; rfl), by omega, fun p G3 s3 _ e3 => ⟨o, p, _, _, rfl, rfl, s3 _ _ e2, e3, f1, fun c n4 => ?_⟩⟩
      have s5 := (s2.trans s3).trans (Same.new (o := .lst ([V.int 0] ++ bv (Pv.nb (Pv.zig i)))) n4)
      exact ⟨fo, c, _, _, rfl, rfl, s5 _ _ ef1, upd_same, f2, fin _ _ _ (s1.trans s5) (s5 _ _ ef1) (s5 _ _ eq1) (fun i y' e' hy he => (hw1 i y' e' hy he).same s5) eb0⟩
    · rw [if_neg h] at hz
      refine ⟨_, rfl, _, _, rfl, rfl, _, rfl, ifND h ?_⟩
      refine ⟨_, rfl, _, rfl, _, _, rfl, rfl, .inl ⟨by decide, by decide⟩, _, _, rfl, rfl, Pv.zig i, (by rw [hz]; rfl), by omega, fun p G3 s3 _ e3 => ⟨o, p, _, _, rfl, rfl, s3 _ _ e2, e3, f1, fun c n4 => ?_⟩⟩
      have s5 := (s2.trans s3).trans (Same.new (o := .lst ([V.int 0] ++ bv (Pv.nb (Pv.zig i)))) n4)
      exact ⟨fo, c, _, _, rfl, rfl, s5 _ _ ef1, upd_same, f2, fin _ _ _ (s1.trans s5) (s5 _ _ ef1) (s5 _ _ eq1) (fun i y' e' hy he => (hw1 i y' e' hy he).same s5) eb0⟩
end
end My
set_option Elab.async false
set_option linter.all false
set_option maxRecDepth 100000
set_option maxHeartbeats 4000000
/-! Reading plain values back -/
namespace My
open PySem PySem.Spec PyProof.Rows L2
local macro_rules
  | `(tactic| nofun) => `(tactic| (apply tup_at; nofun))
local macro_rules
  | `(tactic| nofun) => `(tactic| (apply seq_at; nofun))
local macro_rules
  | `(tactic| nofun) => `(tactic| (apply pool_same; assumption; nofun))
local macro_rules
  | `(tactic| nofun) => `(tactic| (apply but_get; assumption; assumption; nofun))
local macro_rules
  | `(tactic| nofun) => `(tactic| (apply off_get; assumption; assumption; nofun))
local macro_rules
  | `(tactic| nofun) => `(tactic| (apply same_get; assumption; nofun))
local macro_rules
  | `(tactic| nofun) => `(tactic| assumption)
theorem joinL_nil : ∀ ls : List (List Nat), TL.joinL [] ls = ls.flatten
  | [] => rfl
  | [a] => by simp [TL.joinL]
  | a :: b :: r => by
    rw [TL.joinL, joinL_nil (b :: r)]
    rfl
theorem join_signs (ks : List Nat) : Txt.join (Str.ofString "") (ks.map Pv.sign) = Pv.txt ks := by
  have h : TL.tl (Str.join (Str.ofString "") (ks.map Pv.sign)) = TL.tl (Pv.txt ks) := by
    rw [TL.tl_join, show TL.tl (Str.ofString "") = [] from rfl, joinL_nil, List.map_map]
    show (ks.map fun k => [Pv.SIGNS.cps.toList.getD k 0]).flatten = (ks.map fun k => Pv.SIGNS.cps.toList.getD k 0)
    induction ks with
    | nil => rfl
    | cons a b ih => rw [List.map_cons, List.flatten_cons, ih]; rfl
  rw [TL.join_eq]
  have e : ∀ x y : Str, TL.tl x = TL.tl y → x = y := fun x y z => by
    cases x with
    | mk a => cases y with
      | mk b => 
        have z : a.toList = b.toList := z
        rw [← Array.toArray_toList (xs := a), z, Array.toArray_toList]
  exact e _ _ h
theorem signs_sum : ∀ ks : List Nat, ((ks.map Pv.sign).map fun x => x.length).sum = ks.length
  | [] => rfl
  | a :: b => by
    rw [List.map_cons, List.map_cons, List.sum_cons, signs_sum b, List.length_cons]
    show 1 + _ = _
    omega
def spReadNum (K : PySem.W.Frag) : Sp := fun vs H Q _ => ∃ (a : Addr) (l rest : List Nat) (at_ n : Nat), vs = [.ref a, .int (at_ : Nat)] ∧ SqL K H a (bv l) ∧ l.length ≤ 900000 ∧ l.drop at_ = Pv.nb n ++ rest ∧ n < 2 ^ 63 ∧
  ∀ t H', Same H H' → H t = none → H' t = some (.tup [.int (n : Nat), .int ((at_ + (Pv.nb n).length : Nat) : Int)]) → Q (.ref t) H'
def spReadStr (K : PySem.W.Frag) : Sp := fun vs H Q _ => ∃ (a : Addr) (l rest ks : List Nat) (at_ : Nat), vs = [.ref a, .int (at_ : Nat)] ∧ SqL K H a (bv l) ∧ l.length ≤ 900000 ∧ l.drop at_ = Pv.nb ks.length ++ (ks ++ rest) ∧ (∀ k ∈ ks, k < 73) ∧
  ∀ t H', Same H H' → H t = none → H' t = some (.tup [.str (Pv.txt ks), .int ((at_ + (Pv.nb ks.length).length + ks.length : Nat) : Int)]) → Q (.ref t) H'
inductive One where
  | str (ks rest : List Nat)
  | num (tag n : Nat) (rest : List Nat)
def One.Is (l : List Nat) (at_ : Nat) : One → Prop
  | .str ks rest => l.drop at_ = 1 :: (Pv.nb ks.length ++ (ks ++ rest)) ∧ ∀ k ∈ ks, k < 73
  | .num tag n rest => tag ≠ 1 ∧ l.drop at_ = tag :: (Pv.nb n ++ rest) ∧ n < 2 ^ 63
def One.tup (at_ : Nat) : One → List V
  | .str ks _ => [.str "value", .str (Pv.txt ks), .int ((at_ + 1 + (Pv.nb ks.length).length + ks.length : Nat) : Int)]
  | .num _ n _ => [.str "number", .int (n : Nat), .int ((at_ + 1 + (Pv.nb n).length : Nat) : Int)]
def spReadOne (K : PySem.W.Frag) : Sp := fun vs H Q _ => ∃ (a : Addr) (l : List Nat) (at_ : Nat) (w : One), vs = [.ref a, .int (at_ : Nat)] ∧ SqL K H a (bv l) ∧ l.length ≤ 900000 ∧ w.Is l at_ ∧
  ∀ t H', Same H H' → H t = none → H' t = some (.tup (w.tup at_)) → Q (.ref t) H'
section
variable {P : Program} {w : World} {K : PySem.W.Frag} {mg : Str → Option Value} {base : Heap}
theorem ok_read_number (T : Top K mg "read_number" st_read_number ["told", "at"]) (z_len : mg "len" = none) : Def P w K mg base 1 "read_number" ["told", "at"] (spReadNum K) := by
  refine T.ok sc_read_number (fun vs H Q E h => ?_) (fun f cdv A outer s H vs Q E hr h => ?_)
  · obtain ⟨a, l, rest, at_, n, rfl, _⟩ := h
    rfl
  obtain ⟨a, l, rest, at_, n, rfl, ha, hl, hd, hn, q⟩ := h
  refine ⟨_, (pss_cons (ps_set (i := 2) sc_read_number.nd rfl (Or.inl rfl) pe_int)
    (pss_cons (ps_set (i := 3) sc_read_number.nd rfl (Or.inl rfl) pe_int)
    (pss_cons (ps_set (i := 4) sc_read_number.nd rfl (Or.inl rfl) (pv 1))
    (pss_cons (ps_while PassesOwn.never (pt_cmpR op_lt (pv 1) (pe_callB (lenQ K) rfl z_len (by decide +kernel) (pa_cons (pv 0) pa_nil)) (nomark _))
    (pss_cons (ps_set (i := 5) sc_read_number.nd rfl (Or.inl rfl) (pe_ix (ixL K) (pv 0) (pv 1) (fun _ _ => rfl)))
      (Evl.pss_cut (ps_if (PW.pt (pw_and (pt_cmpR op_eq (pv 5) pe_int (nomark _)) (pw_and1 (pt_cmpR op_gt (pv 1) (pv 4) (nomark _)))))
      (pss_one (ps_ret (pe_tup (pa_cons pe_non (pa_cons (pv 1) pa_nil)))))
      pss_nil)
      (pss_cons (ps_set (i := 2) sc_read_number.nd rfl (Or.inl rfl) (pe_op op_add (pv 2) (pe_op op_mulW (pv 3) (pe_op op_mod (pv 5) pe_int))))
      (pss_cons (ps_set (i := 3) sc_read_number.nd rfl (Or.inl rfl) (pe_op op_mulW pe_int (pv 3)))
      (pss_cons (ps_set (i := 1) sc_read_number.nd rfl (Or.inl rfl) (pe_op op_add (pv 1) pe_int))
      (pss_one (ps_if (pt_cmpR op_lt (pv 5) pe_int (nomark _))
      (pss_one (ps_ret (pe_tup (pa_cons (pv 2) (pa_cons (pv 1) pa_nil)))))
      pss_nil))))))))
    (pss_one (ps_ret (pe_tup (pa_cons pe_non (pa_cons (pv 1) pa_nil))))))))), ?_⟩
  have lnb : (Pv.nb n).length ≤ 9 := Pv.nb_length 8 n (by
    show n < 2 ^ 63
    exact hn)
  refine ⟨_, rfl, fun m σ G => ∃ (k cur num : Nat) (y5 : Option V), σ = [some (.ref a), some (.int ((at_ + k : Nat) : Int)), some (.int (num : Nat)), some (.int ((128 ^ k : Nat) : Int)), some (.int (at_ : Nat)), y5] ∧ G = H ∧ l.drop (at_ + k) = Pv.nb cur ++ rest ∧ num + 128 ^ k * cur = n ∧ (0 < k → 0 < cur) ∧ k + (Pv.nb cur).length = (Pv.nb n).length ∧ cur = m,
    ⟨n, 0, n, 0, none, rfl, rfl, hd, by omega, fun z => absurd z (Nat.lt_irrefl 0), by omega, rfl⟩, ?_⟩
  rintro m σ G ⟨k, cur, num, y5, rfl, rfl, hd, hsum, hk0, hk, hm⟩
  subst hm
  have hp := Pv.nb_pos cur
  have k9 : k ≤ 9 := by omega
  have w9 : 128 ^ k ≤ 128 ^ 9 := Nat.pow_le_pow_right (by decide) k9
  have e9 : (128 : Nat) ^ 9 = 9223372036854775808 := by decide
  have cm : ∀ j : Int, j.natAbs < 2 ^ 8 → CMulW ((128 ^ k : Nat) : Int) j := fun j hj => wide_mul (a := 70) (b := 8) (by rw [Int.natAbs_natCast, show (2 : Nat) ^ 70 = 1180591620717411303424 by decide]; omega) hj (by decide) (by decide) (by decide)
  have lt : at_ + k < l.length := by
    have := congrArg List.length hd
    rw [List.length_drop, List.length_append] at this
    omega
  have get : ∀ b : Nat, (Pv.nb cur)[0]? = some b → l[at_ + k]? = some b := fun b hb => by
    have := congrArg (fun x => x[0]?) hd
    have this : (l.drop (at_ + k))[0]? = (Pv.nb cur ++ rest)[0]? := this
    rw [List.getElem?_drop, Nat.add_zero, List.getElem?_append_left hp] at this
    rw [this]
    exact hb
  refine ⟨_, rfl, .ref a, rfl, a, _, rfl, .inl ha, _, _, rfl, rfl, _, rfl, ifD (by rw [bv_len]; omega) ?_⟩
  refine ⟨fun σ' G' => ∃ m', m' < cur ∧ _, fun σ' G' w => w, ?_⟩
  by_cases h : cur > 127
  · have nbe := Pv.nb_big h
    have g := get (128 + cur % 128) (by rw [nbe]; rfl)
    refine ⟨.ref a, rfl, _, rfl, a, _, _, _, rfl, rfl, ha, atI_nat (bv_get g), ?_⟩
    refine ⟨fun σ' G' => σ' = [some (.ref a), some (.int ((at_ + k : Nat) : Int)), some (.int (num : Nat)), some (.int ((128 ^ k : Nat) : Int)), some (.int (at_ : Nat)), some (.int ((128 + cur % 128 : Nat) : Int))] ∧ G' = G, ⟨_, rfl, rfl, _, rfl, ifND (fun z => by have := V.int.inj z; omega) (iteF ⟨rfl, rfl⟩)⟩, ?_⟩
    rintro σ' G' ⟨rfl, rfl⟩
    refine ⟨_, rfl, _, rfl, _, rfl, _, _, rfl, rfl, (by show (0 : Int) < 128; decide), _, _, rfl, rfl, cm _ (by omega), _, _, rfl, rfl, ?_⟩
    refine ⟨_, rfl, _, _, rfl, rfl, wide_mul (a := 8) (b := 70) (by decide) (by rw [Int.natAbs_natCast, show (2 : Nat) ^ 70 = 1180591620717411303424 by decide]; omega) (by decide) (by decide) (by decide), ?_⟩
    refine ⟨_, rfl, _, _, rfl, rfl, _, rfl, _, _, rfl, rfl, _, rfl, ifND (by omega) ?_⟩
    have e2 : ((num : Nat) : Int) + ((128 ^ k : Nat) : Int) * (((128 + cur % 128 : Nat) : Int) % 128) = ((num + 128 ^ k * (cur % 128) : Nat) : Int) := by
      rw [show ((128 + cur % 128 : Nat) : Int) % 128 = ((cur % 128 : Nat) : Int) by omega, Int.natCast_add, Int.natCast_mul]
    have e3 : (128 : Int) * ((128 ^ k : Nat) : Int) = ((128 ^ (k + 1) : Nat) : Int) := by
      rw [Nat.pow_succ, Nat.mul_comm, Int.natCast_mul]
      rfl
    refine ⟨cur / 128, by omega, k + 1, cur / 128, num + 128 ^ k * (cur % 128), some (.int ((128 + cur % 128 : Nat) : Int)), ?_, rfl, ?_, ?_, fun _ => by omega, by rw [nbe, List.length_cons] at hk; omega, rfl⟩
    · show [some (V.ref a), some (V.int (((at_ + k : Nat) : Int) + 1)), some (V.int (((num : Nat) : Int) + ((128 ^ k : Nat) : Int) * (((128 + cur % 128 : Nat) : Int) % 128))), some (V.int ((128 : Int) * ((128 ^ k : Nat) : Int))), _, _] = _
      rw [e2, e3]
      rfl
    · rw [← Nat.add_assoc, ← List.drop_drop, hd, nbe]
      rfl
    · rw [Nat.pow_succ, Nat.mul_assoc, Nat.add_assoc, ← Nat.mul_add, show cur % 128 + 128 * (cur / 128) = cur by omega]
      exact hsum
  · have nbe := Pv.nb_small h
    have g := get cur (by rw [nbe]; rfl)
    refine ⟨.ref a, rfl, _, rfl, a, _, _, _, rfl, rfl, ha, atI_nat (bv_get g), ?_⟩
    refine ⟨fun σ' G' => σ' = [some (.ref a), some (.int ((at_ + k : Nat) : Int)), some (.int (num : Nat)), some (.int ((128 ^ k : Nat) : Int)), some (.int (at_ : Nat)), some (.int (cur : Nat))] ∧ G' = G, ?_, ?_⟩
    · refine ⟨_, rfl, rfl, _, rfl, ite2 (fun c => ?_) (fun c => iteF ⟨rfl, rfl⟩)⟩
      have c0 : ((cur : Nat) : Int) = 0 := V.int.inj (of_decide_eq_true c)
      exact ⟨_, rfl, _, rfl, _, _, rfl, rfl, _, rfl, ifND (by
        by_cases z : 0 < k
        · have := hk0 z
          omega
        · omega) ⟨rfl, rfl⟩⟩
    rintro σ' G' ⟨rfl, rfl⟩
    refine ⟨_, rfl, _, rfl, _, rfl, _, _, rfl, rfl, (by show (0 : Int) < 128; decide), _, _, rfl, rfl, cm _ (by omega), _, _, rfl, rfl, ?_⟩
    refine ⟨_, rfl, _, _, rfl, rfl, wide_mul (a := 8) (b := 70) (by decide) (by rw [Int.natAbs_natCast, show (2 : Nat) ^ 70 = 1180591620717411303424 by decide]; omega) (by decide) (by decide) (by decide), ?_⟩
    refine ⟨_, rfl, _, _, rfl, rfl, _, rfl, _, _, rfl, rfl, _, rfl, ifD (by omega) ?_⟩
    refine ⟨_, rfl, _, rfl, (by show 2 ≤ sizeLine; decide), fun t nt => ?_⟩
    refine q t _ (Same.new nt) nt ?_
    rw [upd_same]
    have e2 : ((num : Nat) : Int) + ((128 ^ k : Nat) : Int) * (((cur : Nat) : Int) % 128) = ((n : Nat) : Int) := by
      rw [show ((cur : Nat) : Int) % 128 = ((cur : Nat) : Int) by omega, ← hsum, Int.natCast_add, Int.natCast_mul]
    show some (HO.tup [V.int (((num : Nat) : Int) + ((128 ^ k : Nat) : Int) * (((cur : Nat) : Int) % 128)), V.int (((at_ + k : Nat) : Int) + 1)]) = _
    rw [e2, show ((at_ + k : Nat) : Int) + 1 = ((at_ + (Pv.nb n).length : Nat) : Int) by rw [nbe, List.length_singleton] at hk; omega]
theorem ok_read_string (T : Top K mg "read_string" st_read_string ["told", "at"]) (hS : ∃ t, mg "SIGNS" = some (.str Pv.SIGNS t)) (D_read_number : Def P w K mg base 1 "read_number" ["told", "at"] (spReadNum K)) (z_len : mg "len" = none) : Def P w K mg base 2 "read_string" ["told", "at"] (spReadStr K) := by
  obtain ⟨_, m_SIGNS⟩ := hS
  refine T.ok sc_read_string (fun vs H Q E h => ?_) (fun f cdv A outer s H vs Q E hr h => ?_)
  · obtain ⟨a, l, rest, ks, at_, rfl, _⟩ := h
    rfl
  obtain ⟨a, l, rest, ks, at_, rfl, ha, hl, hd, hk, q⟩ := h
  refine ⟨_, (pss_cons (ps_asg (pe_def D_read_number (hr.mono (by decide)) rfl (pa_cons (pv 0) (pa_cons (pv 1) pa_nil))) (pg_tup rfl (pgs_cons (pg_name (i := 2) sc_read_string.nd rfl (Or.inl rfl)) (pgs_cons (pg_name (i := 1) sc_read_string.nd rfl (Or.inl rfl)) pgs_nil))))
    (pss_cons (ps_if (pt_cmpR op_isN (pv 2) pe_non (nomark _))
    (pss_one (ps_ret (pe_tup (pa_cons pe_non (pa_cons (pv 1) pa_nil)))))
    pss_nil)
    (pss_cons (ps_set (i := 3) sc_read_string.nd rfl (Or.inl rfl) (pe_lst pa_nil))
    (pss_cons (ps_while PassesOwn.never (pt_cmpR op_lt (pe_callB (lenQ K) rfl z_len (by decide +kernel) (pa_cons (pv 3) pa_nil)) (pv 2) (nomark _))
    (pss_cons (ps_if (PW.pt (pw_or (pt_cmpR op_ge (pv 1) (pe_callB (lenQ K) rfl z_len (by decide +kernel) (pa_cons (pv 0) pa_nil)) (nomark _)) (pw_or1 (pt_cmpR op_ge (pe_ix (ixL K) (pv 0) (pv 1) (fun _ _ => rfl)) (pe_callB call_len_str rfl z_len (by decide +kernel) (pa_cons (pe_glob (v := .str Pv.SIGNS) rfl m_SIGNS ⟨_, rfl⟩) pa_nil)) (nomark _)))))
      (pss_one (ps_ret (pe_tup (pa_cons pe_non (pa_cons (pv 1) pa_nil)))))
      pss_nil)
      (pss_cons (ps_expr (pe_bm PySem.F.plainAttrs_list PySem.F.slot_list_append PySem.F.type_list_append mt_append (pv 3) (pa_cons (pe_ix ix_str (pe_glob (v := .str Pv.SIGNS) rfl m_SIGNS ⟨_, rfl⟩) (pe_ix (ixL K) (pv 0) (pv 1) (fun _ _ => rfl)) (fun _ _ => rfl)) pa_nil)))
      (pss_one (ps_set (i := 1) sc_read_string.nd rfl (Or.inl rfl) (pe_op op_add (pv 1) pe_int))))))
    (pss_one (ps_ret (pe_tup (pa_cons (pe_bm PySem.F.plainAttrs_str PySem.F.slot_str_join PySem.F.type_str_join mt_join pe_str (pa_cons (pv 3) pa_nil)) (pa_cons (pv 1) pa_nil))))))))), ?_⟩
  have big : ∀ {n : Nat}, n ≤ 900000 → n ≤ sizeLine := fun h => Nat.le_trans h (by decide)
  have lens : ks.length + (Pv.nb ks.length).length + at_ ≤ l.length ∨ l.length < at_ := by
    have := congrArg List.length hd
    rw [List.length_drop, List.length_append, List.length_append] at this
    omega
  have pos := Pv.nb_pos ks.length
  have lens : at_ + (Pv.nb ks.length).length + ks.length ≤ l.length := by
    rcases lens with h | h
    · omega
    · rw [List.drop_eq_nil_of_le (by omega)] at hd
      have := congrArg List.length hd
      rw [List.length_append] at this
      simp at this
      omega
  refine ⟨.ref a, rfl, _, rfl, a, l, ks ++ rest, at_, ks.length, rfl, ha, hl, hd, by omega, fun t G1 s1 n1 e1 => ?_⟩
  refine ⟨t, _, rfl, SqT.of e1, rfl, _, _, rfl, _, _, rfl, rfl, ?_⟩
  refine ⟨_, rfl, rfl, _, rfl, ifND (fun z => by cases z) ?_⟩
  refine ⟨Nat.zero_le _, fun si n2 => ?_⟩
  generalize hN2 : L2.upd G1 si _ = G2
  have s2 := new_of n2 hN2
  have e2 := at_of hN2
  try dsimp only at e2
  clear hN2
  have s12 := s1.trans s2
  have nsi : H si = none := s1.free n2
  have hd1 : l.drop (at_ + (Pv.nb ks.length).length) = ks ++ rest := by
    rw [← List.drop_drop, hd, List.drop_left' rfl]
  clear s2 s1
  refine ⟨fun m σ G => ∃ i : Nat, i ≤ ks.length ∧ σ = [some (.ref a), some (.int ((at_ + (Pv.nb ks.length).length + i : Nat) : Int)), some (.int (ks.length : Nat)), some (.ref si)] ∧ Same H G ∧ G si = some (.lst ((ks.take i).map fun k => V.str (Pv.sign k))) ∧ m = ks.length - i, ⟨ks.length, 0, Nat.zero_le _, rfl, s12, e2, rfl⟩, ?_⟩
  rintro m σ G ⟨i, hi, rfl, sg, es, rfl⟩
  have lt : ((ks.take i).map fun k => V.str (Pv.sign k)).length = i := by rw [List.length_map, List.length_take]; omega
  refine ⟨.ref si, rfl, si, _, rfl, .inl (SqL.of es), _, rfl, _, _, rfl, rfl, _, rfl, ?_⟩
  have ha' := sg.seq ha
  by_cases h : i < ks.length
  · refine ifD (by rw [lt]; omega) ⟨fun σ' G' => ∃ m', m' < ks.length - i ∧ _, fun σ' G' w => w, ?_⟩
    obtain ⟨k, hki⟩ : ∃ k, ks[i]? = some k := ⟨_, List.getElem?_eq_getElem h⟩
    have k73 := hk k (List.mem_of_getElem? hki)
    have g : l[at_ + (Pv.nb ks.length).length + i]? = some k := by
      have := congrArg (fun x => x[i]?) hd1
      have this : (l.drop (at_ + (Pv.nb ks.length).length))[i]? = (ks ++ rest)[i]? := this
      rw [List.getElem?_drop, List.getElem?_append_left h] at this
      rw [this, hki]
    have sl : Pv.SIGNS.length = 73 := by decide +kernel
    refine ⟨_, rfl, .ref a, rfl, a, _, rfl, .inl ha', _, _, rfl, rfl, _, rfl, ifND (by rw [bv_len]; omega) ?_⟩
    refine ⟨.ref a, rfl, _, rfl, a, _, _, _, rfl, rfl, ha', atI_nat (bv_get g), Pv.SIGNS, rfl, by rw [sl]; decide, _, _, rfl, rfl, _, rfl, ifND (by rw [sl]; omega) ?_⟩
    have gs : atI Pv.SIGNS.cps.toList (k : Int) = some (Pv.SIGNS.cps.toList.getD k 0) := atI_nat (by
      have : k < Pv.SIGNS.cps.toList.length := by rw [Pv.signs_length]; exact k73
      rw [List.getD_eq_getElem?_getD, List.getElem?_eq_getElem this]
      rfl)
    refine ⟨.ref si, rfl, .inl ⟨rfl, _, SqL.of es⟩, .ref a, rfl, _, rfl, a, _, _, _, rfl, rfl, ha', atI_nat (bv_get g), _, _, _, rfl, rfl, by rw [sl]; decide, gs, si, _, _, rfl, rfl, es, by rw [lt]; exact sq_len (by omega), ?_⟩
    refine ⟨_, rfl, _, _, rfl, rfl, ks.length - (i + 1), by omega, i + 1, h, rfl, same_mut sg nsi, ?_, rfl⟩
    rw [upd_same, List.take_add_one, hki, List.map_append]
    rfl
  · have ei : i = ks.length := by omega
    subst ei
    refine ifND (by rw [lt]; omega) ?_
    rw [List.take_length] at es
    have em : (ks.map fun k => V.str (Pv.sign k)) = (ks.map Pv.sign).map V.str := by rw [List.map_map]; rfl
    rw [em] at es
    have sum := signs_sum ks
    refine ⟨rfl, .ref si, rfl, _, si, ks.map Pv.sign, rfl, rfl, .inl (SqL.of es), ?_, _, rfl, (by show 2 ≤ sizeLine; decide), fun t nt => ?_⟩
    · rw [sum, show (Str.ofString "").length = 0 from rfl]
      omega
    · refine q t _ (sg.trans (Same.new nt)) (sg.free nt) ?_
      rw [upd_same, join_signs]
theorem ok_read_one (T : Top K mg "read_one" st_read_one ["told", "at"]) (D_read_number : Def P w K mg base 1 "read_number" ["told", "at"] (spReadNum K)) (D_read_string : Def P w K mg base 2 "read_string" ["told", "at"] (spReadStr K)) : Def P w K mg base 3 "read_one" ["told", "at"] (spReadOne K) := by
  refine T.ok sc_read_one (fun vs H Q E h => ?_) (fun f cdv A outer s H vs Q E hr h => ?_)
  · obtain ⟨a, l, at_, w, rfl, _⟩ := h
    rfl
  obtain ⟨a, l, at_, w, rfl, ha, hl, hw, q⟩ := h
  refine ⟨_, (pss_cons (ps_if (pt_cmpR op_eq (pe_ix (ixL K) (pv 0) (pv 1) (fun _ _ => rfl)) pe_int (nomark _))
    (pss_cons (ps_asg (pe_def D_read_string (hr.mono (by decide)) rfl (pa_cons (pv 0) (pa_cons (pe_op op_add (pv 1) pe_int) pa_nil))) (pg_tup rfl (pgs_cons (pg_name (i := 2) sc_read_one.nd rfl (Or.inl rfl)) (pgs_cons (pg_name (i := 1) sc_read_one.nd rfl (Or.inl rfl)) pgs_nil))))
      (pss_one (ps_ret (pe_tup (pa_cons pe_str (pa_cons (pv 2) (pa_cons (pv 1) pa_nil)))))))
    pss_nil)
    (pss_cons (ps_asg (pe_def D_read_number (hr.mono (by decide)) rfl (pa_cons (pv 0) (pa_cons (pe_op op_add (pv 1) pe_int) pa_nil))) (pg_tup rfl (pgs_cons (pg_name (i := 3) sc_read_one.nd rfl (Or.inl rfl)) (pgs_cons (pg_name (i := 1) sc_read_one.nd rfl (Or.inl rfl)) pgs_nil))))
    (pss_one (ps_ret (pe_tup (pa_cons pe_str (pa_cons (pv 3) (pa_cons (pv 1) pa_nil)))))))), ?_⟩
  have at0 : ∀ {t : Nat} {r : List Nat}, l.drop at_ = t :: r → l[at_]? = some t ∧ l.drop (at_ + 1) = r := fun {t r} e => by
    refine ⟨?_, ?_⟩
    · have := congrArg (fun x => x[0]?) e
      have this : (l.drop at_)[0]? = (t :: r)[0]? := this
      rw [List.getElem?_drop, Nat.add_zero] at this
      exact this
    · rw [← List.drop_drop, e]
      rfl
  cases w with
  | str ks rest =>
    obtain ⟨hd, hk⟩ := hw
    obtain ⟨g, hd1⟩ := at0 hd
    refine ⟨.ref a, rfl, _, rfl, a, _, _, _, rfl, rfl, ha, atI_nat (bv_get g), rfl, _, rfl, ifD rfl ?_⟩
    refine ⟨.ref a, rfl, _, rfl, _, _, rfl, rfl, a, l, rest, ks, at_ + 1, rfl, ha, hl, hd1, hk, fun t G1 s1 n1 e1 => ?_⟩
    refine ⟨t, _, rfl, SqT.of e1, rfl, _, _, rfl, _, _, rfl, rfl, ?_⟩
    refine ⟨_, rfl, _, rfl, (by show 3 ≤ sizeLine; decide), fun u n2 => ?_⟩
    generalize hN2 : L2.upd G1 u _ = G2
    have s2 := new_of n2 hN2
    have e2 := at_of hN2
    try dsimp only at e2
    clear hN2
    exact q u G2 (s1.trans s2) (s1.free n2) e2
  | num tag n rest =>
    obtain ⟨ht, hd, hn⟩ := hw
    obtain ⟨g, hd1⟩ := at0 hd
    refine ⟨.ref a, rfl, _, rfl, a, _, _, _, rfl, rfl, ha, atI_nat (bv_get g), rfl, _, rfl, ifND (fun z => ht (by have := V.int.inj z; omega)) ?_⟩
    refine ⟨.ref a, rfl, _, rfl, _, _, rfl, rfl, a, l, rest, at_ + 1, n, rfl, ha, hl, hd1, hn, fun t G1 s1 n1 e1 => ?_⟩
    refine ⟨t, _, rfl, SqT.of e1, rfl, _, _, rfl, _, _, rfl, rfl, ?_⟩
    refine ⟨_, rfl, _, rfl, (by show 3 ≤ sizeLine; decide), fun u n2 => ?_⟩
    generalize hN2 : L2.upd G1 u _ = G2
    have s2 := new_of n2 hN2
    have e2 := at_of hN2
    try dsimp only at e2
    clear hN2
    exact q u G2 (s1.trans s2) (s1.free n2) e2
end
end My
set_option Elab.async false
set_option linter.all false
set_option maxRecDepth 100000
set_option maxHeartbeats 4000000
/-! value_of reads what bytes_of wrote -/
namespace My
open PySem PySem.Spec PyProof.Rows L2
local macro_rules
  | `(tactic| nofun) => `(tactic| (apply tup_at; nofun))
local macro_rules
  | `(tactic| nofun) => `(tactic| (apply seq_at; nofun))
local macro_rules
  | `(tactic| nofun) => `(tactic| (apply pool_same; assumption; nofun))
local macro_rules
  | `(tactic| nofun) => `(tactic| (apply but_get; assumption; assumption; nofun))
local macro_rules
  | `(tactic| nofun) => `(tactic| (apply off_get; assumption; assumption; nofun))
local macro_rules
  | `(tactic| nofun) => `(tactic| (apply same_get; assumption; nofun))
local macro_rules
  | `(tactic| nofun) => `(tactic| assumption)
def spValueOf (K : PySem.W.Frag) : Sp := fun vs H Q _ => ∃ (a : Addr) (v : Pv.Val), vs = [.ref a] ∧ SqL K H a (bv (Pv.bytes v)) ∧ Pv.Ok v ∧ (Pv.bytes v).length ≤ 900000 ∧ Pv.depth v ≤ 60 ∧
  ∀ t x H', Same H H' → H t = none → H' t = some (.tup [.str "value", x]) → VW K H' (Pv.depth v) x v → Q (.ref t) H'
/-- an opened tuple: its object, its list, how many it wants, what it has, what comes behind the next -/
structure Fr where
  t : Addr
  l : Addr
  n : Nat
  xs : List V
  ds : List Pv.Val
  rest : List Pv.Val
def plug : List Fr → Pv.Val → Pv.Val
  | [], v => v
  | f :: fs, v => plug fs (.tup (f.ds ++ v :: f.rest))
def rem : List Fr → List Nat
  | [] => []
  | f :: fs => Pv.bytesL f.rest ++ rem fs
theorem plug_ok : ∀ {fs : List Fr} {v : Pv.Val}, Pv.Ok (plug fs v) → Pv.Ok v
  | [], _, h => h
  | f :: fs, v, h => by
    have := plug_ok (fs := fs) h
    exact (Pv.OkL_split this.2).2.1
theorem plug_depth : ∀ (fs : List Fr) (v : Pv.Val), fs.length + Pv.depth v ≤ Pv.depth (plug fs v)
  | [], v => by simp [plug]
  | f :: fs, v => by
    have h := plug_depth fs (.tup (f.ds ++ v :: f.rest))
    have d := Pv.depthL_mem (l := f.ds ++ v :: f.rest) (v := v) (by simp)
    rw [plug, List.length_cons]
    rw [Pv.depth] at h
    omega
structure FrAt (K : PySem.W.Frag) (H G : Hp) (f : Fr) : Prop where
  tup : G f.t = some (.tup [.int (f.n : Nat), .ref f.l])
  lst : G f.l = some (.lst f.xs)
  ft : H f.t = none
  fl : H f.l = none
  len : f.xs.length = f.ds.length
  at_ : ∀ (i : Nat) y e, f.xs[i]? = some y → f.ds[i]? = some e → VW K G (Pv.depth e) y e
def Stack (K : PySem.W.Frag) (H G : Hp) : List Fr → Prop
  | [] => True
  | f :: fs => FrAt K H G f ∧ (∀ g ∈ fs, g.l ≠ f.l) ∧ Stack K H G fs
def Holes (fs : List Fr) : Prop := ∀ f ∈ fs, f.n = f.ds.length + 1 + f.rest.length
section
variable {K : PySem.W.Frag} {H G G' : Hp}
theorem FrAt.same {f : Fr} (h : FrAt K H G f) (s : Same G G') : FrAt K H G' f := ⟨s _ _ h.tup, s _ _ h.lst, h.ft, h.fl, h.len, fun i y e hy he => (h.at_ i y e hy he).same s⟩
theorem FrAt.put {f : Fr} {p : Addr} {ys zs : List V} (h : FrAt K H G f) (e : G p = some (.lst ys)) (n : p ≠ f.l) : FrAt K H (upd G p (.lst zs)) f :=
  ⟨(upd_ne (fun z => by have := h.tup; rw [z, e] at this; cases this)).trans h.tup, (upd_ne (Ne.symm n)).trans h.lst, h.ft, h.fl, h.len, fun i y d hy hd => (h.at_ i y d hy hd).list e⟩
theorem Stack.same : ∀ {fs : List Fr}, Stack K H G fs → Same G G' → Stack K H G' fs
  | [], _, _ => trivial
  | f :: fs, h, s => ⟨h.1.same s, h.2.1, Stack.same h.2.2 s⟩
theorem Stack.put {p : Addr} {ys zs : List V} (e : G p = some (.lst ys)) : ∀ {fs : List Fr}, Stack K H G fs → (∀ f ∈ fs, f.l ≠ p) → Stack K H (upd G p (.lst zs)) fs
  | [], _, _ => trivial
  | f :: fs, h, n => ⟨h.1.put e (Ne.symm (n f (List.mem_cons_self ..))), h.2.1, Stack.put e h.2.2 fun g hg => n g (List.mem_cons_of_mem _ hg)⟩
theorem Stack.ne : ∀ {fs : List Fr} {p : Addr}, Stack K H G fs → G p = none → ∀ f ∈ fs, f.l ≠ p
  | f :: fs, p, h, n, g, hg => by
    rcases List.mem_cons.mp hg with e | hg
    · rw [e]
      exact fun z => by have := h.1.lst; rw [z, n] at this; cases this
    · exact Stack.ne h.2.2 n g hg
theorem VW.not {n : Nat} {x : V} {v : Pv.Val} (h : VW K H n x v) : x ≠ .non := fun z => by
  subst z
  cases n with
  | zero => exact h
  | succ n =>
    cases v with
    | int i => cases (show V.non = V.int i from h)
    | str ks => cases (show V.non = V.str _ from h)
    | tup l =>
      obtain ⟨a, xs, e, _⟩ := h
      cases e
end
def oneOf (r : List Nat) : Pv.Val → One
  | .int i => .num 0 (Pv.zig i) r
  | .str ks => .str ks r
  | .tup l => .num 2 l.length (Pv.bytesL l ++ r)
def tagOf : Pv.Val → Nat
  | .int _ => 0
  | .str _ => 1
  | .tup _ => 2
def kindOf : Pv.Val → V
  | .int _ => .str "number"
  | .str _ => .str "value"
  | .tup _ => .str "number"
def rawOf : Pv.Val → V
  | .int i => .int (Pv.zig i : Nat)
  | .str ks => .str (Pv.txt ks)
  | .tup l => .int (l.length : Nat)
def convOf : Pv.Val → V
  | .int i => .int i
  | e => rawOf e
def stepOf : Pv.Val → Nat
  | .int i => 1 + (Pv.nb (Pv.zig i)).length
  | .str ks => 1 + (Pv.nb ks.length).length + ks.length
  | .tup l => 1 + (Pv.nb l.length).length
theorem one_tup (r : List Nat) (at_ : Nat) (e : Pv.Val) : (oneOf r e).tup at_ = [kindOf e, rawOf e, .int ((at_ + stepOf e : Nat) : Int)] := by
  cases e <;> simp [oneOf, One.tup, kindOf, rawOf, stepOf, Nat.add_assoc]
def innerOf : Pv.Val → List Nat
  | .tup l => Pv.bytesL l
  | _ => []
theorem one_is {l r : List Nat} {at_ : Nat} {e : Pv.Val} (ok : Pv.Ok e) (h : l.drop at_ = Pv.bytes e ++ r) : (oneOf r e).Is l at_ ∧ l.drop (at_ + stepOf e) = innerOf e ++ r ∧ at_ + stepOf e ≤ l.length := by
  have hl := congrArg List.length h
  rw [List.length_drop, List.length_append] at hl
  cases e with
  | int i =>
    rw [Pv.bytes] at h hl
    rw [List.length_cons] at hl
    have z := Pv.zig_lt ok
    have se : stepOf (.int i) = 1 + (Pv.nb (Pv.zig i)).length := rfl
    refine ⟨⟨by decide, h, by omega⟩, ?_, by omega⟩
    rw [se, ← List.drop_drop, h, List.cons_append, Nat.add_comm 1, List.drop_succ_cons, List.drop_left' rfl]
    rfl
  | str ks =>
    rw [Pv.bytes] at h hl
    rw [List.length_cons, List.length_append] at hl
    have se : stepOf (.str ks) = 1 + (Pv.nb ks.length).length + ks.length := rfl
    refine ⟨⟨by rw [h, List.cons_append, List.append_assoc], ok.2⟩, ?_, by omega⟩
    rw [show stepOf (.str ks) = ((Pv.nb ks.length).length + ks.length) + 1 by rw [se]; omega, ← List.drop_drop, h, List.cons_append, List.drop_succ_cons, List.append_assoc, ← List.drop_drop, List.drop_left' rfl, List.drop_left' rfl]
    rfl
  | tup ls =>
    rw [Pv.bytes] at h hl
    rw [List.length_cons, List.length_append] at hl
    have := ok.1
    have se : stepOf (.tup ls) = 1 + (Pv.nb ls.length).length := rfl
    refine ⟨⟨by decide, by rw [h, List.cons_append, List.append_assoc], by omega⟩, ?_, by omega⟩
    rw [se, ← List.drop_drop, h, List.cons_append, Nat.add_comm 1, List.drop_succ_cons, List.append_assoc, List.drop_left' rfl]
    rfl
theorem raw_not (e : Pv.Val) : rawOf e ≠ .non := by cases e <;> exact fun z => by cases z
theorem conv_is {K : PySem.W.Frag} {H : Hp} (e : Pv.Val) (h : tagOf e ≠ 2) : VW K H (Pv.depth e) (convOf e) e := by
  cases e with
  | int i => rw [Pv.depth]; exact rfl
  | str ks => rw [Pv.depth]; exact rfl
  | tup l => exact absurd rfl h
/-- a value stands behind what is opened; or the next is to be read; or a tuple of none is to be closed -/
inductive Ph where
  | got (x : V)
  | next
  | none_
def Opened (fs : List Fr) : List V := fs.reverse.map fun f => V.ref f.t
def Vof (K : PySem.W.Frag) (H : Hp) (v : Pv.Val) (a o : Addr) (at0 : Nat) (m : Nat) (σ : L2.St) (G : Hp) : Prop :=
  ∃ (fs : List Fr) (at_ : Nat) (x3 x4 : Option V) (val : V), σ = [some (.ref a), some (.int (at_ : Nat)), some (.ref o), x3, x4, some val] ∧ Same H G ∧ G o = some (.lst (Opened fs)) ∧ (∀ f ∈ fs, f.l ≠ o) ∧ Stack K H G fs ∧ at0 < at_ ∧ at_ ≤ (Pv.bytes v).length ∧
  ((∃ e, VW K G (Pv.depth e) val e ∧ plug fs e = v ∧ (Pv.bytes v).drop at_ = rem fs ∧ Holes fs ∧ m = 2 * fs.length + 1) ∨
   (∃ e, val = .non ∧ fs ≠ [] ∧ plug fs e = v ∧ (Pv.bytes v).drop at_ = Pv.bytes e ++ rem fs ∧ Holes fs ∧ m = 0) ∨
   (∃ f fs', val = .non ∧ fs = f :: fs' ∧ f.n = 0 ∧ f.xs = [] ∧ plug fs' (.tup []) = v ∧ (Pv.bytes v).drop at_ = rem fs' ∧ Holes fs' ∧ m = 2 * fs'.length + 2))
section
variable {P : Program} {w : World} {K : PySem.W.Frag} {mg : Str → Option Value} {base : Heap}
theorem opened_cons (f : Fr) (fs : List Fr) : Opened (f :: fs) = Opened fs ++ [.ref f.t] := by
  unfold Opened
  rw [List.reverse_cons, List.map_append]
  rfl
theorem at_snoc (xs : List V) (y : V) : atI (xs ++ [y]) (-1) = some y := by
  unfold atI ixN
  rw [if_neg (by decide), if_pos (by rw [List.length_append, List.length_singleton]; omega)]
  show (xs ++ [y])[(-1 + ((xs ++ [y]).length : Int)).toNat]? = _
  rw [List.length_append, List.length_singleton, show (-1 + ((xs.length + 1 : Nat) : Int)).toNat = xs.length by omega, List.getElem?_append_right (Nat.le_refl _), Nat.sub_self]
  rfl
theorem ok_value_of (T : Top K mg "value_of" st_value_of ["told"]) (hD : ∃ t, mg "DEEPEST" = some (.int 60 t)) (D_read_one : Def P w K mg base 3 "read_one" ["told", "at"] (spReadOne K)) (z_len : mg "len" = none) (z_tuple : mg "tuple" = none) : Def P w K mg base 4 "value_of" ["told"] (spValueOf K) := by
  obtain ⟨_, m_DEEPEST⟩ := hD
  refine T.ok sc_value_of (fun vs H Q E h => ?_) (fun f cdv A outer s H vs Q E hr h => ?_)
  · obtain ⟨a, v, rfl, _⟩ := h
    rfl
  obtain ⟨a, v, rfl, ha, hok, hl, hdp, q⟩ := h
  refine ⟨_, (pss_cons (ps_set (i := 1) sc_value_of.nd rfl (Or.inl rfl) pe_int)
    (pss_cons (ps_set (i := 2) sc_value_of.nd rfl (Or.inl rfl) (pe_lst pa_nil))
    (pss_one (ps_while PassesOwn.never (pt_val pe_bl)
    (Evl.pss_cut (ps_if (PW.pt (pw_or (pt_cmpR op_ge (pv 1) (pe_callB (lenQ K) rfl z_len (by decide +kernel) (pa_cons (pv 0) pa_nil)) (nomark _)) (pw_or (pt_cmpR op_gt (pe_ix (ixL K) (pv 0) (pv 1) (fun _ _ => rfl)) pe_int (nomark _)) (pw_or1 (PW.pt (pw_and (pt_cmpR op_eq (pe_ix (ixL K) (pv 0) (pv 1) (fun _ _ => rfl)) pe_int (nomark _)) (pw_and1 (pt_cmpR op_ge (pe_callB (lenQ K) rfl z_len (by decide +kernel) (pa_cons (pv 2) pa_nil)) (pe_glob (v := .int 60) rfl m_DEEPEST ⟨_, rfl⟩) (nomark _)))))))))
      (pss_one (ps_ret (pe_tup (pa_cons pe_str (pa_cons (pv 1) pa_nil)))))
      pss_nil)
      (pss_cons (ps_set (i := 3) sc_value_of.nd rfl (Or.inl rfl) (pe_ix (ixL K) (pv 0) (pv 1) (fun _ _ => rfl)))
      (pss_cons (ps_asg (pe_def D_read_one (hr.mono (by decide)) rfl (pa_cons (pv 0) (pa_cons (pv 1) pa_nil))) (pg_tup rfl (pgs_cons (pg_name (i := 4) sc_value_of.nd rfl (Or.inl rfl)) (pgs_cons (pg_name (i := 5) sc_value_of.nd rfl (Or.inl rfl)) (pgs_cons (pg_name (i := 1) sc_value_of.nd rfl (Or.inl rfl)) pgs_nil)))))
      (pss_cons (ps_if (pt_cmpR op_isN (pv 5) pe_non (nomark _))
      (pss_one (ps_ret (pe_tup (pa_cons pe_str (pa_cons (pv 1) pa_nil)))))
      pss_nil)
      (Evl.pss_cut (ps_if (pt_cmpR op_eq (pv 3) pe_int (nomark _))
      (pss_one (ps_set (i := 5) sc_value_of.nd rfl (Or.inl rfl) (pe_ifExp (pt_cmpR op_eq (pe_op op_mod (pv 5) pe_int) pe_int (nomark _)) (pe_op op_fdiv (pv 5) pe_int) (pe_un un_neg (pe_op op_fdiv (pe_op op_add (pv 5) pe_int) pe_int)))))
      pss_nil)
      (Evl.pss_cut (ps_if (pt_cmpR op_eq (pv 3) pe_int (nomark _))
      (pss_cons (ps_expr (pe_bm PySem.F.plainAttrs_list PySem.F.slot_list_append PySem.F.type_list_append mt_append (pv 2) (pa_cons (pe_tup (pa_cons (pv 5) (pa_cons (pe_lst pa_nil) pa_nil))) pa_nil)))
        (pss_one (ps_set (i := 5) sc_value_of.nd rfl (Or.inl rfl) pe_non)))
      pss_nil)
      (pss_cons (ps_while PassesOwn.never (PW.pt (pw_and (pt_truth (pv 2) (by intro _; rfl)) (pw_and1 (PW.pt (pw_or (pt_cmpR op_notN (pv 5) pe_non (nomark _)) (pw_or1 (pt_cmpR op_eq (pe_ix (ixQ K) (pe_ix (ixL K) (pv 2) (pe_un un_neg pe_int) (fun _ _ => rfl)) pe_int (fun _ _ => rfl)) pe_int (nomark _))))))))
      (pss_cons (ps_if (pt_cmpR op_notN (pv 5) pe_non (nomark _))
        (pss_cons (ps_expr (pe_bm PySem.F.plainAttrs_list PySem.F.slot_list_append PySem.F.type_list_append mt_append (pe_ix (ixQ K) (pe_ix (ixL K) (pv 2) (pe_un un_neg pe_int) (fun _ _ => rfl)) pe_int (fun _ _ => rfl)) (pa_cons (pv 5) pa_nil)))
          (pss_one (ps_set (i := 5) sc_value_of.nd rfl (Or.inl rfl) pe_non)))
        pss_nil)
        (pss_cons (ps_if (pt_cmpR op_lt (pe_callB (lenQ K) rfl z_len (by decide +kernel) (pa_cons (pe_ix (ixQ K) (pe_ix (ixL K) (pv 2) (pe_un un_neg pe_int) (fun _ _ => rfl)) pe_int (fun _ _ => rfl)) pa_nil)) (pe_ix (ixQ K) (pe_ix (ixL K) (pv 2) (pe_un un_neg pe_int) (fun _ _ => rfl)) pe_int (fun _ _ => rfl)) (nomark _))
        (pss_one ps_break)
        pss_nil)
        (pss_one (ps_set (i := 5) sc_value_of.nd rfl (Or.inl rfl) (pe_callTy (tupQ K) rfl z_tuple (by decide +kernel) (pa_cons (pe_ix (ixQ K) (pe_bm0 PySem.F.plainAttrs_list PySem.F.slot_list_pop PySem.F.type_list_pop mt_pop (pv 2)) pe_int (fun _ _ => rfl)) pa_nil)))))))
      (pss_one (ps_if (PW.pt (pw_and (pt_not (pt_truth (pv 2) (by intro _; rfl))) (pw_and1 (pt_cmpR op_notN (pv 5) pe_non (nomark _)))))
      (pss_one (ps_ret (pe_ifExp (pt_cmpR op_eq (pv 1) (pe_callB (lenQ K) rfl z_len (by decide +kernel) (pa_cons (pv 0) pa_nil)) (nomark _)) (pe_tup (pa_cons pe_str (pa_cons (pv 5) pa_nil))) (pe_tup (pa_cons pe_str (pa_cons (pv 1) pa_nil))))))
      pss_nil))))))))))))), ?_⟩
  refine ⟨Nat.zero_le _, fun o no => ?_⟩
  -- each turn reads the next
  refine ⟨fun m σ G => ∃ (fs : List Fr) (e : Pv.Val) (at_ : Nat) (x3 x4 x5 : Option V), σ = [some (.ref a), some (.int (at_ : Nat)), some (.ref o), x3, x4, x5] ∧ Same H G ∧ G o = some (.lst (Opened fs)) ∧ (∀ f ∈ fs, f.l ≠ o) ∧ Stack K H G fs ∧ Holes fs ∧ plug fs e = v ∧ (Pv.bytes v).drop at_ = Pv.bytes e ++ rem fs ∧ m + at_ = (Pv.bytes v).length,
    ⟨(Pv.bytes v).length, [], v, 0, none, none, none, rfl, Same.new no, upd_same, (fun f hf => by cases hf), trivial, (fun f hf => by cases hf), rfl, by rw [rem, List.append_nil]; rfl, rfl⟩, ?_⟩
  rintro m σ G ⟨fs, e, at_, x3, x4, x5, rfl, sg, eo, nfo, st, hol, pl, hd, hm⟩
  have ha' := sg.seq ha
  have oke : Pv.Ok e := plug_ok (fs := fs) (by rw [pl]; exact hok)
  have dep := plug_depth fs e
  rw [pl] at dep
  refine ⟨true, rfl, iteT ?_⟩
  refine ⟨fun σ' G' => ∃ m', m' < m ∧ _, fun σ' G' w => w, ?_⟩
  have hdl := congrArg List.length hd
  rw [List.length_drop, List.length_append] at hdl
  have hlo : (Opened fs).length = fs.length := by
    unfold Opened
    rw [List.length_map, List.length_reverse]
  obtain ⟨r, hbe, htag, h2⟩ : ∃ r, Pv.bytes e = tagOf e :: r ∧ tagOf e ≤ 2 ∧ (tagOf e = 2 → fs.length < 60) := by
    cases e with
    | int i => exact ⟨_, by rw [Pv.bytes]; rfl, (by show 0 ≤ 2; decide), fun z => by cases z⟩
    | str ks => exact ⟨_, by rw [Pv.bytes]; rfl, (by show 1 ≤ 2; decide), fun z => by cases z⟩
    | tup l => exact ⟨_, by rw [Pv.bytes]; rfl, (by show 2 ≤ 2; decide), fun _ => by rw [Pv.depth] at dep; omega⟩
  have lbe : (Pv.bytes e).length = r.length + 1 := by rw [hbe]; rfl
  have g : (Pv.bytes v)[at_]? = some (tagOf e) := by
    have := congrArg (fun x => x[0]?) hd
    have this : ((Pv.bytes v).drop at_)[0]? = (Pv.bytes e ++ rem fs)[0]? := this
    rw [List.getElem?_drop, Nat.add_zero, hbe] at this
    exact this
  refine ⟨fun σ' G' => σ' = [some (.ref a), some (.int (at_ : Nat)), some (.ref o), x3, x4, x5] ∧ G' = G, ?_, ?_⟩
  · refine ⟨_, rfl, .ref a, rfl, a, _, rfl, .inl ha', _, _, rfl, rfl, _, rfl, ifND (by rw [bv_len]; omega) ?_⟩
    refine ⟨.ref a, rfl, _, rfl, a, _, _, _, rfl, rfl, ha', atI_nat (bv_get g), _, _, rfl, rfl, _, rfl, ifND (by omega) ?_⟩
    refine ⟨.ref a, rfl, _, rfl, a, _, _, _, rfl, rfl, ha', atI_nat (bv_get g), rfl, _, rfl, ite2 (fun c => ?_) (fun c => iteF ⟨rfl, rfl⟩)⟩
    have t2 : tagOf e = 2 := by
      have := V.int.inj (of_decide_eq_true c)
      omega
    have := h2 t2
    exact ⟨.ref o, rfl, o, _, rfl, .inl (SqL.of eo), _, _, rfl, rfl, _, rfl, ifND (by rw [hlo]; omega) ⟨rfl, rfl⟩⟩
  rintro σ' G' ⟨rfl, rfl⟩
  obtain ⟨o1, o2, o3⟩ := one_is oke hd
  have stp : 0 < stepOf e := by
    cases e with
    | int i => show 0 < 1 + _; omega
    | str ks => show 0 < 1 + _ + _; omega
    | tup l => show 0 < 1 + _; omega
  refine ⟨.ref a, rfl, _, rfl, a, _, _, _, rfl, rfl, ha', atI_nat (bv_get g), ?_⟩
  refine ⟨.ref a, rfl, _, rfl, a, Pv.bytes v, at_, oneOf (rem fs) e, rfl, ha', hl, o1, fun t G1 s1 n1 e1 => ?_⟩
  rw [one_tup] at e1
  refine ⟨t, _, rfl, SqT.of e1, rfl, _, _, rfl, _, _, rfl, _, _, rfl, rfl, ?_⟩
  refine ⟨_, rfl, rfl, _, rfl, ifND (raw_not e) ?_⟩
  have sg1 := sg.trans s1
  have eo1 := s1 _ _ eo
  have st1 := st.same s1
  -- tag 0: the number turned back
  refine ⟨fun σ' G' => σ' = [some (.ref a), some (.int ((at_ + stepOf e : Nat) : Int)), some (.ref o), some (.int (tagOf e : Nat)), some (kindOf e), some (convOf e)] ∧ G1 = G', ?_, ?_⟩
  · cases e with
    | str ks => exact ⟨_, rfl, rfl, _, rfl, ifND (fun z => by cases z) ⟨rfl, rfl⟩⟩
    | tup l => exact ⟨_, rfl, rfl, _, rfl, ifND (fun z => by cases z) ⟨rfl, rfl⟩⟩
    | int i =>
      have zz := Pv.zag_zig i
      unfold Pv.zag at zz
      refine ⟨_, rfl, rfl, _, rfl, ifD rfl ?_⟩
      by_cases ev : Pv.zig i % 2 = 0
      · rw [if_pos ev] at zz
        refine ⟨_, rfl, _, _, rfl, rfl, (by show (0 : Int) < 2; decide), rfl, _, rfl, ifD (congrArg V.int (show ((Pv.zig i : Nat) : Int) % 2 = 0 by omega)) ⟨_, rfl, _, _, rfl, rfl, ⟨by decide, by decide⟩, ?_, rfl⟩⟩
        show [_, _, _, _, _, some (V.int (((Pv.zig i : Nat) : Int) / 2))] = [_, _, _, _, _, some (V.int i)]
        rw [show ((Pv.zig i : Nat) : Int) / 2 = i by omega]
      · rw [if_neg ev] at zz
        refine ⟨_, rfl, _, _, rfl, rfl, (by show (0 : Int) < 2; decide), rfl, _, rfl, ifND (fun z => ev (by have := V.int.inj z; omega)) ⟨_, rfl, _, _, rfl, rfl, _, _, rfl, rfl, ⟨by decide, by decide⟩, _, rfl, ?_, rfl⟩⟩
        show [_, _, _, _, _, some (V.int (-((((Pv.zig i : Nat) : Int) + 1) / 2)))] = [_, _, _, _, _, some (V.int i)]
        rw [show -((((Pv.zig i : Nat) : Int) + 1) / 2) = i by omega]
  rintro σ' G' ⟨rfl, rfl⟩
  -- tag 2: a tuple is opened
  refine ⟨fun σ' G' => ∃ m, Vof K H v a o at_ m σ' G', ?_, ?_⟩
  · by_cases t2 : tagOf e = 2
    · cases e with
      | int i => cases t2
      | str ks => cases t2
      | tup l =>
        refine ⟨_, rfl, rfl, _, rfl, ifD rfl ?_⟩
        refine ⟨.ref o, rfl, .inl ⟨rfl, _, SqL.of eo1⟩, _, rfl, Nat.zero_le _, fun il n2 => ?_⟩
        generalize hN2 : L2.upd G1 il _ = G2
        have s2 := new_of n2 hN2
        have e2 := at_of hN2
        try dsimp only at e2
        clear hN2
        refine ⟨by show 2 ≤ sizeLine; decide, fun tt n3 => ?_⟩
        generalize hN3 : L2.upd G2 tt _ = G3
        have s3 := new_of n3 hN3
        have e3 := at_of hN3
        try dsimp only at e3
        clear hN3
        have s13 := s2.trans s3
        have eo3 := s13 _ _ eo1
        have hlo3 : (Opened fs).length < sizeLine := by rw [hlo]; have := h2 rfl; exact sq_len (by omega)
        have il0 : H il = none := sg1.free n2
        have tt0 : H tt = none := (sg1.trans s2).free n3
        have noil : il ≠ o := fun z => by rw [z, eo1] at n2; cases n2
        have nil_tt : tt ≠ o := fun z => by have := s2 _ _ eo1; rw [← z, n3] at this; cases this
        refine ⟨o, _, _, rfl, rfl, eo3, hlo3, ?_⟩
        have st3 : Stack K H (upd G3 o (.lst (Opened fs ++ [.ref tt]))) fs := (st1.same s13).put eo3 nfo
        have eil : (upd G3 o (.lst (Opened fs ++ [.ref tt]))) il = some (.lst []) := (upd_ne noil).trans (s3 _ _ e2)
        have ett : (upd G3 o (.lst (Opened fs ++ [.ref tt]))) tt = some (.tup [.int (l.length : Nat), .ref il]) := (upd_ne nil_tt).trans e3
        have stk : ∀ rest : List Pv.Val, Stack K H (upd G3 o (.lst (Opened fs ++ [.ref tt]))) (⟨tt, il, l.length, [], [], rest⟩ :: fs) := fun rest =>
          ⟨⟨ett, eil, tt0, il0, rfl, fun i y e hy _ => by cases hy⟩, st1.ne n2, st3⟩
        have opd : ∀ rest : List Pv.Val, (upd G3 o (.lst (Opened fs ++ [.ref tt]))) o = some (.lst (Opened (⟨tt, il, l.length, [], [], rest⟩ :: fs))) := fun rest => by
          rw [upd_same]
          unfold Opened
          rw [List.reverse_cons, List.map_append]
          rfl
        have nfo' : ∀ (rest : List Pv.Val), ∀ f ∈ (⟨tt, il, l.length, [], [], rest⟩ :: fs : List Fr), f.l ≠ o := fun rest f hf => by
          rcases List.mem_cons.mp hf with z | hf
          · rw [z]; exact noil
          · exact nfo f hf
        have sH : Same H (upd G3 o (.lst (Opened fs ++ [.ref tt]))) := same_mut (sg1.trans s13) no
        cases l with
        | nil =>
          refine ⟨2 * fs.length + 2, ⟨tt, il, 0, [], [], []⟩ :: fs, _, _, _, _, rfl, sH, opd [], nfo' [], stk [], by omega, o3, .inr (.inr ⟨_, fs, rfl, rfl, rfl, rfl, pl, ?_, hol, rfl⟩)⟩
          rw [o2]
          show Pv.bytesL [] ++ rem fs = rem fs
          rw [Pv.bytesL]
          rfl
        | cons c cs =>
          refine ⟨0, ⟨tt, il, (c :: cs).length, [], [], cs⟩ :: fs, _, _, _, _, rfl, sH, opd cs, nfo' cs, stk cs, by omega, o3, .inr (.inl ⟨c, rfl, by simp, pl, ?_, ?_, rfl⟩)⟩
          · rw [o2]
            show Pv.bytesL (c :: cs) ++ rem fs = Pv.bytes c ++ (Pv.bytesL cs ++ rem fs)
            rw [Pv.bytesL, List.append_assoc]
          · intro f hf
            rcases List.mem_cons.mp hf with z | hf
            · rw [z]
              show cs.length + 1 = 0 + 1 + cs.length
              omega
            · exact hol f hf
    · refine ⟨_, rfl, rfl, _, rfl, ifND (fun z => t2 (by have := V.int.inj z; omega)) ?_⟩
      refine ⟨2 * fs.length + 1, fs, _, _, _, _, rfl, sg1, eo1, nfo, st1, by omega, o3, .inl ⟨e, conv_is e t2, pl, ?_, hol, rfl⟩⟩
      rw [o2]
      cases e with
      | int i => rfl
      | str ks => rfl
      | tup l => exact absurd rfl t2
  rintro σ' G2 ⟨m2, w2⟩
  clear o1 o2 o3 stp g hbe htag h2 lbe hdl hlo e1 s1 n1 sg1 eo1 st1 eo st nfo hol pl hd dep oke ha' sg
  refine ⟨Vof K H v a o at_, ⟨m2, w2⟩, ?_⟩
  clear w2 G2
  rintro m3 σ3 G ⟨fs, at3, x3, x4, val, rfl, sg, eo, nfo, st, lt0, le, ph⟩
  have ha' := sg.seq ha
  refine ⟨.ref o, rfl, _, .inl ⟨_, SqL.of eo, rfl⟩, ?_⟩
  rcases ph with ⟨e, hv, pl, hd, hol, rfl⟩ | ⟨e, rfl, ne, pl, hd, hol, rfl⟩ | ⟨f, fs', rfl, rfl, n0, xs0, pl, hd, hol, rfl⟩
  · cases fs with
    | nil =>
      refine ifV (b := false) rfl (iteF (iteF ?_))
      refine ⟨.ref o, rfl, _, .inl ⟨_, SqL.of eo, rfl⟩, ifV (b := true) rfl (iteT ?_)⟩
      refine ⟨_, rfl, rfl, _, rfl, ifnND hv.not ?_⟩
      have hz : (Pv.bytes v).length ≤ at3 := by
        have := congrArg List.length hd
        rw [List.length_drop] at this
        have : (Pv.bytes v).length - at3 = 0 := this
        omega
      refine ⟨_, rfl, .ref a, rfl, a, _, rfl, .inl ha', rfl, _, rfl, ifD (by rw [bv_len]; congr 1; omega) ?_⟩
      refine ⟨_, rfl, (by show 2 ≤ sizeLine; decide), fun t nt => ?_⟩
      have pl : e = v := pl
      subst pl
      exact q t val _ (sg.trans (Same.new nt)) (sg.free nt) upd_same (hv.same (Same.new nt))
    | cons f fs' =>
      rw [opened_cons] at eo
      obtain ⟨fa, fd, st'⟩ := st
      have nfol : f.l ≠ o := nfo f (List.mem_cons_self ..)
      refine ifV (b := true) (by simp [opened_cons]) (iteT ?_)
      refine ⟨_, rfl, rfl, _, rfl, ifnND hv.not (iteT ?_)⟩
      refine ⟨fun σ' G' => ∃ m', m' < 2 * (f :: fs').length + 1 ∧ _, fun σ' G' w => w, ?_⟩
      refine ⟨_, rfl, rfl, _, rfl, ifnND hv.not ?_⟩
      have hn := hol f (List.mem_cons_self ..)
      refine ⟨.ref o, rfl, _, rfl, o, _, _, _, rfl, rfl, SqL.of eo, at_snoc _ _, .inr (.inl ⟨f.t, _, 1, _, rfl, rfl, SqT.of fa.tup, rfl, ?_⟩)⟩
      refine ⟨.inl ⟨rfl, _, SqL.of fa.lst⟩, _, rfl, f.l, f.xs, val, rfl, rfl, fa.lst, ?_, ?_⟩
      · have okt := (plug_ok (fs := fs') (v := .tup (f.ds ++ e :: f.rest)) (by show Pv.Ok (plug (f :: fs') e); rw [pl]; exact hok)).1
        rw [List.length_append, List.length_cons] at okt
        rw [fa.len]
        exact sq_len (by omega)
      have eo1 : (upd G f.l (.lst (f.xs ++ [val]))) o = some (.lst (Opened fs' ++ [.ref f.t])) := (upd_ne (Ne.symm nfol)).trans eo
      have et1 : (upd G f.l (.lst (f.xs ++ [val]))) f.t = some (.tup [.int (f.n : Nat), .ref f.l]) := (upd_ne (fun z => by have := fa.tup; rw [z, fa.lst] at this; cases this)).trans fa.tup
      have el1 : (upd G f.l (.lst (f.xs ++ [val]))) f.l = some (.lst (f.xs ++ [val])) := upd_same
      have st1 : Stack K H (upd G f.l (.lst (f.xs ++ [val]))) fs' := st'.put fa.lst fd
      have at1 : ∀ (i : Nat) y d, (f.xs ++ [val])[i]? = some y → (f.ds ++ [e])[i]? = some d → VW K (upd G f.l (.lst (f.xs ++ [val]))) (Pv.depth d) y d := by
        intro i y d hy hdd
        refine VW.list fa.lst ?_
        have ll := fa.len
        by_cases lt : i < f.xs.length
        · rw [List.getElem?_append_left lt] at hy
          rw [List.getElem?_append_left (by omega)] at hdd
          exact fa.at_ i y d hy hdd
        · rw [List.getElem?_append_right (by omega)] at hy
          rw [List.getElem?_append_right (by omega), show i - f.ds.length = i - f.xs.length by omega] at hdd
          cases k : i - f.xs.length with
          | zero =>
            rw [k] at hy hdd
            obtain rfl := Option.some.inj hy
            obtain rfl := Option.some.inj hdd
            exact hv
          | succ k' => rw [k] at hy; cases hy
      have sH1 : Same H (upd G f.l (.lst (f.xs ++ [val]))) := same_mut sg fa.fl
      generalize upd G f.l (.lst (f.xs ++ [val])) = G1 at *
      refine ⟨.ref o, rfl, _, rfl, o, _, _, _, rfl, rfl, SqL.of eo1, at_snoc _ _, .inr (.inl ⟨f.t, _, 1, _, rfl, rfl, SqT.of et1, rfl, f.l, _, rfl, .inl (SqL.of el1), .ref o, rfl, _, rfl, o, _, _, _, rfl, rfl, SqL.of eo1, at_snoc _ _, .inr (.inl ⟨f.t, _, 0, _, rfl, rfl, SqT.of et1, rfl, _, _, rfl, rfl, _, rfl, ?_⟩)⟩)⟩
      have lx : (f.xs ++ [val]).length = f.ds.length + 1 := by rw [List.length_append, fa.len]; rfl
      cases hr : f.rest with
      | cons r rs =>
        rw [hr, List.length_cons] at hn
        refine ifD (by rw [lx]; omega) ?_
        refine ⟨.ref o, rfl, _, .inl ⟨_, SqL.of eo1, rfl⟩, ifV (b := false) (by simp) (iteF ?_)⟩
        refine ⟨(Pv.bytes v).length - at3, by omega, ⟨f.t, f.l, f.n, f.xs ++ [val], f.ds ++ [e], rs⟩ :: fs', r, at3, x3, x4, _, rfl, sH1, (by rw [opened_cons]; exact eo1), ?_, ⟨⟨et1, el1, fa.ft, fa.fl, by rw [lx, List.length_append]; rfl, at1⟩, fd, st1⟩, ?_, ?_, ?_, by omega⟩
        · intro g hg
          rcases List.mem_cons.mp hg with z | hg
          · rw [z]; exact nfol
          · exact nfo g (List.mem_cons_of_mem _ hg)
        · intro g hg
          rcases List.mem_cons.mp hg with z | hg
          · rw [z]
            show f.n = (f.ds ++ [e]).length + 1 + rs.length
            rw [List.length_append, List.length_singleton]
            omega
          · exact hol g (List.mem_cons_of_mem _ hg)
        · rw [← pl]
          show plug fs' (.tup ((f.ds ++ [e]) ++ r :: rs)) = plug fs' (.tup (f.ds ++ e :: f.rest))
          rw [hr, List.append_assoc]
          rfl
        · rw [hd]
          show Pv.bytesL f.rest ++ rem fs' = Pv.bytes r ++ (Pv.bytesL rs ++ rem fs')
          rw [hr, Pv.bytesL, List.append_assoc]
      | nil =>
        rw [hr] at hn
        refine ifND (by rw [lx]; show ¬ ((f.ds.length + 1 : Nat) : Int) < (f.n : Int); simp at hn; omega) ?_
        refine ⟨.ref o, rfl, .inl ⟨rfl, _, SqL.of eo1⟩, o, _, .ref f.t, rfl, rfl, eo1, by simp, .inr (.inl ⟨f.t, _, 1, _, rfl, rfl, SqT.of ((upd_ne (fun z => by rw [z, eo1] at et1; cases et1)).trans et1), rfl, f.l, _, rfl, .inl ⟨SqL.of ((upd_ne nfol).trans el1), fun u nu => ?_⟩⟩)⟩
        rw [List.dropLast_concat] at nu ⊢
        have s2 : Same H (upd G1 o (.lst (Opened fs'))) := same_mut sH1 no
        have eo2 : (upd G1 o (.lst (Opened fs'))) o = some (.lst (Opened fs')) := upd_same
        have st2 : Stack K H (upd G1 o (.lst (Opened fs'))) fs' := st1.put eo1 fun g hg => nfo g (List.mem_cons_of_mem _ hg)
        have at2 : ∀ (i : Nat) y d, (f.xs ++ [val])[i]? = some y → (f.ds ++ [e])[i]? = some d → VW K (upd G1 o (.lst (Opened fs'))) (Pv.depth d) y d := fun i y d hy hdd => (at1 i y d hy hdd).list eo1
        generalize upd G1 o (.lst (Opened fs')) = G2 at *
        refine ⟨2 * fs'.length + 1, by rw [List.length_cons]; omega, fs', at3, x3, x4, _, rfl, s2.trans (Same.new nu), Same.new nu _ _ eo2, fun g hg => nfo g (List.mem_cons_of_mem _ hg), st2.same (Same.new nu), lt0, le, .inl ⟨.tup (f.ds ++ [e]), ?_, ?_, ?_, fun g hg => hol g (List.mem_cons_of_mem _ hg), rfl⟩⟩
        · rw [Pv.depth, Nat.add_comm]
          refine ⟨u, f.xs ++ [val], rfl, SqT.of upd_same, by rw [lx, List.length_append]; rfl, fun i y d hy hdd => ?_⟩
          exact VW.up (Pv.depthL_mem (List.mem_of_getElem? hdd)) ((at2 i y d hy hdd).same (Same.new nu))
        · rw [← pl]
          show plug fs' (.tup (f.ds ++ [e])) = plug fs' (.tup (f.ds ++ e :: f.rest))
          rw [hr]
        · rw [hd]
          show Pv.bytesL f.rest ++ rem fs' = rem fs'
          rw [hr, Pv.bytesL]
          rfl
  · cases fs with
    | nil => exact absurd rfl ne
    | cons f fs' =>
      rw [opened_cons] at eo
      have fa := st.1
      have hn := hol f (List.mem_cons_self ..)
      refine ifV (b := true) (by simp [opened_cons]) (iteT ?_)
      refine ⟨_, rfl, rfl, _, rfl, ifnD rfl ?_⟩
      refine ⟨.ref o, rfl, _, rfl, o, _, _, _, rfl, rfl, SqL.of eo, at_snoc _ _, .inr (.inl ⟨f.t, _, 0, _, rfl, rfl, SqT.of fa.tup, rfl, rfl, _, rfl, ifND (fun z => by have := V.int.inj z; omega) ?_⟩)⟩
      refine ⟨.ref o, rfl, _, .inl ⟨_, SqL.of eo, rfl⟩, ifV (b := false) (by simp) (iteF ?_)⟩
      exact ⟨(Pv.bytes v).length - at3, by omega, f :: fs', e, at3, x3, x4, _, rfl, sg, (by rw [opened_cons]; exact eo), nfo, st, hol, pl, hd, by omega⟩
  · rw [opened_cons] at eo
    obtain ⟨fa, fd, st'⟩ := st
    have nfol : f.l ≠ o := nfo f (List.mem_cons_self ..)
    have nto : f.t ≠ o := fun z => by have := fa.tup; rw [z, eo] at this; cases this
    have el := fa.lst
    rw [xs0] at el
    refine ifV (b := true) (by simp [opened_cons]) (iteT ?_)
    refine ⟨_, rfl, rfl, _, rfl, ifnD rfl ?_⟩
    refine ⟨.ref o, rfl, _, rfl, o, _, _, _, rfl, rfl, SqL.of eo, at_snoc _ _, .inr (.inl ⟨f.t, _, 0, _, rfl, rfl, SqT.of fa.tup, rfl, rfl, _, rfl, ifD (by rw [n0]; rfl) ?_⟩)⟩
    refine ⟨fun σ' G' => ∃ m', m' < 2 * fs'.length + 2 ∧ _, fun σ' G' w => w, ?_⟩
    refine ⟨_, rfl, rfl, _, rfl, ifnD rfl ?_⟩
    refine ⟨.ref o, rfl, _, rfl, o, _, _, _, rfl, rfl, SqL.of eo, at_snoc _ _, .inr (.inl ⟨f.t, _, 1, _, rfl, rfl, SqT.of fa.tup, rfl, f.l, _, rfl, .inl (SqL.of el), .ref o, rfl, _, rfl, o, _, _, _, rfl, rfl, SqL.of eo, at_snoc _ _, .inr (.inl ⟨f.t, _, 0, _, rfl, rfl, SqT.of fa.tup, rfl, _, _, rfl, rfl, _, rfl, ifND (by rw [n0]; decide) ?_⟩)⟩)⟩
    refine ⟨.ref o, rfl, .inl ⟨rfl, _, SqL.of eo⟩, o, _, .ref f.t, rfl, rfl, eo, by simp, .inr (.inl ⟨f.t, _, 1, _, rfl, rfl, SqT.of ((upd_ne nto).trans fa.tup), rfl, f.l, _, rfl, .inl ⟨SqL.of ((upd_ne nfol).trans el), fun u nu => ?_⟩⟩)⟩
    rw [List.dropLast_concat] at nu ⊢
    have s2 : Same H (upd G o (.lst (Opened fs'))) := same_mut sg no
    have eo2 : (upd G o (.lst (Opened fs'))) o = some (.lst (Opened fs')) := upd_same
    have st2 : Stack K H (upd G o (.lst (Opened fs'))) fs' := st'.put eo fun g hg => nfo g (List.mem_cons_of_mem _ hg)
    generalize upd G o (.lst (Opened fs')) = G2 at *
    refine ⟨2 * fs'.length + 1, by omega, fs', at3, x3, x4, _, rfl, s2.trans (Same.new nu), Same.new nu _ _ eo2, fun g hg => nfo g (List.mem_cons_of_mem _ hg), st2.same (Same.new nu), lt0, le, .inl ⟨.tup [], ?_, pl, hd, hol, rfl⟩⟩
    rw [Pv.depth, Nat.add_comm]
    exact ⟨u, [], rfl, SqT.of upd_same, rfl, fun i y d hy hdd => by cases hy⟩
end
end My
set_option linter.all false
/-! The sum of a block: a register of 32 bits, what it makes of runs of changed bits -/
namespace Crc
def fac : BitVec 32 := 79764919#32
def stp (r : BitVec 32) (b : Bool) : BitVec 32 := (r <<< 1) ^^^ (if r.msb != b then fac else 0#32)
def run (r : BitVec 32) (bits : List Bool) : BitVec 32 := bits.foldl stp r
def crc (bits : List Bool) : BitVec 32 := run 0#32 bits
def regBits (r : BitVec 32) : List Bool := (List.range 32).map fun i => r.getMsbD i
theorem run_nil (r : BitVec 32) : run r [] = r := rfl
theorem run_cons (r : BitVec 32) (b : Bool) (s : List Bool) : run r (b :: s) = run (stp r b) s := rfl
theorem run_append (r : BitVec 32) (s t : List Bool) : run r (s ++ t) = run (run r s) t := List.foldl_append
/-- step by step a sum of two is the two's sum -/
theorem stp_lin (r s : BitVec 32) (b c : Bool) : stp (r ^^^ s) (b ^^ c) = stp r b ^^^ stp s c := by
  unfold stp
  rw [BitVec.shiftLeft_xor_distrib, BitVec.msb_xor]
  have e : (if ((r.msb ^^ s.msb) != (b ^^ c)) = true then fac else 0#32) = (if (r.msb != b) = true then fac else 0#32) ^^^ (if (s.msb != c) = true then fac else 0#32) := by
    cases r.msb <;> cases s.msb <;> cases b <;> cases c <;> decide
  rw [e]
  ac_rfl
theorem run_lin : ∀ (u v : List Bool) (r s : BitVec 32), u.length = v.length → run (r ^^^ s) (List.zipWith (· ^^ ·) u v) = run r u ^^^ run s v
  | [], [], r, s, _ => rfl
  | [], _ :: _, _, _, h => by cases h
  | _ :: _, [], _, _, h => by cases h
  | b :: u, c :: v, r, s, h => by
    rw [List.zipWith_cons_cons, run_cons, run_cons, run_cons, stp_lin]
    exact run_lin u v _ _ (Nat.succ.inj h)
theorem getMsb_shl (r : BitVec 32) (i : Nat) : (r <<< 1).getMsbD i = (decide (i < 31) && r.getMsbD (i + 1)) := by
  rw [BitVec.getMsbD_shiftLeft, BitVec.getMsbD_eq_getLsbD]
  by_cases h : i < 31
  · have h2 : i + 1 < 32 := by omega
    have h3 : i + 1 ≤ 31 := by omega
    simp [h, h2]
  · have h2 : ¬ i + 1 < 32 := by omega
    simp [h, h2]
theorem regBits_length (r : BitVec 32) : (regBits r).length = 32 := by unfold regBits; simp
theorem regBits_get (r : BitVec 32) (i : Nat) (h : i < 32) : (regBits r)[i]? = some (r.getMsbD i) := by
  unfold regBits
  rw [List.getElem?_map, List.getElem?_range h]
  rfl
theorem regBits_inj {r s : BitVec 32} (h : regBits r = regBits s) : r = s := by
  apply BitVec.eq_of_getMsbD_eq
  intro i hi
  have e : (regBits r)[i]? = (regBits s)[i]? := by rw [h]
  rw [regBits_get r i hi, regBits_get s i hi] at e
  exact Option.some.inj e
theorem regBits_shl (r : BitVec 32) : regBits (r <<< 1) = (regBits r).tail ++ [false] := by
  apply List.ext_getElem?
  intro i
  by_cases h : i < 31
  · rw [regBits_get _ i (by omega), getMsb_shl, List.getElem?_append_left (by rw [List.length_tail, regBits_length]; omega), List.getElem?_tail, regBits_get r (i + 1) (by omega)]
    simp [h]
  · by_cases h2 : i = 31
    · subst h2
      rw [regBits_get _ 31 (by omega), getMsb_shl, List.getElem?_append_right (by rw [List.length_tail, regBits_length]; omega), List.length_tail, regBits_length]
      simp
    · rw [List.getElem?_eq_none (by rw [regBits_length]; omega), List.getElem?_eq_none (by rw [List.length_append, List.length_tail, regBits_length]; simp; omega)]
theorem regBits_head (r : BitVec 32) : regBits r = r.msb :: (regBits r).tail := by
  have h : (regBits r)[0]? = some (r.getMsbD 0) := regBits_get r 0 (by omega)
  cases e : regBits r with
  | nil =>
    rw [e] at h
    cases h
  | cons b l =>
    rw [e] at h
    obtain rfl := Option.some.inj h
    rw [← BitVec.msb_eq_getMsbD_zero]
    rfl
theorem regBits_xor (r s : BitVec 32) : regBits (r ^^^ s) = List.zipWith (· ^^ ·) (regBits r) (regBits s) := by
  apply List.ext_getElem?
  intro i
  rw [List.getElem?_zipWith]
  by_cases h : i < 32
  · rw [regBits_get _ i h, regBits_get _ i h, regBits_get _ i h, BitVec.getMsbD_xor]
  · rw [List.getElem?_eq_none (by rw [regBits_length]; omega), List.getElem?_eq_none (by rw [regBits_length]; omega)]
theorem regBits_zero : regBits 0#32 = List.replicate 32 false := by decide
/-- the last bit of the register behind a step tells whether the factors were put in -/
theorem stp_low (r : BitVec 32) (b : Bool) : (regBits (stp r b))[31]? = some (r.msb != b) := by
  rw [regBits_get _ 31 (by omega)]
  unfold stp
  rw [BitVec.getMsbD_xor, getMsb_shl]
  have e1 : fac.getMsbD 31 = true := by decide
  have e2 : (0#32).getMsbD 31 = false := by decide
  cases r.msb <;> cases b <;> simp [e1, e2]
/-- a register that is run down by at most 32 bits held just these -/
theorem run_down : ∀ (s : List Bool) (r : BitVec 32), s.length ≤ 32 → (run r s = 0#32 ↔ regBits r = s ++ List.replicate (32 - s.length) false)
  | [], r, _ => by
    rw [run_nil]
    constructor
    · intro h
      rw [h]
      exact regBits_zero
    · intro h
      exact regBits_inj (h.trans regBits_zero.symm)
  | b :: s, r, h => by
    rw [List.length_cons] at h
    rw [run_cons, run_down s (stp r b) (by omega), List.length_cons]
    have e32 : 32 - s.length = (32 - (s.length + 1)) + 1 := by omega
    rw [e32, List.replicate_succ', ← List.append_assoc]
    constructor
    · intro e
      have low := stp_low r b
      rw [e, List.getElem?_append_right (by rw [List.length_append, List.length_replicate]; omega)] at low
      have i0 : 31 - (s ++ List.replicate (32 - (s.length + 1)) false).length = 0 := by
        rw [List.length_append, List.length_replicate]
        omega
      rw [i0] at low
      have same : r.msb = b := by
        have := Option.some.inj low
        revert this
        cases r.msb <;> cases b <;> decide
      have st : stp r b = r <<< 1 := by
        unfold stp
        rw [same]
        cases b <;> simp
      rw [st, regBits_shl] at e
      rw [regBits_head r, same, List.append_cancel_right e]
      rfl
    · intro e
      have same : r.msb = b := by
        rw [regBits_head r] at e
        injection e
      have tl : (regBits r).tail = s ++ List.replicate (32 - (s.length + 1)) false := by
        rw [e]
        rfl
      have st : stp r b = r <<< 1 := by
        unfold stp
        rw [same]
        cases b <;> simp
      rw [st, regBits_shl, tl]
theorem run_held {s : List Bool} {r : BitVec 32} (h : s.length = 32) : run r s = 0#32 ↔ regBits r = s := by
  rw [run_down s r (by omega), h]
  simp
theorem stp_zero {r : BitVec 32} (h : stp r false = 0#32) : r = 0#32 := by
  have z := (run_down [false] r (by decide)).mp h
  apply regBits_inj
  rw [z]
  decide
theorem run_zero : ∀ (n : Nat) (r : BitVec 32), run r (List.replicate n false) = 0#32 → r = 0#32
  | 0, r, h => h
  | n + 1, r, h => by
    rw [List.replicate_succ, run_cons] at h
    exact stp_zero (run_zero n _ h)
theorem zip_self : ∀ t : List Bool, List.zipWith (· ^^ ·) t t = List.replicate t.length false
  | [] => rfl
  | b :: t => by
    rw [List.zipWith_cons_cons, zip_self t, List.length_cons, List.replicate_succ, Bool.xor_self]
theorem zip_false : ∀ (u v : List Bool), u.length = v.length → List.zipWith (· ^^ ·) u v = List.replicate u.length false → u = v
  | [], [], _, _ => rfl
  | [], _ :: _, h, _ => by cases h
  | _ :: _, [], h, _ => by cases h
  | b :: u, c :: v, h, e => by
    rw [List.zipWith_cons_cons, List.length_cons, List.replicate_succ] at e
    injection e with e1 e2
    have : b = c := by revert e1; cases b <;> cases c <;> decide
    rw [this, zip_false u v (Nat.succ.inj h) e2]
/-- two lists of bits that differ within a run of at most 32 have different sums -/
theorem run_parts {p u v t : List Bool} (l : u.length = v.length) (l32 : u.length ≤ 32) (ne : u ≠ v) : crc (p ++ u ++ t) ≠ crc (p ++ v ++ t) := by
  intro e
  unfold crc at e
  rw [run_append, run_append, run_append, run_append] at e
  have e1 : run (run (run 0#32 p) u ^^^ run (run 0#32 p) v) (List.zipWith (· ^^ ·) t t) = 0#32 := by
    rw [run_lin t t _ _ rfl, e, BitVec.xor_self]
  rw [zip_self] at e1
  have e2 := run_zero _ _ e1
  rw [← run_lin u v _ _ l, BitVec.xor_self] at e2
  have e3 := (run_down _ _ (by rw [List.length_zipWith]; omega)).mp e2
  rw [regBits_zero] at e3
  apply ne
  apply zip_false u v l
  have lz : (List.zipWith (· ^^ ·) u v).length = u.length := by rw [List.length_zipWith]; omega
  have e4 := congrArg (List.take u.length) e3
  rw [List.take_replicate, List.take_append_of_le_length (by omega), List.take_of_length_le (by omega)] at e4
  rw [← e4]
  congr 1
  omega
end Crc
set_option linter.all false
/-! Bytes, bits and blocks -/
namespace Crc
def byteBits (n : Nat) : List Bool := (List.range 8).map fun i => n.testBit (7 - i)
def bitsOf (bs : List Nat) : List Bool := bs.flatMap byteBits
def sumB (r : BitVec 32) : List Nat := [r.toNat / 2 ^ 24 % 256, r.toNat / 2 ^ 16 % 256, r.toNat / 2 ^ 8 % 256, r.toNat % 256]
def sumOf (bs : List Nat) : List Nat := sumB (crc (bitsOf bs))
def num (bits : List Bool) : Nat := bits.foldl (fun n b => 2 * n + (if b then 1 else 0)) 0
def Bytes (bs : List Nat) : Prop := ∀ b ∈ bs, b < 256
theorem byteBits_length (n : Nat) : (byteBits n).length = 8 := by unfold byteBits; simp
theorem byteBits_get (n i : Nat) (h : i < 8) : (byteBits n)[i]? = some (n.testBit (7 - i)) := by
  unfold byteBits
  rw [List.getElem?_map, List.getElem?_range h]
  rfl
theorem bitsOf_nil : bitsOf [] = [] := rfl
theorem bitsOf_cons (b : Nat) (bs : List Nat) : bitsOf (b :: bs) = byteBits b ++ bitsOf bs := rfl
theorem bitsOf_append (a b : List Nat) : bitsOf (a ++ b) = bitsOf a ++ bitsOf b := List.flatMap_append
theorem bitsOf_length : ∀ bs : List Nat, (bitsOf bs).length = 8 * bs.length
  | [] => rfl
  | b :: bs => by
    rw [bitsOf_cons, List.length_append, byteBits_length, bitsOf_length bs, List.length_cons]
    omega
theorem num_byteBits : ∀ n, n < 256 → num (byteBits n) = n := by decide +kernel
theorem byteBits_inj {a b : Nat} (ha : a < 256) (hb : b < 256) (h : byteBits a = byteBits b) : a = b := by
  rw [← num_byteBits a ha, ← num_byteBits b hb, h]
theorem bitsOf_inj : ∀ {a b : List Nat}, Bytes a → Bytes b → bitsOf a = bitsOf b → a = b
  | [], [], _, _, _ => rfl
  | [], b :: bs, _, _, h => by
    have := congrArg List.length h
    rw [bitsOf_length, bitsOf_length] at this
    simp at this
  | a :: as, [], _, _, h => by
    have := congrArg List.length h
    rw [bitsOf_length, bitsOf_length] at this
    simp at this
  | a :: as, b :: bs, ha, hb, h => by
    rw [bitsOf_cons, bitsOf_cons] at h
    have h1 := List.append_inj h (by rw [byteBits_length, byteBits_length])
    rw [byteBits_inj (ha a List.mem_cons_self) (hb b List.mem_cons_self) h1.1, bitsOf_inj (fun x hx => ha x (List.mem_cons_of_mem _ hx)) (fun x hx => hb x (List.mem_cons_of_mem _ hx)) h1.2]
theorem sumB_bytes (r : BitVec 32) : Bytes (sumB r) := by
  intro b hb
  unfold sumB at hb
  simp only [List.mem_cons, List.not_mem_nil, or_false] at hb
  omega
theorem byteBits_part (r k : Nat) : byteBits (r / 2 ^ k % 256) = (List.range 8).map fun i => r.testBit (k + (7 - i)) := by
  unfold byteBits
  apply List.map_congr_left
  intro i hi
  have hi := List.mem_range.mp hi
  rw [show (256 : Nat) = 2 ^ 8 from rfl, Nat.testBit_mod_two_pow, Nat.testBit_div_two_pow]
  have : 7 - i < 8 := by omega
  simp only [this, decide_true, Bool.true_and]
  congr 1
  omega
theorem bits_sumB (r : BitVec 32) : bitsOf (sumB r) = regBits r := by
  have e4 : byteBits (r.toNat % 256) = (List.range 8).map fun i => r.toNat.testBit (0 + (7 - i)) := by
    have := byteBits_part r.toNat 0
    rw [Nat.pow_zero, Nat.div_one] at this
    exact this
  unfold sumB
  rw [bitsOf_cons, bitsOf_cons, bitsOf_cons, bitsOf_cons, bitsOf_nil, List.append_nil, byteBits_part, byteBits_part, byteBits_part, e4]
  unfold regBits
  have g : ∀ i, i < 32 → r.getMsbD i = r.toNat.testBit (31 - i) := fun i hi => by
    rw [BitVec.getMsbD_eq_getLsbD]
    simp only [hi, decide_true, Bool.true_and]
    rfl
  have e : (List.range 32).map (fun i => r.getMsbD i) = (List.range 32).map fun i => r.toNat.testBit (31 - i) := List.map_congr_left fun i hi => g i (List.mem_range.mp hi)
  rw [e]
  rfl
/-- a block of 64 bytes bears its sum if all its bits leave nothing -/
theorem block_sum {b : List Nat} (hb : Bytes b) (h : b.length = 64) : b.drop 60 = sumOf (b.take 60) ↔ crc (bitsOf b) = 0#32 := by
  have e : crc (bitsOf b) = run (crc (bitsOf (b.take 60))) (bitsOf (b.drop 60)) := by
    conv => lhs; rw [← List.take_append_drop 60 b]
    rw [bitsOf_append]
    exact run_append _ _ _
  have l32 : (bitsOf (b.drop 60)).length = 32 := by
    rw [bitsOf_length, List.length_drop, h]
  rw [e, run_held l32]
  constructor
  · intro z
    rw [z]
    exact (bits_sumB _).symm
  · intro z
    apply bitsOf_inj (fun x hx => hb x (List.mem_of_mem_drop hx)) (sumB_bytes _)
    rw [← z]
    exact (bits_sumB _).symm
/-! ### dividing bit by bit -/
def xor32 (r : List Bool) (l : List Bool) : List Bool := List.zipWith (· ^^ ·) r (l.take r.length) ++ l.drop r.length
def facBits : List Bool := true :: regBits fac
def dv (r : BitVec 32) (l : List Bool) : List Bool := xor32 (regBits r) l
theorem xor32_length (r l : List Bool) (h : r.length ≤ l.length) : (xor32 r l).length = l.length := by
  unfold xor32
  rw [List.length_append, List.length_zipWith, List.length_take, List.length_drop]
  omega
theorem dv_zero (l : List Bool) : dv 0#32 l = l := by
  unfold dv xor32
  rw [regBits_zero, List.length_replicate]
  have e : ∀ (n : Nat) (t : List Bool), t.length ≤ n → List.zipWith (· ^^ ·) (List.replicate n false) t = t := by
    intro n
    induction n with
    | zero =>
      intro t ht
      cases t with
      | nil => rfl
      | cons a b => simp at ht
    | succ n ih =>
      intro t ht
      cases t with
      | nil => simp
      | cons a b =>
        rw [List.replicate_succ, List.zipWith_cons_cons, ih b (by simpa using ht), Bool.false_xor]
  rw [e 32 _ (by rw [List.length_take]; omega), List.take_append_drop]
theorem dv_end (r : BitVec 32) : dv r (List.replicate 32 false) = regBits r := by
  unfold dv xor32
  rw [regBits_length, List.take_replicate, List.drop_replicate]
  have e : ∀ t : List Bool, List.zipWith (· ^^ ·) t (List.replicate t.length false) = t := by
    intro t
    induction t with
    | nil => rfl
    | cons a b ih => rw [List.length_cons, List.replicate_succ, List.zipWith_cons_cons, ih, Bool.xor_false]
  have e2 := e (regBits r)
  rw [regBits_length] at e2
  simpa using e2
theorem zip_assoc : ∀ a b c : List Bool, List.zipWith (· ^^ ·) a (List.zipWith (· ^^ ·) b c) = List.zipWith (· ^^ ·) (List.zipWith (· ^^ ·) a b) c
  | [], _, _ => by simp
  | _ :: _, [], _ => by simp
  | _ :: _, _ :: _, [] => by simp
  | a :: as, b :: bs, c :: cs => by
    rw [List.zipWith_cons_cons, List.zipWith_cons_cons, List.zipWith_cons_cons, List.zipWith_cons_cons, zip_assoc as bs cs, Bool.xor_assoc]
theorem dv_head (r : BitVec 32) (b : Bool) (l : List Bool) : dv r (b :: l) = (r.msb ^^ b) :: (List.zipWith (· ^^ ·) (regBits r).tail (l.take 31) ++ l.drop 31) := by
  unfold dv xor32
  rw [regBits_length]
  conv => lhs; rw [regBits_head r]
  rfl
theorem zip_snoc {r : List Bool} {l : List Bool} {n : Nat} (h : r.length = n) (hl : n < l.length) : List.zipWith (· ^^ ·) (r ++ [false]) (l.take (n + 1)) ++ l.drop (n + 1) = List.zipWith (· ^^ ·) r (l.take n) ++ l.drop n := by
  have e1 : l.take (n + 1) = l.take n ++ [l[n]] := by rw [List.take_succ_eq_append_getElem hl]
  have e2 : l.drop n = l[n] :: l.drop (n + 1) := List.drop_eq_getElem_cons hl
  rw [e1, e2, List.zipWith_append (by rw [List.length_take, h]; omega), List.append_assoc]
  simp
theorem dv_no {r : BitVec 32} {b : Bool} {l : List Bool} (hl : 32 ≤ l.length) (h : (r.msb ^^ b) = false) : (dv r (b :: l)).tail = dv (stp r b) l := by
  have same : r.msb = b := by revert h; cases r.msb <;> cases b <;> decide
  have st : stp r b = r <<< 1 := by
    unfold stp
    rw [same]
    cases b <;> simp
  rw [dv_head, List.tail_cons, st]
  unfold dv xor32
  rw [regBits_length, regBits_shl]
  exact (zip_snoc (by rw [List.length_tail, regBits_length]) (by omega)).symm
theorem dv_yes {r : BitVec 32} {b : Bool} {l : List Bool} (hl : 32 ≤ l.length) (h : (r.msb ^^ b) = true) : (xor32 facBits (dv r (b :: l))).tail = dv (stp r b) l := by
  have other : (r.msb != b) = true := by revert h; cases r.msb <;> cases b <;> decide
  have st : stp r b = (r <<< 1) ^^^ fac := by
    unfold stp
    rw [other]
    rfl
  rw [dv_head, st]
  have z := zip_snoc (r := (regBits r).tail) (l := l) (n := 31) (by rw [List.length_tail, regBits_length]) (by omega)
  rw [← z]
  unfold xor32 facBits
  rw [List.length_cons, regBits_length]
  show List.zipWith (· ^^ ·) (regBits fac) (List.take 32 _) ++ List.drop 32 _ = _
  have len : (List.zipWith (· ^^ ·) ((regBits r).tail ++ [false]) (List.take (31 + 1) l)).length = 32 := by
    rw [List.length_zipWith, List.length_append, List.length_tail, regBits_length, List.length_take]
    simp
    omega
  rw [List.take_left' len, List.drop_left' len, zip_assoc]
  unfold dv xor32
  rw [regBits_length, regBits_xor, regBits_shl]
  congr 2
  apply List.ext_getElem?
  intro i
  rw [List.getElem?_zipWith, List.getElem?_zipWith]
  cases (regBits fac)[i]? <;> cases ((regBits r).tail ++ [false])[i]? <;> simp [Bool.xor_comm]
end Crc
set_option linter.all false
/-! Blocks, and what they tell -/
namespace Crc
inductive Told where
  | block (n : Nat)
  | data (l : List Nat)
  deriving DecidableEq
def cnt (here : List Nat) : Nat := 256 * here.getD 2 0 + here.getD 3 0
def IsBlk (here : List Nat) (number : Nat) (count : Option Nat) : Prop :=
  here.length = 64 ∧ here.drop 60 = sumOf (here.take 60) ∧ 256 * here.getD 0 0 + here.getD 1 0 = number ∧ number ≤ cnt here ∧ (count = none ∨ count = some (cnt here))
instance (here : List Nat) (number : Nat) (count : Option Nat) : Decidable (IsBlk here number count) := by unfold IsBlk; infer_instance
/-- without the 1 and the noughts behind it -/
def wend (l : List Nat) : Option (List Nat) := match l.reverse.dropWhile (· == 0) with
  | 1 :: t => some t.reverse
  | _ => none
def chunk (told : List Nat) (n : Nat) : List Nat := (told.drop (64 * n)).take 64
def fin (told : List Nat) (number count : Nat) (data : List Nat) : Told := match wend (data.drop (data.length - 56)) with
  | none => .block number
  | some l => if told.length > 64 * count then .block (count + 1) else .data (data.take (data.length - 56) ++ l)
def go (told : List Nat) : Nat → Nat → Option Nat → List Nat → Told
  | 0, _, _, _ => .block 0
  | m + 1, number, count, data =>
    if count = none ∨ number < count.getD 0 then
      if IsBlk (chunk told number) (number + 1) count then go told m (number + 1) (some (cnt (chunk told number))) (data ++ ((chunk told number).drop 4).take 56)
      else .block (number + 1)
    else fin told number (count.getD 0) data
def dataOf (told : List Nat) : Told := go told (told.length + 2) 0 none []
theorem go_more {told : List Nat} {m number : Nat} {count : Option Nat} {data : List Nat} (h : count = none ∨ number < count.getD 0) (b : IsBlk (chunk told number) (number + 1) count) :
    go told (m + 1) number count data = go told m (number + 1) (some (cnt (chunk told number))) (data ++ ((chunk told number).drop 4).take 56) := by
  rw [go, if_pos h, if_pos b]
theorem go_bad {told : List Nat} {m number : Nat} {count : Option Nat} {data : List Nat} (h : count = none ∨ number < count.getD 0) (b : ¬ IsBlk (chunk told number) (number + 1) count) :
    go told (m + 1) number count data = .block (number + 1) := by
  rw [go, if_pos h, if_neg b]
theorem go_end {told : List Nat} {m number : Nat} {count : Option Nat} {data : List Nat} (h : ¬ (count = none ∨ number < count.getD 0)) : go told (m + 1) number count data = fin told number (count.getD 0) data := by
  rw [go, if_neg h]
/-! ### writing -/
def blk (k count : Nat) (data : List Nat) : List Nat := let h := [k / 256, k % 256, count / 256, count % 256] ++ data; h ++ sumOf h
def cntOf (told : List Nat) : Nat := (told.length + 1 + 55) / 56
def padded (told : List Nat) : List Nat := told ++ [1] ++ List.replicate (56 * cntOf told - (told.length + 1)) 0
def part (told : List Nat) (k : Nat) : List Nat := ((padded told).drop (56 * k)).take 56
def blocksOf (told : List Nat) : List Nat := (List.range (cntOf told)).flatMap fun k => blk (k + 1) (cntOf told) (part told k)
theorem cnt_pos (told : List Nat) : 0 < cntOf told := by unfold cntOf; omega
theorem cnt_le (told : List Nat) : told.length + 1 ≤ 56 * cntOf told := by unfold cntOf; omega
theorem padded_length (told : List Nat) : (padded told).length = 56 * cntOf told := by
  have := cnt_le told
  unfold padded
  rw [List.length_append, List.length_append, List.length_replicate, List.length_singleton]
  omega
theorem part_length {told : List Nat} {k : Nat} (h : k < cntOf told) : (part told k).length = 56 := by
  unfold part
  rw [List.length_take, List.length_drop, padded_length]
  omega
theorem sumOf_length (l : List Nat) : (sumOf l).length = 4 := rfl
theorem blk_length {k c : Nat} {d : List Nat} (h : d.length = 56) : (blk k c d).length = 64 := by
  unfold blk
  simp only [List.length_append, sumOf_length, h, List.length_cons, List.length_nil]
theorem blk_is {k c : Nat} {d : List Nat} (h : d.length = 56) (hk : k ≤ c) (hc : c < 65536) (o : Option Nat) (ho : o = none ∨ o = some c) : IsBlk (blk k c d) k o ∧ cnt (blk k c d) = c ∧ ((blk k c d).drop 4).take 56 = d := by
  have l60 : ([k / 256, k % 256, c / 256, c % 256] ++ d).length = 60 := by
    rw [List.length_append, h]
    rfl
  have ec : cnt (blk k c d) = c := by
    show 256 * (c / 256) + c % 256 = c
    omega
  refine ⟨⟨blk_length h, ?_, ?_, by rw [ec]; exact hk, by rw [ec]; exact ho⟩, ec, ?_⟩
  · unfold blk
    simp only []
    rw [List.drop_left' l60, List.take_left' l60]
  · show 256 * (k / 256) + k % 256 = k
    omega
  · show List.take 56 (d ++ sumOf _) = d
    rw [List.take_left' h]
theorem flat_length {f : Nat → List Nat} (n : Nat) (h : ∀ k, k < n → (f k).length = 64) : ((List.range n).flatMap f).length = 64 * n := by
  induction n with
  | zero => rfl
  | succ n ih =>
    rw [List.range_succ, List.flatMap_append, List.length_append, ih fun k hk => h k (by omega)]
    simp only [List.flatMap_cons, List.flatMap_nil, List.append_nil]
    rw [h n (by omega)]
    omega
theorem flat_chunk {f : Nat → List Nat} (n : Nat) (h : ∀ k, k < n → (f k).length = 64) (t : List Nat) (j : Nat) (hj : j < n) : chunk ((List.range n).flatMap f ++ t) j = f j := by
  induction n generalizing t with
  | zero => omega
  | succ n ih =>
    rw [List.range_succ, List.flatMap_append, List.append_assoc]
    by_cases e : j < n
    · exact ih (fun k hk => h k (by omega)) _ e
    · obtain rfl : j = n := by omega
      unfold chunk
      have l := flat_length (f := f) j fun k hk => h k (by omega)
      rw [List.drop_left' l]
      simp only [List.flatMap_cons, List.flatMap_nil, List.append_nil]
      exact List.take_left' (h j (by omega))
theorem blocks_length (told : List Nat) : (blocksOf told).length = 64 * cntOf told := flat_length _ fun k hk => blk_length (part_length hk)
theorem blocks_chunk (told : List Nat) (t : List Nat) (j : Nat) (hj : j < cntOf told) : chunk (blocksOf told ++ t) j = blk (j + 1) (cntOf told) (part told j) :=
  flat_chunk _ (fun k hk => blk_length (part_length hk)) t j hj
/-- the first j blocks are read -/
theorem go_first {x : List Nat} {told : List Nat} (hc : cntOf told < 65536) : ∀ (j m : Nat), j ≤ cntOf told → (∀ i, i < j → chunk x i = blk (i + 1) (cntOf told) (part told i)) →
    go x (m + j) 0 none [] = go x m j (if j = 0 then none else some (cntOf told)) ((padded told).take (56 * j))
  | 0, m, _, _ => by rw [if_pos rfl]; rfl
  | j + 1, m, hj, h => by
    have e : m + (j + 1) = (m + 1) + j := by omega
    rw [e, go_first hc j (m + 1) (by omega) fun i hi => h i (by omega)]
    have hb := blk_is (k := j + 1) (c := cntOf told) (part_length (told := told) (k := j) (by omega)) (by omega) hc (if j = 0 then none else some (cntOf told)) (by split <;> simp)
    have hx := h j (by omega)
    rw [← hx] at hb
    rw [go_more ?_ hb.1, hb.2.1, hb.2.2, if_neg (by omega)]
    · congr 1
      unfold part
      rw [show 56 * (j + 1) = 56 * j + 56 by omega, List.take_add]
    · split
      · exact .inl rfl
      · exact .inr (by show j < cntOf told; omega)
theorem dropWhile_zero : ∀ (n : Nat) (l : List Nat), (List.replicate n 0 ++ l).dropWhile (· == 0) = l.dropWhile (· == 0)
  | 0, _ => rfl
  | n + 1, l => by
    rw [List.replicate_succ, List.cons_append, List.dropWhile_cons, if_pos (beq_self_eq_true 0)]
    exact dropWhile_zero n l
theorem wend_of (l : List Nat) (n : Nat) : wend (l ++ [1] ++ List.replicate n 0) = some l := by
  unfold wend
  rw [List.reverse_append, List.reverse_append, List.reverse_replicate, dropWhile_zero]
  simp
theorem wend_zero (n : Nat) : wend (List.replicate n 0) = none := by
  have := dropWhile_zero n []
  rw [List.append_nil] at this
  unfold wend
  rw [List.reverse_replicate, this]
  rfl
theorem fin_whole {x told : List Nat} (hx : x.length ≥ 64 * cntOf told) : fin x (cntOf told) (cntOf told) (padded told) = if x.length > 64 * cntOf told then .block (cntOf told + 1) else .data told := by
  have l := padded_length told
  have h1 := cnt_le told
  have h2 := cnt_pos told
  have h3 : 56 * (cntOf told - 1) ≤ told.length := by unfold cntOf; omega
  unfold fin
  rw [l]
  have e : padded told = told.take (56 * (cntOf told - 1)) ++ (told.drop (56 * (cntOf told - 1)) ++ [1] ++ List.replicate (56 * cntOf told - (told.length + 1)) 0) := by
    unfold padded
    rw [← List.append_assoc, ← List.append_assoc, List.take_append_drop]
  have lt : (told.take (56 * (cntOf told - 1))).length = 56 * cntOf told - 56 := by
    rw [List.length_take]
    omega
  rw [e, List.drop_left' lt, wend_of, List.take_left' lt]
  simp only [List.take_append_drop]
theorem data_whole {told t : List Nat} (hc : cntOf told < 65536) : dataOf (blocksOf told ++ t) = if t = [] then .data told else .block (cntOf told + 1) := by
  have lx : (blocksOf told ++ t).length = 64 * cntOf told + t.length := by rw [List.length_append, blocks_length]
  unfold dataOf
  have e : (blocksOf told ++ t).length + 2 = ((blocksOf told ++ t).length + 1 - cntOf told) + 1 + cntOf told := by omega
  rw [e, go_first hc _ _ (Nat.le_refl _) fun i hi => blocks_chunk told t i hi, if_neg (by have := cnt_pos told; omega), go_end (by simp)]
  rw [List.take_of_length_le (by rw [padded_length]; omega)]
  show fin _ _ (cntOf told) _ = _
  rw [fin_whole (by omega), lx]
  cases t with
  | nil => simp
  | cons a b => simp
/-- a wrong block behind j right ones -/
theorem data_wrong {x told : List Nat} (hc : cntOf told < 65536) {j : Nat} (hj : j < cntOf told) (hx : j ≤ x.length) (h : ∀ i, i < j → chunk x i = blk (i + 1) (cntOf told) (part told i)) (hw : ∀ o, ¬ IsBlk (chunk x j) (j + 1) o) : dataOf x = .block (j + 1) := by
  unfold dataOf
  have e : x.length + 2 = (x.length + 1 - j) + 1 + j := by omega
  rw [e, go_first hc j _ (by omega) h]
  refine go_bad ?_ (hw _)
  split
  · exact .inl rfl
  · exact .inr (by show j < cntOf told; omega)
theorem data_first {x : List Nat} (hw : ¬ IsBlk (chunk x 0) 1 none) : dataOf x = .block 1 := by
  unfold dataOf
  exact go_bad (.inl rfl) hw
theorem chunk_prefix {a b : List Nat} {i : Nat} (h : 64 * (i + 1) ≤ a.length) : chunk (a ++ b) i = chunk a i := by
  unfold chunk
  rw [List.drop_append_of_le_length (by omega), List.take_append_of_le_length (by rw [List.length_drop]; omega)]
theorem data_cut {told : List Nat} (hc : cntOf told < 65536) {j r : Nat} (hj : j < cntOf told) (hr : r < 64) : dataOf ((blocksOf told).take (64 * j + r)) = .block (j + 1) := by
  have l := blocks_length told
  have lt : ((blocksOf told).take (64 * j + r)).length = 64 * j + r := by
    rw [List.length_take]
    omega
  refine data_wrong hc hj (by omega) (fun i hi => ?_) fun o b => ?_
  · have := blocks_chunk told [] i (by omega)
    rw [List.append_nil] at this
    rw [← this]
    conv => rhs; rw [← List.take_append_drop (64 * j + r) (blocksOf told)]
    exact (chunk_prefix (by omega)).symm
  · have := b.1
    unfold chunk at this
    rw [List.length_take, List.length_drop, lt] at this
    omega
/-! ### changed bits -/
/-- alike outside a run of w from a on -/
def Agree (x y : List Bool) (a w : Nat) : Prop := x.length = y.length ∧ ∀ i, (i < a ∨ a + w ≤ i) → x[i]? = y[i]?
theorem Agree.run {x y : List Bool} {a w : Nat} (h : Agree x y a w) (w32 : w ≤ 32) (ne : x ≠ y) : crc x ≠ crc y := by
  have ex : x = x.take a ++ (x.drop a).take w ++ x.drop (a + w) := by
    rw [List.append_assoc, ← List.drop_drop, List.take_append_drop, List.take_append_drop]
  have ey : y = x.take a ++ (y.drop a).take w ++ x.drop (a + w) := by
    have e1 : y.take a = x.take a := by
      apply List.ext_getElem?
      intro i
      rw [List.getElem?_take, List.getElem?_take]
      split
      · rename_i hi
        exact (h.2 i (.inl hi)).symm
      · rfl
    have e2 : y.drop (a + w) = x.drop (a + w) := by
      apply List.ext_getElem?
      intro i
      rw [List.getElem?_drop, List.getElem?_drop]
      exact (h.2 _ (.inr (by omega))).symm
    rw [← e1, ← e2, List.append_assoc, ← List.drop_drop, List.take_append_drop, List.take_append_drop]
  have ll : ((x.drop a).take w).length = ((y.drop a).take w).length := by
    rw [List.length_take, List.length_take, List.length_drop, List.length_drop, h.1]
  intro e
  have := run_parts (p := x.take a) (u := (x.drop a).take w) (v := (y.drop a).take w) (t := x.drop (a + w)) ll (by rw [List.length_take]; omega) (fun z => ne (by
    rw [ey, ← z]
    exact ex))
  apply this
  rw [← ex, ← ey]
  exact e
theorem Agree.sub {x y : List Bool} {a w s n : Nat} (h : Agree x y a w) : ∃ a' w', w' ≤ w ∧ Agree ((x.drop s).take n) ((y.drop s).take n) a' w' := by
  refine ⟨a - s, w - (s - a), by omega, by rw [List.length_take, List.length_take, List.length_drop, List.length_drop, h.1], fun i hi => ?_⟩
  rw [List.getElem?_take, List.getElem?_take, List.getElem?_drop, List.getElem?_drop]
  split
  · exact h.2 _ (by omega)
  · rfl
theorem bits_drop : ∀ (n : Nat) (l : List Nat), bitsOf (l.drop n) = (bitsOf l).drop (8 * n)
  | 0, l => by rw [Nat.mul_zero]; rfl
  | n + 1, [] => by simp [bitsOf_nil]
  | n + 1, b :: l => by
    rw [List.drop_succ_cons, bits_drop n l, bitsOf_cons, List.drop_append, byteBits_length, List.drop_eq_nil_of_le (as := byteBits b) (by rw [byteBits_length]; omega), List.nil_append]
    congr 1
theorem bits_take : ∀ (n : Nat) (l : List Nat), bitsOf (l.take n) = (bitsOf l).take (8 * n)
  | 0, l => by rw [Nat.mul_zero]; rfl
  | n + 1, [] => by simp [bitsOf_nil]
  | n + 1, b :: l => by
    rw [List.take_succ_cons, bitsOf_cons, bits_take n l, bitsOf_cons, List.take_append, byteBits_length, List.take_of_length_le (l := byteBits b) (by rw [byteBits_length]; omega)]
    congr 2
theorem bits_chunk (l : List Nat) (j : Nat) : bitsOf (chunk l j) = ((bitsOf l).drop (512 * j)).take 512 := by
  unfold chunk
  rw [bits_take, bits_drop]
  congr 2
  omega
theorem bytes_part {told : List Nat} (h : Bytes told) (k : Nat) : Bytes (part told k) := by
  intro b hb
  unfold part padded at hb
  have hb := List.mem_of_mem_drop (List.mem_of_mem_take hb)
  rcases List.mem_append.mp hb with hb | hb
  · rcases List.mem_append.mp hb with hb | hb
    · exact h b hb
    · rw [List.mem_singleton.mp hb]
      decide
  · rw [List.eq_of_mem_replicate hb]
    decide
theorem bytes_blk {k c : Nat} {d : List Nat} (h : Bytes d) (hk : k < 65536) (hc : c < 65536) : Bytes (blk k c d) := by
  intro b hb
  unfold blk at hb
  rcases List.mem_append.mp hb with hb | hb
  · rcases List.mem_append.mp hb with hb | hb
    · simp only [List.mem_cons, List.not_mem_nil, or_false] at hb
      omega
    · exact h b hb
  · exact sumB_bytes _ b hb
theorem bytes_blocks {told : List Nat} (h : Bytes told) (hc : cntOf told < 65536) : Bytes (blocksOf told) := by
  intro b hb
  obtain ⟨k, hk, hb⟩ := List.mem_flatMap.mp hb
  have hk := List.mem_range.mp hk
  exact bytes_blk (bytes_part h k) (by omega) hc b hb
/-- bytes whose bits part from those of blocks within a run of 32: the first changed block is wrong -/
theorem data_changed {told y : List Nat} (h : Bytes told) (hc : cntOf told < 65536) (hy : Bytes y) {a w p : Nat} (ag : Agree (bitsOf (blocksOf told)) (bitsOf y) a w) (w32 : w ≤ 32)
    (hp : p < y.length) (first : ∀ i, i < p → y[i]? = (blocksOf told)[i]?) (ne : y[p]? ≠ (blocksOf told)[p]?) : dataOf y = .block (p / 64 + 1) := by
  have ly : y.length = 64 * cntOf told := by
    have := ag.1
    rw [bitsOf_length, bitsOf_length, blocks_length] at this
    omega
  have chunk_get : ∀ (l : List Nat) (j i : Nat), i < 64 → (chunk l j)[i]? = l[64 * j + i]? := fun l j i hi => by
    unfold chunk
    rw [List.getElem?_take, if_pos hi, List.getElem?_drop]
  have lc : ∀ (l : List Nat) (j : Nat), l.length = 64 * cntOf told → j < cntOf told → (chunk l j).length = 64 := fun l j hl hj => by
    unfold chunk
    rw [List.length_take, List.length_drop]
    omega
  have lb := blocks_length told
  have hj : p / 64 < cntOf told := by omega
  have bc := fun i hi => blocks_chunk told [] i hi
  simp only [List.append_nil] at bc
  refine data_wrong hc hj (by omega) (fun i hi => ?_) fun o b => ?_
  · rw [← bc i (by omega)]
    apply List.ext_getElem?
    intro k
    by_cases hk : k < 64
    · rw [chunk_get _ _ _ hk, chunk_get _ _ _ hk]
      exact first _ (by omega)
    · rw [List.getElem?_eq_none (by rw [lc y i ly (by omega)]; omega), List.getElem?_eq_none (by rw [lc _ i lb (by omega)]; omega)]
  · have by_ : Bytes (chunk y (p / 64)) := fun x hx => hy x (List.mem_of_mem_drop (List.mem_of_mem_take hx))
    have bb : Bytes (chunk (blocksOf told) (p / 64)) := fun x hx => bytes_blocks h hc x (List.mem_of_mem_drop (List.mem_of_mem_take hx))
    have c1 := (block_sum by_ (lc y _ ly hj)).mp b.2.1
    have ok := (blk_is (k := p / 64 + 1) (c := cntOf told) (part_length (told := told) (k := p / 64) hj) (by omega) hc none (.inl rfl)).1
    rw [← bc _ hj] at ok
    have c2 := (block_sum bb (lc _ _ lb hj)).mp ok.2.1
    have parts : chunk (blocksOf told) (p / 64) ≠ chunk y (p / 64) := fun z => by
      have e := congrArg (fun l => l[p % 64]?) z
      have e : (chunk (blocksOf told) (p / 64))[p % 64]? = (chunk y (p / 64))[p % 64]? := e
      rw [chunk_get _ _ _ (by omega), chunk_get _ _ _ (by omega), show 64 * (p / 64) + p % 64 = p by omega] at e
      exact ne e.symm
    obtain ⟨a', w', hw, ag'⟩ := ag.sub (s := 512 * (p / 64)) (n := 512)
    rw [← bits_chunk, ← bits_chunk] at ag'
    exact ag'.run (by omega) (fun z => parts (bitsOf_inj bb by_ z)) (c2.trans c1.symm)
end Crc
set_option linter.all false
/-! What the law's own helpers do -/
namespace Crc
theorem num_bits : ∀ bits : List Bool, bits.length = 8 → num bits < 256 ∧ byteBits (num bits) = bits
  | [a, b, c, d, e, f, g, h], _ => by
    cases a <;> cases b <;> cases c <;> cases d <;> cases e <;> cases f <;> cases g <;> cases h <;> decide
def bytesOf (bits : List Bool) : List Nat := (List.range (bits.length / 8)).map fun k => num ((bits.drop (8 * k)).take 8)
theorem bytesOf_length (bits : List Bool) : (bytesOf bits).length = bits.length / 8 := by
  unfold bytesOf
  rw [List.length_map, List.length_range]
theorem bytesOf_cons {a b : List Bool} (h : a.length = 8) : bytesOf (a ++ b) = num a :: bytesOf b := by
  unfold bytesOf
  rw [List.length_append, h, show (8 + b.length) / 8 = b.length / 8 + 1 by omega, List.range_succ_eq_map, List.map_cons, List.map_map]
  congr 1
  · rw [Nat.mul_zero, List.drop_zero, List.take_left' h]
  · apply List.map_congr_left
    intro k _
    show num (((a ++ b).drop (8 * (k + 1))).take 8) = _
    rw [show 8 * (k + 1) = a.length + 8 * k by omega, List.drop_append, List.drop_eq_nil_of_le (as := a) (by omega), List.nil_append, Nat.add_sub_cancel_left]
theorem bytes_bytesOf {bits : List Bool} {n : Nat} (h : bits.length = 8 * n) : Bytes (bytesOf bits) := by
  intro b hb
  obtain ⟨k, hk, rfl⟩ := List.mem_map.mp hb
  have hk := List.mem_range.mp hk
  exact (num_bits _ (by rw [List.length_take, List.length_drop]; omega)).1
theorem bits_bytesOf : ∀ (n : Nat) {bits : List Bool}, bits.length = 8 * n → bitsOf (bytesOf bits) = bits
  | 0, bits, h => by
    have : bits = [] := List.eq_nil_of_length_eq_zero (by omega)
    subst this
    rfl
  | n + 1, bits, h => by
    have l8 : (bits.take 8).length = 8 := by rw [List.length_take]; omega
    have e := bytesOf_cons (b := bits.drop 8) l8
    rw [List.take_append_drop] at e
    rw [e, bitsOf_cons, (num_bits _ l8).2, bits_bytesOf n (by rw [List.length_drop]; omega), List.take_append_drop]
theorem bytesOf_bits {bs : List Nat} (h : Bytes bs) : bytesOf (bitsOf bs) = bs :=
  bitsOf_inj (bytes_bytesOf (bitsOf_length bs)) h (bits_bytesOf _ (bitsOf_length bs))
theorem bytesOf_reg (r : BitVec 32) : bytesOf (regBits r) = sumB r := by
  rw [← bits_sumB]
  exact bytesOf_bits (sumB_bytes r)
/-! ### one step of dividing -/
theorem xor_set {pre F M : List Bool} {k : Nat} {f m : Bool} (hf : F[k]? = some f) (hm : M[k]? = some m) :
    (pre ++ xor32 (F.take k) M)[pre.length + k]? = some m ∧ (pre ++ xor32 (F.take k) M).set (pre.length + k) (m != f) = pre ++ xor32 (F.take (k + 1)) M := by
  have kf : k < F.length := (List.getElem?_eq_some_iff.mp hf).1
  have km : k < M.length := (List.getElem?_eq_some_iff.mp hm).1
  have lk : (F.take k).length = k := by rw [List.length_take]; omega
  have lz : (List.zipWith (· ^^ ·) (F.take k) (M.take k)).length = k := by
    rw [List.length_zipWith, List.length_take, List.length_take]
    omega
  have x1 : xor32 (F.take k) M = List.zipWith (· ^^ ·) (F.take k) (M.take k) ++ (m :: M.drop (k + 1)) := by
    unfold xor32
    rw [lk, List.drop_eq_getElem_cons km]
    rw [List.getElem?_eq_getElem km] at hm
    rw [Option.some.inj hm]
  have x2 : xor32 (F.take (k + 1)) M = List.zipWith (· ^^ ·) (F.take k) (M.take k) ++ ((m != f) :: M.drop (k + 1)) := by
    have t1 : F.take (k + 1) = F.take k ++ [f] := by
      rw [List.take_add_one, hf]
      rfl
    have t2 : M.take (k + 1) = M.take k ++ [m] := by
      rw [List.take_add_one, hm]
      rfl
    unfold xor32
    rw [List.length_take, show min (k + 1) F.length = k + 1 by omega, t1, t2, List.zipWith_append (by rw [lk, List.length_take]; omega), List.append_assoc]
    congr 1
    show ((f ^^ m) :: _) = _
    congr 1
    cases f <;> cases m <;> rfl
  refine ⟨?_, ?_⟩
  · rw [x1, List.getElem?_append_right (by omega), Nat.add_sub_cancel_left, List.getElem?_append_right (by omega), lz, Nat.sub_self]
    rfl
  · rw [x1, x2, List.set_append_right _ _ (by omega), Nat.add_sub_cancel_left, List.set_append_right _ _ (by omega), lz, Nat.sub_self]
    rfl
/-- where dividing stands -/
def Div (bits : List Bool) (i : Nat) (l : List Bool) : Prop := ∃ pre : List Bool, pre.length = i ∧ l = pre ++ dv (crc (bits.take i)) (bits.drop i ++ List.replicate 32 false)
theorem Div.start (bits : List Bool) : Div bits 0 (bits ++ List.replicate 32 false) := ⟨[], rfl, by rw [List.take_zero]; exact (dv_zero _).symm⟩
theorem Div.stop {bits l : List Bool} (h : Div bits bits.length l) : l.drop (l.length - 32) = regBits (crc bits) := by
  obtain ⟨pre, hp, rfl⟩ := h
  rw [List.take_length, List.drop_length, List.nil_append, dv_end, List.length_append, regBits_length, Nat.add_sub_cancel, List.drop_left' rfl]
theorem Div.length {bits l : List Bool} {i : Nat} (h : Div bits i l) (hi : i ≤ bits.length) : l.length = bits.length + 32 := by
  obtain ⟨pre, hp, rfl⟩ := h
  unfold dv
  rw [List.length_append, xor32_length _ _ (by rw [regBits_length, List.length_append, List.length_replicate]; omega), List.length_append, List.length_replicate, List.length_drop]
  omega
theorem Div.next {bits l : List Bool} {i : Nat} (h : Div bits i l) (hi : i < bits.length) : ∃ (x : Bool) (pre M : List Bool), pre.length = i ∧ l = pre ++ M ∧ M.length = bits.length - i + 32 ∧ l[i]? = some x ∧
    (x = false → Div bits (i + 1) l) ∧ (x = true → Div bits (i + 1) (pre ++ xor32 facBits M)) := by
  have hl := h.length (Nat.le_of_lt hi)
  obtain ⟨pre, hp, rfl⟩ := h
  have ed : bits.drop i ++ List.replicate 32 false = bits[i] :: (bits.drop (i + 1) ++ List.replicate 32 false) := by
    rw [List.drop_eq_getElem_cons hi]
    rfl
  have et : bits.take (i + 1) = bits.take i ++ [bits[i]] := List.take_succ_eq_append_getElem hi
  have er : crc (bits.take (i + 1)) = stp (crc (bits.take i)) bits[i] := by
    rw [et]
    unfold crc
    rw [run_append]
    rfl
  have l32 : 32 ≤ (bits.drop (i + 1) ++ List.replicate 32 false).length := by
    rw [List.length_append, List.length_replicate]
    omega
  rw [ed] at hl ⊢
  rw [List.length_append] at hl
  have one : ∀ M : List Bool, M ≠ [] → pre ++ M = (pre ++ [M.headD false]) ++ M.tail := fun M hM => by
    cases M with
    | nil => exact absurd rfl hM
    | cons a b => simp
  refine ⟨(crc (bits.take i)).msb ^^ bits[i], pre, _, hp, rfl, by omega, ?_, fun x => ?_, fun x => ?_⟩
  · rw [dv_head, List.getElem?_append_right (by omega), hp, Nat.sub_self]
    rfl
  · refine ⟨pre ++ [(dv (crc (bits.take i)) (bits[i] :: (bits.drop (i + 1) ++ List.replicate 32 false))).headD false], by rw [List.length_append, hp]; rfl, ?_⟩
    rw [er, ← dv_no l32 x]
    exact one _ fun z => by rw [z] at hl; simp at hl; omega
  · refine ⟨pre ++ [(xor32 facBits (dv (crc (bits.take i)) (bits[i] :: (bits.drop (i + 1) ++ List.replicate 32 false)))).headD false], by rw [List.length_append, hp]; rfl, ?_⟩
    rw [er, ← dv_yes l32 x]
    refine one _ fun z => ?_
    have := xor32_length facBits (dv (crc (bits.take i)) (bits[i] :: (bits.drop (i + 1) ++ List.replicate 32 false))) (by show 1 + 32 ≤ _; omega)
    rw [z, List.length_nil] at this
    omega
/-! ### differences -/
def diffs (x y : List Bool) : List Nat := (List.range x.length).filter fun i => decide (x[i]? ≠ y[i]?)
def wrongs (x y : List Nat) : List Nat := (List.range x.length).filter fun i => decide (y[i]? ≠ x[i]?)
theorem filter_first (p : Nat → Bool) : ∀ n, (∀ i, i < n → p i = false) ∨ ∃ f rest, (List.range n).filter p = f :: rest ∧ f < n ∧ p f = true ∧ ∀ i, i < f → p i = false
  | 0 => .inl fun i h => by omega
  | n + 1 => by
    rw [List.range_succ, List.filter_append]
    rcases filter_first p n with h | ⟨f, rest, e, lt, pf, all⟩
    · have none : (List.range n).filter p = [] := List.filter_eq_nil_iff.mpr fun a ha => by rw [h a (List.mem_range.mp ha)]; exact Bool.false_ne_true
      cases e : p n with
      | false =>
        refine .inl fun i hi => ?_
        rcases Nat.lt_or_ge i n with g | g
        · exact h i g
        · rw [show i = n by omega]
          exact e
      | true => exact .inr ⟨n, [], by rw [none]; simp [e], by omega, e, h⟩
    · exact .inr ⟨f, rest ++ (List.filter p [n]), by rw [e]; rfl, by omega, pf, all⟩
theorem bits_at : ∀ {bs : List Nat} {i b : Nat}, bs[i]? = some b → ∀ {j : Nat}, j < 8 → (bitsOf bs)[8 * i + j]? = some (b.testBit (7 - j))
  | c :: bs, 0, b, h, j, hj => by
    obtain rfl : c = b := Option.some.inj h
    rw [bitsOf_cons, Nat.mul_zero, Nat.zero_add, List.getElem?_append_left (by rw [byteBits_length]; exact hj)]
    exact byteBits_get c j hj
  | c :: bs, i + 1, b, h, j, hj => by
    rw [bitsOf_cons, List.getElem?_append_right (by rw [byteBits_length]; omega), byteBits_length, show 8 * (i + 1) + j - 8 = 8 * i + j by omega]
    exact bits_at (bs := bs) h hj
end Crc
set_option Elab.async false
set_option linter.all false
set_option maxRecDepth 100000
set_option maxHeartbeats 4000000
/-! The law's own numbers: what the six small defs promise -/
namespace My
open PySem PySem.Spec PyProof.Rows L2
abbrev st_law_mixed : Stmt := topS 25
theorem sc_law_mixed : FnScope ["number", "place", "first", "second", "third"] ["number", "place"] (defScope st_law_mixed) := ⟨rfl, rfl, rfl, by decide +kernel, rfl, by decide +kernel, by decide +kernel⟩
abbrev st_law_rest : Stmt := topS 26
theorem sc_law_rest : FnScope ["script", "place", "fills", "number"] ["script", "place", "fills"] (defScope st_law_rest) := ⟨rfl, rfl, rfl, by decide +kernel, rfl, by decide +kernel, by decide +kernel⟩
abbrev st_law_pool : Stmt := topS 27
theorem sc_law_pool : FnScope ["script"] ["script"] (defScope st_law_pool) := ⟨rfl, rfl, rfl, by decide +kernel, rfl, by decide +kernel, by decide +kernel⟩
abbrev st_law_next : Stmt := topS 28
theorem sc_law_next : FnScope ["pool"] ["pool"] (defScope st_law_next) := ⟨rfl, rfl, rfl, by decide +kernel, rfl, by decide +kernel, by decide +kernel⟩
abbrev st_law_draw : Stmt := topS 29
theorem sc_law_draw : FnScope ["pool", "limit", "value"] ["pool", "limit"] (defScope st_law_draw) := ⟨rfl, rfl, rfl, by decide +kernel, rfl, by decide +kernel, by decide +kernel⟩
section
variable {P : Program} {w : World} {K : PySem.W.Frag} {mg : Str → Option Value} {base : Heap}
theorem ok_mixed (T : Top K mg "_law_mixed" st_law_mixed ["number", "place"]) (z_int : mg "int" = none) : Def P w K mg base 1 "_law_mixed" ["number", "place"] spMixed := by
  refine T.ok sc_law_mixed (fun vs H Q E h => ?_) (fun f cdv A outer s H vs Q E hr h => ?_)
  · obtain ⟨n, p, rfl, _⟩ := h
    rfl
  obtain ⟨n, p, rfl, q⟩ := h
  refine ⟨_, (pss_cons (ps_set (i := 2) sc_law_mixed.nd rfl (Or.inl rfl) (pe_op op_mod (pe_callTy call_int1 rfl z_int (by decide +kernel) (pa_cons (pe_op op_add (pe_op op_add (pe_op op_mul (pv 0) pe_int) (pe_op op_mul (pv 1) pe_int)) pe_int) pa_nil)) pe_int))
    (pss_cons (ps_set (i := 3) sc_law_mixed.nd rfl (Or.inl rfl) (pe_op op_mod (pe_callTy call_int1 rfl z_int (by decide +kernel) (pa_cons (pe_op op_add (pe_op op_add (pe_op op_mulW (pv 2) (pv 2)) (pe_op op_mul pe_int (pv 2))) (pv 1)) pa_nil)) pe_int))
    (pss_cons (ps_set (i := 4) sc_law_mixed.nd rfl (Or.inl rfl) (pe_op op_mod (pe_callTy call_int1 rfl z_int (by decide +kernel) (pa_cons (pe_op op_add (pe_op op_mulW (pv 3) (pv 3)) (pv 2)) pa_nil)) pe_int))
    (pss_one (ps_ret (pe_op op_add (pe_op op_mulW (pv 3) pe_int) (pv 4))))))), ?_⟩
  have g1 : ∀ i : Int, (i % 618970019642690137449562111).natAbs < 2 ^ 100 := fun i => emod_abs (by decide) (by decide)
  have g2 : ∀ i : Int, (i % 162259276829213363391578010288127).natAbs < 2 ^ 110 := fun i => emod_abs (by decide) (by decide)
  refine ⟨_, rfl, _, _, rfl, rfl, .inr ⟨by decide, by decide⟩, _, rfl, _, _, rfl, rfl, .inr ⟨by decide, by decide⟩, _, _, rfl, rfl, _, _, rfl, rfl, .inl ⟨_, rfl, ?_⟩⟩
  refine ⟨_, _, rfl, rfl, (by show (0:Int) < _; decide), ?_⟩
  refine ⟨_, rfl, _, rfl, _, _, rfl, rfl, wide_mul (g1 _) (g1 _) (by decide) (by decide) (by decide), ?_⟩
  refine ⟨_, rfl, _, _, rfl, rfl, .inl ⟨by decide, by decide⟩, _, _, rfl, rfl, _, rfl, _, _, rfl, rfl, .inl ⟨_, rfl, ?_⟩⟩
  refine ⟨_, _, rfl, rfl, (by show (0:Int) < _; decide), ?_⟩
  refine ⟨_, rfl, _, rfl, _, _, rfl, rfl, wide_mul (g2 _) (g2 _) (by decide) (by decide) (by decide), ?_⟩
  refine ⟨_, rfl, _, _, rfl, rfl, .inl ⟨_, rfl, ?_⟩⟩
  refine ⟨_, _, rfl, rfl, (by show (0:Int) < _; decide), ?_⟩
  refine ⟨_, rfl, _, _, rfl, rfl, wide_mul (b := 100) (g2 _) (by decide) (by decide) (by decide) (by decide), ?_⟩
  refine ⟨_, rfl, _, _, rfl, rfl, q _⟩
theorem ok_rest (T : Top K mg "_law_rest" st_law_rest ["script", "place", "fills"]) (D_law_mixed : Def P w K mg base 1 "_law_mixed" ["number", "place"] spMixed) (z_int : mg "int" = none) (z_len : mg "len" = none) :
    Def P w K mg base 2 "_law_rest" ["script", "place", "fills"] (spRest K) := by
  refine T.ok sc_law_rest (fun vs H Q E h => ?_) (fun f cdv A outer s H vs Q E hr h => ?_)
  · obtain ⟨a, ns, i, f, rfl, _⟩ := h
    rfl
  obtain ⟨a, ns, i, f, rfl, hC, hl, q⟩ := h
  have hS := hC.sq
  refine ⟨_, (pss_cons (ps_set (i := 3) sc_law_rest.nd rfl (Or.inl rfl) pe_int)
    (Evl.pss_cut (ps_if (pt_cmpR op_gt (pe_callB (lenQ K) rfl z_len (by decide +kernel) (pa_cons (pv 0) pa_nil)) pe_int (nomark _))
    (pss_one (ps_set (i := 3) sc_law_rest.nd rfl (Or.inl rfl) (pe_callTy call_int1 rfl z_int (by decide +kernel) (pa_cons (pe_ix (ixL K) (pv 0) (pe_op op_mod (pe_callTy call_int1 rfl z_int (by decide +kernel) (pa_cons (pv 1) pa_nil)) (pe_callB (lenQ K) rfl z_len (by decide +kernel) (pa_cons (pv 0) pa_nil))) (fun _ _ => rfl)) pa_nil))))
    pss_nil)
    (Evl.pss_cut (ps_if (pt_cmpR op_lt (pv 3) pe_int (nomark _))
    (pss_one (ps_set (i := 3) sc_law_rest.nd rfl (Or.inl rfl) (pe_op op_sub pe_int (pe_op op_mul pe_int (pv 3)))))
    pss_nil)
    (Evl.pss_cut (ps_if (PW.pt (pw_and (pt_cmpR op_eq (pv 2) pe_int (nomark _)) (pw_and (pt_cmpR op_lt (pv 1) (pe_callB (lenQ K) rfl z_len (by decide +kernel) (pa_cons (pv 0) pa_nil)) (nomark _)) (pw_and1 (pt_cmpR op_ge (pv 3) (pe_op op_pow pe_int pe_int) (nomark _))))))
    (pss_one (ps_ret (pe_op op_sub (pv 3) (pe_op op_pow pe_int pe_int))))
    pss_nil)
    (pss_one (ps_ret (pe_def D_law_mixed (hr.mono (by decide)) rfl (pa_cons (pe_op op_add (pv 3) (pe_op op_mul (pv 2) pe_int)) (pa_cons (pv 1) pa_nil))))))))), ?_⟩
  have el : (ns.map V.int).length = ns.length := List.length_map _
  -- number = 0; if len(script) > 0
  refine ⟨fun σ' H' => ∃ z : Int, σ' = [some (.ref a), some (.int i), some (.int f), some (.int z)] ∧ H' = H, ?_, ?_⟩
  · refine ⟨.ref a, rfl, a, _, rfl, .inl hS, _, _, rfl, rfl, _, rfl, ?_⟩
    refine ite2 (fun c => ?_) (fun c => ⟨0, rfl, rfl⟩)
    have h0 : 0 < (ns.map V.int).length := by
      have := of_decide_eq_true c
      omega
    obtain ⟨x, e, hx⟩ := at_mod (xs := ns.map V.int) (i := i) h0
    obtain ⟨z, _, rfl⟩ := List.mem_map.mp hx
    refine ⟨.ref a, rfl, _, rfl, .inl ⟨_, rfl, .ref a, rfl, a, _, rfl, .inl hS, _, _, rfl, rfl, by omega, a, _, _, V.int z, rfl, rfl, hS, e, .inl ⟨z, rfl, z, rfl, rfl⟩⟩⟩
  rintro σ' H' ⟨z, rfl, rfl⟩
  -- if number < 0
  refine ⟨fun σ' H1 => ∃ z : Int, σ' = [some (.ref a), some (.int i), some (.int f), some (.int z)] ∧ H1 = H', ?_, ?_⟩
  · refine ⟨_, rfl, _, _, rfl, rfl, _, rfl, ite2 (fun c => ?_) (fun c => ⟨z, rfl, rfl⟩)⟩
    refine ⟨_, rfl, _, _, rfl, rfl, .inl ⟨by decide, by decide⟩, _, _, rfl, rfl, _, rfl, rfl⟩
  rintro σ' H1 ⟨y, rfl, rfl⟩
  refine ⟨fun σ' H1' => ∃ z : Int, σ' = [some (.ref a), some (.int i), some (.int f), some (.int z)] ∧ H1' = H1, ?_, ?_⟩
  · refine ⟨_, rfl, rfl, _, rfl, ite2 (fun c => ?_) (fun c => iteF ⟨y, rfl, rfl⟩)⟩
    refine ⟨_, rfl, .ref a, rfl, a, _, rfl, .inl hS, _, _, rfl, rfl, _, rfl, ite2 (fun c => ?_) (fun c => iteF ⟨y, rfl, rfl⟩)⟩
    refine ⟨_, rfl, _, _, rfl, rfl, (by unfold CPow; decide), _, _, rfl, rfl, _, rfl, ite2 (fun c => ?_) (fun c => ⟨y, rfl, rfl⟩)⟩
    refine ⟨_, rfl, _, _, rfl, rfl, (by unfold CPow; decide), _, _, rfl, rfl, q _⟩
  rintro σ' H2 ⟨y', rfl, rfl⟩
  refine ⟨_, rfl, _, rfl, _, _, rfl, rfl, .inr ⟨by decide, by decide⟩, _, _, rfl, rfl, _, rfl, _, _, rfl, fun v => q v⟩
theorem ok_pool (T : Top K mg "_law_pool" st_law_pool ["script"]) (D_law_rest : Def P w K mg base 2 "_law_rest" ["script", "place", "fills"] (spRest K)) :
    Def P w K mg base 3 "_law_pool" ["script"] (spPool K) := by
  refine T.ok sc_law_pool (fun vs H Q E h => ?_) (fun f cdv A outer s H vs Q E hr h => ?_)
  · obtain ⟨a, ns, rfl, _⟩ := h
    rfl
  obtain ⟨a, ns, rfl, hS, hl, q⟩ := h
  refine ⟨_, (pss_one (ps_ret (pe_lst (pa_cons (pv 0) (pa_cons pe_int (pa_cons (pe_def D_law_rest (hr.mono (by decide)) rfl (pa_cons (pv 0) (pa_cons pe_int (pa_cons pe_int pa_nil)))) (pa_cons pe_int pa_nil))))))), ?_⟩
  refine ⟨_, rfl, _, rfl, a, ns, 0, 0, rfl, hS, hl, fun v => ⟨by show 4 ≤ sizeLine; decide, fun p hp => ?_⟩⟩
  exact q p _ hp Off.upd ⟨⟨0, v, 0, upd_same⟩, ⟨ns, hl, hS.off Off.upd (by rw [hp]; trivial)⟩⟩
theorem ok_next (T : Top K mg "_law_next" st_law_next ["pool"]) (D_law_rest : Def P w K mg base 2 "_law_rest" ["script", "place", "fills"] (spRest K)) :
    Def P w K mg base 3 "_law_next" ["pool"] (spNext K) := by
  refine T.ok sc_law_next (fun vs H Q E h => ?_) (fun f cdv A outer s H vs Q E hr h => ?_)
  · obtain ⟨p, a, rfl, _⟩ := h
    rfl
  obtain ⟨p, a, rfl, hP, q⟩ := h
  obtain ⟨⟨i, n, g, hp⟩, ⟨ns, hl, hS⟩⟩ := id hP
  refine ⟨_, (pss_cons (ps_asg (pe_op op_add (pe_ix (ixL K) (pv 0) pe_int (fun _ _ => rfl)) pe_int) (pg_sub (pv 0) pe_int set_list))
    (pss_cons (ps_asg (pe_def D_law_rest (hr.mono (by decide)) rfl (pa_cons (pe_ix (ixL K) (pv 0) pe_int (fun _ _ => rfl)) (pa_cons (pe_ix (ixL K) (pv 0) pe_int (fun _ _ => rfl)) (pa_cons pe_int pa_nil)))) (pg_sub (pv 0) pe_int set_list))
    (pss_one (ps_asg pe_int (pg_sub (pv 0) pe_int set_list))))), ?_⟩
  have up : ∀ {H' : Hp} {i' n' g' i2 n2 g2 : Int}, H' = upd H p (.lst [.ref a, .int i', .int n', .int g']) → upd H' p (.lst [.ref a, .int i2, .int n2, .int g2]) = upd H p (.lst [.ref a, .int i2, .int n2, .int g2]) := fun e => by rw [e, upd_upd]
  -- pool[1] = pool[1] + 1
  refine ⟨.ref p, rfl, _, _, _, _, rfl, rfl, SqL.of hp, atI_nat (j := 1) rfl, _, _, rfl, rfl, .ref p, rfl, p, _, 1, 1, rfl, rfl, hp, rfl, ?_⟩
  -- pool[2] = _law_rest(pool[0], pool[1], 0)
  refine ⟨.ref p, rfl, _, _, _, _, rfl, rfl, SqL.of upd_same, atI_nat (j := 0) rfl, .ref p, rfl, _, _, _, _, rfl, rfl, SqL.of upd_same, atI_nat (j := 1) rfl, a, ns, _, 0, rfl, hS.off Off.upd (by rw [hp]; trivial), hl, fun v => ?_⟩
  refine ⟨.ref p, rfl, p, _, 2, 2, rfl, rfl, upd_same, rfl, ?_⟩
  rw [upd_upd]
  refine ⟨.ref p, rfl, p, _, 3, 3, rfl, rfl, upd_same, rfl, ?_⟩
  rw [upd_upd]
  exact q _ Off.upd (hP.upd (i := i + 1) (n := v) (f := 0))
theorem ok_draw (T : Top K mg "_law_draw" st_law_draw ["pool", "limit"]) (D_law_rest : Def P w K mg base 2 "_law_rest" ["script", "place", "fills"] (spRest K)) (z_int : mg "int" = none) :
    Def P w K mg base 3 "_law_draw" ["pool", "limit"] (spDraw K) := by
  refine T.ok sc_law_draw (fun vs H Q E h => ?_) (fun f cdv A outer s H vs Q E hr h => ?_)
  · obtain ⟨p, a, l, rfl, _⟩ := h
    rfl
  obtain ⟨p, a, l, rfl, hP, h0, h1, q⟩ := h
  refine ⟨_, (Evl.pss_cut (ps_if (pt_cmpR op_le (pe_ix (ixL K) (pv 0) pe_int (fun _ _ => rfl)) pe_int (nomark _))
    (pss_cons (ps_asg (pe_op op_add (pe_ix (ixL K) (pv 0) pe_int (fun _ _ => rfl)) pe_int) (pg_sub (pv 0) pe_int set_list))
      (pss_one (ps_asg (pe_def D_law_rest (hr.mono (by decide)) rfl (pa_cons (pe_ix (ixL K) (pv 0) pe_int (fun _ _ => rfl)) (pa_cons (pe_ix (ixL K) (pv 0) pe_int (fun _ _ => rfl)) (pa_cons (pe_ix (ixL K) (pv 0) pe_int (fun _ _ => rfl)) pa_nil)))) (pg_sub (pv 0) pe_int set_list))))
    pss_nil)
    (pss_cons (ps_set (i := 2) sc_law_draw.nd rfl (Or.inl rfl) (pe_op op_mod (pe_callTy call_int1 rfl z_int (by decide +kernel) (pa_cons (pe_ix (ixL K) (pv 0) pe_int (fun _ _ => rfl)) pa_nil)) (pv 1)))
    (pss_cons (ps_asg (pe_op op_fdiv (pe_callTy call_int1 rfl z_int (by decide +kernel) (pa_cons (pe_ix (ixL K) (pv 0) pe_int (fun _ _ => rfl)) pa_nil)) (pv 1)) (pg_sub (pv 0) pe_int set_list))
    (pss_one (ps_ret (pv 2)))))), ?_⟩
  refine ⟨fun σ' H' => σ' = [some (.ref p), some (.int l), none] ∧ Off p H H' ∧ PoolAt K H' p a, ?_, ?_⟩
  · obtain ⟨⟨i, n, g, hp⟩, ⟨ns, hl, hS⟩⟩ := id hP
    refine ⟨.ref p, rfl, _, _, _, _, rfl, rfl, SqL.of hp, atI_nat (j := 2) rfl, _, _, rfl, rfl, _, rfl, ite2 (fun c => ?_) (fun c => ⟨rfl, Off.refl _, hP⟩)⟩
    refine ⟨.ref p, rfl, _, _, _, _, rfl, rfl, SqL.of hp, atI_nat (j := 3) rfl, _, _, rfl, rfl, .ref p, rfl, p, _, 3, 3, rfl, rfl, hp, rfl, ?_⟩
    refine ⟨.ref p, rfl, _, _, _, _, rfl, rfl, SqL.of upd_same, atI_nat (j := 0) rfl, .ref p, rfl, _, _, _, _, rfl, rfl, SqL.of upd_same, atI_nat (j := 1) rfl, .ref p, rfl, _, _, _, _, rfl, rfl, SqL.of upd_same, atI_nat (j := 3) rfl, a, ns, _, _, rfl, hS.off Off.upd (by rw [hp]; trivial), hl, fun v => ?_⟩
    refine ⟨.ref p, rfl, p, _, 2, 2, rfl, rfl, upd_same, rfl, ?_⟩
    rw [upd_upd]
    exact ⟨rfl, Off.upd, hP.upd (i := i)⟩
  rintro σ' H' ⟨rfl, o, hP'⟩
  obtain ⟨⟨i, n, g, hp⟩, ⟨ns, hl, hS⟩⟩ := id hP'
  refine ⟨.ref p, rfl, _, _, _, _, rfl, rfl, SqL.of hp, atI_nat (j := 2) rfl, .inl ⟨n, rfl, _, rfl, _, _, rfl, rfl, h0, ?_⟩⟩
  refine ⟨.ref p, rfl, _, _, _, _, rfl, rfl, SqL.of hp, atI_nat (j := 2) rfl, .inl ⟨n, rfl, _, rfl, _, _, rfl, rfl, ⟨h0, h1⟩, ?_⟩⟩
  refine ⟨.ref p, rfl, p, _, 2, 2, rfl, rfl, hp, rfl, ?_⟩
  exact ⟨_, rfl, q _ _ (Int.emod_nonneg _ (by omega)) (Int.emod_lt_of_pos _ h0) (o.trans Off.upd) (hP'.upd (i := i))⟩
end
end My
set_option Elab.async false
set_option linter.all false
set_option maxRecDepth 100000
set_option maxHeartbeats 4000000
namespace My
open PySem PySem.Spec PyProof.Rows L2
abbrev st_law_pick : Stmt := topS 30
theorem sc_law_pick : FnScope ["pool", "options"] ["pool", "options"] (defScope st_law_pick) := ⟨rfl, rfl, rfl, by decide +kernel, rfl, by decide +kernel, by decide +kernel⟩
section
variable {P : Program} {w : World} {K : PySem.W.Frag} {mg : Str → Option Value} {base : Heap}
theorem ok_pick (T : Top K mg "_law_pick" st_law_pick ["pool", "options"]) (D_law_draw : Def P w K mg base 3 "_law_draw" ["pool", "limit"] (spDraw K)) (z_len : mg "len" = none) :
    Def P w K mg base 4 "_law_pick" ["pool", "options"] (spPick K) := by
  refine T.ok sc_law_pick (fun vs H Q E h => ?_) (fun f cdv A outer s H vs Q E hr h => ?_)
  · obtain ⟨p, a, o, xs, rfl, _⟩ := h
    rfl
  obtain ⟨p, a, o, xs, rfl, hP, hS, ne, h0, h1, q⟩ := h
  refine ⟨_, (pss_one (ps_ret (pe_ix (ixL K) (pv 1) (pe_def D_law_draw (hr.mono (by decide)) rfl (pa_cons (pv 0) (pa_cons (pe_callB (lenQ K) rfl z_len (by decide +kernel) (pa_cons (pv 1) pa_nil)) pa_nil))) (fun _ _ => rfl)))), ?_⟩
  refine ⟨.ref o, rfl, .ref p, rfl, .ref o, rfl, o, xs, rfl, .inl hS, p, a, _, rfl, hP, by omega, by omega, fun v H' hv0 hv1 off hP' => ?_⟩
  obtain ⟨x, e, hx⟩ := at_in hv0 hv1
  exact ⟨o, xs, v, x, rfl, rfl, sqL_off off ne hS, e, q x H' hx off hP'⟩
end
end My
set_option Elab.async false
set_option linter.all false
set_option maxRecDepth 100000
set_option maxHeartbeats 4000000
/-! _law_same(answer, due): True of the same data -/
namespace My
open PySem PySem.Spec PyProof.Rows L2
abbrev st_law_same : Stmt := topS 31
theorem sc_law_same : FnScope ["answer", "due", "key", "k"] ["answer", "due"] (defScope st_law_same) := ⟨rfl, rfl, rfl, by decide +kernel, rfl, by decide +kernel, by decide +kernel⟩
def spSame (K : PySem.W.Frag) (n : Nat) : Sp := fun vs H Q _ => ∃ (x y : V) (d : PyData), vs = [x, y] ∧ DW K H n x d ∧ DW K H n y d ∧ ∀ H', Same H H' → Q (.bl true) H'
section
variable {P : Program} {w : World} {K : PySem.W.Frag} {mg : Str → Option Value} {base : Heap}
structure ZSame (mg : Str → Option Value) : Prop where
  isi : mg "isinstance" = none
  dict : mg "dict" = none
  list : mg "list" = none
  tuple : mg "tuple" = none
  bool : mg "bool" = none
  str : mg "str" = none
  int : mg "int" = none
  len : mg "len" = none
  range : mg "range" = none
  all : mg "all" = none
theorem ok_same0 (T : Top K mg "_law_same" st_law_same ["answer", "due"]) : Def P w K mg base 0 "_law_same" ["answer", "due"] (spSame K 0) :=
  T.def fun f fd F => ⟨fun vs H Q E h => by
    obtain ⟨x, y, d, _, h, _⟩ := h
    exact h.elim, fun A outer s H args us vs Q E _ _ _ _ h => by
    obtain ⟨x, y, d, _, h, _⟩ := h
    exact h.elim⟩
theorem ok_same_up (T : Top K mg "_law_same" st_law_same ["answer", "due"]) (Z : ZSame mg) {n : Nat} (D_law_same : Def P w K mg base n "_law_same" ["answer", "due"] (spSame K n)) : Def P w K mg base (n + 1) "_law_same" ["answer", "due"] (spSame K (n + 1)) := by
  have ⟨z_isinstance, z_dict, z_list, z_tuple, z_bool, z_str, z_int, z_len, z_range, z_all⟩ := Z
  refine T.ok sc_law_same (fun vs H Q E h => ?_) (fun f cdv A outer s H vs Q E hr h => ?_)
  · obtain ⟨x, y, d, rfl, _⟩ := h
    rfl
  have hu := hu_of hr
  obtain ⟨x, y, d, rfl, hx, hy, q⟩ := h
  refine ⟨_, (pss_cons (ps_if (pt_val (pe_callB (isiQ K) rfl z_isinstance (by decide +kernel) (pa_cons (pv 1) (pa_cons (pe_bltn (v := .ty "dict") rfl z_dict (by decide +kernel) rfl) pa_nil))))
    pss_never
    pss_nil)
    (pss_cons (ps_if (PW.pt (pw_or (pt_val (pe_callB (isiQ K) rfl z_isinstance (by decide +kernel) (pa_cons (pv 1) (pa_cons (pe_bltn (v := .ty "list") rfl z_list (by decide +kernel) rfl) pa_nil)))) (pw_or1 (pt_val (pe_callB (isiQ K) rfl z_isinstance (by decide +kernel) (pa_cons (pv 1) (pa_cons (pe_bltn (v := .ty "tuple") rfl z_tuple (by decide +kernel) rfl) pa_nil)))))))
    (pss_cons (ps_if (PW.pt (pw_or (pt_cmpR op_ne (pe_callB (isiQ K) rfl z_isinstance (by decide +kernel) (pa_cons (pv 1) (pa_cons (pe_bltn (v := .ty "list") rfl z_list (by decide +kernel) rfl) pa_nil))) (pe_callB (isiQ K) rfl z_isinstance (by decide +kernel) (pa_cons (pv 0) (pa_cons (pe_bltn (v := .ty "list") rfl z_list (by decide +kernel) rfl) pa_nil))) (nomark _)) (pw_or1 (pt_cmpR op_ne (pe_callB (isiQ K) rfl z_isinstance (by decide +kernel) (pa_cons (pv 1) (pa_cons (pe_bltn (v := .ty "tuple") rfl z_tuple (by decide +kernel) rfl) pa_nil))) (pe_callB (isiQ K) rfl z_isinstance (by decide +kernel) (pa_cons (pv 0) (pa_cons (pe_bltn (v := .ty "tuple") rfl z_tuple (by decide +kernel) rfl) pa_nil))) (nomark _)))))
      (pss_one (ps_ret pe_bl))
      pss_nil)
      (pss_one (ps_ret (pe_and (pe_cmpR op_eq (pe_callB (lenQ K) rfl z_len (by decide +kernel) (pa_cons (pv 0) pa_nil)) (pe_callB (lenQ K) rfl z_len (by decide +kernel) (pa_cons (pv 1) pa_nil)) (nomark _)) (pe_one (pe_callB (allQ K) rfl z_all (by decide +kernel) (pa_cons (pe_lc (own := [("k", 3)]) (g := gName 3) (tt := tYes) rfl sc_law_same.nd (pi_range1 rfl z_range (pa_cons (pe_callB (lenQ K) rfl z_len (by decide +kernel) (pa_cons (pv 1) pa_nil)) pa_nil)) (blkOk_by (own := [("k", 3)]) (N := ["answer", "due", "key", "k"]) (sc := defScope st_law_same) (by decide +kernel)) (fun _ _ _ _ _ => (pg_name (i := 3) sc_law_same.nd rfl (Or.inl rfl))) (fun _ _ _ _ _ => pts_nil) (fun _ _ _ _ _ => (pe_def D_law_same hr rfl (pa_cons (pe_ix (ixQ K) (pv 0) (pv 3) (fun _ _ => rfl)) (pa_cons (pe_ix (ixQ K) (pv 1) (pv 3) (fun _ _ => rfl)) pa_nil))))) pa_nil)))))))
    pss_nil)
    (pss_cons (ps_if (pt_val (pe_callB (isiQ K) rfl z_isinstance (by decide +kernel) (pa_cons (pv 1) (pa_cons (pe_bltn (v := .ty "str") rfl z_str (by decide +kernel) rfl) pa_nil))))
    (pss_one (ps_ret (pe_and (pe_callB (isiQ K) rfl z_isinstance (by decide +kernel) (pa_cons (pv 0) (pa_cons (pe_bltn (v := .ty "str") rfl z_str (by decide +kernel) rfl) pa_nil))) (pe_one (pe_cmpR op_eq (pv 0) (pv 1) (nomark _))))))
    pss_nil)
    (pss_cons (ps_if (PW.pt (pw_or (pt_cmpR op_isN (pv 1) pe_non (nomark _)) (pw_or (pt_cmpR op_isC (pv 1) pe_bl (nomark _)) (pw_or1 (pt_cmpR op_isC (pv 1) pe_bl (nomark _))))))
    (pss_one (ps_ret (pe_or (pe_and (pe_cmpR op_isN (pv 1) pe_non (nomark _)) (pe_one (pe_cmpR op_isN (pv 0) pe_non (nomark _)))) (pe_or (pe_and (pe_cmpR op_isC (pv 1) pe_bl (nomark _)) (pe_one (pe_cmpR op_isC (pv 0) pe_bl (nomark _)))) (pe_one (pe_and (pe_cmpR op_isC (pv 1) pe_bl (nomark _)) (pe_one (pe_cmpR op_isC (pv 0) pe_bl (nomark _)))))))))
    pss_nil)
    (pss_one (ps_ret (pe_and (pe_callB (isiQ K) rfl z_isinstance (by decide +kernel) (pa_cons (pv 0) (pa_cons (pe_bltn (v := .ty "int") rfl z_int (by decide +kernel) rfl) pa_nil))) (pe_and (pe_not (pe_callB (isiQ K) rfl z_isinstance (by decide +kernel) (pa_cons (pv 0) (pa_cons (pe_bltn (v := .ty "bool") rfl z_bool (by decide +kernel) rfl) pa_nil)))) (pe_one (pe_cmpR op_eq (pv 0) (pv 1) (nomark _))))))))))), ?_⟩
  cases d with
  | dict _ => exact hx.elim
  | none =>
    obtain rfl : x = .non := hx
    obtain rfl : y = .non := hy
    refine ⟨_, rfl, _, _, _, _, false, rfl, .ty _, .base .non, kit_ty (by decide +kernel), _, rfl, iteF ?_⟩
    refine ⟨_, rfl, _, _, _, _, false, rfl, .ty _, .base .non, kit_ty (by decide +kernel), _, rfl, iteF ⟨_, rfl, _, _, _, _, false, rfl, .ty _, .base .non, kit_ty (by decide +kernel), _, rfl, iteF ?_⟩⟩
    refine ⟨_, rfl, _, _, _, _, false, rfl, .ty _, .base .non, kit_ty (by decide +kernel), _, rfl, iteF ?_⟩
    refine ⟨_, rfl, rfl, _, rfl, iteT ?_⟩
    exact ⟨_, rfl, rfl, _, rfl, iteT ⟨_, rfl, rfl, _, rfl, iteT (q _ (Same.refl _))⟩⟩
  | int i =>
    obtain rfl : x = .int i := hx
    obtain rfl : y = .int i := hy
    refine ⟨_, rfl, _, _, _, _, false, rfl, .ty _, (.base (.int i)), kit_ty (by decide +kernel), _, rfl, iteF ?_⟩
    refine ⟨_, rfl, _, _, _, _, false, rfl, .ty _, (.base (.int i)), kit_ty (by decide +kernel), _, rfl, iteF ⟨_, rfl, _, _, _, _, false, rfl, .ty _, (.base (.int i)), kit_ty (by decide +kernel), _, rfl, iteF ?_⟩⟩
    refine ⟨_, rfl, _, _, _, _, false, rfl, .ty _, (.base (.int i)), kit_ty (by decide +kernel), _, rfl, iteF ?_⟩
    refine ⟨_, rfl, rfl, _, rfl, iteF ⟨_, rfl, .inl ⟨_, rfl⟩, _, rfl, iteF ⟨_, rfl, .inl ⟨_, rfl⟩, _, rfl, iteF ?_⟩⟩⟩
    refine ⟨_, rfl, _, _, _, _, true, rfl, .ty _, (.base (.int i)), kit_ty (by decide +kernel), _, rfl, iteT ⟨_, rfl, _, _, _, _, false, rfl, .ty _, (.base (.int i)), kit_ty (by decide +kernel), _, rfl, _, rfl, iteT ⟨_, rfl, _, rfl, rfl, ?_⟩⟩⟩
    rw [decide_eq_true rfl]
    exact q _ (Same.refl _)
  | bool b =>
    obtain rfl : x = .bl b := hx
    obtain rfl : y = .bl b := hy
    refine ⟨_, rfl, _, _, _, _, false, rfl, .ty _, (.base (.bl b)), kit_ty (by decide +kernel), _, rfl, iteF ?_⟩
    refine ⟨_, rfl, _, _, _, _, false, rfl, .ty _, (.base (.bl b)), kit_ty (by decide +kernel), _, rfl, iteF ⟨_, rfl, _, _, _, _, false, rfl, .ty _, (.base (.bl b)), kit_ty (by decide +kernel), _, rfl, iteF ?_⟩⟩
    refine ⟨_, rfl, _, _, _, _, false, rfl, .ty _, (.base (.bl b)), kit_ty (by decide +kernel), _, rfl, iteF ?_⟩
    refine ⟨_, rfl, rfl, _, rfl, iteF ⟨_, rfl, .inl ⟨_, rfl⟩, _, rfl, ?_⟩⟩
    have two : (V.bl b = V.bl true ∧ b = true) ∨ b = false := by cases b <;> simp
    cases b with
    | true =>
      refine iteT (iteT ?_)
      exact ⟨_, rfl, rfl, _, rfl, iteF ⟨_, rfl, iteF ⟨_, rfl, .inl ⟨_, rfl⟩, _, rfl, iteT ⟨_, rfl, .inl ⟨_, rfl⟩, _, rfl, iteT (q _ (Same.refl _))⟩⟩⟩⟩
    | false =>
      refine iteF ⟨_, rfl, .inl ⟨_, rfl⟩, _, rfl, iteT ?_⟩
      exact ⟨_, rfl, rfl, _, rfl, iteF ⟨_, rfl, iteF ⟨_, rfl, .inl ⟨_, rfl⟩, _, rfl, iteF ⟨_, rfl, iteF ⟨_, rfl, .inl ⟨_, rfl⟩, _, rfl, iteT ⟨_, rfl, .inl ⟨_, rfl⟩, q _ (Same.refl _)⟩⟩⟩⟩⟩⟩
  | str s =>
    obtain rfl : x = .str s := hx
    obtain rfl : y = .str s := hy
    refine ⟨_, rfl, _, _, _, _, false, rfl, .ty _, (.base (.str s)), kit_ty (by decide +kernel), _, rfl, iteF ?_⟩
    refine ⟨_, rfl, _, _, _, _, false, rfl, .ty _, (.base (.str s)), kit_ty (by decide +kernel), _, rfl, iteF ⟨_, rfl, _, _, _, _, false, rfl, .ty _, (.base (.str s)), kit_ty (by decide +kernel), _, rfl, iteF ?_⟩⟩
    refine ⟨_, rfl, _, _, _, _, true, rfl, .ty _, (.base (.str s)), kit_ty (by decide +kernel), _, rfl, iteT ?_⟩
    refine ⟨_, rfl, _, _, _, _, true, rfl, .ty _, (.base (.str s)), kit_ty (by decide +kernel), _, rfl, iteT ⟨_, rfl, _, rfl, rfl, ?_⟩⟩
    rw [decide_eq_true rfl]
    exact q _ (Same.refl _)
  | list ds =>
    obtain ⟨a, xs, rfl, ha, l1, l2, ka⟩ := hx
    obtain ⟨b, ys, rfl, hb, m1, m2, kb⟩ := hy
    refine ⟨_, rfl, _, _, _, _, false, rfl, .ty _, (tyx_list hb), kit_ty (by decide +kernel), _, rfl, iteF ?_⟩
    refine ⟨_, rfl, _, _, _, _, true, rfl, .ty _, (tyx_list hb), kit_ty (by decide +kernel), _, rfl, iteT ?_⟩
    refine ⟨_, rfl, _, _, _, _, true, rfl, .ty _, (tyx_list hb), kit_ty (by decide +kernel), _, rfl, _, _, _, _, true, rfl, .ty _, (tyx_list ha), kit_ty (by decide +kernel), rfl, _, rfl, iteF ?_⟩
    refine ⟨_, rfl, _, _, _, _, false, rfl, .ty _, (tyx_list hb), kit_ty (by decide +kernel), _, rfl, _, _, _, _, false, rfl, .ty _, (tyx_list ha), kit_ty (by decide +kernel), rfl, _, rfl, iteF ?_⟩
    refine ⟨.ref a, rfl, a, xs, rfl, .inl ha, .ref b, rfl, b, ys, rfl, .inl hb, rfl, ?_⟩
    have el : (xs.length : Int) = ys.length := by omega
    rw [el, decide_eq_true rfl]
    refine ⟨true, rfl, iteT ?_⟩
    -- all([..])
    refine ⟨.ref b, rfl, b, ys, rfl, .inl hb, ys.length, rfl, by omega, by omega, fun D hD => lc_range (lo := 0) (n := ys.length) (fun i H' => Same H H' ∧ H' D = some (.lst (List.replicate i (.bl true)))) ⟨Same.new hD, upd_same⟩ ?_ ?_⟩
    · rintro i H' hi ⟨s, e⟩
      obtain ⟨x, hx⟩ : ∃ x, xs[i]? = some x := ⟨_, List.getElem?_eq_getElem (by omega)⟩
      obtain ⟨y, hy⟩ : ∃ y, ys[i]? = some y := ⟨_, List.getElem?_eq_getElem hi⟩
      obtain ⟨d, hd⟩ : ∃ d, ds[i]? = some d := ⟨_, List.getElem?_eq_getElem (by omega)⟩
      have e0 : (0 : Int) + (i : Int) = (i : Int) := Int.zero_add _
      rw [e0]
      refine ⟨rfl, .ref a, rfl, _, rfl, .inl ⟨_, _, _, _, rfl, rfl, (s.seq ha), atI_nat hx, ?_⟩⟩
      refine ⟨.ref b, rfl, _, rfl, .inl ⟨_, _, _, _, rfl, rfl, (s.seq hb), atI_nat hy, ?_⟩⟩
      refine ⟨x, y, d, rfl, DW.same s (ka i x d hx hd), DW.same s (kb i y d hy hd), fun G sg => ⟨_, sg _ _ e, sq_len (by rw [List.length_replicate]; omega), same_mut (s.trans sg) hD, ?_⟩⟩
      rw [upd_same, List.replicate_succ']
    · rintro H' ⟨s, e⟩
      have e1 : List.replicate ys.length (V.bl true) = (List.replicate ys.length true).map V.bl := List.map_replicate.symm
      have e2 : (List.replicate ys.length true).all id = true := by simp
      rw [e1] at e
      refine ⟨D, _, rfl, SqL.of e, ?_⟩
      rw [e2]
      exact q _ s
  | tuple ds =>
    obtain ⟨a, xs, rfl, ha, l1, l2, ka⟩ := hx
    obtain ⟨b, ys, rfl, hb, m1, m2, kb⟩ := hy
    refine ⟨_, rfl, _, _, _, _, false, rfl, .ty _, (tyx_tuple hb), kit_ty (by decide +kernel), _, rfl, iteF ?_⟩
    refine ⟨_, rfl, _, _, _, _, false, rfl, .ty _, (tyx_tuple hb), kit_ty (by decide +kernel), _, rfl, iteF ⟨_, rfl, _, _, _, _, true, rfl, .ty _, (tyx_tuple hb), kit_ty (by decide +kernel), _, rfl, iteT ?_⟩⟩
    refine ⟨_, rfl, _, _, _, _, false, rfl, .ty _, (tyx_tuple hb), kit_ty (by decide +kernel), _, rfl, _, _, _, _, false, rfl, .ty _, (tyx_tuple ha), kit_ty (by decide +kernel), rfl, _, rfl, iteF ?_⟩
    refine ⟨_, rfl, _, _, _, _, true, rfl, .ty _, (tyx_tuple hb), kit_ty (by decide +kernel), _, rfl, _, _, _, _, true, rfl, .ty _, (tyx_tuple ha), kit_ty (by decide +kernel), rfl, _, rfl, iteF ?_⟩
    refine ⟨.ref a, rfl, a, xs, rfl, .inr ha, .ref b, rfl, b, ys, rfl, .inr hb, rfl, ?_⟩
    have el : (xs.length : Int) = ys.length := by omega
    rw [el, decide_eq_true rfl]
    refine ⟨true, rfl, iteT ?_⟩
    -- all([..])
    refine ⟨.ref b, rfl, b, ys, rfl, .inr hb, ys.length, rfl, by omega, by omega, fun D hD => lc_range (lo := 0) (n := ys.length) (fun i H' => Same H H' ∧ H' D = some (.lst (List.replicate i (.bl true)))) ⟨Same.new hD, upd_same⟩ ?_ ?_⟩
    · rintro i H' hi ⟨s, e⟩
      obtain ⟨x, hx⟩ : ∃ x, xs[i]? = some x := ⟨_, List.getElem?_eq_getElem (by omega)⟩
      obtain ⟨y, hy⟩ : ∃ y, ys[i]? = some y := ⟨_, List.getElem?_eq_getElem hi⟩
      obtain ⟨d, hd⟩ : ∃ d, ds[i]? = some d := ⟨_, List.getElem?_eq_getElem (by omega)⟩
      have e0 : (0 : Int) + (i : Int) = (i : Int) := Int.zero_add _
      rw [e0]
      refine ⟨rfl, .ref a, rfl, _, rfl, .inr (.inl ⟨_, _, _, _, rfl, rfl, (sqT_same s ha), atI_nat hx, ?_⟩)⟩
      refine ⟨.ref b, rfl, _, rfl, .inr (.inl ⟨_, _, _, _, rfl, rfl, (sqT_same s hb), atI_nat hy, ?_⟩)⟩
      refine ⟨x, y, d, rfl, DW.same s (ka i x d hx hd), DW.same s (kb i y d hy hd), fun G sg => ⟨_, sg _ _ e, sq_len (by rw [List.length_replicate]; omega), same_mut (s.trans sg) hD, ?_⟩⟩
      rw [upd_same, List.replicate_succ']
    · rintro H' ⟨s, e⟩
      have e1 : List.replicate ys.length (V.bl true) = (List.replicate ys.length true).map V.bl := List.map_replicate.symm
      have e2 : (List.replicate ys.length true).all id = true := by simp
      rw [e1] at e
      refine ⟨D, _, rfl, SqL.of e, ?_⟩
      rw [e2]
      exact q _ s
theorem ok_same (T : Top K mg "_law_same" st_law_same ["answer", "due"]) (Z : ZSame mg) : ∀ n : Nat, Def P w K mg base n "_law_same" ["answer", "due"] (spSame K n)
  | 0 => ok_same0 T
  | n + 1 => ok_same_up T Z (ok_same T Z n)
end
end My
set_option Elab.async false
set_option linter.all false
set_option maxRecDepth 100000
set_option maxHeartbeats 4000000
/-! The program's blocks -/
namespace My
open PySem PySem.Spec PyProof.Rows L2 Crc
abbrev st_sum_of_bits : Stmt := topS 5
theorem sc_sum_of_bits : FnScope ["told", "rest", "byte", "place", "bit", "lead"] ["told"] (defScope st_sum_of_bits) := ⟨rfl, rfl, rfl, by decide +kernel, rfl, by decide +kernel, by decide +kernel⟩
abbrev st_block : Stmt := topS 6
theorem sc_block : FnScope ["number", "count", "data", "told"] ["number", "count", "data"] (defScope st_block) := ⟨rfl, rfl, rfl, by decide +kernel, rfl, by decide +kernel, by decide +kernel⟩
abbrev st_blocks_of : Stmt := topS 7
theorem sc_blocks_of : FnScope ["told", "data", "count", "found", "at"] ["told"] (defScope st_blocks_of) := ⟨rfl, rfl, rfl, by decide +kernel, rfl, by decide +kernel, by decide +kernel⟩
abbrev st_is_block : Stmt := topS 8
theorem sc_is_block : FnScope ["told", "number", "count", "many"] ["told", "number", "count"] (defScope st_is_block) := ⟨rfl, rfl, rfl, by decide +kernel, rfl, by decide +kernel, by decide +kernel⟩
abbrev st_without_end : Stmt := topS 9
theorem sc_without_end : FnScope ["data", "at"] ["data"] (defScope st_without_end) := ⟨rfl, rfl, rfl, by decide +kernel, rfl, by decide +kernel, by decide +kernel⟩
abbrev st_data_of : Stmt := topS 10
theorem sc_data_of : FnScope ["told", "data", "count", "number", "here", "last"] ["told"] (defScope st_data_of) := ⟨rfl, rfl, rfl, by decide +kernel, rfl, by decide +kernel, by decide +kernel⟩
/-- a list is made -/
def Made (H : Hp) (xs : List V) (Q : VK) : Prop := ∀ p H', Same H H' → H p = none → H' p = some (.lst xs) → Q (.ref p) H'
/-- the module's numbers -/
structure Consts (mg : Str → Option Value) : Prop where
  SIZE : ∃ t, mg "SIZE" = some (.int 64 t)
  DATA : ∃ t, mg "DATA" = some (.int 56 t)
  FACTORS : ∃ t, mg "FACTORS" = some (.int 79764919 t)
  TOP : ∃ t, mg "TOP" = some (.int 4294967296 t)
def spSum (K : PySem.W.Frag) : Sp := fun vs H Q _ => ∃ (a : Addr) (bs : List Nat), vs = [.ref a] ∧ SqL K H a (bv bs) ∧ Made H (bv (sumOf bs)) Q
def spBlock : Sp := fun vs H Q _ => ∃ (a : Addr) (n c : Nat) (d : List Nat), vs = [.int n, .int c, .ref a] ∧ H a = some (.lst (bv d)) ∧ d.length ≤ 1000 ∧ Made H (bv (blk n c d)) Q
def spBlocksOf : Sp := fun vs H Q _ => ∃ (a : Addr) (bs : List Nat), vs = [.ref a] ∧ H a = some (.lst (bv bs)) ∧ bs.length ≤ 100000 ∧ Made H (bv (blocksOf bs)) Q
def cV (o : Option Nat) : V := match o with | none => .non | some c => .int c
def spIsBlock (K : PySem.W.Frag) : Sp := fun vs H Q _ => ∃ (a : Addr) (here : List Nat) (n : Nat) (o : Option Nat), vs = [.ref a, .int n, cV o] ∧ SqL K H a (bv here) ∧ ∀ H', Same H H' → Q (.bl (decide (IsBlk here n o))) H'
def WendAt (H H' : Hp) (o : Option (List Nat)) (v : V) : Prop := match o with
  | none => v = .non
  | some l => ∃ p, v = .ref p ∧ H p = none ∧ H' p = some (.lst (bv l))
def spWend (K : PySem.W.Frag) : Sp := fun vs H Q _ => ∃ (a : Addr) (l : List Nat), vs = [.ref a] ∧ SqL K H a (bv l) ∧ ∀ v H', Same H H' → WendAt H H' (wend l) v → Q v H'
def ToldAt (H : Hp) (r : Told) (v : V) : Prop := match r with
  | .block n => ∃ t, v = .ref t ∧ H t = some (.tup [.str "block", .int (n : Int)])
  | .data l => ∃ t q, v = .ref t ∧ H t = some (.tup [.str "data", .ref q]) ∧ H q = some (.lst (bv l))
def spDataOf (K : PySem.W.Frag) : Sp := fun vs H Q _ => ∃ (a : Addr) (l : List Nat), vs = [.ref a] ∧ SqL K H a (bv l) ∧ l.length ≤ 100000 ∧ ∀ v H', Same H H' → ToldAt H' (dataOf l) v → Q v H'
/-! ### the register as a number -/
theorem reg_lead (r : BitVec 32) : (r.toNat : Int) / 2 ^ 31 = bitI r.msb := by
  have e : r.msb = decide (2 ^ 31 ≤ r.toNat) := BitVec.msb_eq_decide r
  have lt := r.isLt
  rw [e]
  unfold bitI
  by_cases h : 2 ^ 31 ≤ r.toNat
  · rw [decide_eq_true h, if_pos rfl]
    omega
  · rw [decide_eq_false h, if_neg Bool.false_ne_true]
    omega
theorem reg_shl (r : BitVec 32) : (2 * (r.toNat : Int)) % 4294967296 = ((r <<< 1).toNat : Int) := by
  rw [BitVec.toNat_shiftLeft, Nat.shiftLeft_eq]
  have e : r.toNat * 2 ^ 1 % 2 ^ 32 = (2 * r.toNat) % 4294967296 := by
    rw [Nat.pow_one, Nat.mul_comm]
  rw [e]
  omega
theorem reg_xor (r : BitVec 32) : Builtin.bitXor (r.toNat : Int) 79764919 = ((r ^^^ fac).toNat : Int) := by
  rw [Bits.bitXor_pp (Int.natCast_nonneg _) (by decide), BitVec.toNat_xor]
  rfl
theorem bit_is (n p : Nat) : Builtin.bitAnd ((n : Int) / 2 ^ p) 1 = bitI (n.testBit p) := by
  have e : Builtin.bitAnd ((n : Int) / 2 ^ p) 1 = ((n : Int) / 2 ^ p) % 2 := PySem.W.kbt_mask _ 1
  rw [e, Nat.testBit_eq_decide_div_mod_eq]
  have e2 : ((n : Int) / 2 ^ p) % 2 = ((n / 2 ^ p % 2 : Nat) : Int) := by
    rw [Int.natCast_emod, Int.natCast_ediv, Int.natCast_pow]
    rfl
  rw [e2]
  unfold bitI
  have lt : n / 2 ^ p % 2 < 2 := Nat.mod_lt _ (by decide)
  by_cases h : n / 2 ^ p % 2 = 1
  · rw [decide_eq_true h, if_pos rfl, h]
    rfl
  · rw [decide_eq_false h, if_neg Bool.false_ne_true]
    have : n / 2 ^ p % 2 = 0 := by omega
    rw [this]
    rfl
theorem byte_is (n k : Nat) : Builtin.bitAnd ((n : Int) / 2 ^ k) 255 = ((n / 2 ^ k % 256 : Nat) : Int) := by
  have e : Builtin.bitAnd ((n : Int) / 2 ^ k) 255 = ((n : Int) / 2 ^ k) % 2 ^ 8 := PySem.W.kbt_mask _ 8
  rw [e, Int.natCast_emod, Int.natCast_ediv, Int.natCast_pow]
  rfl
theorem bitI_eq (a b : Bool) : decide (V.int (bitI a) = V.int (bitI b)) = (a == b) := by
  cases a <;> cases b <;> decide
section
variable {P : Program} {w : World} {K : PySem.W.Frag} {mg : Str → Option Value} {base : Heap}
theorem ok_sum (T : Top K mg "sum_of_bits" st_sum_of_bits ["told"]) (C : Consts mg) (z_range : mg "range" = none) : Def P w K mg base 1 "sum_of_bits" ["told"] (spSum K) := by
  obtain ⟨_, m_TOP⟩ := C.TOP
  obtain ⟨_, m_FACTORS⟩ := C.FACTORS
  refine T.ok sc_sum_of_bits (fun vs H Q E h => ?_) (fun f cdv A outer s H vs Q E hr h => ?_)
  · obtain ⟨a, bs, rfl, _⟩ := h
    rfl
  obtain ⟨a, bs, rfl, ha, q⟩ := h
  refine ⟨_, (pss_cons (ps_set (i := 1) sc_sum_of_bits.nd rfl (Or.inr rfl) pe_int)
    (pss_cons (ps_for PassesOwn.never rfl (pi_list (pv 0)) (pg_name (i := 2) sc_sum_of_bits.nd rfl (Or.inl rfl))
    (pss_one (ps_for PassesOwn.never rfl (pi_range3 rfl z_range (pa_cons pe_int (pa_cons (pe_un un_neg pe_int) (pa_cons (pe_un un_neg pe_int) pa_nil)))) (pg_name (i := 3) sc_sum_of_bits.nd rfl (Or.inl rfl))
      (pss_cons (ps_set (i := 4) sc_sum_of_bits.nd rfl (Or.inl rfl) (pe_op op_and (pe_op op_shr (pv 2) (pv 3)) pe_int))
        (pss_cons (ps_set (i := 5) sc_sum_of_bits.nd rfl (Or.inl rfl) (pe_op op_shr (pv 1) pe_int))
        (pss_cons (ps_set (i := 1) sc_sum_of_bits.nd rfl (Or.inr rfl) (pe_op op_mod (pe_op op_mul pe_int (pv 1)) (pe_glob (v := .int 4294967296) rfl m_TOP ⟨_, rfl⟩)))
        (pss_one (ps_if (pt_cmpR op_ne (pv 5) (pv 4) (nomark _))
        (pss_one (ps_set (i := 1) sc_sum_of_bits.nd rfl (Or.inr rfl) (pe_op op_xor (pv 1) (pe_glob (v := .int 79764919) rfl m_FACTORS ⟨_, rfl⟩))))
        pss_nil))))))))
    (pss_one (ps_ret (pe_lc (own := [("place", 3)]) (g := gName 3) (tt := tYes) rfl sc_sum_of_bits.nd (pi_tup (pe_tup (pa_cons pe_int (pa_cons pe_int (pa_cons pe_int (pa_cons pe_int pa_nil)))))) (blkOk_by (own := [("place", 3)]) (N := ["told", "rest", "byte", "place", "bit", "lead"]) (sc := defScope st_sum_of_bits) (by decide +kernel)) (fun _ _ _ _ _ => (pg_name (i := 3) sc_sum_of_bits.nd rfl (Or.inl rfl))) (fun _ _ _ _ _ => pts_nil) (fun _ _ _ _ _ => (pe_op op_and (pe_op op_shr (pv 1) (pe_op op_mul pe_int (pv 3))) pe_int))))))), ?_⟩
  -- rest = 0; for byte in told
  refine ⟨.ref a, rfl, a, rfl, ⟨_, ha⟩, for_list (K := K) (a := a) (xs := bv bs) (fun i σ H' => ∃ x2 x3 x4 x5 : Option V, σ = [some (.ref a), some (.int ((crc (bitsOf (bs.take i))).toNat : Int)), x2, x3, x4, x5] ∧ H' = H) ⟨_, _, _, _, rfl, rfl⟩ (fun _ _ _ _ ⟨_, _, _, _, _, e⟩ => by rw [e]; exact ha) ?_ ?_⟩
  · rintro i x σ H' hx ⟨x2, x3, x4, x5, rfl, rfl⟩
    obtain ⟨b, hb, rfl⟩ := bv_of hx
    -- for place in range(7, -1, -1)
    refine ⟨1, rfl, 1, rfl, 7, -1, -1, 8, rfl, RgC.neg (by decide) (by decide) (by decide) (by decide), for_rangeC (lo := 7) (c := -1) (n := 8) (fun j σ G => ∃ y3 y4 y5 : Option V, σ = [some (.ref a), some (.int ((run (crc (bitsOf (bs.take i))) ((byteBits b).take j)).toNat : Int)), some (.int b), y3, y4, y5] ∧ G = H') ⟨_, _, _, rfl, rfl⟩ ?_ ?_⟩
    · rintro j σ G hj ⟨y3, y4, y5, rfl, rfl⟩
      have e7 : (7 : Int) + (j : Int) * -1 = ((7 - j : Nat) : Int) := by omega
      rw [e7]
      -- bit, lead, rest
      refine ⟨_, rfl, _, rfl, _, _, rfl, rfl, Int.natCast_nonneg _, _, _, rfl, rfl, ?_⟩
      refine ⟨_, rfl, _, _, rfl, rfl, (by show (0 : Int) ≤ 31; decide), ?_⟩
      refine ⟨_, rfl, _, _, rfl, rfl, .inl ⟨by decide, by decide⟩, _, _, rfl, rfl, (by show (0 : Int) < 4294967296; decide), ?_⟩
      have got : (byteBits b)[j]? = some (b.testBit (7 - j)) := byteBits_get b j hj
      have next : run (crc (bitsOf (bs.take i))) ((byteBits b).take (j + 1)) = stp (run (crc (bitsOf (bs.take i))) ((byteBits b).take j)) (b.testBit (7 - j)) := by
        rw [List.take_add_one, got, run_append]
        rfl
      rw [next]
      generalize run (crc (bitsOf (bs.take i))) ((byteBits b).take j) = R
      have lead := reg_lead R
      have bit : Builtin.bitAnd ((b : Int) / 2 ^ (((7 - j : Nat) : Int)).toNat) 1 = bitI (b.testBit (7 - j)) := by
        rw [Int.toNat_natCast]
        exact bit_is b (7 - j)
      have cond : decide (V.int ((R.toNat : Int) / 2 ^ (31 : Int).toNat) = V.int (Builtin.bitAnd ((b : Int) / 2 ^ (((7 - j : Nat) : Int)).toNat) 1)) = (R.msb == b.testBit (7 - j)) := by
        rw [bit]
        show decide (V.int ((R.toNat : Int) / 2 ^ 31) = _) = _
        rw [lead]
        exact bitI_eq _ _
      have shl := reg_shl R
      refine ⟨_, rfl, _, rfl, rfl, _, rfl, ifnB cond ?_⟩
      cases eq : (R.msb == b.testBit (7 - j)) with
      | true =>
        refine iteT ?_
        have st : stp R (b.testBit (7 - j)) = R <<< 1 := by
          unfold stp
          rw [eq_of_beq eq]
          simp
        exact ⟨_, _, _, by rw [st, ← shl]; rfl, rfl⟩
      | false =>
        refine iteF ⟨_, rfl, _, _, rfl, rfl, ?_⟩
        have st : stp R (b.testBit (7 - j)) = (R <<< 1) ^^^ fac := by
          unfold stp
          rw [show (R.msb != b.testBit (7 - j)) = true by unfold bne; rw [eq]; rfl]
          rfl
        exact ⟨_, _, _, by rw [st, ← reg_xor, ← shl]; rfl, rfl⟩
    · rintro σ G ⟨y3, y4, y5, rfl, rfl⟩
      have e : run (crc (bitsOf (bs.take i))) ((byteBits b).take 8) = crc (bitsOf (bs.take (i + 1))) := by
        rw [List.take_of_length_le (l := byteBits b) (by rw [byteBits_length]; omega), List.take_add_one (l := bs), hb, bitsOf_append]
        unfold crc
        rw [run_append]
        show _ = run _ (byteBits b ++ [])
        rw [List.append_nil]
      rw [e]
      exact ⟨_, _, _, _, rfl, rfl⟩
  · rintro σ H' ⟨x2, x3, x4, x5, rfl, rfl⟩
    rw [bv_len, List.take_of_length_le (Nat.le_refl _)]
    generalize er : crc (bitsOf bs) = R
    have es : sumOf bs = sumB R := by rw [← er]; rfl
    rw [es] at q
    -- the four bytes
    refine ⟨(by show 4 ≤ sizeLine; decide), fun t nt => ⟨t, rfl, ⟨_, SqT.of upd_same⟩, fun D nD => lc_tup (K := K) (a := t) (xs := [.int 3, .int 2, .int 1, .int 0]) (fun i G => Same (upd H' t (.tup [.int 3, .int 2, .int 1, .int 0])) G ∧ G D = some (.lst (bv ((sumB R).take i)))) ⟨Same.new nD, upd_same⟩ (fun i G _ ⟨s, _⟩ => SqT.of (s _ _ upd_same)) ?_ ?_⟩⟩
    · rintro i x G hx ⟨s, e⟩
      obtain ⟨k, hk, rfl, hi⟩ : ∃ k : Nat, (sumB R)[i]? = some (R.toNat / 2 ^ (8 * k) % 256) ∧ x = .int k ∧ i < 4 := by
        match i, hx with
        | 0, hx => exact ⟨3, rfl, (Option.some.inj hx).symm, by decide⟩
        | 1, hx => exact ⟨2, rfl, (Option.some.inj hx).symm, by decide⟩
        | 2, hx => exact ⟨1, rfl, (Option.some.inj hx).symm, by decide⟩
        | 3, hx => exact ⟨0, by show some _ = some _; rw [Nat.mul_zero, Nat.pow_zero, Nat.div_one], (Option.some.inj hx).symm, by decide⟩
        | i + 4, hx => cases hx
      have n0 : (upd H' t (.tup [.int 3, .int 2, .int 1, .int 0])) D = none := nD
      refine ⟨rfl, _, rfl, _, rfl, _, _, rfl, rfl, .inl ⟨by decide, by decide⟩, _, _, rfl, rfl, (by omega), _, _, rfl, rfl, _, e, sq_len (by rw [bv_len, List.length_take]; omega), same_mut s n0, ?_⟩
      have v : Builtin.bitAnd ((R.toNat : Int) / 2 ^ ((8 : Int) * (k : Int)).toNat) 255 = ((R.toNat / 2 ^ (8 * k) % 256 : Nat) : Int) := by
        rw [show ((8 : Int) * (k : Int)).toNat = 8 * k by omega]
        exact byte_is _ _
      rw [upd_same, List.take_add_one, hk, bv_app]
      show some (HO.lst (_ ++ [V.int (Builtin.bitAnd ((R.toNat : Int) / 2 ^ ((8 : Int) * (k : Int)).toNat) 255)])) = _
      rw [v]
      rfl
    · rintro G ⟨s, e⟩
      exact q D G ((Same.new nt).trans s) ((Same.new nt).free nD) e
theorem ok_block (T : Top K mg "block" st_block ["number", "count", "data"]) (D_sum_of_bits : Def P w K mg base 1 "sum_of_bits" ["told"] (spSum K)) : Def P w K mg base 2 "block" ["number", "count", "data"] spBlock := by
  refine T.ok sc_block (fun vs H Q E h => ?_) (fun f cdv A outer s H vs Q E hr h => ?_)
  · obtain ⟨a, n, c, d, rfl, _⟩ := h
    rfl
  obtain ⟨a, n, c, d, rfl, ha, hl, q⟩ := h
  refine ⟨_, (pss_cons (ps_set (i := 3) sc_block.nd rfl (Or.inl rfl) (pe_op op_cat (pe_lst (pa_cons (pe_op op_fdiv (pv 0) pe_int) (pa_cons (pe_op op_mod (pv 0) pe_int) (pa_cons (pe_op op_fdiv (pv 1) pe_int) (pa_cons (pe_op op_mod (pv 1) pe_int) pa_nil))))) (pv 2)))
    (pss_one (ps_ret (pe_op op_cat (pv 3) (pe_def D_sum_of_bits (hr.mono (by decide)) rfl (pa_cons (pv 3) pa_nil)))))), ?_⟩
  have big : ∀ {n : Nat}, n ≤ 1100 → n ≤ sizeLine := fun h => Nat.le_of_lt (sq_len (by omega))
  refine ⟨_, rfl, _, _, rfl, rfl, ⟨by decide, by decide⟩, _, rfl, _, _, rfl, rfl, (by show (0 : Int) < 256; decide), _, rfl, _, _, rfl, rfl, ⟨by decide, by decide⟩, _, rfl, _, _, rfl, rfl, (by show (0 : Int) < 256; decide), (by show 4 ≤ sizeLine; decide), fun o no => ?_⟩
  have sa : (upd H o (.lst [.int ((n : Int) / 256), .int ((n : Int) % 256), .int ((c : Int) / 256), .int ((c : Int) % 256)])) a = some (.lst (bv d)) := Same.new no _ _ ha
  refine ⟨.ref a, rfl, o, a, _, _, rfl, rfl, upd_same, sa, big (by rw [bv_len]; show 4 + d.length ≤ 1100; omega), fun p np => ?_⟩
  have e : (V.int ((n : Int) / 256) :: .int ((n : Int) % 256) :: .int ((c : Int) / 256) :: .int ((c : Int) % 256) :: bv d) = bv ([n / 256, n % 256, c / 256, c % 256] ++ d) := rfl
  have s1 : Same H (upd (upd H o (.lst [.int ((n : Int) / 256), .int ((n : Int) % 256), .int ((c : Int) / 256), .int ((c : Int) % 256)])) p (.lst (bv ([n / 256, n % 256, c / 256, c % 256] ++ d)))) := (Same.new no).trans (Same.new np)
  refine ⟨.ref p, rfl, .ref p, rfl, p, [n / 256, n % 256, c / 256, c % 256] ++ d, rfl, SqL.of upd_same, fun r H2 s2 nr er => ?_⟩
  have ep := s2 _ _ (upd_same (H := upd H o (.lst [.int ((n : Int) / 256), .int ((n : Int) % 256), .int ((c : Int) / 256), .int ((c : Int) % 256)])) (a := p) (o := .lst (bv ([n / 256, n % 256, c / 256, c % 256] ++ d))))
  refine ⟨p, r, _, _, rfl, rfl, ep, er, big (by rw [bv_len, bv_len, sumOf_length, List.length_append]; show 4 + d.length + 4 ≤ 1100; omega), fun z nz => ?_⟩
  refine q z _ (same_mut (s1.trans s2) ((s1.trans s2).free nz)) ((s1.trans s2).free nz) ?_
  rw [upd_same, ← bv_app]
  rfl
theorem ok_blocks_of (T : Top K mg "blocks_of" st_blocks_of ["told"]) (C : Consts mg) (D_block : Def P w K mg base 2 "block" ["number", "count", "data"] spBlock) (z_len : mg "len" = none) (z_range : mg "range" = none) : Def P w K mg base 3 "blocks_of" ["told"] spBlocksOf := by
  obtain ⟨_, m_DATA⟩ := C.DATA
  refine T.ok sc_blocks_of (fun vs H Q E h => ?_) (fun f cdv A outer s H vs Q E hr h => ?_)
  · obtain ⟨a, bs, rfl, _⟩ := h
    rfl
  obtain ⟨a, bs, rfl, ha, hl, q⟩ := h
  refine ⟨_, (pss_cons (ps_set (i := 1) sc_blocks_of.nd rfl (Or.inl rfl) (pe_op op_cat (pv 0) (pe_lst (pa_cons pe_int pa_nil))))
    (pss_cons (ps_set (i := 2) sc_blocks_of.nd rfl (Or.inl rfl) (pe_un un_neg (pe_op op_fdiv (pe_un un_neg (pe_callB (lenQ K) rfl z_len (by decide +kernel) (pa_cons (pv 1) pa_nil))) (pe_glob (v := .int 56) rfl m_DATA ⟨_, rfl⟩))))
    (pss_cons (ps_set (i := 1) sc_blocks_of.nd rfl (Or.inl rfl) (pe_op op_cat (pv 1) (pe_op op_rep (pe_lst (pa_cons pe_int pa_nil)) (pe_op op_sub (pe_op op_mul (pv 2) (pe_glob (v := .int 56) rfl m_DATA ⟨_, rfl⟩)) (pe_callB (lenQ K) rfl z_len (by decide +kernel) (pa_cons (pv 1) pa_nil))))))
    (pss_cons (ps_set (i := 3) sc_blocks_of.nd rfl (Or.inl rfl) (pe_lst pa_nil))
    (pss_cons (ps_for PassesOwn.never rfl (pi_range1 rfl z_range (pa_cons (pv 2) pa_nil)) (pg_name (i := 4) sc_blocks_of.nd rfl (Or.inl rfl))
    (pss_one (ps_expr (pe_bm PySem.F.plainAttrs_list PySem.F.slot_list_extend PySem.F.type_list_extend mt_extend (pv 3) (pa_cons (pe_def D_block (hr.mono (by decide)) rfl (pa_cons (pe_op op_add (pv 4) pe_int) (pa_cons (pv 2) (pa_cons (pe_slice (slL K) (pv 1) (po_some (pe_op op_mul (pv 4) (pe_glob (v := .int 56) rfl m_DATA ⟨_, rfl⟩))) (po_some (pe_op op_mul (pe_op op_add (pv 4) pe_int) (pe_glob (v := .int 56) rfl m_DATA ⟨_, rfl⟩)))) pa_nil)))) pa_nil)))))
    (pss_one (ps_ret (pv 3)))))))), ?_⟩
  have big : ∀ {n : Nat}, n ≤ 900000 → n ≤ sizeLine := fun h => Nat.le_of_lt (sq_len (by omega))
  -- data = told + [1]
  refine ⟨.ref a, rfl, (by show 1 ≤ sizeLine; decide), fun o no => ?_⟩
  have s1 : Same H (upd H o (.lst [.int 1])) := Same.new no
  refine ⟨a, o, bv bs, [.int 1], rfl, rfl, s1 _ _ ha, upd_same, big (by rw [bv_len]; show bs.length + 1 ≤ 900000; omega), fun d nd => ?_⟩
  have s2 := s1.trans (Same.new (o := .lst (bv (bs ++ [1]))) nd)
  have e1 : bv bs ++ [V.int 1] = bv (bs ++ [1]) := (bv_app bs [1]).symm
  rw [e1]
  generalize hG : upd (upd H o (.lst [.int 1])) d (.lst (bv (bs ++ [1]))) = G at s2
  have ed : G d = some (.lst (bv (bs ++ [1]))) := by rw [← hG]; exact upd_same
  -- count = -(-len(data) // DATA)
  refine ⟨.ref d, rfl, d, _, rfl, .inl (SqL.of ed), _, rfl, _, _, rfl, rfl, ⟨by decide, by decide⟩, _, rfl, ?_⟩
  have ec : -(-(((bv (bs ++ [1])).length : Nat) : Int) / 56) = ((cntOf bs : Nat) : Int) := by
    rw [bv_len, List.length_append, List.length_singleton]
    unfold cntOf
    omega
  dsimp only
  rw [ec]
  have cp := cnt_pos bs
  have cl := cnt_le bs
  have cu : 56 * cntOf bs ≤ bs.length + 56 := by unfold cntOf; omega
  -- data = data + [0] * (count * DATA - len(data))
  refine ⟨.ref d, rfl, (by show 1 ≤ sizeLine; decide), fun z nz => ?_⟩
  have s3 := s2.trans (Same.new (o := .lst [.int 0]) nz)
  have ed3 : (upd G z (.lst [.int 0])) d = some (.lst (bv (bs ++ [1]))) := by
    rw [upd_ne (ne_of_none ed nz)]
    exact ed
  have ek : (cntOf bs : Int) * 56 - ((bv (bs ++ [1])).length : Int) = ((56 * cntOf bs - (bs.length + 1) : Nat) : Int) := by
    rw [bv_len, List.length_append, List.length_singleton]
    omega
  refine ⟨_, rfl, _, _, rfl, rfl, .inr ⟨by decide, by decide⟩, .ref d, rfl, d, _, rfl, .inl (SqL.of ed3), _, _, rfl, rfl, ?_⟩
  dsimp only
  rw [ek]
  refine ⟨z, _, [.int 0], rfl, rfl, upd_same, by omega, by omega, big (by rw [Int.toNat_natCast]; show 1 * _ ≤ 900000; omega), fun y ny => ?_⟩
  have er : (List.replicate ((56 * cntOf bs - (bs.length + 1) : Nat) : Int).toNat [V.int 0]).flatten = bv (List.replicate (56 * cntOf bs - (bs.length + 1)) 0) := by
    rw [Int.toNat_natCast]
    generalize 56 * cntOf bs - (bs.length + 1) = m
    unfold bv
    rw [List.map_replicate]
    induction m with
    | zero => rfl
    | succ m ih => rw [List.replicate_succ, List.flatten_cons, ih, List.replicate_succ]; rfl
  rw [er]
  generalize hG2 : upd (upd G z (.lst [.int 0])) y (.lst (bv (List.replicate (56 * cntOf bs - (bs.length + 1)) 0))) = G2
  have s4 : Same H G2 := by rw [← hG2]; exact s3.trans (Same.new ny)
  have ed4 : G2 d = some (.lst (bv (bs ++ [1]))) := by rw [← hG2, upd_ne (ne_of_none ed3 ny)]; exact ed3
  have ey : G2 y = some (.lst (bv (List.replicate (56 * cntOf bs - (bs.length + 1)) 0))) := by rw [← hG2]; exact upd_same
  refine ⟨d, y, _, _, rfl, rfl, ed4, ey, big (by rw [bv_len, bv_len, List.length_append, List.length_replicate, List.length_singleton]; omega), fun x nx => ?_⟩
  rw [← bv_app]
  generalize hG3 : upd G2 x (.lst (bv (bs ++ [1] ++ List.replicate (56 * cntOf bs - (bs.length + 1)) 0))) = G3
  have s5 : Same H G3 := by rw [← hG3]; exact s4.trans (Same.new nx)
  have ex : G3 x = some (.lst (bv (padded bs))) := by rw [← hG3]; exact upd_same
  -- found = []
  refine ⟨Nat.zero_le _, fun fo nfo => ?_⟩
  have nf0 : H fo = none := s5.free nfo
  have nxf : x ≠ fo := ne_of_none ex nfo
  -- for at in range(count)
  refine ⟨_, rfl, (cntOf bs : Int), rfl, by omega, by omega, for_range (lo := 0) (n := ((cntOf bs : Int)).toNat) (fun i σ H' => ∃ y4 : Option V, σ = [some (.ref a), some (.ref x), some (.int (cntOf bs)), some (.ref fo), y4] ∧ Same H H' ∧ H' x = some (.lst (bv (padded bs))) ∧
    H' fo = some (.lst (bv ((List.range i).flatMap fun k => blk (k + 1) (cntOf bs) (Crc.part bs k))))) ⟨_, rfl, same_mut s5 nf0, by rw [upd_ne nxf]; exact ex, upd_same⟩ ?_ ?_⟩
  · rintro i σ H' hi ⟨y4, rfl, sm, ex', ef⟩
    rw [Int.toNat_natCast] at hi
    have lf := flat_length (f := fun k => blk (k + 1) (cntOf bs) (Crc.part bs k)) i fun k hk => blk_length (part_length (by omega))
    refine ⟨.ref fo, rfl, .inl ⟨rfl, _, SqL.of ef⟩, _, rfl, _, _, rfl, rfl, _, rfl, .ref x, rfl, _, rfl, _, _, rfl, rfl, .inr ⟨by decide, by decide⟩, _, rfl, _, rfl, _, _, rfl, rfl, _, _, rfl, rfl, .inr ⟨by decide, by decide⟩, _, rfl, x, _, rfl, SqL.of ex', fun pt npt => ?_⟩
    have e0 : (0 : Int) + (i : Int) + 1 = ((i + 1 : Nat) : Int) := by omega
    have e2 : ((0 : Int) + (i : Int)) * 56 = ((56 * i : Nat) : Int) := by omega
    have e3 : ((0 : Int) + (i : Int) + 1) * 56 = ((56 * (i + 1) : Nat) : Int) := by omega
    have ecut : cutV (bv (padded bs)) (some (((0 : Int) + (i : Int)) * 56)) (some (((0 : Int) + (i : Int) + 1) * 56)) = bv (Crc.part bs i) := by
      rw [e2, e3, cut_mid, bv_drop, bv_take]
      unfold Crc.part
      rw [show 56 * (i + 1) - 56 * i = 56 by omega]
    refine ⟨pt, i + 1, cntOf bs, Crc.part bs i, (by show [V.int ((0 : Int) + (i : Int) + 1), V.int (cntOf bs), V.ref pt] ++ [] = _; rw [e0]; rfl), upd_same.trans (congrArg (fun l => some (HO.lst l)) ecut), by rw [part_length hi]; decide, fun b H2 s2' nb eb => ?_⟩
    have s6 : Same H' H2 := (Same.new npt).trans s2'
    refine ⟨fo, b, _, _, rfl, rfl, s6 _ _ ef, eb, big (by rw [bv_len, bv_len, lf, blk_length (part_length hi)]; omega), ?_⟩
    refine ⟨_, rfl, same_mut (sm.trans s6) nf0, ?_, ?_⟩
    · rw [upd_ne nxf]
      exact s6 _ _ ex'
    · rw [upd_same, ← bv_app, List.range_succ, List.flatMap_append]
      simp only [List.flatMap_cons, List.flatMap_nil, List.append_nil]
  · rintro σ H' ⟨y4, rfl, sm, ex', ef⟩
    rw [Int.toNat_natCast] at ef
    exact ⟨_, rfl, q fo H' sm nf0 ef⟩
theorem bv_at {l : List Nat} {i : Nat} (h : i < l.length) : atI (bv l) (i : Int) = some (.int (l.getD i 0 : Nat)) := by
  refine atI_nat (bv_get ?_)
  rw [List.getD_eq_getElem?_getD, List.getElem?_eq_getElem h]
  rfl
theorem inV_c (o : Option Nat) (m : Nat) : inV (cV o) [.non, .int (m : Int)] = decide (o = none ∨ o = some m) := by
  cases o with
  | none => exact (decide_eq_true (.inl rfl)).symm
  | some c =>
    show (eqV .non (.int c) || (eqV (.int m) (.int c) || false)) = _
    by_cases e : m = c
    · subst e
      rw [decide_eq_true (.inr rfl)]
      show (false || (((m : Int) == (m : Int)) || false)) = true
      rw [beq_self_eq_true]
      rfl
    · rw [decide_eq_false (fun z => by
        rcases z with z | z
        · cases z
        · exact e (Option.some.inj z).symm)]
      show (false || (((m : Int) == (c : Int)) || false)) = false
      rw [beq_eq_false_iff_ne.mpr (by omega)]
      rfl
theorem flat_c (o : Option Nat) : flatV (cV o) = true := by cases o <;> rfl
theorem ok_is_block (T : Top K mg "is_block" st_is_block ["told", "number", "count"]) (C : Consts mg) (D_sum_of_bits : Def P w K mg base 1 "sum_of_bits" ["told"] (spSum K)) (z_len : mg "len" = none) : Def P w K mg base 2 "is_block" ["told", "number", "count"] (spIsBlock K) := by
  obtain ⟨_, m_SIZE⟩ := C.SIZE
  refine T.ok sc_is_block (fun vs H Q E h => ?_) (fun f cdv A outer s H vs Q E hr h => ?_)
  · obtain ⟨a, l, n, o, rfl, _⟩ := h
    rfl
  obtain ⟨a, l, n, o, rfl, ha, q⟩ := h
  refine ⟨_, (pss_cons (ps_if (PW.pt (pw_or (pt_cmpR op_ne (pe_callB (lenQ K) rfl z_len (by decide +kernel) (pa_cons (pv 0) pa_nil)) (pe_glob (v := .int 64) rfl m_SIZE ⟨_, rfl⟩) (nomark _)) (pw_or1 (pt_cmpR (neQ K hr.units) (pe_slice (slL K) (pv 0) (po_some pe_int) po_none) (pe_def D_sum_of_bits (hr.mono (by decide)) rfl (pa_cons (pe_slice (slL K) (pv 0) po_none (po_some pe_int)) pa_nil)) (nomark _)))))
    (pss_one (ps_ret pe_bl))
    pss_nil)
    (pss_cons (ps_set (i := 3) sc_is_block.nd rfl (Or.inl rfl) (pe_op op_add (pe_op op_mul pe_int (pe_ix (ixL K) (pv 0) pe_int (fun _ _ => rfl))) (pe_ix (ixL K) (pv 0) pe_int (fun _ _ => rfl))))
    (pss_one (ps_ret (pe_and (pe_cmpR op_eq (pe_op op_add (pe_op op_mul pe_int (pe_ix (ixL K) (pv 0) pe_int (fun _ _ => rfl))) (pe_ix (ixL K) (pv 0) pe_int (fun _ _ => rfl))) (pv 1) (nomark _)) (pe_and (pe_cmpR op_ge (pv 3) (pv 1) (nomark _)) (pe_one (pe_cmpR (inQ K) (pv 2) (pe_tup (pa_cons pe_non (pa_cons (pv 3) pa_nil))) (by with_unfolding_all rfl))))))))), ?_⟩
  refine ⟨.ref a, rfl, a, _, rfl, .inl ha, rfl, _, rfl, ?_⟩
  by_cases l64 : ¬ l.length = 64
  · refine ifnND (fun z => l64 ?_) (iteT ?_)
    · have := V.int.inj z
      rw [bv_len] at this
      omega
    · rw [show false = decide (IsBlk l n o) from (decide_eq_false fun z => l64 z.1).symm]
      exact q _ (Same.refl _)
  have l64 : l.length = 64 := Decidable.of_not_not l64
  refine ifnD (by rw [bv_len, l64]; rfl) ?_
  refine ⟨.ref a, rfl, 60, rfl, a, _, rfl, ha, fun p np => ?_⟩
  have ep : cutV (bv l) (some 60) none = bv (l.drop 60) := (cut_ge _ 60).trans (bv_drop _ _)
  have eq : cutV (bv l) none (some 60) = bv (l.take 60) := (cut_lt _ 60).trans (bv_take _ _)
  rw [ep]
  refine ⟨.ref a, rfl, 60, rfl, a, _, rfl, (Same.new np).seq ha, fun p2 np2 => ?_⟩
  rw [eq]
  refine ⟨p2, l.take 60, rfl, SqL.of upd_same, fun r H2 s2 nr er => ?_⟩
  have s3 : Same H H2 := ((Same.new np).trans (Same.new np2)).trans s2
  have e1 : SqL K H2 p (bv (l.drop 60)) := s2.seq ((Same.new np2).seq (SqL.of upd_same))
  have a2 := s3.seq ha
  refine ⟨nd (l.drop 60), nd (sumOf (l.take 60)), dp_list e1, dp_list (SqL.of er), shaped_nums _, shaped_nums _, _, rfl, ?_⟩
  rw [eqv_nums]
  by_cases sm : ¬ l.drop 60 = sumOf (l.take 60)
  · refine ifnND sm ?_
    rw [show false = decide (IsBlk l n o) from (decide_eq_false fun z => sm z.2.1).symm]
    exact q _ s3
  have sm := Decidable.of_not_not sm
  refine ifnD sm ?_
  have at_ : ∀ i : Nat, i < 64 → atI (bv l) (i : Int) = some (.int (l.getD i 0 : Nat)) := fun i hi => bv_at (by omega)
  refine ⟨.ref a, rfl, a, _, _, _, rfl, rfl, a2, at_ 2 (by decide), _, _, rfl, rfl, .inl ⟨by decide, by decide⟩, .ref a, rfl, a, _, _, _, rfl, rfl, a2, at_ 3 (by decide), _, _, rfl, rfl, ?_⟩
  refine ⟨.ref a, rfl, a, _, _, _, rfl, rfl, a2, at_ 0 (by decide), _, _, rfl, rfl, .inl ⟨by decide, by decide⟩, .ref a, rfl, a, _, _, _, rfl, rfl, a2, at_ 1 (by decide), _, _, rfl, rfl, _, rfl, rfl, _, rfl, ?_⟩
  have c0 : (256 : Int) * (l.getD 2 0 : Nat) + (l.getD 3 0 : Nat) = ((Crc.cnt l : Nat) : Int) := by
    unfold Crc.cnt
    omega
  by_cases nm : ¬ 256 * l.getD 0 0 + l.getD 1 0 = n
  · refine ifND (fun z => nm ?_) ?_
    · have := V.int.inj z
      omega
    · rw [show false = decide (IsBlk l n o) from (decide_eq_false fun z => nm z.2.2.1).symm]
      exact q _ s3
  have nm := Decidable.of_not_not nm
  refine ifD (congrArg V.int (by omega)) ?_
  refine ⟨_, rfl, _, rfl, _, _, rfl, rfl, _, rfl, ?_⟩
  by_cases le : ¬ n ≤ Crc.cnt l
  · refine ifND (by omega) ?_
    rw [show false = decide (IsBlk l n o) from (decide_eq_false fun z => le z.2.2.2.1).symm]
    exact q _ s3
  have le := Decidable.of_not_not le
  refine ifD (by omega) ?_
  refine ⟨_, rfl, _, rfl, (by show 2 ≤ sizeLine; decide), fun t nt => ⟨t, _, rfl, .inr (SqT.of upd_same), flat_c o, rfl, ?_⟩⟩
  rw [if_neg Bool.false_ne_true]
  have ei : inV (cV o) [.non, .int ((256 : Int) * (l.getD 2 0 : Nat) + (l.getD 3 0 : Nat))] = decide (IsBlk l n o) := by
    rw [c0, inV_c]
    refine decide_eq_decide.mpr ⟨fun z => ⟨l64, sm, nm, le, z⟩, fun z => z.2.2.2.2⟩
  have z := q _ (s3.trans (Same.new (o := .tup [.non, .int ((256 : Int) * (l.getD 2 0 : Nat) + (l.getD 3 0 : Nat))]) nt))
  rw [← ei] at z
  exact z
theorem wend_snoc (l : List Nat) : wend (l ++ [0]) = wend l := by
  unfold wend
  rw [List.reverse_append]
  rfl
theorem wend_last {l : List Nat} {x : Nat} (h : x ≠ 0) : wend (l ++ [x]) = if x = 1 then some l else none := by
  unfold wend
  rw [List.reverse_append]
  show (match List.dropWhile (· == 0) (x :: l.reverse) with | 1 :: t => some t.reverse | _ => none) = _
  rw [List.dropWhile_cons, if_neg (by simpa using h)]
  by_cases e : x = 1
  · subst e
    rw [if_pos rfl]
    simp
  · rw [if_neg e]
    match x, e, h with
    | 0, _, h => exact absurd rfl h
    | 1, e, _ => exact absurd rfl e
    | x + 2, _, _ => rfl
def WendW (H : Hp) (a : Addr) (l : List Nat) (m : Nat) (σ : L2.St) (H' : Hp) : Prop := σ = [some (.ref a), some (.int ((m : Int) - 1))] ∧ H' = H ∧ m ≤ l.length ∧ wend l = wend (l.take m)
theorem ok_without_end (T : Top K mg "without_end" st_without_end ["data"]) (z_len : mg "len" = none) : Def P w K mg base 1 "without_end" ["data"] (spWend K) := by
  refine T.ok sc_without_end (fun vs H Q E h => ?_) (fun f cdv A outer s H vs Q E hr h => ?_)
  · obtain ⟨a, l, rfl, _⟩ := h
    rfl
  obtain ⟨a, l, rfl, ha, q⟩ := h
  refine ⟨_, (pss_cons (ps_set (i := 1) sc_without_end.nd rfl (Or.inl rfl) (pe_op op_sub (pe_callB (lenQ K) rfl z_len (by decide +kernel) (pa_cons (pv 0) pa_nil)) pe_int))
    (pss_cons (ps_while PassesOwn.never (PW.pt (pw_and (pt_cmpR op_ge (pv 1) pe_int (nomark _)) (pw_and1 (pt_cmpR op_eq (pe_ix (ixL K) (pv 0) (pv 1) (fun _ _ => rfl)) pe_int (nomark _)))))
    (pss_one (ps_set (i := 1) sc_without_end.nd rfl (Or.inl rfl) (pe_op op_sub (pv 1) pe_int))))
    (pss_one (ps_ret (pe_ifExp (PW.pt (pw_and (pt_cmpR op_ge (pv 1) pe_int (nomark _)) (pw_and1 (pt_cmpR op_eq (pe_ix (ixL K) (pv 0) (pv 1) (fun _ _ => rfl)) pe_int (nomark _))))) (pe_slice (slL K) (pv 0) po_none (po_some (pv 1))) pe_non))))), ?_⟩
  refine ⟨.ref a, rfl, a, _, rfl, .inl ha, _, _, rfl, rfl, ?_⟩
  refine ⟨WendW H a l, ⟨l.length, by rw [bv_len]; rfl, rfl, Nat.le_refl _, by rw [List.take_length]⟩, ?_⟩
  rintro m σ H' ⟨rfl, rfl, hm, ew⟩
  refine ⟨_, rfl, _, _, rfl, rfl, _, rfl, ?_⟩
  cases m with
  | zero =>
    refine ifND (by omega) (iteF ?_)
    refine ⟨_, rfl, _, _, rfl, rfl, _, rfl, ifND (by omega) (iteF ?_)⟩
    exact q .non _ (Same.refl _) (by rw [ew]; rfl)
  | succ k =>
    have lt : k < l.length := by omega
    have e1 : ((k + 1 : Nat) : Int) - 1 = (k : Int) := by omega
    have et : l.take (k + 1) = l.take k ++ [l.getD k 0] := by
      rw [List.take_succ_eq_append_getElem lt, List.getD_eq_getElem?_getD, List.getElem?_eq_getElem lt]
      rfl
    refine ifD (by omega) ⟨.ref a, rfl, _, rfl, a, _, _, _, rfl, rfl, ha, (by rw [e1]; exact bv_at lt), rfl, _, rfl, ?_⟩
    by_cases z : l.getD k 0 = 0
    · refine ifD (by rw [z]; rfl) ?_
      refine ⟨WendW H' a l k, fun σ' G w => ⟨k, by omega, w⟩, ?_⟩
      refine ⟨_, rfl, _, _, rfl, rfl, by rw [e1]; rfl, rfl, by omega, ?_⟩
      rw [ew, et, z, wend_snoc]
    · refine ifND (fun y => z (by have := V.int.inj y; omega)) ?_
      rw [et, wend_last z] at ew
      refine ⟨_, rfl, _, _, rfl, rfl, _, rfl, ifD (by omega) ⟨.ref a, rfl, _, rfl, a, _, _, _, rfl, rfl, ha, (by rw [e1]; exact bv_at lt), rfl, _, rfl, ?_⟩⟩
      by_cases one : l.getD k 0 = 1
      · refine ifD (by rw [one]; rfl) ?_
        refine ⟨.ref a, rfl, _, rfl, _, rfl, a, _, rfl, ha, fun p np => ?_⟩
        have ec : cutV (bv l) none (some (((k + 1 : Nat) : Int) - 1)) = bv (l.take k) := by
          rw [e1, cut_lt, bv_take]
        rw [if_pos one] at ew
        refine q (.ref p) _ (Same.new np) ?_
        rw [ew]
        exact ⟨p, rfl, np, by rw [upd_same, ec]⟩
      · refine ifND (fun y => one (by have := V.int.inj y; omega)) ?_
        rw [if_neg one] at ew
        exact q .non _ (Same.refl _) (by rw [ew]; rfl)
def DataW (H : Hp) (a : Addr) (q : Addr) (told : List Nat) (m : Nat) (σ : L2.St) (G : Hp) : Prop := ∃ (x4 x5 : Option V) (number : Nat) (o : Option Nat) (data : List Nat), σ = [some (.ref a), some (.ref q), some (cV o), some (.int (number : Int)), x4, x5] ∧ Same H G ∧ G q = some (.lst (bv data)) ∧ 64 * number ≤ told.length ∧ data.length = 56 * number ∧ m + number = told.length + 1 ∧ (o = none → number = 0) ∧ go told (m + 1) number o data = dataOf told
theorem wend_length {l ll : List Nat} (h : wend l = some ll) : ll.length < l.length := by
  unfold wend at h
  have le : (l.reverse.dropWhile (· == 0)).length ≤ l.length := by
    have := (List.dropWhile_sublist (l := l.reverse) (· == 0)).length_le
    rw [List.length_reverse] at this
    exact this
  split at h
  · rename_i t e
    rw [e] at le
    cases h
    rw [List.length_reverse]
    exact le
  · cases h
theorem count_test {x0 x1 x4 x5 : Option V} {o : Option Nat} {n : Nat} {G : Hp} {F : Bool → Hp → Prop} (h1 : (o = none ∨ n < o.getD 0) → F true G) (h2 : ¬ (o = none ∨ n < o.getD 0) → F false G) :
    tOr (tTest (tOp (fun x y H Q => y = V.non ∧ Q (V.bl (decide (x = V.non))) H) (tVar 2) (tC V.non))) (tTest (tOp (rI0 fun i j => V.bl (decide (i < j))) (tVar 3) (tVar 2))) [x0, x1, some (cV o), some (.int (n : Int)), x4, x5] G F := by
  refine ⟨cV o, rfl, rfl, _, rfl, ?_⟩
  cases o with
  | none => exact ifD rfl (h1 (.inl rfl))
  | some c =>
    refine ifND (fun z => by cases z) ⟨_, rfl, _, rfl, _, _, rfl, rfl, _, rfl, ?_⟩
    by_cases h : n < c
    · rw [decide_eq_true (show (n : Int) < (c : Int) by omega)]
      exact h1 (.inr h)
    · rw [decide_eq_false (show ¬ (n : Int) < (c : Int) by omega)]
      exact h2 fun z => z.elim (fun z => by cases z) h
theorem ok_data_of (T : Top K mg "data_of" st_data_of ["told"]) (C : Consts mg) (z_len : mg "len" = none) (D_is_block : Def P w K mg base 2 "is_block" ["told", "number", "count"] (spIsBlock K)) (D_without_end : Def P w K mg base 1 "without_end" ["data"] (spWend K)) : Def P w K mg base 3 "data_of" ["told"] (spDataOf K) := by
  have big : ∀ {n : Nat}, n ≤ 900000 → n ≤ sizeLine := fun h => Nat.le_trans h (by decide)
  obtain ⟨_, m_SIZE⟩ := C.SIZE
  obtain ⟨_, m_DATA⟩ := C.DATA
  refine T.ok sc_data_of (fun vs H Q E h => ?_) (fun f cdv A outer s H vs Q E hr h => ?_)
  · obtain ⟨a, l, rfl, _⟩ := h
    rfl
  obtain ⟨a, l, rfl, ha, hl, q⟩ := h
  refine ⟨_, (pss_cons (ps_set (i := 1) sc_data_of.nd rfl (Or.inl rfl) (pe_lst pa_nil))
    (pss_cons (ps_set (i := 2) sc_data_of.nd rfl (Or.inl rfl) pe_non)
    (pss_cons (ps_set (i := 3) sc_data_of.nd rfl (Or.inl rfl) pe_int)
    (pss_cons (ps_while PassesOwn.never (PW.pt (pw_or (pt_cmpR op_isN (pv 2) pe_non (nomark _)) (pw_or1 (pt_cmpR op_lt (pv 3) (pv 2) (nomark _)))))
    (pss_cons (ps_set (i := 4) sc_data_of.nd rfl (Or.inl rfl) (pe_slice (slL K) (pv 0) (po_some (pe_op op_mul (pe_glob (v := .int 64) rfl m_SIZE ⟨_, rfl⟩) (pv 3))) (po_some (pe_op op_mul (pe_glob (v := .int 64) rfl m_SIZE ⟨_, rfl⟩) (pe_op op_add (pv 3) pe_int)))))
      (pss_cons (ps_set (i := 3) sc_data_of.nd rfl (Or.inl rfl) (pe_op op_add (pv 3) pe_int))
      (pss_cons (ps_if (pt_not (pt_val (pe_def D_is_block (hr.mono (by decide)) rfl (pa_cons (pv 4) (pa_cons (pv 3) (pa_cons (pv 2) pa_nil))))))
      (pss_one (ps_ret (pe_tup (pa_cons pe_str (pa_cons (pv 3) pa_nil)))))
      pss_nil)
      (pss_cons (ps_set (i := 2) sc_data_of.nd rfl (Or.inl rfl) (pe_op op_add (pe_op op_mul pe_int (pe_ix (ixL K) (pv 4) pe_int (fun _ _ => rfl))) (pe_ix (ixL K) (pv 4) pe_int (fun _ _ => rfl))))
      (pss_one (ps_expr (pe_bm PySem.F.plainAttrs_list PySem.F.slot_list_extend PySem.F.type_list_extend mt_extend (pv 1) (pa_cons (pe_slice (slL K) (pv 4) (po_some pe_int) (po_some pe_int)) pa_nil)))))))))
    (pss_cons (ps_set (i := 5) sc_data_of.nd rfl (Or.inl rfl) (pe_def D_without_end (hr.mono (by decide)) rfl (pa_cons (pe_slice (slL K) (pv 1) (po_some (pe_un un_neg (pe_glob (v := .int 56) rfl m_DATA ⟨_, rfl⟩))) po_none) pa_nil)))
    (pss_cons (ps_if (pt_cmpR op_isN (pv 5) pe_non (nomark _))
    (pss_one (ps_ret (pe_tup (pa_cons pe_str (pa_cons (pv 3) pa_nil)))))
    pss_nil)
    (pss_cons (ps_if (pt_cmpR op_gt (pe_callB (lenQ K) rfl z_len (by decide +kernel) (pa_cons (pv 0) pa_nil)) (pe_op op_mul (pe_glob (v := .int 64) rfl m_SIZE ⟨_, rfl⟩) (pv 2)) (nomark _))
    (pss_one (ps_ret (pe_tup (pa_cons pe_str (pa_cons (pe_op op_add (pv 2) pe_int) pa_nil)))))
    pss_nil)
    (pss_one (ps_ret (pe_tup (pa_cons pe_str (pa_cons (pe_op op_cat (pe_slice (slL K) (pv 1) po_none (po_some (pe_un un_neg (pe_glob (v := .int 56) rfl m_DATA ⟨_, rfl⟩)))) (pv 5)) pa_nil)))))))))))), ?_⟩
  refine ⟨Nat.zero_le _, fun p np => ?_⟩
  refine ⟨DataW H a p l, ⟨l.length + 1, none, none, 0, none, [], rfl, Same.new np, upd_same, Nat.zero_le _, rfl, rfl, fun _ => rfl, rfl⟩, ?_⟩
  rintro m σ G ⟨x4, x5, number, o, data, rfl, sm, hp, hn, hd, hm, ho, hgo⟩
  have ha' := sm.seq ha
  refine count_test (fun c => iteT ?_) fun c => iteF ?_
  · refine ⟨fun σ' G' => DataW H a p l (m - 1) σ' G', fun σ' G' w => ⟨m - 1, by omega, w⟩, ?_⟩
    -- here
    refine ⟨.ref a, rfl, _, rfl, _, _, rfl, rfl, .inl ⟨by decide, by decide⟩, _, rfl, _, rfl, _, _, rfl, rfl, _, _, rfl, rfl, .inl ⟨by decide, by decide⟩, _, rfl, a, _, rfl, ha', fun h nh => ?_⟩
    have ecut : cutV (bv l) (some (64 * (number : Int))) (some (64 * ((number : Int) + 1))) = bv (chunk l number) := by
      rw [show (64 : Int) * (number : Int) = ((64 * number : Nat) : Int) by omega, show (64 : Int) * ((number : Int) + 1) = ((64 * number + 64 : Nat) : Int) by omega, cut_mid, bv_drop, bv_take]
      unfold chunk
      rw [show 64 * number + 64 - 64 * number = 64 by omega]
    dsimp only
    rw [ecut]
    generalize hG1 : upd G h (.lst (bv (chunk l number))) = G1
    have s1 : Same G G1 := by rw [← hG1]; exact Same.new nh
    have eh : G1 h = some (.lst (bv (chunk l number))) := by rw [← hG1]; exact upd_same
    have e1 : (number : Int) + 1 = ((number + 1 : Nat) : Int) := by omega
    refine ⟨_, rfl, _, _, rfl, rfl, ?_⟩
    refine ⟨_, rfl, _, rfl, _, rfl, h, chunk l number, number + 1, o, (by show [V.ref h, V.int ((number : Int) + 1), cV o] ++ [] = _; rw [e1]; rfl), SqL.of eh, fun G2 s2 => ?_⟩
    have s3 := (sm.trans s1).trans s2
    refine ⟨_, rfl, ?_⟩
    by_cases b : IsBlk (chunk l number) (number + 1) o
    · rw [decide_eq_true b]
      refine iteF ?_
      have l64 := b.1
      have at_ : ∀ i : Nat, i < 64 → atI (bv (chunk l number)) (i : Int) = some (.int ((chunk l number).getD i 0 : Nat)) := fun i hi => bv_at (by omega)
      have eh2 := s2 _ _ eh
      refine ⟨.ref h, rfl, h, _, _, _, rfl, rfl, SqL.of eh2, at_ 2 (by decide), _, _, rfl, rfl, .inl ⟨by decide, by decide⟩, .ref h, rfl, h, _, _, _, rfl, rfl, SqL.of eh2, at_ 3 (by decide), _, _, rfl, rfl, ?_⟩
      have c0 : (256 : Int) * ((chunk l number).getD 2 0 : Nat) + ((chunk l number).getD 3 0 : Nat) = ((Crc.cnt (chunk l number) : Nat) : Int) := by
        unfold Crc.cnt
        omega
      dsimp only
      rw [c0]
      have hp2 := s2 _ _ (s1 _ _ hp)
      refine ⟨.ref p, rfl, .inl ⟨rfl, _, SqL.of hp2⟩, .ref h, rfl, _, rfl, _, rfl, h, _, rfl, SqL.of eh2, fun z nz => ?_⟩
      have ec2 : cutV (bv (chunk l number)) (some 4) (some 60) = bv (((chunk l number).drop 4).take 56) := by
        rw [show (4 : Int) = ((4 : Nat) : Int) from rfl, show (60 : Int) = ((60 : Nat) : Int) from rfl, cut_mid, bv_drop, bv_take]
      rw [ec2]
      have npz : p ≠ z := ne_of_none hp2 nz
      have cl : (((chunk l number).drop 4).take 56).length = 56 := by
        rw [List.length_take, List.length_drop, l64]
        rfl
      refine ⟨p, z, _, _, rfl, rfl, by rw [upd_ne npz]; exact hp2, upd_same, big (by rw [bv_len, bv_len, cl]; omega), ?_⟩
      rw [← bv_app]
      have lc : 64 * (number + 1) ≤ l.length := by
        unfold chunk at l64
        rw [List.length_take, List.length_drop] at l64
        omega
      refine ⟨_, _, number + 1, some (Crc.cnt (chunk l number)), _, rfl, same_mut (s3.trans (Same.new nz)) np, upd_same, lc, by rw [List.length_append, cl, hd]; omega, by omega, fun z => (by cases z), ?_⟩
      obtain ⟨k, rfl⟩ : ∃ k, m = k + 1 := ⟨m - 1, by omega⟩
      rw [← hgo, go_more c b]
      rfl
    · rw [decide_eq_false b]
      refine iteT ?_
      refine ⟨_, rfl, (by show 2 ≤ sizeLine; decide), fun t nt => ?_⟩
      refine q (.ref t) _ (s3.trans (Same.new nt)) ?_
      rw [← hgo, go_bad c b]
      exact ⟨t, rfl, upd_same⟩
  · obtain ⟨cc, rfl⟩ : ∃ cc, o = some cc := by
      cases o with
      | none => exact absurd (.inl rfl) c
      | some cc => exact ⟨cc, rfl⟩
    have hgo : fin l number cc data = Crc.dataOf l := by rw [← hgo, go_end c]; rfl
    -- last
    refine ⟨.ref p, rfl, _, rfl, _, rfl, p, _, rfl, SqL.of hp, fun x nx => ?_⟩
    have ec : cutV (bv data) (some (-56)) none = bv (data.drop (data.length - 56)) := by
      rw [show (-56 : Int) = -((56 : Nat) : Int) from rfl, cut_back _ _ (by decide), bv_len, bv_drop]
    rw [ec]
    refine ⟨x, data.drop (data.length - 56), rfl, SqL.of upd_same, fun v G2 s2 hv => ?_⟩
    have s3 := (Same.new nx).trans s2
    have s4 := sm.trans s3
    unfold fin at hgo
    refine ⟨v, rfl, rfl, _, rfl, ?_⟩
    cases ew : wend (data.drop (data.length - 56)) with
    | none =>
      rw [ew] at hv hgo
      subst hv
      refine ifD rfl ?_
      refine ⟨_, rfl, (by show 2 ≤ sizeLine; decide), fun t nt => ?_⟩
      refine q (.ref t) _ (s4.trans (Same.new nt)) ?_
      rw [← hgo]
      exact ⟨t, rfl, upd_same⟩
    | some ll =>
      rw [ew] at hv hgo
      obtain ⟨r, rfl, nr, er⟩ := hv
      refine ifND (fun z => by cases z) ?_
      refine ⟨.ref a, rfl, a, _, rfl, .inl (s3.seq ha'), _, rfl, _, _, rfl, rfl, .inl ⟨by decide, by decide⟩, _, _, rfl, rfl, _, rfl, ?_⟩
      by_cases gt : l.length > 64 * cc
      · refine ifD (by rw [bv_len]; omega) ?_
        refine ⟨_, rfl, _, _, rfl, rfl, (by show 2 ≤ sizeLine; decide), fun t nt => ?_⟩
        refine q (.ref t) _ (s4.trans (Same.new nt)) ?_
        rw [← hgo]
        dsimp only
        rw [if_pos gt]
        exact ⟨t, rfl, upd_same⟩
      · refine ifND (by rw [bv_len]; omega) ?_
        have hp3 := s3 _ _ hp
        refine ⟨.ref p, rfl, _, rfl, _, rfl, p, _, rfl, SqL.of hp3, fun y ny => ?_⟩
        have ec2 : cutV (bv data) none (some (-56)) = bv (data.take (data.length - 56)) := by
          rw [show (-56 : Int) = -((56 : Nat) : Int) from rfl, cut_front _ _ (by decide), bv_len, bv_take]
        rw [ec2]
        refine ⟨.ref r, rfl, y, r, _, _, rfl, rfl, upd_same, by rw [upd_ne (ne_of_none er ny)]; exact er, big (by
          have := wend_length ew
          rw [List.length_drop] at this
          rw [bv_len, bv_len, List.length_take]
          omega), fun u nu => ?_⟩
        rw [← bv_app]
        have s5 := (s4.trans (Same.new ny)).trans (Same.new (o := .lst (bv (data.take (data.length - 56) ++ ll))) nu)
        refine ⟨by show 2 ≤ sizeLine; decide, fun t nt => ?_⟩
        refine q (.ref t) _ (s5.trans (Same.new nt)) ?_
        rw [← hgo]
        dsimp only
        rw [if_neg gt]
        exact ⟨t, u, rfl, upd_same, by rw [upd_ne (ne_of_none upd_same nt)]; exact upd_same⟩
end
end My
set_option linter.all false
/-! Classes of the program's own -/
namespace My
open PySem PySem.Spec PyProof.Rows L2
/-- a class of the top, with the names of its instances' fields -/
structure Kls (K : PySem.W.Frag) (mg : Str → Option Value) (x : Str) (C : Addr) (fs : List Str) : Prop where
  cl : Cls K C
  no : ∀ f ∈ fs, NoAttr K C f
  at_ : mg x = some (.ref C)
/-- a method as it stands -/
structure MTop (K : PySem.W.Frag) (C : Addr) (m q : Str) (st : Stmt) (ps : List Str) : Prop where
  ex : ∃ (f : Addr) (fd : FuncData), Fun K m q st f fd ∧ Meth K C m f ∧ Binds K fd ps []
/-- an __init__ as it stands -/
structure ITop (K : PySem.W.Frag) (C : Addr) (q : Str) (st : Stmt) (ps : List Str) : Prop where
  ex : ∃ (f : Addr) (fd : FuncData), Fun K "__init__" q st f fd ∧ Mk K C f ∧ Binds K fd ps []
structure Mth (P : Program) (w : World) (K : PySem.W.Frag) (mg : Str → Option Value) (base : Heap) (k : Nat) (C : Addr) (m : Str) (ps : List Str) (sp : Sp) : Prop where
  ex : ∃ (f : Addr) (fd : FuncData), FnOk P w K mg base CX0 k f fd ps sp ∧ Meth K C m f ∧ Binds K fd ps []
structure Ini (P : Program) (w : World) (K : PySem.W.Frag) (mg : Str → Option Value) (base : Heap) (k : Nat) (C : Addr) (ps : List Str) (sp : Sp) : Prop where
  ex : ∃ (f : Addr) (fd : FuncData), FnOk P w K mg base CX0 k f fd ps sp ∧ Mk K C f ∧ Binds K fd ps []
section
variable {P : Program} {w : World} {K : PySem.W.Frag} {mg : Str → Option Value} {base : Heap} {C : Addr} {m x q : Str} {st : Stmt} {ps N : List Str} {k : Nat} {sp : Sp}
theorem MTop.ok (T : MTop K C m q st ps) (S : FnScope N ps (defScope st)) (len : ∀ vs H Q E, sp vs H Q E → vs.length = ps.length)
    (hbody : ∀ (f : Addr) (cdv : Value) (A : Around) (outer : List Env) (s : Shared) (H : Hp) (vs : List V) (Q : VK) (E : XK), Room k (A.deeper (envOfC q (defScope st) s.heap.objs.size f cdv)) → sp vs H Q E →
      ∃ t, PSs (cxOf CX0 P w K mg base N q (defScope st) f cdv A outer s H E).nox (defBody st) t ∧ t { nx := fun _ H' => Q .non H', rt := Q } (start N vs) H) : Mth P w K mg base (k + 1) C m ps sp := by
  obtain ⟨f, fd, F, mm, b⟩ := T.ex
  exact ⟨f, fd, F.ok S len (hbody f), mm, b⟩
theorem ITop.ok (T : ITop K C q st ps) (S : FnScope N ps (defScope st)) (len : ∀ vs H Q E, sp vs H Q E → vs.length = ps.length)
    (hbody : ∀ (f : Addr) (cdv : Value) (A : Around) (outer : List Env) (s : Shared) (H : Hp) (vs : List V) (Q : VK) (E : XK), Room k (A.deeper (envOfC q (defScope st) s.heap.objs.size f cdv)) → sp vs H Q E →
      ∃ t, PSs (cxOf CX0 P w K mg base N q (defScope st) f cdv A outer s H E).nox (defBody st) t ∧ t { nx := fun _ H' => Q .non H', rt := Q } (start N vs) H) : Ini P w K mg base (k + 1) C ps sp := by
  obtain ⟨f, fd, F, mm, b⟩ := T.ex
  exact ⟨f, fd, F.ok S len (hbody f), mm, b⟩
theorem Mth.mono {j : Nat} (D : Mth P w K mg base j C m ps sp) (h : j ≤ k) : Mth P w K mg base k C m ps sp := by
  obtain ⟨f, fd, F, mm, b⟩ := D.ex
  exact ⟨f, fd, F.mono h, mm, b⟩
/-- a method by what the head's facts say of it -/
theorem mtop_mk {f : Addr} {od an : Option Addr} {osl : Array (Option Value)} {oc kV doc pm cd ct : Value} (a : PySem.W.findIn K (.ref C) m = some (some (.ref f))) (i : PySem.W.isFn K (.ref f) = true)
    (l : K.lookup f = some ⟨oc, od, .func (PySem.W.fnOf m q (defArgs st) (defBody st) (defScope st) .none kV doc pm an cd ct), osl⟩) (c : PySem.W.codeIn K cd q = true) (kp : PySem.W.keepIn K (.ref f) = true)
    (hb : ∀ (kV doc pm : Value) (an : Option Addr) (cdv ct : Value) (us : List Value), us.length = ps.length → bindArgs (PySem.W.fnOf m q (defArgs st) (defBody st) (defScope st) .none kV doc pm an cdv ct) ⟨us, []⟩ = pure (ps.zip us)) : MTop K C m q st ps :=
  have F := fun_mk (st := st) l c kp
  ⟨f, _, F, ⟨a, i, kp⟩, F.binds hb⟩
theorem itop_mk {f : Addr} {od an : Option Addr} {osl : Array (Option Value)} {oc kV doc pm cd ct : Value} (mk : PySem.W.makesIn K C = true) (kc : PySem.W.keepIn K (.ref C) = true) (a : PySem.W.findIn K (.ref C) "__init__" = some (some (.ref f))) (i : PySem.W.isFn K (.ref f) = true)
    (l : K.lookup f = some ⟨oc, od, .func (PySem.W.fnOf "__init__" q (defArgs st) (defBody st) (defScope st) .none kV doc pm an cd ct), osl⟩) (c : PySem.W.codeIn K cd q = true) (kp : PySem.W.keepIn K (.ref f) = true)
    (hb : ∀ (kV doc pm : Value) (an : Option Addr) (cdv ct : Value) (us : List Value), us.length = ps.length → bindArgs (PySem.W.fnOf "__init__" q (defArgs st) (defBody st) (defScope st) .none kV doc pm an cdv ct) ⟨us, []⟩ = pure (ps.zip us)) : ITop K C q st ps :=
  have F := fun_mk (st := st) l c kp
  ⟨f, _, F, ⟨mk, a, i, kc⟩, F.binds hb⟩
end
section
variable {X : Cx} {C : Addr} {x m : Str} {p pos apos : Pos} {o e : Expr} {es : List Expr} {ta : TE} {t : TA} {k : Nat} {ps fs : List Str} {sp : Sp}
theorem pe_mth {pl : Sem Bool} (D : Mth X.prog X.w X.K X.mg X.base k C m ps sp) (c : Kls X.K X.mg x C fs) (he : PE X o ta) (hr : Room k X.A) (ha : PA X (e :: es) t)
    (hst : starEach (e :: es) X.env = (false, eval e X.env) :: starEach es X.env := by rfl) (hpl : (backTo pos (starEach es X.env)).any (·.1) = false := by rfl)
    (ht : eval (.Call (.Attribute o m apos) (e :: es) [] pos) X.env = (do
      let ov ← eval o X.env
      standAt apos.atName
      let (f, first) ← holding [ov] (getMethod ov m pl)
      callWith pos f first (backTo pos (starEach (e :: es) X.env)) (backToKw pos (keywordEach [] X.env))) := by rfl) :
    PE X (.Call (.Attribute o m apos) (e :: es) [] pos) (tMeth C m sp [] E0 ta t) := by
  obtain ⟨f, fd, F, mm, b⟩ := D.ex
  exact pe_meth he c.cl mm F hr b .nil pass0 ha hst hpl ht
theorem pe_mth0 {pl : Sem Bool} (D : Mth X.prog X.w X.K X.mg X.base k C m ps sp) (c : Kls X.K X.mg x C fs) (he : PE X o ta) (hr : Room k X.A)
    (ht : eval (.Call (.Attribute o m apos) [] [] pos) X.env = (do
      let ov ← eval o X.env
      standAt apos.atName
      let (f, first) ← holding [ov] (getMethod ov m pl)
      callWith pos f first (backTo pos (starEach [] X.env)) (backToKw pos (keywordEach [] X.env))) := by rfl) :
    PE X (.Call (.Attribute o m apos) [] [] pos) (tMeth C m sp [] E0 ta tNil) := by
  obtain ⟨f, fd, F, mm, b⟩ := D.ex
  exact pe_meth0 he c.cl mm F hr b .nil pass0 ht
theorem pe_ini0 (D : Ini X.prog X.w X.K X.mg X.base k C ps sp) (c : Kls X.K X.mg x C fs) (hr : Room (k + 1) X.A) (hg : Gl X x)
    (hdb : (x == ("__debug__" : Str)) = false := by decide) : PE X (.Call (.Name x p) [] [] pos) (tMake C sp [] E0 tNil) := by
  obtain ⟨f, fd, F, M, b⟩ := D.ex
  exact pe_make0 M F hr hg c.at_ b .nil pass0 hdb
theorem pe_ini (D : Ini X.prog X.w X.K X.mg X.base k C ps sp) (c : Kls X.K X.mg x C fs) (hr : Room (k + 1) X.A) (hg : Gl X x) (ha : PA X (e :: es) t)
    (hdb : (x == ("__debug__" : Str)) = false := by decide) (he : starEach (e :: es) X.env = (false, eval e X.env) :: starEach es X.env := by rfl) (hpl : (backTo pos (starEach es X.env)).any (·.1) = false := by rfl) :
    PE X (.Call (.Name x p) (e :: es) [] pos) (tMake C sp [] E0 t) := by
  obtain ⟨f, fd, F, M, b⟩ := D.ex
  exact pe_make M F hr hg c.at_ b .nil pass0 ha hdb he hpl
end
/-! heaps in which one instance changes -/
section
variable {p C dx : Addr} {H H1 H' : Hp} {K : PySem.W.Frag} {fs : List (Str × V)}
/-- a new instance and its dict -/
theorem made_same {x dx : Addr} (nx : H x = none) (nd : H dx = none) (ne : dx ≠ x) : Same H (upd (upd H dx (.own x)) x (.ins C dx fs)) := fun b o e => by
  rw [upd_ne (ne_of_none e nx), upd_ne (ne_of_none e nd)]
  exact e
theorem But.tupI {a : Addr} {xs : List V} (b : But p H H') (e : H p = some (.ins C dx fs)) (h : SqT K H a xs) : SqT K H' a xs := by
  rcases h with (h | ⟨u, h⟩) | h
  · exact .inl (.inl (b.get (fun z => by rw [z, e] at h; cases h) h))
  · exact .inl (.inr ⟨u, b.get (fun z => by rw [z, e] at h; cases h) h⟩)
  · exact .inr h
theorem But.seqI {a : Addr} {xs : List V} (b : But p H H') (e : H p = some (.ins C dx fs)) (h : SqL K H a xs) : SqL K H' a xs := by
  rcases h with (h | ⟨u, h⟩) | h
  · exact .inl (.inl (b.get (fun z => by rw [z, e] at h; cases h) h))
  · exact .inl (.inr ⟨u, b.get (fun z => by rw [z, e] at h; cases h) h⟩)
  · exact .inr h
theorem But.lstI {a : Addr} {xs : List V} (b : But p H H') (e : H p = some (.ins C dx fs)) (h : H a = some (.lst xs)) : H' a = some (.lst xs) := b.get (fun z => by rw [z, e] at h; cases h) h
theorem putF_len (f : Str) (v : V) : ∀ fs : List (Str × V), (putF f v fs).length ≤ fs.length + 1
  | [] => Nat.le_refl _
  | (g, x) :: r => by
    unfold putF
    split
    · exact Nat.le_succ _
    · exact Nat.succ_le_succ (putF_len f v r)
theorem but_of {H G : Hp} {p : Addr} {o : HO} (h : upd H p o = G) : But p H G := h ▸ Off.upd.but
theorem But.keep (s : Same H1 H) (b : But p H H') (n : H1 p = none) : Same H1 H' := fun c o e => b c o (fun z => by rw [z, n] at e; cases e) (s c o e)
theorem But.free_of {l : Addr} {o : HO} (b : But p H H') (e : H' p = some o) (h : H' l = none) : H l = none := by
  cases x : H l with
  | none => rfl
  | some y =>
    by_cases z : l = p
    · subst z
      rw [h] at e
      cases e
    · rw [b l y z x] at h
      cases h
theorem PoolAt.butI {q a : Addr} (P : PoolAt K H q a) (b : But p H H') (e : H p = some (.ins C dx fs)) : PoolAt K H' q a := by
  obtain ⟨⟨i, y, f, h⟩, ⟨ns, l, s⟩⟩ := P
  refine ⟨⟨i, y, f, b _ _ (fun z => by rw [z, e] at h; cases h) h⟩, ⟨ns, l, ?_⟩⟩
  rcases s with ⟨u, s⟩ | s
  · exact .inl ⟨u, b _ _ (fun z => by rw [z, e] at s; cases s) s⟩
  · exact .inr s
end
end My
set_option linter.all false
/-! Records, one behind the other -/
namespace Logs
open Crc
def rec_ (v : Pv.Val) : List Nat := blocksOf (Pv.bytes v)
def sz (y : List Nat) : Nat := 64 * (256 * y.getD 2 0 + y.getD 3 0)
/-- no record begins here -/
def NoRec (y : List Nat) : Prop := y.length < 4 ∨ sz y = 0 ∨ y.length < sz y ∨ ∃ n, dataOf (y.take (sz y)) = .block n
theorem rec_length (v : Pv.Val) : (rec_ v).length = 64 * cntOf (Pv.bytes v) := blocks_length _
theorem rec_head {v : Pv.Val} {rest : List Nat} : (rec_ v ++ rest).getD 2 0 = cntOf (Pv.bytes v) / 256 ∧ (rec_ v ++ rest).getD 3 0 = cntOf (Pv.bytes v) % 256 := by
  have h := blocks_chunk (Pv.bytes v) rest 0 (cnt_pos _)
  unfold chunk at h
  rw [Nat.mul_zero, List.drop_zero] at h
  have l := rec_length v
  have c := cnt_pos (Pv.bytes v)
  have get : ∀ i, i < 64 → (rec_ v ++ rest)[i]? = (blk (0 + 1) (cntOf (Pv.bytes v)) (Crc.part (Pv.bytes v) 0))[i]? := fun i hi => by
    rw [← h, List.getElem?_take, if_pos hi]
    rfl
  refine ⟨?_, ?_⟩
  · rw [List.getD_eq_getElem?_getD, get 2 (by decide)]
    rfl
  · rw [List.getD_eq_getElem?_getD, get 3 (by decide)]
    rfl
theorem rec_sz (v : Pv.Val) (rest : List Nat) : sz (rec_ v ++ rest) = (rec_ v).length := by
  obtain ⟨h2, h3⟩ := rec_head (v := v) (rest := rest)
  unfold sz
  rw [h2, h3, rec_length]
  omega
theorem data_rec {v : Pv.Val} (hc : cntOf (Pv.bytes v) < 65536) : dataOf (rec_ v) = .data (Pv.bytes v) := by
  have := data_whole (told := Pv.bytes v) (t := []) hc
  rw [List.append_nil] at this
  exact this
theorem take_rec (v : Pv.Val) (rest : List Nat) : (rec_ v ++ rest).take (sz (rec_ v ++ rest)) = rec_ v := by
  rw [rec_sz, List.take_left' rfl]
theorem not_norec {v : Pv.Val} {rest : List Nat} (hc : cntOf (Pv.bytes v) < 65536) : ¬ NoRec (rec_ v ++ rest) := by
  have l := rec_length v
  have c := cnt_pos (Pv.bytes v)
  intro h
  rcases h with h | h | h | ⟨n, h⟩
  · rw [List.length_append] at h
    omega
  · rw [rec_sz] at h
    omega
  · rw [rec_sz, List.length_append] at h
    omega
  · rw [take_rec, data_rec hc] at h
    cases h
end Logs
set_option linter.all false
/-! Logs that are cut, and logs with bits changed -/
namespace Pv
open Crc
theorem nb_bytes (n : Nat) : Bytes (nb n) := by
  induction n using Nat.strongRecOn with
  | ind n ih =>
    by_cases h : n > 127
    · rw [nb_big h]
      intro b hb
      rcases List.mem_cons.mp hb with e | hb
      · omega
      · exact ih (n / 128) (by omega) b hb
    · rw [nb_small h]
      intro b hb
      rw [List.mem_singleton.mp hb]
      omega
mutual
theorem bytes_bytes : ∀ {v : Val}, Ok v → Bytes (bytes v)
  | .int i, _ => by
    rw [bytes]
    intro b hb
    rcases List.mem_cons.mp hb with e | hb
    · omega
    · exact nb_bytes _ b hb
  | .str ks, h => by
    rw [bytes]
    intro b hb
    rcases List.mem_cons.mp hb with e | hb
    · omega
    rcases List.mem_append.mp hb with hb | hb
    · exact nb_bytes _ b hb
    · have := h.2 b hb
      omega
  | .tup l, h => by
    rw [bytes]
    intro b hb
    rcases List.mem_cons.mp hb with e | hb
    · omega
    rcases List.mem_append.mp hb with hb | hb
    · exact nb_bytes _ b hb
    · exact bytesL_bytes h.2 b hb
theorem bytesL_bytes : ∀ {l : List Val}, OkL l → Bytes (bytesL l)
  | [], _ => by
    rw [bytesL]
    intro b hb
    cases hb
  | v :: l, h => by
    rw [bytesL]
    intro b hb
    rcases List.mem_append.mp hb with hb | hb
    · exact bytes_bytes h.1 b hb
    · exact bytesL_bytes h.2 b hb
end
end Pv
namespace Logs
open Crc
/-- how many ends lie at or before c -/
def ends (f : Nat → Nat) (n c : Nat) : List Nat := ((List.range n).map fun j => f (j + 1)).filter fun x => decide (x ≤ c)
theorem ends_spec {f : Nat → Nat} (mono : ∀ i, f i ≤ f (i + 1)) {c : Nat} (f0 : f 0 ≤ c) : ∀ n, (ends f n c).length ≤ n ∧ f (ends f n c).length ≤ c ∧ ((ends f n c).length < n → c < f ((ends f n c).length + 1))
  | 0 => ⟨Nat.le_refl _, f0, fun h => absurd h (Nat.lt_irrefl 0)⟩
  | n + 1 => by
    obtain ⟨h1, h2, h3⟩ := ends_spec mono f0 n
    have up : ∀ a b, a ≤ b → f a ≤ f b := fun a b hab => by
      induction hab with
      | refl => exact Nat.le_refl _
      | step _ ih => exact Nat.le_trans ih (mono _)
    have e : ends f (n + 1) c = ends f n c ++ [f (n + 1)].filter fun x => decide (x ≤ c) := by
      unfold ends
      rw [List.range_succ, List.map_append, List.filter_append]
      rfl
    by_cases g : f (n + 1) ≤ c
    · have e2 : ends f (n + 1) c = ends f n c ++ [f (n + 1)] := by rw [e]; simp [g]
      have en : (ends f n c).length = n := by
        apply Decidable.byContradiction
        intro z
        have := h3 (by omega)
        have := up ((ends f n c).length + 1) (n + 1) (by omega)
        omega
      rw [e2, List.length_append, en]
      exact ⟨Nat.le_refl _, g, fun z => absurd z (Nat.lt_irrefl _)⟩
    · have e2 : ends f (n + 1) c = ends f n c := by rw [e]; simp [g]
      rw [e2]
      refine ⟨by omega, h2, fun z => ?_⟩
      by_cases k : (ends f n c).length < n
      · exact h3 k
      · rw [show (ends f n c).length = n by omega]
        omega
def lens (ws : List Pv.Val) (j : Nat) : Nat := ((ws.take j).flatMap rec_).length
theorem lens_zero (ws : List Pv.Val) : lens ws 0 = 0 := rfl
theorem lens_all (ws : List Pv.Val) : lens ws ws.length = (ws.flatMap rec_).length := by unfold lens; rw [List.take_length]
theorem lens_succ {ws : List Pv.Val} {j : Nat} {u : Pv.Val} (h : ws[j]? = some u) : lens ws (j + 1) = lens ws j + (rec_ u).length := by
  unfold lens
  rw [List.take_add_one, h, List.flatMap_append, List.length_append]
  simp only [Option.toList, List.flatMap_cons, List.flatMap_nil, List.append_nil]
theorem lens_mono (ws : List Pv.Val) (i : Nat) : lens ws i ≤ lens ws (i + 1) := by
  cases h : ws[i]? with
  | none =>
    have := List.getElem?_eq_none_iff.mp h
    unfold lens
    rw [List.take_of_length_le this, List.take_of_length_le (by omega)]
    exact Nat.le_refl _
  | some u =>
    rw [lens_succ h]
    omega
/-- the values whose records lie before c -/
def before (ws : List Pv.Val) (c : Nat) : Nat := (ends (lens ws) ws.length c).length
theorem before_le (ws : List Pv.Val) (c : Nat) : before ws c ≤ ws.length := (ends_spec (lens_mono ws) (by rw [lens_zero]; omega) _).1
theorem before_lens (ws : List Pv.Val) (c : Nat) : lens ws (before ws c) ≤ c := (ends_spec (lens_mono ws) (by rw [lens_zero]; omega) _).2.1
theorem before_next (ws : List Pv.Val) (c : Nat) (h : before ws c < ws.length) : c < lens ws (before ws c + 1) := (ends_spec (lens_mono ws) (by rw [lens_zero]; omega) _).2.2 h
theorem flat_split (ws : List Pv.Val) (m : Nat) : ws.flatMap rec_ = (ws.take m).flatMap rec_ ++ (ws.drop m).flatMap rec_ := by
  rw [← List.flatMap_append, List.take_append_drop]
theorem take_lens (ws : List Pv.Val) (m : Nat) : (ws.flatMap rec_).take (lens ws m) = (ws.take m).flatMap rec_ := by
  rw [flat_split ws m]
  exact List.take_left' rfl
theorem drop_lens {ws : List Pv.Val} {m : Nat} {u : Pv.Val} (h : ws[m]? = some u) : (ws.flatMap rec_).drop (lens ws m) = rec_ u ++ (ws.drop (m + 1)).flatMap rec_ := by
  obtain ⟨lt, e⟩ := List.getElem?_eq_some_iff.mp h
  rw [flat_split ws m, show lens ws m = ((ws.take m).flatMap rec_).length from rfl, List.drop_left' rfl, List.drop_eq_getElem_cons lt, e, List.flatMap_cons]
theorem norec_nil : NoRec [] := .inl (by decide)
theorem norec_take {v : Pv.Val} {rest : List Nat} {k : Nat} (h : k < (rec_ v).length) : NoRec ((rec_ v ++ rest).take k) := by
  by_cases c : k < 4
  · exact .inl (by rw [List.length_take]; omega)
  have es : sz ((rec_ v ++ rest).take k) = (rec_ v).length := by
    have e := rec_sz v rest
    unfold sz at e ⊢
    rw [List.getD_eq_getElem?_getD, List.getD_eq_getElem?_getD, List.getElem?_take, List.getElem?_take, if_pos (by omega), if_pos (by omega), ← List.getD_eq_getElem?_getD, ← List.getD_eq_getElem?_getD]
    exact e
  refine .inr (.inr (.inl ?_))
  rw [es, List.length_take]
  omega
/-- a log that is cut -/
theorem cut_law (ws : List Pv.Val) {c : Nat} (h : c ≤ (ws.flatMap rec_).length) : ∃ rest, (ws.flatMap rec_).take c = (ws.take (before ws c)).flatMap rec_ ++ rest ∧ NoRec rest := by
  have h2 := before_lens ws c
  refine ⟨((ws.flatMap rec_).drop (lens ws (before ws c))).take (c - lens ws (before ws c)), ?_, ?_⟩
  · rw [← take_lens]
    conv => lhs; rw [show c = lens ws (before ws c) + (c - lens ws (before ws c)) by omega]
    rw [List.take_add]
  · by_cases k : before ws c < ws.length
    · obtain ⟨u, hu⟩ : ∃ u, ws[before ws c]? = some u := ⟨_, List.getElem?_eq_getElem k⟩
      have h3 := before_next ws c k
      rw [lens_succ hu] at h3
      rw [drop_lens hu]
      exact norec_take (by omega)
    · have e : before ws c = ws.length := by have := before_le ws c; omega
      rw [e, lens_all, List.drop_length, List.take_nil]
      exact norec_nil
theorem chunk0_take {y : List Nat} {S : Nat} (h : 64 ≤ S) : chunk (y.take S) 0 = chunk y 0 := by
  unfold chunk
  rw [Nat.mul_zero, List.drop_zero, List.drop_zero, List.take_take, Nat.min_eq_left h]
/-- bits changed in a block -/
theorem blk_changed {c y : List Nat} {n : Nat} {o : Option Nat} {n' : Nat} {o' : Option Nat} (hc : Bytes c) (hy : Bytes y) (ok : IsBlk c n o) (ly : y.length = 64) {a w : Nat} (ag : Agree (bitsOf c) (bitsOf y) a w) (w32 : w ≤ 32) (ne : c ≠ y) : ¬ IsBlk y n' o' := by
  intro b
  have c1 := (block_sum hy ly).mp b.2.1
  have c2 := (block_sum hc ok.1).mp ok.2.1
  exact ag.run (by omega) (fun z => ne (bitsOf_inj hc hy z)) (c2.trans c1.symm)
theorem norec_changed {v : Pv.Val} {t y : List Nat} (hv : Bytes (Pv.bytes v)) (hc : cntOf (Pv.bytes v) < 65536) (hy : Bytes y) (ly : y.length = (rec_ v ++ t).length) {a w q : Nat} (ag : Agree (bitsOf (rec_ v ++ t)) (bitsOf y) a w) (w32 : w ≤ 32)
    (hq : q < (rec_ v).length) (first : ∀ i, i < q → y[i]? = (rec_ v ++ t)[i]?) (ne : y[q]? ≠ (rec_ v ++ t)[q]?) : NoRec y := by
  have lr := rec_length v
  have cp := cnt_pos (Pv.bytes v)
  rw [List.length_append] at ly
  by_cases z0 : sz y = 0
  · exact .inr (.inl z0)
  by_cases z1 : y.length < sz y
  · exact .inr (.inr (.inl z1))
  have h64 : 64 ≤ sz y := by unfold sz at z0 ⊢; omega
  refine .inr (.inr (.inr ?_))
  by_cases c : q < 64
  · refine ⟨1, data_first ?_⟩
    rw [chunk0_take h64]
    have e0 := blocks_chunk (Pv.bytes v) t 0 cp
    have ok := (blk_is (k := 0 + 1) (c := cntOf (Pv.bytes v)) (part_length (told := Pv.bytes v) (k := 0) cp) (by omega) hc none (.inl rfl)).1
    rw [← e0] at ok
    obtain ⟨a', w', hw, ag'⟩ := ag.sub (s := 512 * 0) (n := 512)
    rw [← bits_chunk, ← bits_chunk] at ag'
    have ly0 : (chunk y 0).length = 64 := by
      unfold chunk
      rw [List.length_take, List.length_drop]
      omega
    have bc : Bytes (chunk (rec_ v ++ t) 0) := by
      have e0' : chunk (rec_ v ++ t) 0 = blk (0 + 1) (cntOf (Pv.bytes v)) (Crc.part (Pv.bytes v) 0) := e0
      rw [e0']
      exact bytes_blk (bytes_part hv 0) (by omega) hc
    have by_ : Bytes (chunk y 0) := fun x hx => hy x (List.mem_of_mem_drop (List.mem_of_mem_take hx))
    refine blk_changed bc by_ ok ly0 ag' (by omega) fun z => ?_
    have e := congrArg (fun l => l[q]?) z
    have e : (chunk (rec_ v ++ t) 0)[q]? = (chunk y 0)[q]? := e
    unfold chunk at e
    rw [Nat.mul_zero, List.drop_zero, List.drop_zero, List.getElem?_take, List.getElem?_take, if_pos c, if_pos c] at e
    exact ne e.symm
  · have es : sz y = (rec_ v).length := by
      have e := rec_sz v t
      rw [← e]
      unfold sz
      rw [List.getD_eq_getElem?_getD, List.getD_eq_getElem?_getD, first 2 (by omega), first 3 (by omega), ← List.getD_eq_getElem?_getD, ← List.getD_eq_getElem?_getD]
    refine ⟨q / 64 + 1, ?_⟩
    rw [es]
    obtain ⟨a', w', hw, ag'⟩ := ag.sub (s := 0) (n := 8 * (rec_ v).length)
    rw [List.drop_zero, List.drop_zero, ← bits_take, ← bits_take, List.take_left' rfl] at ag'
    refine data_changed hv hc (fun x hx => hy x (List.mem_of_mem_take hx)) ag' (by omega) (by rw [List.length_take]; omega) (fun i hi => ?_) ?_
    · rw [List.getElem?_take, if_pos (by omega), first i hi, List.getElem?_append_left (by omega)]
      rfl
    · rw [List.getElem?_take, if_pos hq]
      rw [List.getElem?_append_left hq] at ne
      exact ne
/-- a log with bits changed: what stands before the first changed byte -/
theorem bent_law (ws : List Pv.Val) (ok : ∀ w ∈ ws, Bytes (Pv.bytes w) ∧ cntOf (Pv.bytes w) < 65536) {y : List Nat} (hy : Bytes y) (ly : y.length = (ws.flatMap rec_).length) {a w p : Nat} (ag : Agree (bitsOf (ws.flatMap rec_)) (bitsOf y) a w) (w32 : w ≤ 32)
    (hp : p < y.length) (first : ∀ i, i < p → y[i]? = (ws.flatMap rec_)[i]?) (ne : y[p]? ≠ (ws.flatMap rec_)[p]?) : ∃ rest, y = (ws.take (before ws p)).flatMap rec_ ++ rest ∧ NoRec rest := by
  have h2 := before_lens ws p
  have k : before ws p < ws.length := by
    have := before_le ws p
    apply Decidable.byContradiction
    intro z
    have e : before ws p = ws.length := by omega
    rw [e, lens_all] at h2
    omega
  obtain ⟨u, hu⟩ : ∃ u, ws[before ws p]? = some u := ⟨_, List.getElem?_eq_getElem k⟩
  have h3 := before_next ws p k
  rw [lens_succ hu] at h3
  have hm := ok u (List.mem_of_getElem? hu)
  generalize before ws p = m at *
  have ed := drop_lens hu
  have lrest : (rec_ u ++ (ws.drop (m + 1)).flatMap rec_).length = y.length - lens ws m := by rw [← ed, List.length_drop, ly]
  refine ⟨y.drop (lens ws m), ?_, ?_⟩
  · conv => lhs; rw [← List.take_append_drop (lens ws m) y]
    congr 1
    rw [← take_lens]
    apply List.ext_getElem?
    intro i
    rw [List.getElem?_take, List.getElem?_take]
    split
    · exact first i (by omega)
    · rfl
  · obtain ⟨a', w', hw, ag'⟩ := ag.sub (s := 8 * lens ws m) (n := 8 * y.length)
    rw [← bits_drop, ← bits_drop, ← bits_take, ← bits_take, ed, List.take_of_length_le (by omega), List.take_of_length_le (by rw [List.length_drop]; omega)] at ag'
    have dg : ∀ i, (rec_ u ++ (ws.drop (m + 1)).flatMap rec_)[i]? = (ws.flatMap rec_)[lens ws m + i]? := fun i => by rw [← ed, List.getElem?_drop]
    refine norec_changed (q := p - lens ws m) hm.1 hm.2 (fun x hx => hy x (List.mem_of_mem_drop hx)) (by rw [List.length_drop]; omega) ag' (by omega) (by omega) (fun i hi => ?_) ?_
    · rw [dg, List.getElem?_drop]
      exact first _ (by omega)
    · rw [dg, List.getElem?_drop, show lens ws m + (p - lens ws m) = p by omega]
      exact ne
theorem filter_one (p : Nat → Bool) (i : Nat) : (List.range (i + 1)).filter p = (List.range i).filter p ++ (if p i = true then [i] else []) := by
  rw [List.range_succ, List.filter_append, List.filter_cons, List.filter_nil]
theorem wrong_first {x y : List Nat} (ly : y.length = x.length) {f : Nat} (ne : (bitsOf y)[f]? ≠ (bitsOf x)[f]?) : ∃ p rest, wrongs x y = p :: rest ∧ p < x.length ∧ (∀ i, i < p → y[i]? = x[i]?) ∧ y[p]? ≠ x[p]? := by
  rcases filter_first (fun i => decide (y[i]? ≠ x[i]?)) x.length with z | ⟨p, rest, e, lt, pp, all⟩
  · refine absurd ?_ ne
    have : y = x := by
      apply List.ext_getElem?
      intro i
      by_cases hi : i < x.length
      · exact Decidable.of_not_not (of_decide_eq_false (z i hi))
      · rw [List.getElem?_eq_none (by omega), List.getElem?_eq_none (by omega)]
    rw [this]
  · exact ⟨p, rest, e, lt, fun i hi => Decidable.of_not_not (of_decide_eq_false (all i hi)), of_decide_eq_true pp⟩
end Logs
set_option linter.all false
/-! Blocks taken one by one -/
namespace Feed
open Crc Logs
inductive St where
  | more
  | block (n : Nat)
  | whole
  deriving DecidableEq
def Open (c : Option Nat) (n : Nat) : Prop := c = none ∨ n < c.getD 0
/-- the first n blocks were taken -/
inductive Run (y : List Nat) : Nat → Option Nat → List Nat → Prop
  | start : Run y 0 none []
  | step {n : Nat} {c : Option Nat} {d : List Nat} : Run y n c d → Open c n → IsBlk (chunk y n) (n + 1) c → Run y (n + 1) (some (cnt (chunk y n))) (d ++ ((chunk y n).drop 4).take 56)
inductive Res (y : List Nat) : St → Option Nat → List Nat → Prop
  | bad {n : Nat} {c : Option Nat} {d : List Nat} : Run y n c d → Open c n → 64 * (n + 1) ≤ y.length → ¬ IsBlk (chunk y n) (n + 1) c → Res y (.block (n + 1)) c d
  | unended {n : Nat} {d : List Nat} : Run y n (some n) d → wend (d.drop (d.length - 56)) = none → Res y (.block n) (some n) d
  | whole {n : Nat} {d l : List Nat} : Run y n (some n) d → wend (d.drop (d.length - 56)) = some l → Res y .whole (some n) d
theorem chunk_len {y : List Nat} {n : Nat} (h : (chunk y n).length = 64) : 64 * (n + 1) ≤ y.length := by
  unfold chunk at h
  rw [List.length_take, List.length_drop] at h
  omega
theorem chunk_len' {y : List Nat} {n : Nat} (h : 64 * (n + 1) ≤ y.length) : (chunk y n).length = 64 := by
  unfold chunk
  rw [List.length_take, List.length_drop]
  omega
theorem Run.len {y : List Nat} {n : Nat} {c : Option Nat} {d : List Nat} (h : Run y n c d) : 64 * n ≤ y.length ∧ d.length = 56 * n := by
  cases h with
  | start => exact ⟨by omega, rfl⟩
  | @step n c d r o b =>
    have l := chunk_len b.1
    have ih := (Run.len r).2
    refine ⟨by omega, ?_⟩
    rw [List.length_append, List.length_take, List.length_drop, b.1, ih]
    omega
/-- the head of the first block -/
theorem Run.head {y : List Nat} {n : Nat} {c : Option Nat} {d : List Nat} (h : Run y n c d) : (n = 0 ∧ c = none ∧ d = []) ∨ ∃ cc, c = some cc ∧ cc = cnt (chunk y 0) ∧ n ≤ cc ∧ 0 < n := by
  induction h with
  | start => exact .inl ⟨rfl, rfl, rfl⟩
  | @step n c d r o b ih =>
    refine .inr ⟨_, rfl, ?_, b.2.2.2.1, by omega⟩
    rcases ih with ⟨rfl, _, _⟩ | ⟨cc, rfl, e, _⟩
    · rfl
    · rcases b.2.2.2.2 with z | z
      · cases z
      · rw [← Option.some.inj z]
        exact e
theorem cnt_head {y : List Nat} (h : 64 ≤ y.length) : cnt (chunk y 0) = 256 * y.getD 2 0 + y.getD 3 0 := by
  unfold cnt chunk
  rw [Nat.mul_zero, List.drop_zero, List.getD_eq_getElem?_getD, List.getD_eq_getElem?_getD, List.getElem?_take, List.getElem?_take, if_pos (by decide), if_pos (by decide), ← List.getD_eq_getElem?_getD, ← List.getD_eq_getElem?_getD]
theorem chunk_of {y z : List Nat} {n : Nat} (h : ∀ i, i < 64 * (n + 1) → y[i]? = z[i]?) : chunk y n = chunk z n := by
  unfold chunk
  apply List.ext_getElem?
  intro i
  rw [List.getElem?_take, List.getElem?_take, List.getElem?_drop, List.getElem?_drop]
  split
  · exact h _ (by omega)
  · rfl
theorem Run.same {y z : List Nat} {n : Nat} {c : Option Nat} {d : List Nat} (h : Run y n c d) : (∀ i, i < 64 * n → y[i]? = z[i]?) → Run z n c d := by
  induction h with
  | start => exact fun _ => .start
  | @step n c d r o b ih =>
    intro hz
    have e := chunk_of (n := n) hz
    rw [e] at b ⊢
    exact .step (ih fun i hi => hz i (by omega)) o b
theorem Run.app {y : List Nat} (z : List Nat) {n : Nat} {c : Option Nat} {d : List Nat} (h : Run y n c d) : Run (y ++ z) n c d :=
  h.same fun i hi => by rw [List.getElem?_append_left (by have := h.len.1; omega)]
theorem Run.cut {y : List Nat} {n m : Nat} {c : Option Nat} {d : List Nat} (h : Run y n c d) (hm : 64 * n ≤ m) : Run (y.take m) n c d :=
  h.same fun i hi => by rw [List.getElem?_take, if_pos (by omega)]
theorem Res.app {y : List Nat} (z : List Nat) {s : St} {c : Option Nat} {d : List Nat} (h : Res y s c d) : Res (y ++ z) s c d := by
  cases h with
  | @bad n c d r o l b =>
    have e : chunk (y ++ z) n = chunk y n := chunk_of fun i hi => by rw [List.getElem?_append_left (by omega)]
    exact .bad (r.app z) o (by rw [List.length_append]; omega) (by rw [e]; exact b)
  | unended r w => exact .unended (r.app z) w
  | whole r w => exact .whole (r.app z) w
theorem go_run {y : List Nat} {n : Nat} {c : Option Nat} {d : List Nat} (h : Run y n c d) : ∀ m, go y (m + n) 0 none [] = go y m n c d := by
  induction h with
  | start => exact fun _ => rfl
  | @step n c d r o b ih =>
    intro m
    rw [show m + (n + 1) = (m + 1) + n by omega, ih (m + 1), go_more o b]
theorem data_run {y : List Nat} {n : Nat} {c : Option Nat} {d : List Nat} (h : Run y n c d) : ∃ m, dataOf y = go y (m + 1) n c d := by
  have l := h.len.1
  refine ⟨y.length + 1 - n, ?_⟩
  unfold dataOf
  rw [← go_run h, show y.length + 1 - n + 1 + n = y.length + 2 by omega]
theorem data_bad {y : List Nat} {n : Nat} {c : Option Nat} {d : List Nat} (h : Run y n c d) (o : Open c n) (b : ¬ IsBlk (chunk y n) (n + 1) c) : dataOf y = .block (n + 1) := by
  obtain ⟨m, e⟩ := data_run h
  rw [e, go_bad o b]
theorem data_fin {y : List Nat} {n : Nat} {d : List Nat} (h : Run y n (some n) d) : dataOf y = fin y n n d := by
  obtain ⟨m, e⟩ := data_run h
  rw [e, go_end (fun z => by
    rcases z with z | z
    · cases z
    · exact Nat.lt_irrefl _ z)]
  rfl
theorem data_nil : dataOf [] = .block 1 := data_bad .start (.inl rfl) fun b => by have := b.1; cases this
def isD : Told → Bool
  | .data _ => true
  | .block _ => false
def many (y : List Nat) : Nat := if y.length > 63 then 256 * y.getD 2 0 + y.getD 3 0 else 0
/-- what is due, by what whole bytes tell -/
def due (y : List Nat) : St := match dataOf y with
  | .data _ => .whole
  | .block n => if n = many y + 1 ∧ y.length > 64 * many y ∧ isD (dataOf (y.take (64 * many y))) = true then .whole else if 64 * n ≤ y.length then .block n else .more
theorem due_block {y : List Nat} {n : Nat} (h : dataOf y = .block n) (e : ¬ (n = many y + 1 ∧ y.length > 64 * many y ∧ isD (dataOf (y.take (64 * many y))) = true)) : due y = if 64 * n ≤ y.length then .block n else .more := by
  unfold due
  rw [h]
  exact if_neg e
theorem many_run {y : List Nat} {n cc : Nat} {d : List Nat} (h : Run y n (some cc) d) : many y = cc ∧ n ≤ cc ∧ 0 < n := by
  rcases h.head with ⟨_, z, _⟩ | ⟨c2, e, e2, l, p⟩
  · cases z
  · obtain rfl := Option.some.inj e
    have := h.len.1
    refine ⟨?_, l, p⟩
    unfold many
    rw [if_pos (by omega), e2, cnt_head (by omega)]
theorem not_more {y : List Nat} {n : Nat} {c : Option Nat} {d : List Nat} (h : Run y n c d) (o : Open c n) : ¬ (n + 1 = many y + 1 ∧ y.length > 64 * many y ∧ isD (dataOf (y.take (64 * many y))) = true) := by
  rintro ⟨e, _, hd⟩
  rcases h.head with ⟨rfl, _, _⟩ | ⟨cc, rfl, _, _⟩
  · rw [show many y = 0 by omega, Nat.mul_zero, List.take_zero, data_nil] at hd
    exact Bool.false_ne_true hd
  · have := many_run h
    rcases o with z | z
    · cases z
    · have z : n < cc := z
      omega
theorem due_open {y : List Nat} {n : Nat} {c : Option Nat} {d : List Nat} (h : Run y n c d) (o : Open c n) (l : y.length < 64 * (n + 1)) : due y = .more := by
  rw [due_block (data_bad h o fun b => by have := chunk_len b.1; omega) (not_more h o), if_neg (by omega)]
theorem due_res {y : List Nat} {s : St} {c : Option Nat} {d : List Nat} (h : Res y s c d) : due y = s := by
  cases h with
  | bad r o l b => rw [due_block (data_bad r o b) (not_more r o), if_pos l]
  | @unended n d r w =>
    have e := data_fin r
    unfold fin at e
    rw [w] at e
    have m := many_run r
    rw [due_block e (by omega), if_pos r.len.1]
  | @whole n d l r w =>
    have e := data_fin r
    unfold fin at e
    rw [w] at e
    have m := many_run r
    have len := r.len.1
    by_cases g : y.length > 64 * n
    · have e : dataOf y = .block (n + 1) := by rw [e]; exact if_pos g
      have r2 := r.cut (m := 64 * n) (Nat.le_refl _)
      have e2 := data_fin r2
      unfold fin at e2
      rw [w] at e2
      have e2 : dataOf (y.take (64 * n)) = .data (d.take (d.length - 56) ++ l) := by
        rw [e2]
        exact if_neg (by rw [List.length_take]; omega)
      unfold due
      rw [e]
      exact if_pos ⟨by omega, by rw [m.1]; exact g, by rw [m.1, e2]; rfl⟩
    · have e : dataOf y = .data (d.take (d.length - 56) ++ l) := by rw [e]; exact if_neg g
      unfold due
      rw [e]
/-- where a feeder stands that was fed y -/
def Fed (y : List Nat) (s : St) (c : Option Nat) (d rest : List Nat) : Prop :=
  (s = .more ∧ ∃ n, Run y n c d ∧ Open c n ∧ rest = y.drop (64 * n) ∧ y.length < 64 * (n + 1)) ∨ (s ≠ .more ∧ Res y s c d ∧ rest = [])
theorem Fed.due {y : List Nat} {s : St} {c : Option Nat} {d rest : List Nat} (h : Fed y s c d rest) : due y = s := by
  rcases h with ⟨rfl, n, r, o, _, l⟩ | ⟨_, r, _⟩
  · exact due_open r o l
  · exact due_res r
/-! ### what the law makes of blocks -/
theorem Run.all {y : List Nat} {n : Nat} {c : Option Nat} {d : List Nat} (h : Run y n c d) : ∀ i, i < n → ∃ o, IsBlk (chunk y i) (i + 1) o := by
  induction h with
  | start => exact fun i hi => absurd hi (Nat.not_lt_zero _)
  | @step n c d r o b ih =>
    intro i hi
    by_cases e : i < n
    · exact ih i e
    · rw [show i = n by omega]
      exact ⟨c, b⟩
theorem Res.run {y : List Nat} {c : Option Nat} {d : List Nat} (h : Res y .whole c d) : ∃ n l, c = some n ∧ Run y n (some n) d ∧ wend (d.drop (d.length - 56)) = some l ∧ 0 < n ∧ n = cnt (chunk y 0) := by
  cases h with
  | @whole n d l r w =>
    rcases r.head with ⟨_, z, _⟩ | ⟨c2, e, e2, _, p⟩
    · cases z
    · obtain rfl := Option.some.inj e
      exact ⟨n, l, rfl, r, w, p, e2⟩
theorem cnt_blocks {told y : List Nat} (hc : cntOf told < 65536) (h : ∀ i, i < 64 → y[i]? = (blocksOf told)[i]?) : cnt (chunk y 0) = cntOf told := by
  have cp := cnt_pos told
  rw [chunk_of (n := 0) (z := blocksOf told) fun i hi => h i (by omega)]
  have e := blocks_chunk told [] 0 cp
  rw [List.append_nil] at e
  rw [e]
  exact (blk_is (part_length cp) (by omega) hc none (.inl rfl)).2.1
theorem whole_app {told extra : List Nat} (hc : cntOf told < 65536) {c : Option Nat} {d : List Nat} (h : Res (blocksOf told ++ extra) .whole c d) : ∃ l, wend (d.drop (d.length - 56)) = some l ∧ d.take (d.length - 56) ++ l = told := by
  obtain ⟨n, l, rfl, r, w, p, e⟩ := h.run
  have lb := blocks_length told
  have cp := cnt_pos told
  rw [cnt_blocks hc fun i hi => by rw [List.getElem?_append_left (by omega)]] at e
  have r2 : Run (blocksOf told) n (some n) d := by
    have := r.cut (m := (blocksOf told).length) (by omega)
    rw [List.take_left' rfl] at this
    exact this
  have e2 := data_fin r2
  unfold fin at e2
  rw [w] at e2
  have e2 : dataOf (blocksOf told) = .data (d.take (d.length - 56) ++ l) := by
    rw [e2]
    exact if_neg (by omega)
  have e3 := data_whole (told := told) (t := []) hc
  rw [List.append_nil] at e3
  rw [e3] at e2
  injection e2 with e2
  exact ⟨l, w, e2.symm⟩
theorem not_whole_cut {told : List Nat} (hc : cntOf told < 65536) {at_ : Nat} (h : at_ < (blocksOf told).length) {c : Option Nat} {d : List Nat} : ¬ Res ((blocksOf told).take at_) .whole c d := by
  intro r
  obtain ⟨n, l, rfl, r, w, p, e⟩ := r.run
  have lb := blocks_length told
  have len := r.len.1
  rw [List.length_take] at len
  rw [cnt_blocks hc fun i hi => by rw [List.getElem?_take, if_pos (by omega)]] at e
  omega
theorem not_whole_changed {told y : List Nat} (ht : Bytes told) (hc : cntOf told < 65536) (hy : Bytes y) (ly : y.length = (blocksOf told).length) {a w q : Nat} (ag : Agree (bitsOf (blocksOf told)) (bitsOf y) a w) (w32 : w ≤ 32) (hq : q < y.length) (only : ∀ i, i ≠ q → y[i]? = (blocksOf told)[i]?) (ne : y[q]? ≠ (blocksOf told)[q]?) {c : Option Nat} {d : List Nat} : ¬ Res y .whole c d := by
  intro r
  obtain ⟨n, l, rfl, r, w, p, e⟩ := r.run
  have lb := blocks_length told
  have hj : q / 64 < cntOf told := by omega
  have hn : q / 64 < n := by
    by_cases z : q < 64
    · omega
    · rw [cnt_blocks hc fun i hi => only i (by omega)] at e
      omega
  obtain ⟨o, b⟩ := r.all _ hn
  have bc := fun i hi => blocks_chunk told [] i hi
  simp only [List.append_nil] at bc
  have ok := (blk_is (k := q / 64 + 1) (c := cntOf told) (part_length (told := told) (k := q / 64) hj) (by omega) hc none (.inl rfl)).1
  rw [← bc _ hj] at ok
  obtain ⟨a', w', hw, ag'⟩ := ag.sub (s := 512 * (q / 64)) (n := 512)
  rw [← bits_chunk, ← bits_chunk] at ag'
  refine blk_changed (fun x hx => bytes_blocks ht hc x (List.mem_of_mem_drop (List.mem_of_mem_take hx))) (fun x hx => hy x (List.mem_of_mem_drop (List.mem_of_mem_take hx))) ok b.1 ag' (by omega) (fun z => ?_) b
  have e := congrArg (fun l => l[q % 64]?) z
  have e : (chunk (blocksOf told) (q / 64))[q % 64]? = (chunk y (q / 64))[q % 64]? := e
  unfold chunk at e
  rw [List.getElem?_take, List.getElem?_take, if_pos (by omega), if_pos (by omega), List.getElem?_drop, List.getElem?_drop, show 64 * (q / 64) + q % 64 = q by omega] at e
  exact ne e.symm
/-- one byte is another -/
theorem agree_byte {x y : List Nat} {q : Nat} (l : y.length = x.length) (only : ∀ i, i ≠ q → y[i]? = x[i]?) : Agree (bitsOf x) (bitsOf y) (8 * q) 8 := by
  refine ⟨by rw [bitsOf_length, bitsOf_length, l], fun i hi => ?_⟩
  by_cases lt : i < 8 * x.length
  · obtain ⟨b, hb⟩ : ∃ b, x[i / 8]? = some b := ⟨_, List.getElem?_eq_getElem (by omega)⟩
    have h1 := bits_at hb (j := i % 8) (by omega)
    have h2 := bits_at ((only (i / 8) (by omega)).trans hb) (j := i % 8) (by omega)
    rw [show 8 * (i / 8) + i % 8 = i by omega] at h1 h2
    rw [h1, h2]
  · rw [List.getElem?_eq_none (by rw [bitsOf_length]; omega), List.getElem?_eq_none (by rw [bitsOf_length]; omega)]
theorem not_whole_swapped {told : List Nat} (hc : 1 < cntOf told) (hc2 : cntOf told < 65536) {c : Option Nat} {d : List Nat} : ¬ Res ((blocksOf told).drop 64 ++ (blocksOf told).take 64) .whole c d := by
  intro r
  obtain ⟨n, l, rfl, r, w, p, _⟩ := r.run
  obtain ⟨o, b⟩ := r.all 0 p
  have lb := blocks_length told
  have e : chunk ((blocksOf told).drop 64 ++ (blocksOf told).take 64) 0 = chunk (blocksOf told) 1 := by
    rw [chunk_prefix (by rw [List.length_drop]; omega)]
    unfold chunk
    rw [Nat.mul_zero, List.drop_zero]
  have e2 := blocks_chunk told [] 1 hc
  rw [List.append_nil] at e2
  rw [e, e2] at b
  have b : IsBlk (blk 2 (cntOf told) (part told 1)) 1 o := b
  have b2 := (blk_is (k := 2) (c := cntOf told) (part_length (told := told) (k := 1) hc) (by omega) hc2 none (.inl rfl)).1
  have := b.2.2.1
  have := b2.2.2.1
  omega
end Feed
set_option Elab.async false
set_option linter.all false
set_option maxRecDepth 100000
set_option maxHeartbeats 4000000
/-! The feeder -/
namespace My
open PySem PySem.Spec PyProof.Rows L2 Crc
local macro_rules
  | `(tactic| nofun) => `(tactic| (apply tup_at; nofun))
local macro_rules
  | `(tactic| nofun) => `(tactic| (apply seq_at; nofun))
local macro_rules
  | `(tactic| nofun) => `(tactic| (apply pool_same; assumption; nofun))
local macro_rules
  | `(tactic| nofun) => `(tactic| (apply but_get; assumption; assumption; nofun))
local macro_rules
  | `(tactic| nofun) => `(tactic| (apply off_get; assumption; assumption; nofun))
local macro_rules
  | `(tactic| nofun) => `(tactic| (apply same_get; assumption; nofun))
local macro_rules
  | `(tactic| nofun) => `(tactic| assumption)
abbrev st_feeder_of : Stmt := topS 12
theorem sc_feeder_of : FnScope ["value", "found"] ["value"] (defScope st_feeder_of) := ⟨rfl, rfl, rfl, by decide +kernel, rfl, by decide +kernel, by decide +kernel⟩
abbrev st_Feeder___init__ : Stmt := inClass (topS 13) 0
theorem sc_Feeder___init__ : FnScope ["self"] ["self"] (defScope st_Feeder___init__) := ⟨rfl, rfl, rfl, by decide +kernel, rfl, by decide +kernel, by decide +kernel⟩
abbrev st_Feeder_feed : Stmt := inClass (topS 13) 1
theorem sc_Feeder_feed : FnScope ["self", "told", "here"] ["self", "told"] (defScope st_Feeder_feed) := ⟨rfl, rfl, rfl, by decide +kernel, rfl, by decide +kernel, by decide +kernel⟩
abbrev st_Feeder_take : Stmt := inClass (topS 13) 2
theorem sc_Feeder_take : FnScope ["self", "here", "number", "whole"] ["self", "here"] (defScope st_Feeder_take) := ⟨rfl, rfl, rfl, by decide +kernel, rfl, by decide +kernel, by decide +kernel⟩
abbrev st_Feeder_told : Stmt := inClass (topS 13) 3
theorem sc_Feeder_told : FnScope ["self", "count"] ["self"] (defScope st_Feeder_told) := ⟨rfl, rfl, rfl, by decide +kernel, rfl, by decide +kernel, by decide +kernel⟩
abbrev st_Feeder_data : Stmt := inClass (topS 13) 4
theorem sc_Feeder_data : FnScope ["self"] ["self"] (defScope st_Feeder_data) := ⟨rfl, rfl, rfl, by decide +kernel, rfl, by decide +kernel, by decide +kernel⟩
def fdF (s c t r : V) : List (Str × V) := [("state", s), ("count", c), ("taken", t), ("rest", r)]
theorem fd_state (s c t r : V) : (fdF s c t r).lookup ("state" : Str) = some s := by
  simp only [fdF, List.lookup, show (("state" : Str) == "state") = true by decide +kernel]
theorem fd_count (s c t r : V) : (fdF s c t r).lookup ("count" : Str) = some c := by
  simp only [fdF, List.lookup, show (("count" : Str) == "state") = false by decide +kernel, show (("count" : Str) == "count") = true by decide +kernel]
theorem fd_taken (s c t r : V) : (fdF s c t r).lookup ("taken" : Str) = some t := by
  simp only [fdF, List.lookup, show (("taken" : Str) == "state") = false by decide +kernel, show (("taken" : Str) == "count") = false by decide +kernel, show (("taken" : Str) == "taken") = true by decide +kernel]
theorem fd_rest (s c t r : V) : (fdF s c t r).lookup ("rest" : Str) = some r := by
  simp only [fdF, List.lookup, show (("rest" : Str) == "state") = false by decide +kernel, show (("rest" : Str) == "count") = false by decide +kernel, show (("rest" : Str) == "taken") = false by decide +kernel, show (("rest" : Str) == "rest") = true by decide +kernel]
theorem fd_no {m : Str} (s c t r : V) (h1 : (m == ("state" : Str)) = false) (h2 : (m == ("count" : Str)) = false) (h3 : (m == ("taken" : Str)) = false) (h4 : (m == ("rest" : Str)) = false) : (fdF s c t r).lookup m = none := by
  simp only [fdF, List.lookup, h1, h2, h3, h4]
theorem put_state (s c t r x : V) : putF "state" x (fdF s c t r) = fdF x c t r := by
  simp only [fdF, putF, show (("state" : Str) = "state") = True by simp, if_true]
theorem put_count (s c t r x : V) : putF "count" x (fdF s c t r) = fdF s x t r := by
  simp only [fdF, putF, if_neg (show ¬ ("state" : Str) = "count" by decide +kernel), if_true]
theorem put_taken (s c t r x : V) : putF "taken" x (fdF s c t r) = fdF s c x r := by
  simp only [fdF, putF, if_neg (show ¬ ("state" : Str) = "taken" by decide +kernel), if_neg (show ¬ ("count" : Str) = "taken" by decide +kernel), if_true]
theorem put_rest (s c t r x : V) : putF "rest" x (fdF s c t r) = fdF s c t x := by
  simp only [fdF, putF, if_neg (show ¬ ("state" : Str) = "rest" by decide +kernel), if_neg (show ¬ ("count" : Str) = "rest" by decide +kernel), if_neg (show ¬ ("taken" : Str) = "rest" by decide +kernel), if_true]
def stV : Feed.St → List V
  | .more => [.str "more"]
  | .block n => [.str "block", .int (n : Nat)]
  | .whole => [.str "whole"]
/-- a feeder stands at p -/
structure FdAt (K : PySem.W.Frag) (C : Addr) (H : Hp) (p : Addr) (s : Feed.St) (c : Option Nat) (d r : List Nat) : Prop where
  ex : ∃ dx sa ta ra, H p = some (.ins C dx (fdF (.ref sa) (cV c) (.ref ta) (.ref ra))) ∧ SqT K H sa (stV s) ∧ H ta = some (.lst (bv d)) ∧ H ra = some (.lst (bv r))
theorem FdAt.same {K : PySem.W.Frag} {C : Addr} {H H' : Hp} {p : Addr} {s : Feed.St} {c : Option Nat} {d r : List Nat} (F : FdAt K C H p s c d r) (h : Same H H') : FdAt K C H' p s c d r := by
  obtain ⟨dx, sa, ta, ra, e, es, et, er⟩ := F.ex
  exact ⟨dx, sa, ta, ra, h _ _ e, sqT_same h es, h _ _ et, h _ _ er⟩
def stD : Feed.St → PyData
  | .more => .tuple [.str "more"]
  | .block n => .tuple [.str "block", .int (n : Nat)]
  | .whole => .tuple [.str "whole"]
theorem st_dp {K : PySem.W.Frag} {H : Hp} {a : Addr} {s : Feed.St} (h : SqT K H a (stV s)) : Dp K H (.ref a) (stD s) := by
  cases s with
  | more => exact .tup h (.cons (.str _) .nil)
  | block n => exact .tup h (.cons (.str _) (.cons (.int _) .nil))
  | whole => exact .tup h (.cons (.str _) .nil)
theorem st_sh (s : Feed.St) : SeqAt.shaped (stD s) = true := by
  cases s with
  | more => decide +kernel
  | block n =>
    unfold SeqAt.shaped stD
    simp only [PyData.canLay0, PyData.canLayAll0, PyData.depth, PyData.depthAll]
    rw [show PyData.strOk (Str.ofString "block") = true by decide +kernel]
    simp
  | whole => decide +kernel
theorem st_eq (s s' : Feed.St) : PyData.eqv (stD s) (stD s') = decide (s = s') := by
  have mb : (("more" : Str) == "block") = false := by decide +kernel
  have mw : (("more" : Str) == "whole") = false := by decide +kernel
  have bm : (("block" : Str) == "more") = false := by decide +kernel
  have bw : (("block" : Str) == "whole") = false := by decide +kernel
  have wm : (("whole" : Str) == "more") = false := by decide +kernel
  have wb : (("whole" : Str) == "block") = false := by decide +kernel
  cases s <;> cases s' <;> simp [stD, PyData.eqv, PyData.eqvAll, mb, mw, bm, bw, wm, wb]
  rw [Bool.eq_iff_iff]
  simp
  omega
abbrev fds : List Str := ["state", "count", "taken", "rest"]
def spFInit (C : Addr) (K : PySem.W.Frag) : Sp := fun vs H Q _ => ∃ p dx, vs = [.ref p] ∧ H p = some (.ins C dx []) ∧ ∀ H', But p H H' → FdAt K C H' p .more none [] [] → Q .non H'
/-- the promise of take -/
def spTake (C : Addr) (K : PySem.W.Frag) : Sp := fun vs H Q _ => ∃ (p a : Addr) (y : List Nat) (n : Nat) (c : Option Nat) (d r : List Nat), vs = [.ref p, .ref a] ∧ FdAt K C H p .more c d r ∧ H a = some (.lst (bv (Crc.chunk y n))) ∧ Feed.Run y n c d ∧ Feed.Open c n ∧ 64 * (n + 1) ≤ y.length ∧ y.length ≤ 90000 ∧
  ∀ s' c' d' H', But p H H' → FdAt K C H' p s' c' d' r → ((s' = .more ∧ Feed.Run y (n + 1) c' d' ∧ Feed.Open c' (n + 1)) ∨ (s' ≠ .more ∧ Feed.Res y s' c' d')) → Q .non H'
def spFeed (C : Addr) (K : PySem.W.Frag) : Sp := fun vs H Q _ => ∃ (p a : Addr) (y z : List Nat) (s : Feed.St) (c : Option Nat) (d r : List Nat), vs = [.ref p, .ref a] ∧ FdAt K C H p s c d r ∧ SqL K H a (bv z) ∧ Feed.Fed y s c d r ∧ (y ++ z).length ≤ 90000 ∧
  ∀ t s' c' d' r' H', But p H H' → SqT K H' t (stV s') → FdAt K C H' p s' c' d' r' → Feed.Fed (y ++ z) s' c' d' r' → Q (.ref t) H'
def Mid (Y : List Nat) (s : Feed.St) (c : Option Nat) (d r : List Nat) : Prop := (s = .more ∧ ∃ n, Feed.Run Y n c d ∧ Feed.Open c n ∧ r = Y.drop (64 * n) ∧ 64 * n ≤ Y.length) ∨ (s ≠ .more ∧ Feed.Res Y s c d)
section
variable {P : Program} {w : World} {K : PySem.W.Frag} {mg : Str → Option Value} {base : Heap} {C : Addr}
theorem put_all (s c t r : V) : putF "rest" r (putF "taken" t (putF "count" c (putF "state" s []))) = fdF s c t r := by
  simp only [fdF, putF, if_neg (show ¬ ("state" : Str) = "rest" by decide +kernel), if_neg (show ¬ ("count" : Str) = "rest" by decide +kernel), if_neg (show ¬ ("taken" : Str) = "rest" by decide +kernel), if_neg (show ¬ ("state" : Str) = "taken" by decide +kernel), if_neg (show ¬ ("count" : Str) = "taken" by decide +kernel), if_neg (show ¬ ("state" : Str) = "count" by decide +kernel)]
theorem ok_finit (T : ITop K C "Feeder.__init__" st_Feeder___init__ ["self"]) (K_Feeder : Kls K mg "Feeder" C fds) : Ini P w K mg base 1 C ["self"] (spFInit C K) := by
  refine T.ok sc_Feeder___init__ (fun vs H Q E h => ?_) (fun f cdv A outer s H vs Q E hr h => ?_)
  · obtain ⟨p, dx, rfl, _⟩ := h
    rfl
  obtain ⟨p, dx, rfl, hp, q⟩ := h
  refine ⟨_, (pss_cons (ps_fld (pv 0) (pe_tup (pa_cons pe_str pa_nil)) rfl)
    (pss_cons (ps_fld (pv 0) pe_non rfl)
    (pss_cons (ps_fld (pv 0) (pe_lst pa_nil) rfl)
    (pss_one (ps_fld (pv 0) (pe_lst pa_nil) rfl))))), ?_⟩
  have nS := K_Feeder.no "state" (by simp)
  have nC := K_Feeder.no "count" (by simp)
  have nT := K_Feeder.no "taken" (by simp)
  have nR := K_Feeder.no "rest" (by simp)
  refine ⟨(by show 1 ≤ sizeLine; decide), fun sa n1 => ?_⟩
  generalize hN1 : L2.upd H sa _ = G1
  have s1 := new_of n1 hN1
  have e1 := at_of hN1
  try dsimp only at e1
  clear hN1
  have psa : sa ≠ p := fun z => by rw [z, hp] at n1; cases n1
  refine ⟨.ref p, rfl, p, C, dx, _, rfl, s1 _ _ hp, K_Feeder.cl, nS, (by show 0 < 1000; decide), ?_⟩
  generalize hN2 : L2.upd G1 p _ = G2
  have b2 := but_of hN2
  have e2 := at_of hN2
  try dsimp only at e2
  clear hN2
  refine ⟨.ref p, rfl, p, C, dx, _, rfl, e2, K_Feeder.cl, nC, (by show 1 < 1000; decide), ?_⟩
  generalize hN3 : L2.upd G2 p _ = G3
  have b3 := but_of hN3
  have e3 := at_of hN3
  try dsimp only at e3
  clear hN3
  refine ⟨Nat.zero_le _, fun ta n4 => ?_⟩
  generalize hN4 : L2.upd G3 ta _ = G4
  have s4 := new_of n4 hN4
  have e4 := at_of hN4
  try dsimp only at e4
  clear hN4
  have pta : ta ≠ p := fun z => by rw [z, e3] at n4; cases n4
  refine ⟨.ref p, rfl, p, C, dx, _, rfl, s4 _ _ e3, K_Feeder.cl, nT, Nat.lt_of_le_of_lt (putF_len _ _ _) (by show 1 + 1 < 1000; decide), ?_⟩
  generalize hN5 : L2.upd G4 p _ = G5
  have b5 := but_of hN5
  have e5 := at_of hN5
  try dsimp only at e5
  clear hN5
  refine ⟨Nat.zero_le _, fun ra n6 => ?_⟩
  generalize hN6 : L2.upd G5 ra _ = G6
  have s6 := new_of n6 hN6
  have e6 := at_of hN6
  try dsimp only at e6
  clear hN6
  have pra : ra ≠ p := fun z => by rw [z, e5] at n6; cases n6
  refine ⟨.ref p, rfl, p, C, dx, _, rfl, s6 _ _ e5, K_Feeder.cl, nR, Nat.lt_of_le_of_lt (putF_len _ _ _) (Nat.lt_of_le_of_lt (Nat.succ_le_succ (putF_len _ _ _)) (by show 1 + 1 + 1 < 1000; decide)), ?_⟩
  generalize hN7 : L2.upd G6 p _ = G7
  have b7 := but_of hN7
  have e7 := at_of hN7
  try dsimp only at e7
  clear hN7
  rw [put_all] at e7
  refine q G7 ((Same.but s1).trans (b2.trans (b3.trans ((Same.but s4).trans (b5.trans ((Same.but s6).trans b7)))))) ⟨dx, sa, ta, ra, e7, SqT.of (by nofun), by nofun, by nofun⟩
theorem ok_take (T : MTop K C "take" "Feeder.take" st_Feeder_take ["self", "here"]) (CC : Consts mg) (K_Feeder : Kls K mg "Feeder" C fds) (z_len : mg "len" = none) (D_is_block : Def P w K mg base 2 "is_block" ["told", "number", "count"] (spIsBlock K)) (D_without_end : Def P w K mg base 1 "without_end" ["data"] (spWend K)) : Mth P w K mg base 3 C "take" ["self", "here"] (spTake C K) := by
  obtain ⟨_, m_DATA⟩ := CC.DATA
  refine T.ok sc_Feeder_take (fun vs H Q E h => ?_) (fun f cdv A outer s H vs Q E hr h => ?_)
  · obtain ⟨p, a, y, n, c, d, r, rfl, _⟩ := h
    rfl
  obtain ⟨p, a, y, n, c, d, r, rfl, F, ha, hrun, ho, hn, hl, q⟩ := h
  refine ⟨_, (pss_cons (ps_set (i := 2) sc_Feeder_take.nd rfl (Or.inl rfl) (pe_op op_add (pe_op op_fdiv (pe_callB (lenQ K) rfl z_len (by decide +kernel) (pa_cons (pe_fld (pv 0) rfl) pa_nil)) (pe_glob (v := .int 56) rfl m_DATA ⟨_, rfl⟩)) pe_int))
    (pss_cons (ps_if (pt_not (pt_val (pe_def D_is_block (hr.mono (by decide)) rfl (pa_cons (pv 1) (pa_cons (pv 2) (pa_cons (pe_fld (pv 0) rfl) pa_nil))))))
    (pss_cons (ps_fld (pv 0) (pe_tup (pa_cons pe_str (pa_cons (pv 2) pa_nil))) rfl)
      (pss_one ps_retN))
    pss_nil)
    (pss_cons (ps_fld (pv 0) (pe_op op_add (pe_op op_mul pe_int (pe_ix (ixL K) (pv 1) pe_int (fun _ _ => rfl))) (pe_ix (ixL K) (pv 1) pe_int (fun _ _ => rfl))) rfl)
    (pss_cons (ps_fld (pv 0) (pe_op op_cat (pe_fld (pv 0) rfl) (pe_slice (slL K) (pv 1) (po_some pe_int) (po_some pe_int))) rfl)
    (pss_one (ps_if (pt_cmpR op_eq (pv 2) (pe_fld (pv 0) rfl) (nomark _))
    (pss_cons (ps_set (i := 3) sc_Feeder_take.nd rfl (Or.inl rfl) (pe_cmpR op_notN (pe_def D_without_end (hr.mono (by decide)) rfl (pa_cons (pe_slice (slL K) (pe_fld (pv 0) rfl) (po_some (pe_un un_neg (pe_glob (v := .int 56) rfl m_DATA ⟨_, rfl⟩))) po_none) pa_nil)) pe_non (nomark _)))
      (pss_one (ps_fld (pv 0) (pe_ifExp (pt_val (pv 3)) (pe_tup (pa_cons pe_str pa_nil)) (pe_tup (pa_cons pe_str (pa_cons (pv 2) pa_nil)))) rfl)))
    pss_nil)))))), ?_⟩
  have big : ∀ {n : Nat}, n ≤ 900000 → n ≤ sizeLine := fun h => Nat.le_trans h (by decide)
  have nS := K_Feeder.no "state" (by simp)
  have nC := K_Feeder.no "count" (by simp)
  have nT := K_Feeder.no "taken" (by simp)
  obtain ⟨dx, sa, ta, ra, hp, hs, ht, hR⟩ := F.ex
  have pta : ta ≠ p := fun z => by rw [z, hp] at ht; cases ht
  have pra : ra ≠ p := fun z => by rw [z, hp] at hR; cases hR
  have pa : a ≠ p := fun z => by rw [z, hp] at ha; cases ha
  have hlen := hrun.len
  have lch := Feed.chunk_len' hn
  refine ⟨.ref p, rfl, p, C, dx, _, _, rfl, hp, K_Feeder.cl, nT, fd_taken _ _ _ _, ta, _, rfl, .inl (SqL.of ht), ?_⟩
  refine ⟨_, _, rfl, rfl, ⟨by decide, by decide⟩, _, _, rfl, rfl, ?_⟩
  have en : ((bv d).length : Int) / 56 + 1 = ((n + 1 : Nat) : Int) := by rw [bv_len, hlen.2]; omega
  dsimp only
  rw [en]
  refine ⟨.ref a, rfl, _, rfl, .ref p, rfl, p, C, dx, _, _, rfl, hp, K_Feeder.cl, nC, fd_count _ _ _ _, a, Crc.chunk y n, n + 1, c, rfl, SqL.of ha, fun G1 s1 => ?_⟩
  have hp1 := s1 _ _ hp
  refine ⟨_, rfl, ?_⟩
  by_cases b : IsBlk (Crc.chunk y n) (n + 1) c
  · rw [decide_eq_true b]
    refine iteF ?_
    have at_ : ∀ i : Nat, i < 64 → atI (bv (Crc.chunk y n)) (i : Int) = some (.int ((Crc.chunk y n).getD i 0 : Nat)) := fun i hi => bv_at (by omega)
    have ha1 := s1 _ _ ha
    refine ⟨.ref a, rfl, a, _, _, _, rfl, rfl, SqL.of ha1, at_ 2 (by decide), _, _, rfl, rfl, .inl ⟨by decide, by decide⟩, .ref a, rfl, a, _, _, _, rfl, rfl, SqL.of ha1, at_ 3 (by decide), _, _, rfl, rfl, ?_⟩
    have c0 : (256 : Int) * ((Crc.chunk y n).getD 2 0 : Nat) + ((Crc.chunk y n).getD 3 0 : Nat) = ((Crc.cnt (Crc.chunk y n) : Nat) : Int) := by
      unfold Crc.cnt
      omega
    dsimp only
    rw [c0]
    refine ⟨.ref p, rfl, p, C, dx, _, rfl, hp1, K_Feeder.cl, nC, (by show 4 < 1000; decide), ?_⟩
    generalize hN2 : L2.upd G1 p _ = G2
    have b2 := but_of hN2
    have e2 := at_of hN2
    try dsimp only at e2
    clear hN2
    rw [put_count] at e2
    refine ⟨.ref p, rfl, p, C, dx, _, _, rfl, e2, K_Feeder.cl, nT, fd_taken _ _ _ _, .ref a, rfl, _, rfl, _, rfl, a, _, rfl, SqL.of (by nofun), fun z n3 => ?_⟩
    generalize hN3 : L2.upd G2 z _ = G3
    have s3 := new_of n3 hN3
    have e3 := at_of hN3
    try dsimp only at e3
    clear hN3
    have ec2 : cutV (bv (Crc.chunk y n)) (some 4) (some 60) = bv (((Crc.chunk y n).drop 4).take 56) := by
      rw [show (4 : Int) = ((4 : Nat) : Int) from rfl, show (60 : Int) = ((60 : Nat) : Int) from rfl, cut_mid, bv_drop, bv_take]
    rw [ec2] at e3
    have cl : (((Crc.chunk y n).drop 4).take 56).length = 56 := by
      rw [List.length_take, List.length_drop, b.1]
      rfl
    refine ⟨ta, z, _, _, rfl, rfl, by nofun, e3, big (by rw [bv_len, bv_len, cl]; omega), fun tb n4 => ?_⟩
    rw [← bv_app]
    generalize hN4 : L2.upd G3 tb _ = G4
    have s4 := new_of n4 hN4
    have e4 := at_of hN4
    try dsimp only at e4
    clear hN4
    have ptb : tb ≠ p := fun z => by rw [z, s3 _ _ e2] at n4; cases n4
    refine ⟨.ref p, rfl, p, C, dx, _, rfl, s4 _ _ (s3 _ _ e2), K_Feeder.cl, nT, (by show 4 < 1000; decide), ?_⟩
    generalize hN5 : L2.upd G4 p _ = G5
    have b5 := but_of hN5
    have e5 := at_of hN5
    try dsimp only at e5
    clear hN5
    rw [put_taken] at e5
    have run2 : Feed.Run y (n + 1) (some (Crc.cnt (Crc.chunk y n))) (d ++ ((Crc.chunk y n).drop 4).take 56) := .step hrun ho b
    generalize d ++ ((Crc.chunk y n).drop 4).take 56 = d2 at *
    have le := b.2.2.2.1
    generalize Crc.cnt (Crc.chunk y n) = cc at *
    have htb5 : G5 tb = some (.lst (bv d2)) := by nofun
    have hb5 : But p H G5 := (Same.but s1).trans (b2.trans ((Same.but s3).trans ((Same.but s4).trans b5)))
    have hs5 : SqT K G5 sa (stV .more) := hb5.tupI hp hs
    have hR5 : G5 ra = some (.lst (bv r)) := hb5.get pra hR
    clear e2 e3 e4 b2 s3 s4 b5
    refine ⟨_, rfl, .ref p, rfl, p, C, dx, _, _, rfl, e5, K_Feeder.cl, nC, fd_count _ _ _ _, rfl, _, rfl, ?_⟩
    by_cases eq : n + 1 = cc
    · refine ifD (by rw [eq]) ?_
      refine ⟨.ref p, rfl, p, C, dx, _, _, rfl, e5, K_Feeder.cl, nT, fd_taken _ _ _ _, _, rfl, _, rfl, tb, _, rfl, SqL.of htb5, fun x n6 => ?_⟩
      have ec : cutV (bv d2) (some (-56)) none = bv (d2.drop (d2.length - 56)) := by
        rw [show (-56 : Int) = -((56 : Nat) : Int) from rfl, cut_back _ _ (by decide), bv_len, bv_drop]
      rw [ec]
      generalize hN6 : L2.upd G5 x _ = G6
      have s6 := new_of n6 hN6
      have e6 := at_of hN6
      try dsimp only at e6
      clear hN6
      refine ⟨x, d2.drop (d2.length - 56), rfl, SqL.of e6, fun v G7 s7 hv => ?_⟩
      have s57 := s6.trans s7
      have e7 := s57 _ _ e5
      refine ⟨rfl, ?_⟩
      cases ew : wend (d2.drop (d2.length - 56)) with
      | none =>
        rw [ew] at hv
        obtain rfl : v = .non := hv
        refine ⟨_, rfl, _, rfl, iteF ?_⟩
        subst eq
        refine ⟨_, rfl, (by show 2 ≤ sizeLine; decide), fun t n8 => ?_⟩
        generalize hN8 : L2.upd G7 t _ = G8
        have s8 := new_of n8 hN8
        have e8 := at_of hN8
        try dsimp only at e8
        clear hN8
        have pt : t ≠ p := fun z => by rw [z, e7] at n8; cases n8
        refine ⟨.ref p, rfl, p, C, dx, _, rfl, s8 _ _ e7, K_Feeder.cl, nS, (by show 4 < 1000; decide), ?_⟩
        generalize hN9 : L2.upd G8 p _ = G9
        have b9 := but_of hN9
        have e9 := at_of hN9
        try dsimp only at e9
        clear hN9
        rw [put_state] at e9
        have tb9 : G9 tb = some (.lst (bv d2)) := b9.get ptb (s8 _ _ (s57 _ _ htb5))
        have r9 : G9 ra = some (.lst (bv r)) := b9.get pra (s8 _ _ (s57 _ _ hR5))
        refine q (.block (n + 1)) (some (n + 1)) d2 G9 (hb5.trans ((Same.but s57).trans ((Same.but s8).trans b9))) ⟨dx, t, tb, ra, e9, SqT.of (b9.get pt e8), tb9, r9⟩ (.inr ⟨(fun z => by cases z), .unended run2 ew⟩)
      | some ll =>
        rw [ew] at hv
        obtain ⟨lr, rfl, _, _⟩ := hv
        refine ⟨_, rfl, _, rfl, iteT ?_⟩
        subst eq
        refine ⟨(by show 1 ≤ sizeLine; decide), fun t n8 => ?_⟩
        generalize hN8 : L2.upd G7 t _ = G8
        have s8 := new_of n8 hN8
        have e8 := at_of hN8
        try dsimp only at e8
        clear hN8
        have pt : t ≠ p := fun z => by rw [z, e7] at n8; cases n8
        refine ⟨.ref p, rfl, p, C, dx, _, rfl, s8 _ _ e7, K_Feeder.cl, nS, (by show 4 < 1000; decide), ?_⟩
        generalize hN9 : L2.upd G8 p _ = G9
        have b9 := but_of hN9
        have e9 := at_of hN9
        try dsimp only at e9
        clear hN9
        rw [put_state] at e9
        have tb9 : G9 tb = some (.lst (bv d2)) := b9.get ptb (s8 _ _ (s57 _ _ htb5))
        have r9 : G9 ra = some (.lst (bv r)) := b9.get pra (s8 _ _ (s57 _ _ hR5))
        refine q .whole (some (n + 1)) d2 G9 (hb5.trans ((Same.but s57).trans ((Same.but s8).trans b9))) ⟨dx, t, tb, ra, e9, SqT.of (b9.get pt e8), tb9, r9⟩ (.inr ⟨(fun z => by cases z), .whole run2 ew⟩)
    · refine ifND (fun z => eq (by have := V.int.inj z; omega)) ?_
      exact q .more (some cc) d2 G5 hb5 ⟨dx, sa, tb, ra, e5, hs5, htb5, hR5⟩ (.inl ⟨rfl, run2, .inr (show n + 1 < cc by omega)⟩)
  · rw [decide_eq_false b]
    refine iteT ?_
    refine ⟨_, rfl, (by show 2 ≤ sizeLine; decide), fun t n2 => ?_⟩
    generalize hN2 : L2.upd G1 t _ = G2
    have s2 := new_of n2 hN2
    have e2 := at_of hN2
    try dsimp only at e2
    clear hN2
    have pt : t ≠ p := fun z => by rw [z, hp1] at n2; cases n2
    refine ⟨.ref p, rfl, p, C, dx, _, rfl, s2 _ _ hp1, K_Feeder.cl, nS, (by show 4 < 1000; decide), ?_⟩
    generalize hN3 : L2.upd G2 p _ = G3
    have b3 := but_of hN3
    have e3 := at_of hN3
    try dsimp only at e3
    clear hN3
    rw [put_state] at e3
    refine q (.block (n + 1)) c d G3 ((Same.but s1).trans ((Same.but s2).trans b3)) ⟨dx, t, ta, ra, e3, SqT.of (by nofun), by nofun, by nofun⟩ (.inr ⟨(fun z => by cases z), .bad hrun ho hn b⟩)
theorem ok_feed (T : MTop K C "feed" "Feeder.feed" st_Feeder_feed ["self", "told"]) (CC : Consts mg) (K_Feeder : Kls K mg "Feeder" C fds) (z_len : mg "len" = none) (z_list : mg "list" = none) (D_Feeder_take : Mth P w K mg base 3 C "take" ["self", "here"] (spTake C K)) : Mth P w K mg base 4 C "feed" ["self", "told"] (spFeed C K) := by
  obtain ⟨_, m_SIZE⟩ := CC.SIZE
  refine T.ok sc_Feeder_feed (fun vs H Q E h => ?_) (fun f cdv A outer s H vs Q E hr h => ?_)
  · obtain ⟨p, a, y, z, s, c, d, r, rfl, _⟩ := h
    rfl
  obtain ⟨p, a, y, z, s, c, d, r, rfl, F, ha, hfed, hl, q⟩ := h
  refine ⟨_, (Evl.pss_cut (ps_if (pt_cmpR (eqQ K hr.units) (pe_fld (pv 0) rfl) (pe_tup (pa_cons pe_str pa_nil)) (nomark _))
    (pss_one (ps_fld (pv 0) (pe_op op_cat (pe_fld (pv 0) rfl) (pe_callTy (lstQ K) rfl z_list (by decide +kernel) (pa_cons (pv 1) pa_nil))) rfl))
    pss_nil)
    (pss_cons (ps_while PassesOwn.never (PW.pt (pw_and (pt_cmpR (eqQ K hr.units) (pe_fld (pv 0) rfl) (pe_tup (pa_cons pe_str pa_nil)) (nomark _)) (pw_and1 (pt_cmpR op_ge (pe_callB (lenQ K) rfl z_len (by decide +kernel) (pa_cons (pe_fld (pv 0) rfl) pa_nil)) (pe_glob (v := .int 64) rfl m_SIZE ⟨_, rfl⟩) (nomark _)))))
    (pss_cons (ps_set (i := 2) sc_Feeder_feed.nd rfl (Or.inl rfl) (pe_slice (slL K) (pe_fld (pv 0) rfl) po_none (po_some (pe_glob (v := .int 64) rfl m_SIZE ⟨_, rfl⟩))))
      (pss_cons (ps_fld (pv 0) (pe_slice (slL K) (pe_fld (pv 0) rfl) (po_some (pe_glob (v := .int 64) rfl m_SIZE ⟨_, rfl⟩)) po_none) rfl)
      (pss_one (ps_expr (pe_mth D_Feeder_take K_Feeder (pv 0) (hr.mono (by decide)) (pa_cons (pv 2) pa_nil)))))))
    (Evl.pss_cut (ps_if (pt_cmpR (neQ K hr.units) (pe_fld (pv 0) rfl) (pe_tup (pa_cons pe_str pa_nil)) (nomark _))
    (pss_one (ps_fld (pv 0) (pe_lst pa_nil) rfl))
    pss_nil)
    (pss_one (ps_ret (pe_fld (pv 0) rfl)))))), ?_⟩
  have big : ∀ {n : Nat}, n ≤ 900000 → n ≤ sizeLine := fun h => Nat.le_trans h (by decide)
  have nS := K_Feeder.no "state" (by simp)
  have nR := K_Feeder.no "rest" (by simp)
  obtain ⟨dx, sa, ta, ra, hp, hs, ht, hR⟩ := F.ex
  have hyz : y.length + z.length ≤ 90000 := by rw [← List.length_append]; exact hl
  refine ⟨fun σ' G' => ∃ r', σ' = [some (.ref p), some (.ref a), none] ∧ But p H G' ∧ FdAt K C G' p s c d r' ∧ (s = .more → r' = r ++ z), ?_, ?_⟩
  · refine ⟨.ref p, rfl, p, C, dx, _, _, rfl, hp, K_Feeder.cl, nS, fd_state _ _ _ _, (by show 1 ≤ sizeLine; decide), fun t1 n1 => ?_⟩
    generalize hN1 : L2.upd H t1 _ = G1
    have s1 := new_of n1 hN1
    have e1 := at_of hN1
    try dsimp only at e1
    clear hN1
    refine ⟨_, _, st_dp (sqT_same s1 hs), st_dp (s := .more) (SqT.of e1), st_sh _, st_sh .more, _, rfl, ?_⟩
    rw [st_eq]
    have hp1 := s1 _ _ hp
    by_cases sm : s = .more
    · refine ifD sm ?_
      subst sm
      have lr : r.length ≤ 90000 := by
        rcases hfed with ⟨_, n, _, _, er, _⟩ | ⟨k, _⟩
        · rw [er, List.length_drop]; omega
        · exact absurd rfl k
      refine ⟨.ref p, rfl, p, C, dx, _, _, rfl, hp1, K_Feeder.cl, nR, fd_rest _ _ _ _, .ref a, rfl, a, _, rfl, .inl (s1.seq ha), fun l2 n2 => ?_⟩
      generalize hN2 : L2.upd G1 l2 _ = G2
      have s2 := new_of n2 hN2
      have e2 := at_of hN2
      try dsimp only at e2
      clear hN2
      refine ⟨ra, l2, _, _, rfl, rfl, by nofun, e2, big (by rw [bv_len, bv_len]; omega), fun rb n3 => ?_⟩
      generalize hN3 : L2.upd G2 rb _ = G3
      have s3 := new_of n3 hN3
      have e3 := at_of hN3
      try dsimp only at e3
      clear hN3
      rw [← bv_app] at e3
      have prb : rb ≠ p := fun z => by rw [z, s2 _ _ hp1] at n3; cases n3
      refine ⟨.ref p, rfl, p, C, dx, _, rfl, s3 _ _ (s2 _ _ hp1), K_Feeder.cl, nR, (by show 4 < 1000; decide), ?_⟩
      generalize hN4 : L2.upd G3 p _ = G4
      have b4 := but_of hN4
      have e4 := at_of hN4
      try dsimp only at e4
      clear hN4
      rw [put_rest] at e4
      have rb4 := b4.get prb e3
      have hb4 : But p H G4 := (Same.but (s1.trans (s2.trans s3))).trans b4
      exact ⟨_, rfl, hb4, ⟨dx, sa, ta, rb, e4, hb4.tupI hp hs, hb4.lstI hp ht, rb4⟩, fun _ => rfl⟩
    · refine ifND sm ?_
      exact ⟨_, rfl, Same.but s1, F.same s1, fun k => absurd k sm⟩
  rintro σ' G ⟨r', rfl, bG, FG, hr'⟩
  have mid : Mid (y ++ z) s c d r' := by
    rcases hfed with ⟨k, n, run, o, er, l⟩ | ⟨k, res, _⟩
    · refine .inl ⟨k, n, run.app z, o, ?_, ?_⟩
      · rw [hr' k, er, List.drop_append_of_le_length run.len.1]
      · have := run.len.1
        rw [List.length_append]
        omega
    · exact .inr ⟨k, res.app z⟩
  have lY : (y ++ z).length ≤ 90000 := hl
  have q' : ∀ t s' c' d' r' H', But p H H' → SqT K H' t (stV s') → FdAt K C H' p s' c' d' r' → Feed.Fed (y ++ z) s' c' d' r' → Q (.ref t) H' := q
  generalize y ++ z = Y at *
  clear hr' hfed
  refine ⟨fun m σ G' => ∃ s' c' d' r' x2, σ = [some (.ref p), some (.ref a), x2] ∧ But p H G' ∧ FdAt K C G' p s' c' d' r' ∧ Mid Y s' c' d' r' ∧ m = r'.length, ⟨_, s, c, d, r', none, rfl, bG, FG, mid, rfl⟩, ?_⟩
  rintro m σ G ⟨s, c, d, r, x2, rfl, bG, FG, mid, rfl⟩
  have FG0 := FG
  obtain ⟨dx, sa, ta, ra, hp, hs, ht, hR⟩ := FG.ex
  refine ⟨.ref p, rfl, p, C, dx, _, _, rfl, hp, K_Feeder.cl, nS, fd_state _ _ _ _, (by show 1 ≤ sizeLine; decide), fun t1 n1 => ?_⟩
  generalize hN1 : L2.upd G t1 _ = G1
  have s1 := new_of n1 hN1
  have e1 := at_of hN1
  try dsimp only at e1
  clear hN1
  refine ⟨_, _, st_dp (sqT_same s1 hs), st_dp (s := .more) (SqT.of e1), st_sh _, st_sh .more, _, rfl, ?_⟩
  rw [st_eq]
  by_cases sm : s = .more
  case neg =>
    have res : Feed.Res Y s c d := by
      rcases mid with ⟨k, _⟩ | ⟨_, k⟩
      · exact absurd k sm
      · exact k
    refine ifND sm (iteF ?_)
    refine ⟨fun σ' G' => ∃ r' x2, σ' = [some (.ref p), some (.ref a), x2] ∧ But p H G' ∧ FdAt K C G' p s c d r' ∧ Feed.Fed Y s c d r', ?_, ?_⟩
    · refine ⟨.ref p, rfl, p, C, dx, _, _, rfl, s1 _ _ hp, K_Feeder.cl, nS, fd_state _ _ _ _, (by show 1 ≤ sizeLine; decide), fun t2 n2 => ?_⟩
      generalize hN2 : L2.upd G1 t2 _ = G2
      have s2 := new_of n2 hN2
      have e2 := at_of hN2
      try dsimp only at e2
      clear hN2
      refine ⟨_, _, st_dp (sqT_same s2 (sqT_same s1 hs)), st_dp (s := .more) (SqT.of e2), st_sh _, st_sh .more, _, rfl, ?_⟩
      rw [st_eq]
      refine ifnND sm ⟨Nat.zero_le _, fun rb n3 => ?_⟩
      generalize hN3 : L2.upd G2 rb _ = G3
      have s3 := new_of n3 hN3
      have e3 := at_of hN3
      try dsimp only at e3
      clear hN3
      have prb : rb ≠ p := fun z => by rw [z, s2 _ _ (s1 _ _ hp)] at n3; cases n3
      refine ⟨.ref p, rfl, p, C, dx, _, rfl, s3 _ _ (s2 _ _ (s1 _ _ hp)), K_Feeder.cl, nR, (by show 4 < 1000; decide), ?_⟩
      generalize hN4 : L2.upd G3 p _ = G4
      have b4 := but_of hN4
      have e4 := at_of hN4
      try dsimp only at e4
      clear hN4
      rw [put_rest] at e4
      have rb4 : G4 rb = some (.lst (bv [])) := b4.get prb e3
      have hb4 : But p G G4 := (Same.but (s1.trans (s2.trans s3))).trans b4
      exact ⟨[], _, rfl, bG.trans hb4, ⟨dx, sa, ta, rb, e4, hb4.tupI hp hs, hb4.lstI hp ht, rb4⟩, .inr ⟨sm, res, rfl⟩⟩
    rintro σ' G9 ⟨r9, x9, rfl, b9, F9, fed9⟩
    obtain ⟨dx9, sa9, ta9, ra9, hp9, hs9, _, _⟩ := F9.ex
    exact ⟨.ref p, rfl, p, C, dx9, _, _, rfl, hp9, K_Feeder.cl, nS, fd_state _ _ _ _, q' sa9 s c d r9 G9 b9 hs9 F9 fed9⟩
  subst sm
  refine ifD rfl ?_
  obtain ⟨n, run, o, er, le⟩ : ∃ n, Feed.Run Y n c d ∧ Feed.Open c n ∧ r = Y.drop (64 * n) ∧ 64 * n ≤ Y.length := by
    rcases mid with ⟨_, k⟩ | ⟨k, _⟩
    · exact k
    · exact absurd rfl k
  refine ⟨.ref p, rfl, p, C, dx, _, _, rfl, s1 _ _ hp, K_Feeder.cl, nR, fd_rest _ _ _ _, ra, _, rfl, .inl (SqL.of (s1 _ _ hR)), _, _, rfl, rfl, _, rfl, ?_⟩
  have er' := er
  by_cases lt : r.length < 64
  · refine ifND (by rw [bv_len]; omega) ?_
    refine ⟨fun σ' G' => ∃ r' x2, σ' = [some (.ref p), some (.ref a), x2] ∧ But p H G' ∧ FdAt K C G' p .more c d r' ∧ Feed.Fed Y .more c d r', ?_, ?_⟩
    · refine ⟨.ref p, rfl, p, C, dx, _, _, rfl, s1 _ _ hp, K_Feeder.cl, nS, fd_state _ _ _ _, (by show 1 ≤ sizeLine; decide), fun t2 n2 => ?_⟩
      generalize hN2 : L2.upd G1 t2 _ = G2
      have s2 := new_of n2 hN2
      have e2 := at_of hN2
      try dsimp only at e2
      clear hN2
      refine ⟨_, _, st_dp (sqT_same s2 (sqT_same s1 hs)), st_dp (s := .more) (SqT.of e2), st_sh _, st_sh .more, _, rfl, ?_⟩
      rw [st_eq]
      refine ifnD rfl ?_
      exact ⟨r, _, rfl, bG.trans (Same.but (s1.trans s2)), FG0.same (s1.trans s2), .inl ⟨rfl, n, run, o, er, by rw [er, List.length_drop] at lt; omega⟩⟩
    rintro σ' G9 ⟨r9, x9, rfl, b9, F9, fed9⟩
    obtain ⟨dx9, sa9, ta9, ra9, hp9, hs9, _, _⟩ := F9.ex
    exact ⟨.ref p, rfl, p, C, dx9, _, _, rfl, hp9, K_Feeder.cl, nS, fd_state _ _ _ _, q' sa9 .more c d r9 G9 b9 hs9 F9 fed9⟩
  refine ifD (by rw [bv_len]; omega) ⟨fun σ' G' => ∃ m', m' < r.length ∧ _, fun σ' G' w => w, ?_⟩
  refine ⟨.ref p, rfl, p, C, dx, _, _, rfl, s1 _ _ hp, K_Feeder.cl, nR, fd_rest _ _ _ _, _, rfl, ra, _, rfl, SqL.of (by nofun), fun h n2 => ?_⟩
  generalize hN2 : L2.upd G1 h _ = G2
  have s2 := new_of n2 hN2
  have e2 := at_of hN2
  try dsimp only at e2
  clear hN2
  rw [show cutV (bv r) none (some 64) = bv (r.take 64) from (cut_lt _ 64).trans (bv_take _ _)] at e2
  refine ⟨.ref p, rfl, p, C, dx, _, _, rfl, s2 _ _ (s1 _ _ hp), K_Feeder.cl, nR, fd_rest _ _ _ _, _, rfl, ra, _, rfl, SqL.of (by nofun), fun rb n3 => ?_⟩
  generalize hN3 : L2.upd G2 rb _ = G3
  have s3 := new_of n3 hN3
  have e3 := at_of hN3
  try dsimp only at e3
  clear hN3
  rw [show cutV (bv r) (some 64) none = bv (r.drop 64) from (cut_ge _ 64).trans (bv_drop _ _)] at e3
  have hp3 := s3 _ _ (s2 _ _ (s1 _ _ hp))
  have prb : rb ≠ p := fun z => by rw [z, s2 _ _ (s1 _ _ hp)] at n3; cases n3
  have ph : h ≠ p := fun z => by rw [z, s1 _ _ hp] at n2; cases n2
  refine ⟨.ref p, rfl, p, C, dx, _, rfl, hp3, K_Feeder.cl, nR, (by show 4 < 1000; decide), ?_⟩
  generalize hN4 : L2.upd G3 p _ = G4
  have b4 := but_of hN4
  have e4 := at_of hN4
  try dsimp only at e4
  clear hN4
  rw [put_rest] at e4
  have rb4 := b4.get prb e3
  have h4 : G4 h = some (.lst (bv (Crc.chunk Y n))) := by
    rw [b4.get ph (s3 _ _ e2), er]
    rfl
  have hb4 : But p G G4 := (Same.but (s1.trans (s2.trans s3))).trans b4
  have lr : r.length = Y.length - 64 * n := by rw [er, List.length_drop]
  refine ⟨.ref p, rfl, p, dx, _, rfl, e4, fd_no _ _ _ _ (by decide +kernel) (by decide +kernel) (by decide +kernel) (by decide +kernel), .ref h, rfl, p, h, Y, n, c, d, r.drop 64, rfl, ⟨dx, sa, ta, rb, e4, hb4.tupI hp hs, hb4.lstI hp ht, rb4⟩, h4, run, o, by omega, by omega, fun s' c' d' G5 b5 F5 h5 => ?_⟩
  refine ⟨(r.drop 64).length, by rw [List.length_drop]; omega, s', c', d', r.drop 64, _, rfl, bG.trans (hb4.trans b5), F5, ?_, rfl⟩
  rcases h5 with ⟨k, run', o'⟩ | ⟨k, res⟩
  · exact .inl ⟨k, n + 1, run', o', by rw [er, List.drop_drop]; congr 1, by omega⟩
  · exact .inr ⟨k, res⟩
end
end My
set_option Elab.async false
set_option linter.all false
set_option maxRecDepth 100000
set_option maxHeartbeats 4000000
/-! What a feeder tells, and what is due -/
namespace My
open PySem PySem.Spec PyProof.Rows L2 Crc
local macro_rules
  | `(tactic| nofun) => `(tactic| (apply tup_at; nofun))
local macro_rules
  | `(tactic| nofun) => `(tactic| (apply seq_at; nofun))
local macro_rules
  | `(tactic| nofun) => `(tactic| (apply pool_same; assumption; nofun))
local macro_rules
  | `(tactic| nofun) => `(tactic| (apply but_get; assumption; assumption; nofun))
local macro_rules
  | `(tactic| nofun) => `(tactic| (apply off_get; assumption; assumption; nofun))
local macro_rules
  | `(tactic| nofun) => `(tactic| (apply same_get; assumption; nofun))
local macro_rules
  | `(tactic| nofun) => `(tactic| assumption)
abbrev st_is_plain : Stmt := topS 17
theorem sc_is_plain : FnScope ["value", "queue", "one", "deep", "member", "sign"] ["value"] (defScope st_is_plain) := ⟨rfl, rfl, rfl, by decide +kernel, rfl, by decide +kernel, by decide +kernel⟩
abbrev st_law_due : Stmt := topS 32
theorem sc_law_due : FnScope ["told", "seen", "many"] ["told"] (defScope st_law_due) := ⟨rfl, rfl, rfl, by decide +kernel, rfl, by decide +kernel, by decide +kernel⟩
/-- the signs of a text -/
def ksOf (s : List Nat) : List Nat := s
def stVal : Feed.St → Pv.Val
  | .more => .tup [.str [14, 16, 19, 6]]
  | .block n => .tup [.str [3, 13, 16, 4, 12], .int (n : Nat)]
  | .whole => .tup [.str [24, 9, 16, 13, 6]]
theorem t_more : Pv.txt [14, 16, 19, 6] = "more" := by decide +kernel
theorem t_block : Pv.txt [3, 13, 16, 4, 12] = "block" := by decide +kernel
theorem t_whole : Pv.txt [24, 9, 16, 13, 6] = "whole" := by decide +kernel
theorem t_feeder : Pv.txt [7, 6, 6, 5, 6, 19] = "feeder" := by decide +kernel
def cntI (c : Option Nat) : Int := match c with | none => -1 | some n => (n : Nat)
def numsV (l : List Nat) : Pv.Val := .tup (l.map fun n => .int (n : Nat))
def fdVal (s : Feed.St) (c : Option Nat) (d r : List Nat) : Pv.Val := .tup [.str [7, 6, 6, 5, 6, 19], stVal s, .int (cntI c), numsV d, numsV r]
theorem VW.items {K : PySem.W.Frag} {H : Hp} {n : Nat} : ∀ {xs : List V} {ds : List Pv.Val}, Paired (VW K H n) xs ds → ∀ (i : Nat) y e, xs[i]? = some y → ds[i]? = some e → VW K H n y e := by
  intro xs ds h
  induction h with
  | nil => intro i y e hy; simp at hy
  | cons h t ih =>
    intro i y e hy he
    cases i with
    | zero =>
      obtain rfl := Option.some.inj hy
      obtain rfl := Option.some.inj he
      exact h
    | succ i => exact ih i y e hy he
theorem VW.tup {K : PySem.W.Frag} {H : Hp} {n : Nat} {a : Addr} {xs : List V} {l : List Pv.Val} (h : SqT K H a xs) (p : Paired (VW K H n) xs l) : VW K H (n + 1) (.ref a) (.tup l) :=
  ⟨a, xs, rfl, h, paired_len p, VW.items p⟩
def spPlain (K : PySem.W.Frag) : Sp := fun vs H Q _ => ∃ (x : V) (v : Pv.Val) (n : Nat), vs = [x] ∧ VW K H n x v ∧ Pv.Ok v ∧ Pv.size v ≤ 900000 ∧ Pv.depth v ≤ 60 ∧ ∀ H', Same H H' → Q (.bl true) H'
/-- what waits in the queue -/
def Wait (K : PySem.W.Frag) (G : Hp) (n : Nat) (xs : List V) (vs : List Pv.Val) : Prop := xs.length = vs.length ∧ ∀ (i : Nat) y e, xs[i]? = some y → vs[i]? = some e → ∃ (t : Addr) (z : V) (k : Nat), y = .ref t ∧ G t = some (.tup [z, .int (k : Nat)]) ∧ VW K G n z e ∧ k + Pv.depth e ≤ 60
theorem Wait.same {K : PySem.W.Frag} {G G' : Hp} {n : Nat} {xs : List V} {vs : List Pv.Val} (w : Wait K G n xs vs) (s : Same G G') : Wait K G' n xs vs := ⟨w.1, fun i y e hy he => by
  obtain ⟨t, z, k, h1, h2, h3, h4⟩ := w.2 i y e hy he
  exact ⟨t, z, k, h1, s _ _ h2, h3.same s, h4⟩⟩
theorem Wait.list {K : PySem.W.Frag} {G : Hp} {n : Nat} {xs : List V} {vs : List Pv.Val} {l : Addr} {us us' : List V} (w : Wait K G n xs vs) (h : G l = some (.lst us)) : Wait K (upd G l (.lst us')) n xs vs := ⟨w.1, fun i y e hy he => by
  obtain ⟨t, z, k, h1, h2, h3, h4⟩ := w.2 i y e hy he
  exact ⟨t, z, k, h1, (upd_ne (fun q => by rw [q, h] at h2; cases h2)).trans h2, h3.list h, h4⟩⟩
theorem Wait.app {K : PySem.W.Frag} {G : Hp} {n : Nat} {xs ys : List V} {vs us : List Pv.Val} (w : Wait K G n xs vs) (u : Wait K G n ys us) : Wait K G n (xs ++ ys) (vs ++ us) := by
  have l := w.1
  refine ⟨by rw [List.length_append, List.length_append, w.1, u.1], fun i y e hy he => ?_⟩
  by_cases lt : i < xs.length
  · rw [List.getElem?_append_left lt] at hy
    rw [List.getElem?_append_left (by omega)] at he
    exact w.2 i y e hy he
  · rw [List.getElem?_append_right (by omega)] at hy
    rw [List.getElem?_append_right (by omega), show i - vs.length = i - xs.length by omega] at he
    exact u.2 _ y e hy he
theorem Wait.left {K : PySem.W.Frag} {G : Hp} {n : Nat} {xs ys : List V} {vs us : List Pv.Val} (w : Wait K G n (xs ++ ys) (vs ++ us)) (l : xs.length = vs.length) : Wait K G n xs vs := ⟨l, fun i y e hy he => w.2 i y e (by rw [List.getElem?_append_left (List.getElem?_eq_some_iff.mp hy).1]; exact hy) (by rw [List.getElem?_append_left (List.getElem?_eq_some_iff.mp he).1]; exact he)⟩
theorem Wait.one {K : PySem.W.Frag} {G : Hp} {n : Nat} {t : Addr} {z : V} {k : Nat} {e : Pv.Val} (h : G t = some (.tup [z, .int (k : Nat)])) (v : VW K G n z e) (d : k + Pv.depth e ≤ 60) : Wait K G n [.ref t] [e] := ⟨rfl, fun i y e' hy he => by
  cases i with
  | zero =>
    obtain rfl := Option.some.inj hy
    obtain rfl := Option.some.inj he
    exact ⟨t, z, k, rfl, h, v, d⟩
  | succ i => cases hy⟩
section
variable {P : Program} {w : World} {K : PySem.W.Frag} {mg : Str → Option Value} {base : Heap} {C : Addr}
theorem ok_plain (T : Top K mg "is_plain" st_is_plain ["value"]) (hS : ∃ t, mg "SIGNS" = some (.str Pv.SIGNS t)) (hD : ∃ t, mg "DEEPEST" = some (.int 60 t)) (z_isinstance : mg "isinstance" = none) (z_tuple : mg "tuple" = none) (z_str : mg "str" = none) (z_int : mg "int" = none) (z_bool : mg "bool" = none) (z_all : mg "all" = none) : Def P w K mg base 1 "is_plain" ["value"] (spPlain K) := by
  obtain ⟨_, m_SIGNS⟩ := hS
  obtain ⟨_, m_DEEPEST⟩ := hD
  refine T.ok sc_is_plain (fun vs H Q E h => ?_) (fun f cdv A outer s H vs Q E hr h => ?_)
  · obtain ⟨x, v, n, rfl, _⟩ := h
    rfl
  obtain ⟨x, v, n, rfl, hx, hv, hsz, hdp, q⟩ := h
  refine ⟨_, (pss_cons (ps_set (i := 1) sc_is_plain.nd rfl (Or.inl rfl) (pe_lst (pa_cons (pe_tup (pa_cons (pv 0) (pa_cons pe_int pa_nil))) pa_nil)))
    (pss_cons (ps_while PassesOwn.never (pt_truth (pv 1) (by intro _; rfl))
    (pss_cons (ps_asg (pe_bm0 PySem.F.plainAttrs_list PySem.F.slot_list_pop PySem.F.type_list_pop mt_pop (pv 1)) (pg_tup rfl (pgs_cons (pg_name (i := 2) sc_is_plain.nd rfl (Or.inl rfl)) (pgs_cons (pg_name (i := 3) sc_is_plain.nd rfl (Or.inr rfl)) pgs_nil))))
      (pss_one (ps_if (PW.pt (pw_and (pt_val (pe_callB (isiQ K) rfl z_isinstance (by decide +kernel) (pa_cons (pv 2) (pa_cons (pe_bltn (v := .ty "tuple") rfl z_tuple (by decide +kernel) rfl) pa_nil)))) (pw_and1 (pt_cmpR op_lt (pv 3) (pe_glob (v := .int 60) rfl m_DEEPEST ⟨_, rfl⟩) (nomark _)))))
      (pss_one (ps_expr (pe_bm PySem.F.plainAttrs_list PySem.F.slot_list_extend PySem.F.type_list_extend mt_extend (pv 1) (pa_cons (pe_lc (own := [("member", 4)]) (g := gName 4) (tt := tYes) rfl sc_is_plain.nd (pi_tup (pv 2)) (blkOk_by (own := [("member", 4)]) (N := ["value", "queue", "one", "deep", "member", "sign"]) (sc := defScope st_is_plain) (by decide +kernel)) (fun _ _ _ _ _ => (pg_name (i := 4) sc_is_plain.nd rfl (Or.inl rfl))) (fun _ _ _ _ _ => pts_nil) (fun _ _ _ _ _ => (pe_tup (pa_cons (pv 4) (pa_cons (pe_op op_add (pv 3) pe_int) pa_nil))))) pa_nil))))
      (pss_one (ps_if (pt_val (pe_callB (isiQ K) rfl z_isinstance (by decide +kernel) (pa_cons (pv 2) (pa_cons (pe_bltn (v := .ty "str") rfl z_str (by decide +kernel) rfl) pa_nil))))
        (pss_one (ps_if (pt_not (pt_val (pe_callB (allQ K) rfl z_all (by decide +kernel) (pa_cons (pe_lc (own := [("sign", 5)]) (g := gName 5) (tt := tYes) rfl sc_is_plain.nd (pi_str (pv 2)) (blkOk_by (own := [("sign", 5)]) (N := ["value", "queue", "one", "deep", "member", "sign"]) (sc := defScope st_is_plain) (by decide +kernel)) (fun _ _ _ _ _ => (pg_name (i := 5) sc_is_plain.nd rfl (Or.inl rfl))) (fun _ _ _ _ _ => pts_nil) (fun _ _ _ _ _ => (pe_cmpR op_in_sign (pv 5) (pe_glob (v := .str Pv.SIGNS) rfl m_SIGNS ⟨_, rfl⟩) rfl))) pa_nil))))
          (pss_one (ps_ret pe_bl))
          pss_nil))
        (pss_one (ps_if (PW.pt (pw_or (pt_not (pt_val (pe_callB (isiQ K) rfl z_isinstance (by decide +kernel) (pa_cons (pv 2) (pa_cons (pe_bltn (v := .ty "int") rfl z_int (by decide +kernel) rfl) pa_nil))))) (pw_or1 (pt_val (pe_callB (isiQ K) rfl z_isinstance (by decide +kernel) (pa_cons (pv 2) (pa_cons (pe_bltn (v := .ty "bool") rfl z_bool (by decide +kernel) rfl) pa_nil)))))))
          (pss_one (ps_ret pe_bl))
          pss_nil))))))))
    (pss_one (ps_ret pe_bl)))), ?_⟩
  have big : ∀ {n : Nat}, n ≤ 900000 → n ≤ sizeLine := fun h => Nat.le_trans h (by decide)
  refine ⟨_, rfl, (by show 2 ≤ sizeLine; decide), fun t1 n1 => ?_⟩
  generalize hN1 : L2.upd H t1 _ = G1
  have s1 := new_of n1 hN1
  have e1 := at_of hN1
  try dsimp only at e1
  clear hN1
  refine ⟨(by show 1 ≤ sizeLine; decide), fun qu n2 => ?_⟩
  generalize hN2 : L2.upd G1 qu _ = G2
  have s2 := new_of n2 hN2
  have e2 := at_of hN2
  try dsimp only at e2
  clear hN2
  have nqu : H qu = none := s1.free n2
  refine ⟨fun m σ G => ∃ (x2 x3 x4 x5 : Option V) (xs : List V) (vs : List Pv.Val), σ = [some x, some (.ref qu), x2, x3, none, none] ∧ Same H G ∧ G qu = some (.lst xs) ∧ Wait K G n xs vs ∧ Pv.OkL vs ∧ Pv.sizeL vs = m ∧ m ≤ Pv.size v,
    ⟨Pv.size v, none, none, none, none, [.ref t1], [v], rfl, s1.trans s2, e2, .one (k := 0) (s2 _ _ e1) (hx.same (s1.trans s2)) (by omega), ⟨hv, trivial⟩, by simp [Pv.sizeL], Nat.le_refl _⟩, ?_⟩
  rintro m σ G ⟨x2, x3, x4, x5, xs, vs, rfl, sg, eq, hw, ok, hm, hmv⟩
  refine ⟨.ref qu, rfl, _, .inl ⟨xs, SqL.of eq, rfl⟩, ?_⟩
  have lx := hw.1
  rcases List.eq_nil_or_concat vs with hnil | ⟨ws, e, hvs⟩
  · subst hnil
    obtain rfl : xs = [] := List.eq_nil_of_length_eq_zero lx
    exact iteF (q G sg)
  rw [List.concat_eq_append] at hvs
  subst hvs
  obtain ⟨ys, y, rfl⟩ : ∃ ys y, xs = ys ++ [y] := by
    rcases List.eq_nil_or_concat xs with hnil | ⟨ys, y, h⟩
    · rw [hnil, List.length_append] at lx
      simp at lx
    · exact ⟨ys, y, by rw [h, List.concat_eq_append]⟩
  have ly : ys.length = ws.length := by
    rw [List.length_append, List.length_append] at lx
    simpa using lx
  refine ifV (b := true) (by simp) (iteT ?_)
  obtain ⟨t, z, k, rfl, et, ez, hk⟩ := hw.2 ws.length y e (by rw [List.getElem?_append_right (by omega), show ws.length - ys.length = 0 by omega]; rfl) (by rw [List.getElem?_append_right (Nat.le_refl _), Nat.sub_self]; rfl)
  have okw := Pv.OkL_split ok
  have hws := hw.left ly
  rw [Pv.sizeL_append, show Pv.sizeL [e] = Pv.size e by simp [Pv.sizeL]] at hm
  have spos := Pv.size_pos e
  have lws := Pv.length_sizeL ws
  refine ⟨fun σ' G' => ∃ m', m' < m ∧ _, fun σ' G' w => w, ?_⟩
  refine ⟨.ref qu, rfl, .inl ⟨rfl, _, SqL.of eq⟩, qu, ys ++ [.ref t], .ref t, rfl, rfl, eq, by simp, ?_⟩
  rw [List.dropLast_concat]
  have nqt : t ≠ qu := fun z => by rw [z, eq] at et; cases et
  have hws1 := hws.list (us' := ys) eq
  have ez1 := ez.list (ys := ys) eq
  have et1 : (upd G qu (.lst ys)) t = some (.tup [z, .int (k : Nat)]) := (upd_ne nqt).trans et
  have eq1 : (upd G qu (.lst ys)) qu = some (.lst ys) := upd_same
  have sg1 : Same H (upd G qu (.lst ys)) := same_mut sg nqu
  generalize upd G qu (.lst ys) = G3 at *
  refine ⟨t, _, rfl, SqT.of et1, rfl, _, _, rfl, _, _, rfl, rfl, ?_⟩
  have okw2 := okw.1
  cases n with
  | zero => exact ez1.elim
  | succ n =>
  cases e with
  | tup l =>
    obtain ⟨ta, ts, rfl, hts, lts, kts⟩ := ez1
    have lse : Pv.size (.tup l) = 1 + Pv.sizeL l := by rw [Pv.size]
    have dse : Pv.depth (.tup l) = 1 + Pv.depthL l := by rw [Pv.depth]
    have lsl := Pv.length_sizeL l
    refine ⟨_, rfl, _, _, _, _, true, rfl, .ty _, (tyx_tuple hts), kit_ty (by decide +kernel), _, rfl, iteT ⟨_, rfl, _, _, rfl, rfl, _, rfl, ifD (by omega) ?_⟩⟩
    refine ⟨.ref qu, rfl, .inl ⟨rfl, _, SqL.of eq1⟩, .ref ta, rfl, ta, rfl, ⟨_, hts⟩, fun D n4 => lc_tup (K := K) (a := ta) (xs := ts) (fun i G => Same G3 G ∧ ∃ zs, G D = some (.lst zs) ∧ Wait K G (n + 1) zs (l.take i)) ⟨Same.new n4, [], upd_same, rfl, fun i y e hy _ => by cases hy⟩ ?_ ?_ ?_⟩
    · rintro i G _ ⟨s4, _⟩
      exact sqT_same s4 hts
    · rintro i u G hu ⟨s4, zs, ed, wz⟩
      have ilt := (List.getElem?_eq_some_iff.mp hu).1
      obtain ⟨d, hd⟩ : ∃ d, l[i]? = some d := ⟨_, List.getElem?_eq_getElem (by omega)⟩
      have dd := Pv.depthL_mem (List.mem_of_getElem? hd)
      refine ⟨rfl, ?_⟩
      dsimp only [tYes]
      refine iteT ⟨_, rfl, _, rfl, _, _, rfl, rfl, (by show 2 ≤ sizeLine; decide), fun t2 n5 => ?_⟩
      generalize hN5 : L2.upd G t2 _ = G5
      have s5 := new_of n5 hN5
      have e5 := at_of hN5
      try dsimp only at e5
      clear hN5
      have wl := wz.1
      rw [List.length_take] at wl
      refine ⟨zs, s5 _ _ ed, sq_len (by omega), same_mut (s4.trans s5) n4, _, upd_same, ?_⟩
      rw [List.take_add_one, hd]
      exact ((wz.same s5).app (.one (k := k + 1) e5 (((kts i u d hu hd).same (s4.trans s5)).up (Nat.le_succ n)) (by omega))).list (s5 _ _ ed)
    rintro G4 ⟨s4, zs, ed, wz⟩
    have nDq : D ≠ qu := fun z => by rw [z, eq1] at n4; cases n4
    rw [List.take_of_length_le (by omega)] at wz
    have wl := wz.1
    refine ⟨qu, D, _, _, rfl, rfl, s4 _ _ eq1, ed, big (by rw [ly, wl]; omega), ?_⟩
    refine ⟨Pv.sizeL (ws ++ l), by rw [Pv.sizeL_append]; omega, _, _, x4, x5, ys ++ zs, ws ++ l, rfl, same_mut (sg1.trans s4) nqu, upd_same, ((hws1.same s4).app wz).list (s4 _ _ eq1), Pv.OkL_append okw2 okw.2.1.2, rfl, by rw [Pv.sizeL_append]; omega⟩
  | str ks =>
    obtain rfl : z = .str (Pv.txt ks) := ez1
    have okk := okw.2.1
    refine ⟨_, rfl, _, _, _, _, false, rfl, .ty _, .base (.str _), kit_ty (by decide +kernel), _, rfl, iteF (iteF ?_)⟩
    refine ⟨_, rfl, _, _, _, _, true, rfl, .ty _, .base (.str _), kit_ty (by decide +kernel), _, rfl, iteT ?_⟩
    refine ⟨_, rfl, _, rfl, fun D nD => lc_str (fun i G => Same G3 G ∧ G D = some (.lst ((List.replicate i true).map V.bl))) ⟨Same.new nD, upd_same⟩ ?_ ?_⟩
    · rintro i c G hc ⟨s6, ed⟩
      obtain ⟨k', hk', ek⟩ := Pv.txt_get hc
      have ci := (Array.getElem?_eq_some_iff.mp hc).1
      rw [Pv.txt_size] at ci
      have ok1 := okk.1
      have kl := okk.2 k' (List.mem_of_getElem? hk')
      have ec : c ∈ Pv.SIGNS.cps.toList := by
        have e2 : c = Pv.SIGNS.cps.toList.getD k' 0 := by
          have := congrArg (fun s : Str => s.cps.toList) ek
          simpa [Pv.sign] using this
        rw [e2, List.getD_eq_getElem?_getD, List.getElem?_eq_getElem (by rw [Pv.signs_length]; exact kl)]
        exact List.getElem_mem _
      refine ⟨rfl, ?_⟩
      dsimp only [tYes]
      refine iteT ⟨_, rfl, c, _, rfl, rfl, ?_⟩
      refine ⟨_, ed, by rw [List.length_map, List.length_replicate]; exact sq_len (by omega), same_mut s6 nD, ?_⟩
      rw [upd_same, List.replicate_succ', List.map_append, decide_eq_true ec]
      rfl
    rintro G6 ⟨s6, ed⟩
    refine ⟨D, _, rfl, SqL.of ed, _, rfl, ?_⟩
    refine ifV (b := false) (by rw [List.all_replicate]; simp) (iteF ?_)
    exact ⟨Pv.sizeL ws, by omega, _, _, x4, x5, ys, ws, rfl, sg1.trans s6, s6 _ _ eq1, hws1.same s6, okw2, rfl, by omega⟩
  | int i =>
    obtain rfl : z = .int i := ez1
    refine ⟨_, rfl, _, _, _, _, false, rfl, .ty _, .base (.int i), kit_ty (by decide +kernel), _, rfl, iteF (iteF ?_)⟩
    refine ⟨_, rfl, _, _, _, _, false, rfl, .ty _, .base (.int i), kit_ty (by decide +kernel), _, rfl, iteF ?_⟩
    refine ⟨_, rfl, _, _, _, _, true, rfl, .ty _, .base (.int i), kit_ty (by decide +kernel), _, rfl, iteF ?_⟩
    refine ⟨_, rfl, _, _, _, _, false, rfl, .ty _, .base (.int i), kit_ty (by decide +kernel), _, rfl, iteF ?_⟩
    exact ⟨Pv.sizeL ws, by omega, _, _, x4, x5, ys, ws, rfl, sg1, eq1, hws1, okw2, rfl, by omega⟩
end
end My
set_option Elab.async false
set_option linter.all false
set_option pp.maxSteps 1500
set_option maxRecDepth 100000
set_option maxHeartbeats 4000000
/-! What a feeder tells, and what is due -/
namespace My
open PySem PySem.Spec PyProof.Rows L2 Crc
local macro_rules
  | `(tactic| nofun) => `(tactic| (apply tup_at; nofun))
local macro_rules
  | `(tactic| nofun) => `(tactic| (apply seq_at; nofun))
local macro_rules
  | `(tactic| nofun) => `(tactic| (apply pool_same; assumption; nofun))
local macro_rules
  | `(tactic| nofun) => `(tactic| (apply but_get; assumption; assumption; nofun))
local macro_rules
  | `(tactic| nofun) => `(tactic| (apply off_get; assumption; assumption; nofun))
local macro_rules
  | `(tactic| nofun) => `(tactic| (apply same_get; assumption; nofun))
local macro_rules
  | `(tactic| nofun) => `(tactic| assumption)
theorem vw_nums {K : PySem.W.Frag} {H : Hp} {n : Nat} {a : Addr} {l : List Nat} (h : SqT K H a (bv l)) : VW K H (n + 2) (.ref a) (numsV l) := by
  refine ⟨a, bv l, rfl, h, by rw [bv_len, List.length_map], fun i y e hy he => ?_⟩
  obtain ⟨m, hm, rfl⟩ := bv_of hy
  rw [List.getElem?_map, hm] at he
  obtain rfl := Option.some.inj he
  rfl
theorem vw_state {K : PySem.W.Frag} {H : Hp} {n : Nat} {a : Addr} {s : Feed.St} (h : SqT K H a (stV s)) : VW K H (n + 2) (.ref a) (stVal s) := by
  cases s with
  | more => exact VW.tup h (.cons (show V.str "more" = V.str (Pv.txt _) by rw [t_more]) .nil)
  | block k => exact VW.tup h (.cons (show V.str "block" = V.str (Pv.txt _) by rw [t_block]) (.cons rfl .nil))
  | whole => exact VW.tup h (.cons (show V.str "whole" = V.str (Pv.txt _) by rw [t_whole]) .nil)
theorem vw_nums_inv {K : PySem.W.Frag} {H : Hp} {n : Nat} {x : V} {l : List Nat} (h : VW K H n x (numsV l)) : ∃ a, x = .ref a ∧ SqT K H a (bv l) := by
  match n, h with
  | n + 1, h =>
    obtain ⟨a, xs, rfl, q, le, k⟩ := h
    refine ⟨a, rfl, ?_⟩
    have : xs = bv l := by
      rw [List.length_map] at le
      apply List.ext_getElem (by rw [le, bv_len])
      intro i h1 h2
      rw [bv_len] at h2
      have hk := k i xs[i] (.int ((l[i]'h2 : Nat) : Int)) (List.getElem?_eq_getElem h1) (by rw [List.getElem?_map, List.getElem?_eq_getElem h2]; rfl)
      match n, hk with
      | n + 1, hk =>
        have hk : xs[i] = .int ((l[i]'h2 : Nat) : Int) := hk
        rw [hk]
        have := bv_get (List.getElem?_eq_getElem h2)
        exact (Option.some.inj ((List.getElem?_eq_getElem (by rw [bv_len]; exact h2)).symm.trans this)).symm
    rw [← this]
    exact q
theorem vw_state_inv {K : PySem.W.Frag} {H : Hp} {n : Nat} {x : V} {s : Feed.St} (h : VW K H n x (stVal s)) : ∃ a, x = .ref a ∧ SqT K H a (stV s) := by
  match n, h with
  | n + 1, h =>
    cases s with
    | more =>
      obtain ⟨a, xs, rfl, q, le, k⟩ := h
      match xs, le with
      | [u], _ =>
        have h0 := k 0 u _ rfl rfl
        match n, h0 with
        | n + 1, h0 =>
          obtain rfl : u = .str (Pv.txt _) := h0
          rw [t_more] at q
          exact ⟨a, rfl, q⟩
    | whole =>
      obtain ⟨a, xs, rfl, q, le, k⟩ := h
      match xs, le with
      | [u], _ =>
        have h0 := k 0 u _ rfl rfl
        match n, h0 with
        | n + 1, h0 =>
          obtain rfl : u = .str (Pv.txt _) := h0
          rw [t_whole] at q
          exact ⟨a, rfl, q⟩
    | block b =>
      obtain ⟨a, xs, rfl, q, le, k⟩ := h
      match xs, le with
      | [u, v], _ =>
        have h0 := k 0 u _ rfl rfl
        have h1 := k 1 v _ rfl rfl
        match n, h0, h1 with
        | n + 1, h0, h1 =>
          obtain rfl : u = .str (Pv.txt _) := h0
          obtain rfl : v = .int (b : Nat) := h1
          rw [t_block] at q
          exact ⟨a, rfl, q⟩
theorem vw_feeder_inv {K : PySem.W.Frag} {H : Hp} {n : Nat} {x : V} {s : Feed.St} {c : Option Nat} {d r : List Nat} (h : VW K H n x (fdVal s c d r)) : ∃ t sa ta ra, x = .ref t ∧ SqT K H t [.str "feeder", .ref sa, .int (cntI c), .ref ta, .ref ra] ∧ SqT K H sa (stV s) ∧ SqT K H ta (bv d) ∧ SqT K H ra (bv r) := by
  match n, h with
  | n + 1, h =>
    obtain ⟨a, xs, rfl, q, le, k⟩ := h
    match xs, le with
    | [u, v, y, z, w], _ =>
      have h0 := k 0 u _ rfl rfl
      have h1 := k 1 v _ rfl rfl
      have h2 := k 2 y _ rfl rfl
      have h3 := k 3 z _ rfl rfl
      have h4 := k 4 w _ rfl rfl
      match n, h0, h1, h2, h3, h4 with
      | n + 1, h0, h1, h2, h3, h4 =>
        obtain rfl : u = .str (Pv.txt _) := h0
        obtain ⟨sa, rfl, hs⟩ := vw_state_inv h1
        obtain rfl : y = .int (cntI c) := h2
        obtain ⟨ta, rfl, ht⟩ := vw_nums_inv h3
        obtain ⟨ra, rfl, hR⟩ := vw_nums_inv h4
        rw [t_feeder] at q
        exact ⟨a, sa, ta, ra, rfl, q, hs, ht, hR⟩
def spFTold (C : Addr) (K : PySem.W.Frag) : Sp := fun vs H Q _ => ∃ (p : Addr) (s : Feed.St) (c : Option Nat) (d r : List Nat), vs = [.ref p] ∧ FdAt K C H p s c d r ∧ ∀ t H', Same H H' → VW K H' 3 (.ref t) (fdVal s c d r) → Q (.ref t) H'
def spFData (C : Addr) (K : PySem.W.Frag) : Sp := fun vs H Q _ => ∃ (p : Addr) (s : Feed.St) (c : Option Nat) (d r : List Nat), vs = [.ref p] ∧ FdAt K C H p s c d r ∧ d.length ≤ 90000 ∧
  (s ≠ .whole → ∀ H', Same H H' → Q .non H') ∧ (s = .whole → ∃ l, wend (d.drop (d.length - 56)) = some l ∧ (d.take (d.length - 56) ++ l).length ≤ 90000 ∧ MadeL H (d.take (d.length - 56) ++ l) Q)
def spFOf (C : Addr) (K : PySem.W.Frag) : Sp := fun vs H Q _ => ∃ (x : V) (n : Nat) (s : Feed.St) (c : Option Nat) (d r : List Nat), vs = [x] ∧ VW K H n x (fdVal s c d r) ∧ ∀ p H', Same H H' → H p = none → FdAt K C H' p s c d r → Q (.ref p) H'
def spDue (K : PySem.W.Frag) : Sp := fun vs H Q _ => ∃ (a : Addr) (y : List Nat), vs = [.ref a] ∧ SqL K H a (bv y) ∧ y.length ≤ 90000 ∧ Bytes y ∧ ∀ t H', Same H H' → SqT K H' t (stV (Feed.due y)) → Q (.ref t) H'
section
variable {P : Program} {w : World} {K : PySem.W.Frag} {mg : Str → Option Value} {base : Heap} {C : Addr}
theorem ok_ftold (T : MTop K C "told" "Feeder.told" st_Feeder_told ["self"]) (K_Feeder : Kls K mg "Feeder" C fds) (z_tuple : mg "tuple" = none) : Mth P w K mg base 1 C "told" ["self"] (spFTold C K) := by
  refine T.ok sc_Feeder_told (fun vs H Q E h => ?_) (fun f cdv A outer s H vs Q E hr h => ?_)
  · obtain ⟨p, s, c, d, r, rfl, _⟩ := h
    rfl
  obtain ⟨p, s, c, d, r, rfl, F, q⟩ := h
  refine ⟨_, (Evl.pss_cut (ps_set (i := 1) sc_Feeder_told.nd rfl (Or.inl rfl) (pe_ifExp (pt_cmpR op_isN (pe_fld (pv 0) rfl) pe_non (nomark _)) (pe_un un_neg pe_int) (pe_fld (pv 0) rfl)))
    (pss_one (ps_ret (pe_tup (pa_cons pe_str (pa_cons (pe_fld (pv 0) rfl) (pa_cons (pv 1) (pa_cons (pe_callTy (tupQ K) rfl z_tuple (by decide +kernel) (pa_cons (pe_fld (pv 0) rfl) pa_nil)) (pa_cons (pe_callTy (tupQ K) rfl z_tuple (by decide +kernel) (pa_cons (pe_fld (pv 0) rfl) pa_nil)) pa_nil))))))))), ?_⟩
  have nS := K_Feeder.no "state" (by simp)
  have nC := K_Feeder.no "count" (by simp)
  have nT := K_Feeder.no "taken" (by simp)
  have nR := K_Feeder.no "rest" (by simp)
  obtain ⟨dx, sa, ta, ra, hp, hs, ht, hR⟩ := F.ex
  refine ⟨fun σ' G' => σ' = [some (.ref p), some (.int (cntI c))] ∧ H = G', ?_, ?_⟩
  · refine ⟨.ref p, rfl, p, C, dx, _, _, rfl, hp, K_Feeder.cl, nC, fd_count _ _ _ _, rfl, _, rfl, ?_⟩
    cases c with
    | none => exact ifD rfl ⟨_, rfl, rfl, rfl⟩
    | some k => exact ifND (fun z => by cases z) ⟨.ref p, rfl, p, C, dx, _, _, rfl, hp, K_Feeder.cl, nC, fd_count _ _ _ _, rfl, rfl⟩
  rintro σ' G' ⟨rfl, rfl⟩
  refine ⟨.ref p, rfl, p, C, dx, _, _, rfl, hp, K_Feeder.cl, nS, fd_state _ _ _ _, _, rfl, .ref p, rfl, p, C, dx, _, _, rfl, hp, K_Feeder.cl, nT, fd_taken _ _ _ _, ta, _, rfl, .inl ⟨SqL.of ht, fun tt n1 => ?_⟩⟩
  generalize hN1 : L2.upd H tt _ = G1
  have s1 := new_of n1 hN1
  have e1 := at_of hN1
  try dsimp only at e1
  clear hN1
  refine ⟨.ref p, rfl, p, C, dx, _, _, rfl, s1 _ _ hp, K_Feeder.cl, nR, fd_rest _ _ _ _, ra, _, rfl, .inl ⟨SqL.of (by nofun), fun tr n2 => ?_⟩⟩
  generalize hN2 : L2.upd G1 tr _ = G2
  have s2 := new_of n2 hN2
  have e2 := at_of hN2
  try dsimp only at e2
  clear hN2
  refine ⟨(by show 5 ≤ sizeLine; decide), fun t n3 => ?_⟩
  generalize hN3 : L2.upd G2 t _ = G3
  have s3 := new_of n3 hN3
  have e3 := at_of hN3
  try dsimp only at e3
  clear hN3
  refine q t G3 (s1.trans (s2.trans s3)) (VW.tup (n := 2) (SqT.of e3) (.cons (show V.str "feeder" = V.str (Pv.txt _) by rw [t_feeder]) (.cons (vw_state (n := 0) (sqT_same (s1.trans (s2.trans s3)) hs)) (.cons rfl (.cons (vw_nums (n := 0) (SqT.of (by nofun))) (.cons (vw_nums (n := 0) (SqT.of (by nofun))) .nil))))))
theorem ok_fdata (T : MTop K C "data" "Feeder.data" st_Feeder_data ["self"]) (CC : Consts mg) (K_Feeder : Kls K mg "Feeder" C fds) (D_without_end : Def P w K mg base 1 "without_end" ["data"] (spWend K)) : Mth P w K mg base 2 C "data" ["self"] (spFData C K) := by
  obtain ⟨_, m_DATA⟩ := CC.DATA
  refine T.ok sc_Feeder_data (fun vs H Q E h => ?_) (fun f cdv A outer s H vs Q E hr h => ?_)
  · obtain ⟨p, s, c, d, r, rfl, _⟩ := h
    rfl
  obtain ⟨p, s, c, d, r, rfl, F, hd, q1, q2⟩ := h
  refine ⟨_, (pss_cons (ps_if (pt_cmpR (neQ K hr.units) (pe_fld (pv 0) rfl) (pe_tup (pa_cons pe_str pa_nil)) (nomark _))
    (pss_one (ps_ret pe_non))
    pss_nil)
    (pss_one (ps_ret (pe_op op_cat (pe_slice (slL K) (pe_fld (pv 0) rfl) po_none (po_some (pe_un un_neg (pe_glob (v := .int 56) rfl m_DATA ⟨_, rfl⟩)))) (pe_def D_without_end (hr.mono (by decide)) rfl (pa_cons (pe_slice (slL K) (pe_fld (pv 0) rfl) (po_some (pe_un un_neg (pe_glob (v := .int 56) rfl m_DATA ⟨_, rfl⟩))) po_none) pa_nil)))))), ?_⟩
  have nS := K_Feeder.no "state" (by simp)
  have nT := K_Feeder.no "taken" (by simp)
  obtain ⟨dx, sa, ta, ra, hp, hs, ht, hR⟩ := F.ex
  have big : ∀ {n : Nat}, n ≤ 900000 → n ≤ sizeLine := fun h => Nat.le_trans h (by decide)
  refine ⟨.ref p, rfl, p, C, dx, _, _, rfl, hp, K_Feeder.cl, nS, fd_state _ _ _ _, (by show 1 ≤ sizeLine; decide), fun t1 n1 => ?_⟩
  generalize hN1 : L2.upd H t1 _ = G1
  have s1 := new_of n1 hN1
  have e1 := at_of hN1
  try dsimp only at e1
  clear hN1
  refine ⟨_, _, st_dp (sqT_same s1 hs), st_dp (s := .whole) (SqT.of e1), st_sh _, st_sh .whole, _, rfl, ?_⟩
  rw [st_eq]
  by_cases sm : s = .whole
  case neg => exact ifnND sm (q1 sm G1 s1)
  refine ifnD sm ?_
  obtain ⟨l, ew, ll, q⟩ := q2 sm
  refine ⟨.ref p, rfl, p, C, dx, _, _, rfl, s1 _ _ hp, K_Feeder.cl, nT, fd_taken _ _ _ _, _, rfl, _, rfl, ta, _, rfl, SqL.of (by nofun), fun l2 n2 => ?_⟩
  generalize hN2 : L2.upd G1 l2 _ = G2
  have s2 := new_of n2 hN2
  have e2 := at_of hN2
  try dsimp only at e2
  clear hN2
  have ec2 : cutV (bv d) none (some (-56)) = bv (d.take (d.length - 56)) := by
    rw [show (-56 : Int) = -((56 : Nat) : Int) from rfl, cut_front _ _ (by decide), bv_len, bv_take]
  rw [ec2] at e2
  refine ⟨.ref p, rfl, p, C, dx, _, _, rfl, s2 _ _ (s1 _ _ hp), K_Feeder.cl, nT, fd_taken _ _ _ _, _, rfl, _, rfl, ta, _, rfl, SqL.of (by nofun), fun l3 n3 => ?_⟩
  generalize hN3 : L2.upd G2 l3 _ = G3
  have s3 := new_of n3 hN3
  have e3 := at_of hN3
  try dsimp only at e3
  clear hN3
  have ec : cutV (bv d) (some (-56)) none = bv (d.drop (d.length - 56)) := by
    rw [show (-56 : Int) = -((56 : Nat) : Int) from rfl, cut_back _ _ (by decide), bv_len, bv_drop]
  rw [ec] at e3
  refine ⟨l3, d.drop (d.length - 56), rfl, SqL.of e3, fun v G4 s4 hv => ?_⟩
  rw [ew] at hv
  obtain ⟨lr, rfl, nlr, elr⟩ := hv
  rw [List.length_append] at ll
  refine ⟨l2, lr, _, _, rfl, rfl, by nofun, elr, big (by rw [bv_len, bv_len]; omega), fun o n5 => ?_⟩
  generalize hN5 : L2.upd G4 o _ = G5
  have s5 := new_of n5 hN5
  have e5 := at_of hN5
  try dsimp only at e5
  clear hN5
  rw [← bv_app] at e5
  have s04 := s1.trans (s2.trans (s3.trans s4))
  exact q o G5 (s04.trans s5) (s04.free n5) e5
theorem ok_fof (T : Top K mg "feeder_of" st_feeder_of ["value"]) (K_Feeder : Kls K mg "Feeder" C fds) (D_Feeder___init__ : Ini P w K mg base 1 C ["self"] (spFInit C K)) (z_list : mg "list" = none) : Def P w K mg base 3 "feeder_of" ["value"] (spFOf C K) := by
  refine T.ok sc_feeder_of (fun vs H Q E h => ?_) (fun f cdv A outer s H vs Q E hr h => ?_)
  · obtain ⟨x, n, s, c, d, r, rfl, _⟩ := h
    rfl
  obtain ⟨x, n, s, c, d, r, rfl, hx, q⟩ := h
  refine ⟨_, (pss_cons (ps_set (i := 1) sc_feeder_of.nd rfl (Or.inl rfl) (pe_ini0 D_Feeder___init__ K_Feeder (hr.mono (by decide)) rfl))
    (pss_cons (ps_fld (pv 1) (pe_ix (ixT K) (pv 0) pe_int (fun _ _ => rfl)) rfl)
    (Evl.pss_cut (ps_fld (pv 1) (pe_ifExp (pt_cmpR op_ge (pe_ix (ixT K) (pv 0) pe_int (fun _ _ => rfl)) pe_int (nomark _)) (pe_ix (ixT K) (pv 0) pe_int (fun _ _ => rfl)) pe_non) rfl)
    (pss_cons (ps_fld (pv 1) (pe_callTy (lstQ K) rfl z_list (by decide +kernel) (pa_cons (pe_ix (ixT K) (pv 0) pe_int (fun _ _ => rfl)) pa_nil)) rfl)
    (pss_cons (ps_fld (pv 1) (pe_callTy (lstQ K) rfl z_list (by decide +kernel) (pa_cons (pe_ix (ixT K) (pv 0) pe_int (fun _ _ => rfl)) pa_nil)) rfl)
    (pss_one (ps_ret (pv 1)))))))), ?_⟩
  have nS := K_Feeder.no "state" (by simp)
  have nC := K_Feeder.no "count" (by simp)
  have nT := K_Feeder.no "taken" (by simp)
  have nR := K_Feeder.no "rest" (by simp)
  obtain ⟨t, sa, ta, ra, rfl, hx, hs, ht, hR⟩ := vw_feeder_inv hx
  refine fun p dx0 np ndx ndp => ⟨p, dx0, rfl, upd_same, fun G1 b1 F1 => ⟨rfl, ?_⟩⟩
  have s1 : Same H G1 := b1.keep (made_same np ndx ndp) np
  clear b1
  obtain ⟨dx, sa1, ta1, ra1, hp, _, _, _⟩ := F1.ex
  refine ⟨.ref t, rfl, t, _, _, _, rfl, rfl, sqT_same s1 hx, rfl, .ref p, rfl, p, C, dx, _, rfl, hp, K_Feeder.cl, nS, (by show 4 < 1000; decide), ?_⟩
  generalize hN2 : L2.upd G1 p _ = G2
  have b2 := but_of hN2
  have e2 := at_of hN2
  try dsimp only at e2
  clear hN2
  rw [put_state] at e2
  have s2 := b2.keep s1 np
  refine ⟨fun σ' G' => σ' = [some (.ref t), some (.ref p)] ∧ Same H G' ∧ G' p = some (.ins C dx (fdF (.ref sa) (cV c) (.ref ta1) (.ref ra1))), ?_, ?_⟩
  · refine ⟨.ref t, rfl, t, _, _, _, rfl, rfl, sqT_same s2 hx, rfl, _, _, rfl, rfl, _, rfl, ?_⟩
    cases c with
    | none =>
      refine ifND (by show ¬ (0 : Int) ≤ -1; decide) ⟨.ref p, rfl, p, C, dx, _, rfl, e2, K_Feeder.cl, nC, (by show 4 < 1000; decide), ?_⟩
      generalize hN3 : L2.upd G2 p _ = G3
      have b3 := but_of hN3
      have e3 := at_of hN3
      try dsimp only at e3
      clear hN3
      rw [put_count] at e3
      exact ⟨rfl, b3.keep s2 np, e3⟩
    | some k =>
      refine ifD (by show (0 : Int) ≤ (k : Nat); omega) ⟨.ref t, rfl, t, _, _, _, rfl, rfl, sqT_same s2 hx, rfl, .ref p, rfl, p, C, dx, _, rfl, e2, K_Feeder.cl, nC, (by show 4 < 1000; decide), ?_⟩
      generalize hN3 : L2.upd G2 p _ = G3
      have b3 := but_of hN3
      have e3 := at_of hN3
      try dsimp only at e3
      clear hN3
      rw [put_count] at e3
      exact ⟨rfl, b3.keep s2 np, e3⟩
  rintro σ' G3 ⟨rfl, s3, e3⟩
  clear s2 e2 b2 s1
  refine ⟨.ref t, rfl, t, _, _, _, rfl, rfl, sqT_same s3 hx, rfl, ta, _, rfl, .inr (sqT_same s3 ht), fun tb n4 => ?_⟩
  generalize hN4 : L2.upd G3 tb _ = G4
  have s4 := new_of n4 hN4
  have e4 := at_of hN4
  try dsimp only at e4
  clear hN4
  have s04 : Same H G4 := s3.trans s4
  have e4p := s4 _ _ e3
  clear s4
  have ptb : tb ≠ p := fun z => by rw [z, e3] at n4; cases n4
  refine ⟨.ref p, rfl, p, C, dx, _, rfl, e4p, K_Feeder.cl, nT, (by show 4 < 1000; decide), ?_⟩
  generalize hN5 : L2.upd G4 p _ = G5
  have b5 := but_of hN5
  have e5 := at_of hN5
  try dsimp only at e5
  clear hN5
  rw [put_taken] at e5
  have s5 := b5.keep s04 np
  have e5t := b5.get ptb e4
  refine ⟨.ref t, rfl, t, _, _, _, rfl, rfl, sqT_same s5 hx, rfl, ra, _, rfl, .inr (sqT_same s5 hR), fun rb n6 => ?_⟩
  generalize hN6 : L2.upd G5 rb _ = G6
  have s6 := new_of n6 hN6
  have e6 := at_of hN6
  try dsimp only at e6
  clear hN6
  have s06 : Same H G6 := s5.trans s6
  have e6p := s6 _ _ e5
  have e6t := s6 _ _ e5t
  have prb : rb ≠ p := fun z => by rw [z, e5] at n6; cases n6
  refine ⟨.ref p, rfl, p, C, dx, _, rfl, e6p, K_Feeder.cl, nR, (by show 4 < 1000; decide), ?_⟩
  generalize hN7 : L2.upd G6 p _ = G7
  have b7 := but_of hN7
  have e7 := at_of hN7
  try dsimp only at e7
  clear hN7
  rw [put_rest] at e7
  have s7 := b7.keep s06 np
  exact ⟨_, rfl, q p G7 s7 np ⟨dx, sa, tb, rb, e7, sqT_same s7 hs, b7.get ptb e6t, b7.get prb e6⟩⟩
theorem ok_due (T : Top K mg "_law_due" st_law_due ["told"]) (D_data_of : Def P w K mg base 3 "data_of" ["told"] (spDataOf K)) (z_len : mg "len" = none) : Def P w K mg base 4 "_law_due" ["told"] (spDue K) := by
  refine T.ok sc_law_due (fun vs H Q E h => ?_) (fun f cdv A outer s H vs Q E hr h => ?_)
  · obtain ⟨a, y, rfl, _⟩ := h
    rfl
  obtain ⟨a, y, rfl, ha, hl, hb, q⟩ := h
  refine ⟨_, (pss_cons (ps_set (i := 1) sc_law_due.nd rfl (Or.inl rfl) (pe_def D_data_of (hr.mono (by decide)) rfl (pa_cons (pv 0) pa_nil)))
    (pss_cons (ps_if (pt_cmpR op_eq (pe_ix (ixT K) (pv 1) pe_int (fun _ _ => rfl)) pe_str (nomark _))
    (pss_one (ps_ret (pe_tup (pa_cons pe_str pa_nil))))
    pss_nil)
    (Evl.pss_cut (ps_set (i := 2) sc_law_due.nd rfl (Or.inl rfl) (pe_ifExp (pt_cmpR op_gt (pe_callB (lenQ K) rfl z_len (by decide +kernel) (pa_cons (pv 0) pa_nil)) pe_int (nomark _)) (pe_op op_add (pe_op op_mul pe_int (pe_ix (ixL K) (pv 0) pe_int (fun _ _ => rfl))) (pe_ix (ixL K) (pv 0) pe_int (fun _ _ => rfl))) pe_int))
    (Evl.pss_cut (ps_if (PW.pt (pw_and (pt_cmpR op_eq (pe_ix (ixT K) (pv 1) pe_int (fun _ _ => rfl)) (pe_op op_add (pv 2) pe_int) (nomark _)) (pw_and (pt_cmpR op_gt (pe_callB (lenQ K) rfl z_len (by decide +kernel) (pa_cons (pv 0) pa_nil)) (pe_op op_mul pe_int (pv 2)) (nomark _)) (pw_and1 (pt_cmpR op_eq (pe_ix (ixT K) (pe_def D_data_of (hr.mono (by decide)) rfl (pa_cons (pe_slice (slL K) (pv 0) po_none (po_some (pe_op op_mul pe_int (pv 2)))) pa_nil)) pe_int (fun _ _ => rfl)) pe_str (nomark _))))))
    (pss_one (ps_ret (pe_tup (pa_cons pe_str pa_nil))))
    pss_nil)
    (pss_one (ps_ret (pe_ifExp (pt_cmpR op_ge (pe_callB (lenQ K) rfl z_len (by decide +kernel) (pa_cons (pv 0) pa_nil)) (pe_op op_mul pe_int (pe_ix (ixT K) (pv 1) pe_int (fun _ _ => rfl))) (nomark _)) (pv 1) (pe_tup (pa_cons pe_str pa_nil))))))))), ?_⟩
  have big : ∀ {n : Nat}, n ≤ 900000 → n ≤ sizeLine := fun h => Nat.le_trans h (by decide)
  refine ⟨.ref a, rfl, a, y, rfl, ha, by omega, fun v G1 s1 hv => ?_⟩
  have seen : ∃ t x0 x1, v = .ref t ∧ G1 t = some (.tup [.str x0, x1]) ∧ ((x0 = "data" ∧ ∃ d, dataOf y = .data d) ∨ (x0 = "block" ∧ ∃ n : Nat, dataOf y = .block n ∧ x1 = .int (n : Nat))) := by
    cases c : dataOf y with
    | data d =>
      rw [c] at hv
      obtain ⟨t, q, rfl, e, _⟩ := hv
      exact ⟨t, _, _, rfl, e, .inl ⟨rfl, d, rfl⟩⟩
    | block n =>
      rw [c] at hv
      obtain ⟨t, rfl, e⟩ := hv
      exact ⟨t, _, _, rfl, e, .inr ⟨rfl, n, rfl, rfl⟩⟩
  obtain ⟨t, x0, x1, rfl, et, hsee⟩ := seen
  refine ⟨.ref t, rfl, t, _, _, _, rfl, rfl, SqT.of et, rfl, rfl, _, rfl, ?_⟩
  rcases hsee with ⟨rfl, d, hdy⟩ | ⟨rfl, n, hdy, rfl⟩
  · refine ifD rfl ⟨(by show 1 ≤ sizeLine; decide), fun t2 n2 => ?_⟩
    generalize hN2 : L2.upd G1 t2 _ = G2
    have s2 := new_of n2 hN2
    have e2 := at_of hN2
    try dsimp only at e2
    clear hN2
    refine q t2 G2 (s1.trans s2) ?_
    rw [show Feed.due y = .whole by unfold Feed.due; rw [hdy]]
    exact SqT.of e2
  refine ifND (fun z => by injection z with z; exact absurd z (by decide +kernel)) ?_
  have at_ : 63 < y.length → ∀ i : Nat, i < 64 → atI (bv y) (i : Int) = some (.int (y.getD i 0 : Nat)) := fun h i hi => bv_at (by omega)
  have ha1 := s1.seq ha
  refine ⟨fun σ' G' => σ' = [some (.ref a), some (.ref t), some (.int (Feed.many y : Nat))] ∧ G1 = G', ?_, ?_⟩
  · refine ⟨.ref a, rfl, a, _, rfl, .inl ha1, _, _, rfl, rfl, _, rfl, ?_⟩
    unfold Feed.many
    by_cases g : y.length > 63
    · rw [if_pos g]
      refine ifD (by rw [bv_len]; omega) ⟨.ref a, rfl, a, _, _, _, rfl, rfl, ha1, at_ g 2 (by decide), _, _, rfl, rfl, .inl ⟨by decide, by decide⟩, .ref a, rfl, a, _, _, _, rfl, rfl, ha1, at_ g 3 (by decide), _, _, rfl, rfl, ?_⟩
      dsimp only
      rw [show (256 : Int) * ((y.getD 2 0 : Nat) : Int) + ((y.getD 3 0 : Nat) : Int) = ((256 * y.getD 2 0 + y.getD 3 0 : Nat) : Int) by omega]
      exact ⟨rfl, rfl⟩
    · rw [if_neg g]
      exact ifND (by rw [bv_len]; omega) ⟨rfl, rfl⟩
  rintro σ' G' ⟨rfl, rfl⟩
  refine ⟨fun σ' G' => σ' = [some (.ref a), some (.ref t), some (.int (Feed.many y : Nat))] ∧ Same G1 G' ∧ Feed.due y = (if 64 * n ≤ y.length then .block n else .more), ?_, ?_⟩
  · refine ⟨.ref t, rfl, t, _, _, _, rfl, rfl, SqT.of et, rfl, _, rfl, _, _, rfl, rfl, rfl, _, rfl, ?_⟩
    by_cases cA : n = Feed.many y + 1
    case neg =>
      exact ifND (fun z => cA (by have := V.int.inj z; omega)) (iteF ⟨rfl, Same.refl _, Feed.due_block hdy fun z => cA z.1⟩)
    refine ifD (congrArg V.int (by omega)) ⟨.ref a, rfl, a, _, rfl, .inl ha1, _, rfl, _, _, rfl, rfl, .inl ⟨by decide, by decide⟩, _, _, rfl, rfl, _, rfl, ?_⟩
    by_cases cB : y.length > 64 * Feed.many y
    case neg =>
      exact ifND (by rw [bv_len]; omega) (iteF ⟨rfl, Same.refl _, Feed.due_block hdy fun z => cB z.2.1⟩)
    refine ifD (by rw [bv_len]; omega) ⟨.ref a, rfl, _, rfl, _, _, rfl, rfl, .inl ⟨by decide, by decide⟩, _, rfl, a, _, rfl, ha1, fun u n2 => ?_⟩
    generalize hN2 : L2.upd G1 u _ = G2
    have s2 := new_of n2 hN2
    have e2 := at_of hN2
    try dsimp only at e2
    clear hN2
    rw [show (64 : Int) * ((Feed.many y : Nat) : Int) = ((64 * Feed.many y : Nat) : Int) by omega, cut_lt, bv_take] at e2
    refine ⟨u, _, rfl, SqL.of e2, by rw [List.length_take]; omega, fun v G3 s3 hv => ?_⟩
    cases hd2 : dataOf (y.take (64 * Feed.many y)) with
    | data d =>
      rw [hd2] at hv
      obtain ⟨t2, q2, rfl, e, _⟩ := hv
      refine ⟨t2, _, _, _, rfl, rfl, SqT.of e, rfl, rfl, _, rfl, ifD rfl ⟨(by show 1 ≤ sizeLine; decide), fun t3 n4 => ?_⟩⟩
      generalize hN4 : L2.upd G3 t3 _ = G4
      have s4 := new_of n4 hN4
      have e4 := at_of hN4
      try dsimp only at e4
      clear hN4
      refine q t3 G4 (s1.trans (s2.trans (s3.trans s4))) ?_
      rw [show Feed.due y = .whole by unfold Feed.due; rw [hdy]; exact if_pos ⟨cA, cB, by rw [hd2]; rfl⟩]
      exact SqT.of e4
    | block k =>
      rw [hd2] at hv
      obtain ⟨t2, rfl, e⟩ := hv
      refine ⟨t2, _, _, _, rfl, rfl, SqT.of e, rfl, rfl, _, rfl, ifND (fun z => by injection z with z; exact absurd z (by decide +kernel)) ?_⟩
      exact ⟨rfl, s2.trans s3, Feed.due_block hdy fun z => by have := z.2.2; rw [hd2] at this; exact Bool.false_ne_true this⟩
  rintro σ' G2 ⟨rfl, s2, ed⟩
  refine ⟨.ref a, rfl, a, _, rfl, .inl (s2.seq ha1), .ref t, rfl, t, _, _, _, rfl, rfl, SqT.of (s2 _ _ et), rfl, _, _, rfl, rfl, .inl ⟨by decide, by decide⟩, _, _, rfl, rfl, _, rfl, ?_⟩
  by_cases g : 64 * n ≤ y.length
  · rw [if_pos g] at ed
    refine ifD (by rw [bv_len]; omega) ⟨.ref t, rfl, q t G2 (s1.trans s2) ?_⟩
    rw [ed]
    exact SqT.of (s2 _ _ et)
  · rw [if_neg g] at ed
    refine ifND (by rw [bv_len]; omega) ⟨(by show 1 ≤ sizeLine; decide), fun t3 n3 => ?_⟩
    generalize hN3 : L2.upd G2 t3 _ = G3
    have s3 := new_of n3 hN3
    have e3 := at_of hN3
    try dsimp only at e3
    clear hN3
    refine q t3 G3 (s1.trans (s2.trans s3)) ?_
    rw [ed]
    exact SqT.of e3
end
end My
set_option Elab.async false
set_option linter.all false
set_option pp.maxSteps 1500
set_option maxRecDepth 100000
set_option maxHeartbeats 4000000
/-! The plain value of a feeder is small -/
namespace Feed
open Crc
theorem bytes_chunk {y : List Nat} (h : Bytes y) (n : Nat) : Bytes (chunk y n) := fun x hx => h x (List.mem_of_mem_drop (List.mem_of_mem_take hx))
theorem cnt_lt {l : List Nat} (h : Bytes l) : Crc.cnt l < 65536 := by
  have g : ∀ i, l.getD i 0 < 256 := fun i => by
    rw [List.getD_eq_getElem?_getD]
    cases e : l[i]? with
    | none => decide
    | some b => exact h b (List.mem_of_getElem? e)
  have h2 := g 2
  have h3 := g 3
  unfold Crc.cnt
  omega
theorem Run.bytes {y : List Nat} (hy : Bytes y) {n : Nat} {c : Option Nat} {d : List Nat} (h : Run y n c d) : Bytes d ∧ (∀ cc, c = some cc → cc < 65536) := by
  induction h with
  | start => exact ⟨(fun b hb => by cases hb), fun cc z => by cases z⟩
  | @step n c d r o b ih =>
    refine ⟨fun x hx => ?_, fun cc z => ?_⟩
    · rcases List.mem_append.mp hx with hx | hx
      · exact ih.1 x hx
      · exact bytes_chunk hy n x (List.mem_of_mem_drop (List.mem_of_mem_take hx))
    · obtain rfl := Option.some.inj z
      exact cnt_lt (bytes_chunk hy n)
/-- what is small of a feeder that was fed a few bytes -/
structure Low (s : St) (c : Option Nat) (d r : List Nat) : Prop where
  st : ∀ n, s = .block n → n ≤ 100
  ct : ∀ cc, c = some cc → cc < 65536
  ld : d.length ≤ 400
  lr : r.length ≤ 400
  bd : Bytes d
  br : Bytes r
theorem Fed.low {y : List Nat} (hy : Bytes y) (l : y.length ≤ 400) {s : St} {c : Option Nat} {d r : List Nat} (h : Fed y s c d r) : Low s c d r := by
  rcases h with ⟨rfl, n, run, o, rfl, lt⟩ | ⟨ne, res, rfl⟩
  · have b := run.bytes hy
    have ln := run.len
    exact ⟨(fun n z => by cases z), b.2, by omega, by rw [List.length_drop]; omega, b.1, fun x hx => hy x (List.mem_of_mem_drop hx)⟩
  · cases res with
    | @bad n c d run o g bad =>
      have b := run.bytes hy
      have ln := run.len
      exact ⟨(fun m z => by injection z with z; omega), b.2, by omega, by simp, b.1, fun x hx => by cases hx⟩
    | @unended n d run w =>
      have b := run.bytes hy
      have ln := run.len
      exact ⟨(fun m z => by injection z with z; omega), b.2, by omega, by simp, b.1, fun x hx => by cases hx⟩
    | @whole n d l run w =>
      have b := run.bytes hy
      have ln := run.len
      exact ⟨(fun m z => by cases z), b.2, by omega, by simp, b.1, fun x hx => by cases hx⟩
end Feed
namespace My
open PySem PySem.Spec PyProof.Rows L2 Crc
theorem nums_ok : ∀ {l : List Nat}, Bytes l → Pv.OkL (l.map fun n => .int (n : Nat))
  | [], _ => trivial
  | n :: l, h => ⟨by
      have := h n (List.mem_cons_self ..)
      exact ⟨by omega, by omega⟩, nums_ok fun x hx => h x (List.mem_cons_of_mem _ hx)⟩
theorem nums_size : ∀ l : List Nat, Pv.sizeL (l.map fun n => .int (n : Nat)) = l.length
  | [] => by simp [Pv.sizeL]
  | n :: l => by rw [List.map_cons, Pv.sizeL, nums_size l, Pv.size, List.length_cons]; omega
theorem nums_depth : ∀ l : List Nat, Pv.depthL (l.map fun n => .int (n : Nat)) ≤ 1
  | [] => by simp [Pv.depthL]
  | n :: l => by
    have := nums_depth l
    rw [List.map_cons, Pv.depthL, Pv.depth]
    omega
theorem int_bytes {i : Int} (h : -(2 ^ 60) < i ∧ i < 2 ^ 60) : (Pv.bytes (.int i)).length ≤ 10 := by
  have := Pv.nb_length 8 (Pv.zig i) (Nat.lt_of_lt_of_le (Pv.zig_lt h) (by decide))
  rw [Pv.bytes, List.length_cons]
  omega
theorem nums_bytes : ∀ {l : List Nat}, Bytes l → (Pv.bytesL (l.map fun n => .int (n : Nat))).length ≤ 10 * l.length
  | [], _ => by simp [Pv.bytesL]
  | n :: l, h => by
    have h1 := nums_bytes fun x hx => h x (List.mem_cons_of_mem n hx)
    have hn := h n (List.mem_cons_self ..)
    have h2 : (Pv.bytes (.int (n : Nat))).length ≤ 10 := int_bytes ⟨by omega, by omega⟩
    rw [List.map_cons, Pv.bytesL, List.length_append, List.length_cons]
    omega
theorem tup_len (l : List Pv.Val) : (Pv.bytes (.tup l)).length = 1 + (Pv.nb l.length).length + (Pv.bytesL l).length := by rw [Pv.bytes, List.length_cons, List.length_append]; omega
theorem cons_len (v : Pv.Val) (l : List Pv.Val) : (Pv.bytesL (v :: l)).length = (Pv.bytes v).length + (Pv.bytesL l).length := by rw [Pv.bytesL, List.length_append]
theorem nil_len : (Pv.bytesL []).length = 0 := by rw [Pv.bytesL]; rfl
theorem fd_fine {s : Feed.St} {c : Option Nat} {d r : List Nat} (L : Feed.Low s c d r) : Pv.Ok (fdVal s c d r) ∧ (Pv.bytes (fdVal s c d r)).length ≤ 100000 ∧ Pv.size (fdVal s c d r) ≤ 1000 ∧ Pv.depth (fdVal s c d r) ≤ 60 := by
  have oc : -(2 ^ 60) < cntI c ∧ cntI c < 2 ^ 60 := by
    cases c with
    | none => decide
    | some cc =>
      have := L.ct cc rfl
      exact ⟨by show _ < (cc : Int); omega, by show (cc : Int) < _; omega⟩
  have st : Pv.Ok (stVal s) ∧ (Pv.bytes (stVal s)).length ≤ 100 ∧ Pv.size (stVal s) ≤ 10 ∧ Pv.depth (stVal s) ≤ 10 := by
    cases s with
    | more => exact ⟨⟨by decide, ⟨⟨by decide, by decide⟩, trivial⟩⟩, by decide +kernel, by decide +kernel, by decide +kernel⟩
    | whole => exact ⟨⟨by decide, ⟨⟨by decide, by decide⟩, trivial⟩⟩, by decide +kernel, by decide +kernel, by decide +kernel⟩
    | block n =>
      have hn := L.st n rfl
      have ob : -(2 ^ 60) < ((n : Nat) : Int) ∧ ((n : Nat) : Int) < 2 ^ 60 := ⟨by omega, by omega⟩
      have lb := int_bytes ob
      refine ⟨⟨by simp, ⟨⟨by decide, by decide⟩, ob, trivial⟩⟩, ?_, by simp [stVal, Pv.size, Pv.sizeL], by simp [stVal, Pv.depth, Pv.depthL]⟩
      have e1 : (Pv.bytes (.str [3, 13, 16, 4, 12])).length = 7 := by decide +kernel
      have e2 : (Pv.nb 2).length = 1 := by decide +kernel
      rw [stVal, tup_len, cons_len, cons_len, nil_len, e1, show ([Pv.Val.str [3, 13, 16, 4, 12], .int (n : Nat)] : List Pv.Val).length = 2 from rfl, e2]
      omega
  have nd_ := nums_bytes L.bd
  have nr_ := nums_bytes L.br
  have ld := L.ld
  have lr := L.lr
  have cb := int_bytes oc
  have dd := nums_depth d
  have dr := nums_depth r
  have b1 := Pv.nb_length 8 d.length (Nat.lt_of_le_of_lt ld (by decide))
  have b2 := Pv.nb_length 8 r.length (Nat.lt_of_le_of_lt lr (by decide))
  refine ⟨⟨by simp, ⟨by decide, by decide⟩, st.1, oc, ⟨by simp; omega, nums_ok L.bd⟩, ⟨by simp; omega, nums_ok L.br⟩, trivial⟩, ?_, ?_, ?_⟩
  · have e1 : (Pv.bytes (.str [7, 6, 6, 5, 6, 19])).length = 8 := by decide +kernel
    have e2 : (Pv.nb 5).length = 1 := by decide +kernel
    have st2 := st.2.1
    have b1' : (Pv.nb (d.map fun n => Pv.Val.int (n : Nat)).length).length ≤ 9 := by rw [List.length_map]; exact b1
    have b2' : (Pv.nb (r.map fun n => Pv.Val.int (n : Nat)).length).length ≤ 9 := by rw [List.length_map]; exact b2
    rw [fdVal, tup_len, cons_len, cons_len, cons_len, cons_len, cons_len, nil_len, e1, numsV, numsV, tup_len, tup_len, show ∀ a b c d e : Pv.Val, [a, b, c, d, e].length = 5 from fun _ _ _ _ _ => rfl, e2]
    omega
  · have st3 := st.2.2.1
    have sd := nums_size d
    have sr := nums_size r
    simp only [fdVal, numsV, Pv.size, Pv.sizeL]
    omega
  · have st4 := st.2.2.2
    simp only [fdVal, numsV, Pv.depth, Pv.depthL]
    omega
end My
set_option Elab.async false
set_option linter.all false
set_option maxRecDepth 100000
set_option maxHeartbeats 4000000
/-! The law of feeders -/
namespace My
open PySem PySem.Spec PyProof.Rows L2 Crc
local macro_rules
  | `(tactic| nofun) => `(tactic| (apply tup_at; nofun))
local macro_rules
  | `(tactic| nofun) => `(tactic| (apply seq_at; nofun))
local macro_rules
  | `(tactic| nofun) => `(tactic| (apply pool_same; assumption; nofun))
local macro_rules
  | `(tactic| nofun) => `(tactic| (apply but_get; assumption; assumption; nofun))
local macro_rules
  | `(tactic| nofun) => `(tactic| (apply off_get; assumption; assumption; nofun))
local macro_rules
  | `(tactic| nofun) => `(tactic| (apply same_get; assumption; nofun))
local macro_rules
  | `(tactic| nofun) => `(tactic| assumption)
abbrev st_law : Stmt := topS 33
theorem sc_law : FnScope ["script", "pool", "told", "k", "whole_blocks", "way", "at", "feeder", "here", "turn", "size", "piece", "kept", "due", "whole", "one"] ["script"] (defScope st_law) := ⟨rfl, rfl, rfl, by decide +kernel, rfl, by decide +kernel, by decide +kernel⟩
def spLaw (K : PySem.W.Frag) : Sp := fun vs H Q _ => ∃ (a : Addr) (ns : List Int), vs = [.ref a] ∧ Scr K H a ns ∧ ns.length ≤ 63 ∧ ∀ H', Q (.bl true) H'
section
variable {P : Program} {w : World} {K : PySem.W.Frag} {mg : Str → Option Value} {base : Heap} {C : Addr}
structure Defs (P : Program) (w : World) (K : PySem.W.Frag) (mg : Str → Option Value) (base : Heap) (C : Addr) : Prop where
  pool : Def P w K mg base 3 "_law_pool" ["script"] (spPool K)
  next : Def P w K mg base 3 "_law_next" ["pool"] (spNext K)
  draw : Def P w K mg base 3 "_law_draw" ["pool", "limit"] (spDraw K)
  pick : Def P w K mg base 4 "_law_pick" ["pool", "options"] (spPick K)
  same : Def P w K mg base 6 "_law_same" ["answer", "due"] (spSame K 6)
  due : Def P w K mg base 4 "_law_due" ["told"] (spDue K)
  blocks_of : Def P w K mg base 3 "blocks_of" ["told"] spBlocksOf
  data_of : Def P w K mg base 3 "data_of" ["told"] (spDataOf K)
  is_plain : Def P w K mg base 1 "is_plain" ["value"] (spPlain K)
  bytes_of : Def P w K mg base 2 "bytes_of" ["value"] (spBytesOf K)
  value_of : Def P w K mg base 4 "value_of" ["told"] (spValueOf K)
  feeder_of : Def P w K mg base 3 "feeder_of" ["value"] (spFOf C K)
  ini : Ini P w K mg base 1 C ["self"] (spFInit C K)
  feed : Mth P w K mg base 4 C "feed" ["self", "told"] (spFeed C K)
  ftold : Mth P w K mg base 1 C "told" ["self"] (spFTold C K)
  fdata : Mth P w K mg base 2 C "data" ["self"] (spFData C K)
/-- what the law makes of the blocks of told -/
structure Good (told y : List Nat) (way : Int) : Prop where
  by_ : Bytes y
  len : y.length ≤ 300
  wh : ∀ c d, Feed.Res y .whole c d → (∃ extra, y = blocksOf told ++ extra) ∧ (way ≠ 2 → y = blocksOf told)
theorem PoolAt.ne_nums {K : PySem.W.Frag} {H : Hp} {p a b : Addr} {l : List Nat} (P : PoolAt K H p a) (h : H b = some (.lst (bv l))) : b ≠ p := fun z => by
  obtain ⟨i, n, f, e⟩ := P.ex
  rw [z, e] at h
  have h := HO.lst.inj (Option.some.inj h)
  cases l with
  | nil => cases h
  | cons x l =>
    injection h with h _
    cases h
theorem FdAt.but {K : PySem.W.Frag} {C : Addr} {H H' : Hp} {p a q : Addr} {s : Feed.St} {c : Option Nat} {d r : List Nat} (F : FdAt K C H q s c d r) (b : But p H H') (P : PoolAt K H p a) : FdAt K C H' q s c d r := by
  obtain ⟨dx, sa, ta, ra, e, es, et, er⟩ := F.ex
  obtain ⟨i, n, f, ep⟩ := P.ex
  refine ⟨dx, sa, ta, ra, b.get (fun z => by rw [z, ep] at e; cases e) e, ?_, b.get (P.ne_nums et) et, b.get (P.ne_nums er) er⟩
  rcases es with h | h
  · exact b.tup (fun z => rd_lst ep _ (z ▸ h)) (.inl h)
  · exact .inr h
theorem FdAt.butI {K : PySem.W.Frag} {C C' : Addr} {H H' : Hp} {p q dx' : Addr} {fs : List (Str × V)} {s : Feed.St} {c : Option Nat} {d r : List Nat} (F : FdAt K C H p s c d r) (b : But q H H') (e : H q = some (.ins C' dx' fs)) (n : p ≠ q) : FdAt K C H' p s c d r := by
  obtain ⟨dx, sa, ta, ra, e0, es, et, er⟩ := F.ex
  exact ⟨dx, sa, ta, ra, b.get n e0, b.tupI e es, b.lstI e et, b.lstI e er⟩
theorem st_dw {K : PySem.W.Frag} {H : Hp} {n : Nat} {a : Addr} {s : Feed.St} (h : SqT K H a (stV s)) : DW K H (n + 2) (.ref a) (stD s) := by
  cases s with
  | more => exact DW.tup h (by decide) (.cons rfl .nil)
  | block k => exact DW.tup h (by show 2 ≤ 1000000; decide) (.cons rfl (.cons rfl .nil))
  | whole => exact DW.tup h (by decide) (.cons rfl .nil)
theorem take_piece (y : List Nat) (h n : Nat) : y.take h ++ (y.drop h).take n = y.take (h + ((y.drop h).take n).length) := by
  rw [List.take_add]
  congr 1
  rw [List.length_take, List.length_drop]
  by_cases c : n ≤ y.length - h
  · rw [Nat.min_eq_left c]
  · rw [Nat.min_eq_right (by omega), List.take_of_length_le (by rw [List.length_drop]; omega), List.take_of_length_le (by rw [List.length_drop]; omega)]
theorem one_changed {x : List Nat} {q b : Nat} (h : q < x.length) : (x.take q ++ [b] ++ x.drop (q + 1)).length = x.length ∧ (∀ i, i ≠ q → (x.take q ++ [b] ++ x.drop (q + 1))[i]? = x[i]?) ∧ (x.take q ++ [b] ++ x.drop (q + 1))[q]? = some b := by
  have lt : (x.take q).length = q := by rw [List.length_take]; omega
  have l1 : (x.take q ++ [b]).length = q + 1 := by rw [List.length_append, lt]; rfl
  refine ⟨by rw [List.length_append, l1, List.length_drop]; omega, fun i hi => ?_, ?_⟩
  · by_cases g : i < q
    · rw [List.getElem?_append_left (by omega), List.getElem?_append_left (by omega), List.getElem?_take, if_pos g]
    · rw [List.getElem?_append_right (by omega), l1, List.getElem?_drop, show q + 1 + (i - (q + 1)) = i by omega]
  · rw [List.getElem?_append_left (by omega), List.getElem?_append_right (by omega), lt, Nat.sub_self]
    rfl
theorem ok_law (T : Top K mg "law" st_law ["script"]) (K_Feeder : Kls K mg "Feeder" C fds) (F : Defs P w K mg base C) (z_range : mg "range" = none) (z_len : mg "len" = none) (z_int : mg "int" = none) (z_list : mg "list" = none) (z_tuple : mg "tuple" = none) : Def P w K mg base 7 "law" ["script"] (spLaw K) := by
  have ⟨D_law_pool, D_law_next, D_law_draw, D_law_pick, D_law_same, D_law_due, D_blocks_of, D_data_of, D_is_plain, D_bytes_of, D_value_of, D_feeder_of, D_Feeder___init__, D_Feeder_feed, D_Feeder_told, D_Feeder_data⟩ := F
  refine T.ok sc_law (fun vs H Q E h => ?_) (fun f cdv A outer s H vs Q E hr h => ?_)
  · obtain ⟨a, ns, rfl, _⟩ := h
    rfl
  obtain ⟨a, ns, rfl, hC, hl, q⟩ := h
  have big : ∀ {n : Nat}, n ≤ 900000 → n ≤ sizeLine := fun h => Nat.le_trans h (by decide)
  have hu := hu_of hr
  refine ⟨_, (pss_cons (ps_set (i := 1) sc_law.nd rfl (Or.inr rfl) (pe_def D_law_pool (hr.mono (by decide)) rfl (pa_cons (pv 0) pa_nil)))
    (pss_cons (ps_setLc (i := 2) (own := [("k", 3)]) (g := gName 3) (tt := tYes) rfl sc_law.nd rfl rfl (sw_true rfl rfl rfl (by decide +kernel)) (pi_range1 rfl z_range (pa_cons (pe_def D_law_draw (hr.mono (by decide)) rfl (pa_cons (pv 1) (pa_cons pe_int pa_nil))) pa_nil)) (blkOk_by (own := [("k", 3)]) (N := ["script", "pool", "told", "k", "whole_blocks", "way", "at", "feeder", "here", "turn", "size", "piece", "kept", "due", "whole", "one"]) (sc := defScope st_law) (by decide +kernel)) (fun _ _ _ _ _ => (pg_name (i := 3) sc_law.nd rfl (Or.inl rfl))) (fun _ _ _ _ _ => pts_nil) (fun _ _ _ _ _ => (pe_def D_law_draw (hr.mono (by decide)) rfl (pa_cons (pv 1) (pa_cons pe_int pa_nil)))))
    (pss_cons (ps_expr (pe_def D_law_next (hr.mono (by decide)) rfl (pa_cons (pv 1) pa_nil)))
    (pss_cons (ps_set (i := 4) sc_law.nd rfl (Or.inl rfl) (pe_def D_blocks_of (hr.mono (by decide)) rfl (pa_cons (pv 2) pa_nil)))
    (pss_cons (ps_set (i := 5) sc_law.nd rfl (Or.inl rfl) (pe_def D_law_draw (hr.mono (by decide)) rfl (pa_cons (pv 1) (pa_cons pe_int pa_nil))))
    (pss_cons (ps_set (i := 6) sc_law.nd rfl (Or.inl rfl) (pe_def D_law_draw (hr.mono (by decide)) rfl (pa_cons (pv 1) (pa_cons (pe_callB (lenQ K) rfl z_len (by decide +kernel) (pa_cons (pv 4) pa_nil)) pa_nil))))
    (Evl.pss_cut (ps_if (pt_cmpR op_eq (pv 5) pe_int (nomark _))
    (pss_one (ps_set (i := 4) sc_law.nd rfl (Or.inl rfl) (pe_slice (slL K) (pv 4) po_none (po_some (pv 6)))))
    (pss_one (ps_if (pt_cmpR op_eq (pv 5) pe_int (nomark _))
      (pss_one (ps_set (i := 4) sc_law.nd rfl (Or.inl rfl) (pe_op op_cat (pe_op op_cat (pe_slice (slL K) (pv 4) po_none (po_some (pv 6))) (pe_lst (pa_cons (pe_op op_mod (pe_callTy call_int1 rfl z_int (by decide +kernel) (pa_cons (pe_op op_add (pe_ix (ixL K) (pv 4) (pv 6) (fun _ _ => rfl)) pe_int) pa_nil)) pe_int) pa_nil))) (pe_slice (slL K) (pv 4) (po_some (pe_op op_add (pv 6) pe_int)) po_none))))
      (pss_one (ps_if (pt_cmpR op_eq (pv 5) pe_int (nomark _))
        (pss_one (ps_set (i := 4) sc_law.nd rfl (Or.inl rfl) (pe_op op_cat (pv 4) (pe_lc (own := [("k", 3)]) (g := gName 3) (tt := tYes) rfl sc_law.nd (pi_range1 rfl z_range (pa_cons (pe_def D_law_draw (hr.mono (by decide)) rfl (pa_cons (pv 1) (pa_cons pe_int pa_nil))) pa_nil)) (blkOk_by (own := [("k", 3)]) (N := ["script", "pool", "told", "k", "whole_blocks", "way", "at", "feeder", "here", "turn", "size", "piece", "kept", "due", "whole", "one"]) (sc := defScope st_law) (by decide +kernel)) (fun _ _ _ _ _ => (pg_name (i := 3) sc_law.nd rfl (Or.inl rfl))) (fun _ _ _ _ _ => pts_nil) (fun _ _ _ _ _ => (pe_def D_law_draw (hr.mono (by decide)) rfl (pa_cons (pv 1) (pa_cons pe_int pa_nil))))))))
        (pss_one (ps_if (pt_cmpR op_eq (pv 5) pe_int (nomark _))
          (pss_one (ps_set (i := 4) sc_law.nd rfl (Or.inl rfl) (pe_op op_cat (pe_slice (slL K) (pv 4) (po_some pe_int) po_none) (pe_slice (slL K) (pv 4) po_none (po_some pe_int)))))
          pss_nil)))))))
    (pss_cons (ps_set (i := 7) sc_law.nd rfl (Or.inl rfl) (pe_ini0 D_Feeder___init__ K_Feeder (hr.mono (by decide)) rfl))
    (pss_cons (ps_set (i := 8) sc_law.nd rfl (Or.inl rfl) pe_int)
    (pss_cons (ps_for PassesOwn.never rfl (pi_range1 rfl z_range (pa_cons pe_int pa_nil)) (pg_name (i := 9) sc_law.nd rfl (Or.inl rfl))
    (pss_one (ps_if (pt_cmpR op_lt (pv 8) (pe_callB (lenQ K) rfl z_len (by decide +kernel) (pa_cons (pv 4) pa_nil)) (nomark _))
      (pss_cons (ps_expr (pe_def D_law_next (hr.mono (by decide)) rfl (pa_cons (pv 1) pa_nil)))
        (pss_cons (ps_set (i := 10) sc_law.nd rfl (Or.inl rfl) (pe_def D_law_draw (hr.mono (by decide)) rfl (pa_cons (pv 1) (pa_cons (pe_def D_law_pick (hr.mono (by decide)) rfl (pa_cons (pv 1) (pa_cons (pe_lst (pa_cons pe_int (pa_cons pe_int (pa_cons pe_int pa_nil)))) pa_nil))) pa_nil))))
        (pss_cons (ps_set (i := 11) sc_law.nd rfl (Or.inl rfl) (pe_slice (slL K) (pv 4) (po_some (pv 8)) (po_some (pe_op op_add (pv 8) (pv 10)))))
        (pss_cons (ps_set (i := 8) sc_law.nd rfl (Or.inl rfl) (pe_op op_add (pv 8) (pe_callB (lenQ K) rfl z_len (by decide +kernel) (pa_cons (pv 11) pa_nil))))
        (Evl.pss_cut (ps_if (pt_cmpR op_eq (pe_def D_law_draw (hr.mono (by decide)) rfl (pa_cons (pv 1) (pa_cons pe_int pa_nil))) pe_int (nomark _))
        (pss_cons (ps_set (i := 12) sc_law.nd rfl (Or.inl rfl) (pe_mth0 D_Feeder_told K_Feeder (pv 7) (hr.mono (by decide))))
          (pss_cons (ps_if (pt_cmpR op_isnot_bl (pe_def D_is_plain (hr.mono (by decide)) rfl (pa_cons (pv 12) pa_nil)) pe_bl (nomark _))
          (pss_one (ps_ret pe_bl))
          pss_nil)
          (pss_one (ps_set (i := 7) sc_law.nd rfl (Or.inl rfl) (pe_def D_feeder_of (hr.mono (by decide)) rfl (pa_cons (pe_ix (ixT K) (pe_def D_value_of (hr.mono (by decide)) rfl (pa_cons (pe_def D_bytes_of (hr.mono (by decide)) rfl (pa_cons (pv 12) pa_nil)) pa_nil)) pe_int (fun _ _ => rfl)) pa_nil))))))
        pss_nil)
        (pss_one (ps_if (pt_not (pt_val (pe_def D_law_same (hr.mono (by decide)) rfl (pa_cons (pe_mth D_Feeder_feed K_Feeder (pv 7) (hr.mono (by decide)) (pa_cons (pe_callTy (lstQ K) rfl z_list (by decide +kernel) (pa_cons (pv 11) pa_nil)) pa_nil)) (pa_cons (pe_def D_law_due (hr.mono (by decide)) rfl (pa_cons (pe_slice (slL K) (pv 4) po_none (po_some (pv 8))) pa_nil)) pa_nil)))))
        (pss_one (ps_ret pe_bl))
        pss_nil)))))))
      pss_nil)))
    (pss_cons (ps_set (i := 13) sc_law.nd rfl (Or.inl rfl) (pe_def D_law_due (hr.mono (by decide)) rfl (pa_cons (pv 4) pa_nil)))
    (pss_cons (ps_if (pt_cmpR op_lt (pv 8) (pe_callB (lenQ K) rfl z_len (by decide +kernel) (pa_cons (pv 4) pa_nil)) (nomark _))
    (pss_one (ps_ret pe_bl))
    pss_nil)
    (Evl.pss_cut (ps_set (i := 14) sc_law.nd rfl (Or.inl rfl) (pe_def D_data_of (hr.mono (by decide)) rfl (pa_cons (pe_ifExp (pt_cmpR op_ne (pv 5) pe_int (nomark _)) (pv 4) (pe_def D_blocks_of (hr.mono (by decide)) rfl (pa_cons (pv 2) pa_nil))) pa_nil)))
    (Evl.pss_cut (ps_if (pt_not (pt_val (pe_def D_law_same (hr.mono (by decide)) rfl (pa_cons (pe_mth0 D_Feeder_data K_Feeder (pv 7) (hr.mono (by decide))) (pa_cons (pe_ifExp (pt_cmpR (eqQ K hr.units) (pv 13) (pe_tup (pa_cons pe_str pa_nil)) (nomark _)) (pe_ix (ixT K) (pv 14) pe_int (fun _ _ => rfl)) pe_non) pa_nil)))))
    (pss_one (ps_ret pe_bl))
    pss_nil)
    (pss_cons (ps_set (i := 15) sc_law.nd rfl (Or.inl rfl) (pe_ini0 D_Feeder___init__ K_Feeder (hr.mono (by decide)) rfl))
    (pss_one (ps_ret (pe_and (pe_def D_law_same (hr.mono (by decide)) rfl (pa_cons (pe_mth D_Feeder_feed K_Feeder (pv 15) (hr.mono (by decide)) (pa_cons (pe_callTy (lstQ K) rfl z_list (by decide +kernel) (pa_cons (pv 4) pa_nil)) pa_nil)) (pa_cons (pv 13) pa_nil))) (pe_and (pe_def D_law_same (hr.mono (by decide)) rfl (pa_cons (pe_mth0 D_Feeder_data K_Feeder (pv 15) (hr.mono (by decide))) (pa_cons (pe_mth0 D_Feeder_data K_Feeder (pv 7) (hr.mono (by decide))) pa_nil))) (pe_one (pe_def D_law_same (hr.mono (by decide)) rfl (pa_cons (pe_mth D_Feeder_feed K_Feeder (pv 15) (hr.mono (by decide)) (pa_cons (pe_lst (pa_cons pe_int (pa_cons pe_int (pa_cons pe_int pa_nil)))) pa_nil)) (pa_cons (pe_ifExp (pt_cmpR (neQ K hr.units) (pv 13) (pe_tup (pa_cons pe_str pa_nil)) (nomark _)) (pv 13) (pe_def D_law_due (hr.mono (by decide)) rfl (pa_cons (pe_op op_cat (pv 4) (pe_lst (pa_cons pe_int (pa_cons pe_int (pa_cons pe_int pa_nil))))) pa_nil))) pa_nil))))))))))))))))))))))), ?_⟩
  refine ⟨.ref a, rfl, a, ns, rfl, hC, hl, fun p H0 np o0 hP0 => ?_⟩
  -- told
  refine ⟨.ref p, rfl, p, a, 200, rfl, hP0, by decide, by decide, fun n H1 v0 v1 o1 P1 => ⟨n, rfl, by omega, by omega, fun tl ntl => ?_⟩⟩
  have ntp : tl ≠ p := P1.ne ntl
  refine lc_range (lo := 0) (n := n.toNat) (fun i G => PoolAt K G p a ∧ ∃ l : List Nat, G tl = some (.lst (bv l)) ∧ l.length = i ∧ ∀ b ∈ l, b < 9) ⟨P1.new ntl, [], upd_same, rfl, fun b hb => by cases hb⟩ ?_ ?_
  · rintro i G hi ⟨PG, l, el, ll, lb⟩
    refine ⟨rfl, ?_⟩
    dsimp only [tYes]
    refine iteT ⟨.ref p, rfl, p, a, 9, rfl, PG, by decide, by decide, fun v G2 u0 u1 o2 P2 => ?_⟩
    obtain ⟨b, rfl⟩ := Int.eq_ofNat_of_zero_le u0
    have el2 := o2.get ntp el
    refine ⟨_, el2, by rw [bv_len]; exact sq_len (by omega), P2.put ntp el2, l ++ [b], by rw [upd_same, bv_app]; rfl, by rw [List.length_append, ll]; rfl, fun c hc => ?_⟩
    rcases List.mem_append.mp hc with hc | hc
    · exact lb c hc
    · rw [List.mem_singleton.mp hc]; omega
  rintro G1 ⟨PG1, told, et1, lt, lb⟩
  have lt : told.length < 200 := by omega
  have bt : Bytes told := fun b hb => Nat.lt_trans (lb b hb) (by decide)
  have hcnt : cntOf told ≤ 4 := by unfold cntOf; omega
  have hc : cntOf told < 65536 := by omega
  have cp := cnt_pos told
  have lW := blocks_length told
  have bW : Bytes (blocksOf told) := bytes_blocks bt hc
  clear lb
  refine ⟨.ref p, rfl, p, a, rfl, PG1, fun G2 o2 P2 => ?_⟩
  have et2 := o2.get ntp et1
  refine ⟨.ref tl, rfl, tl, told, rfl, et2, by omega, fun wb G3 s3 n3 e3 => ?_⟩
  have P3 : PoolAt K G3 p a := P2.same s3
  have et3 := s3 _ _ et2
  have nwp : wb ≠ p := P2.ne n3
  have ntw : tl ≠ wb := ne_of_none et2 n3
  refine ⟨.ref p, rfl, p, a, 5, rfl, P3, by decide, by decide, fun way G4 w0 w1 o4 P4 => ?_⟩
  have e4 := o4.get nwp e3
  have et4 := o4.get ntp et3
  refine ⟨.ref p, rfl, .ref wb, rfl, wb, _, rfl, .inl (SqL.of e4), p, a, _, rfl, P4, by rw [bv_len]; omega, by rw [bv_len]; omega, fun at0 G5 a0 a1 o5 P5 => ?_⟩
  have e5 := o5.get nwp e4
  have et5 := o5.get ntp et4
  obtain ⟨at_, rfl⟩ := Int.eq_ofNat_of_zero_le a0
  rw [bv_len] at a1
  have a1 : at_ < (blocksOf told).length := by omega
  clear o2 o4 o5 s3 e3 e4 et1 et2 et3 et4 P1 P2 P3 P4 PG1 o1
  -- the way
  refine ⟨fun σ' G' => ∃ (y : List Nat) (yb : Addr) (x3 : Option V), σ' = [some (.ref a), some (.ref p), some (.ref tl), x3, some (.ref yb), some (.int way), some (.int (at_ : Nat)), none, none, none, none, none, none, none, none, none] ∧ PoolAt K G' p a ∧ G' tl = some (.lst (bv told)) ∧ G' yb = some (.lst (bv y)) ∧ Good told y way, ?_, ?_⟩
  · refine ⟨_, rfl, rfl, _, rfl, ?_⟩
    by_cases c0 : way = 0
    · refine ifD (by rw [c0]) ⟨.ref wb, rfl, _, rfl, _, rfl, wb, _, rfl, SqL.of e5, fun yb n6 => ?_⟩
      generalize hN6 : L2.upd G5 yb _ = G6
      have s6 := new_of n6 hN6
      have e6 := at_of hN6
      try dsimp only at e6
      clear hN6
      rw [cut_lt, bv_take] at e6
      exact ⟨_, yb, _, rfl, P5.same s6, s6 _ _ et5, e6, fun x hx => bW x (List.mem_of_mem_take hx), by rw [List.length_take]; omega, fun c d z => absurd z (Feed.not_whole_cut hc a1)⟩
    refine ifND (fun z => c0 (V.int.inj z)) ⟨_, rfl, rfl, _, rfl, ?_⟩
    by_cases c1 : way = 1
    · obtain ⟨wv, hwv⟩ : ∃ wv, (blocksOf told)[at_]? = some wv := ⟨_, List.getElem?_eq_getElem a1⟩
      have wlt := bW wv (List.mem_of_getElem? hwv)
      refine ifD (by rw [c1]) ⟨.ref wb, rfl, _, rfl, _, rfl, wb, _, rfl, SqL.of e5, fun u1 n6 => ?_⟩
      generalize hN6 : L2.upd G5 u1 _ = G6
      have s6 := new_of n6 hN6
      have e6 := at_of hN6
      try dsimp only at e6
      clear hN6
      rw [cut_lt, bv_take] at e6
      refine ⟨.ref wb, rfl, _, rfl, wb, _, _, _, rfl, rfl, SqL.of (by nofun), atI_nat (bv_get hwv), _, _, rfl, rfl, .inl ⟨_, rfl, _, _, rfl, rfl, (by show (0 : Int) < 256; decide), (by show 1 ≤ sizeLine; decide), fun u2 n7 => ?_⟩⟩
      generalize hN7 : L2.upd G6 u2 _ = G7
      have s7 := new_of n7 hN7
      have e7 := at_of hN7
      try dsimp only at e7
      clear hN7
      have e7 : G7 u2 = some (.lst (bv [(wv + 1) % 256])) := by
        rw [e7, show ((wv : Nat) : Int) + 1 = ((wv + 1 : Nat) : Int) by omega, show ((wv + 1 : Nat) : Int) % 256 = (((wv + 1) % 256 : Nat) : Int) by omega]
        rfl
      refine ⟨u1, u2, _, _, rfl, rfl, by nofun, e7, big (by rw [bv_len, bv_len, List.length_take, List.length_singleton]; omega), fun u3 n8 => ?_⟩
      generalize hN8 : L2.upd G7 u3 _ = G8
      have s8 := new_of n8 hN8
      have e8 := at_of hN8
      try dsimp only at e8
      clear hN8
      rw [← bv_app] at e8
      refine ⟨.ref wb, rfl, _, rfl, _, _, rfl, rfl, _, rfl, wb, _, rfl, SqL.of (by nofun), fun u4 n9 => ?_⟩
      generalize hN9 : L2.upd G8 u4 _ = G9
      have s9 := new_of n9 hN9
      have e9 := at_of hN9
      try dsimp only at e9
      clear hN9
      rw [show ((at_ : Nat) : Int) + 1 = ((at_ + 1 : Nat) : Int) by omega, cut_ge, bv_drop] at e9
      have oc := one_changed (b := (wv + 1) % 256) a1
      refine ⟨u3, u4, _, _, rfl, rfl, by nofun, e9, big (by rw [bv_len, bv_len, ← List.length_append, oc.1]; omega), fun yb n10 => ?_⟩
      generalize hN10 : L2.upd G9 yb _ = G10
      have s10 := new_of n10 hN10
      have e10 := at_of hN10
      try dsimp only at e10
      clear hN10
      rw [← bv_app] at e10
      have by_ : Bytes ((blocksOf told).take at_ ++ [(wv + 1) % 256] ++ (blocksOf told).drop (at_ + 1)) := fun x hx => by
        rcases List.mem_append.mp hx with hx | hx
        · rcases List.mem_append.mp hx with hx | hx
          · exact bW x (List.mem_of_mem_take hx)
          · rw [List.mem_singleton.mp hx]; omega
        · exact bW x (List.mem_of_mem_drop hx)
      refine ⟨_, yb, _, rfl, P5.same (s6.trans (s7.trans (s8.trans (s9.trans s10)))), by nofun, e10, by_, by rw [oc.1]; omega, fun c d z => absurd z (Feed.not_whole_changed bt hc by_ oc.1 (Feed.agree_byte oc.1 oc.2.1) (by decide) (q := at_) (by rw [oc.1]; exact a1) oc.2.1 ?_)⟩
      rw [oc.2.2, hwv]
      intro z
      have := Option.some.inj z
      omega
    refine ifND (fun z => c1 (V.int.inj z)) ⟨_, rfl, rfl, _, rfl, ?_⟩
    by_cases c2 : way = 2
    · refine ifD (by rw [c2]) ⟨.ref wb, rfl, .ref p, rfl, p, a, 9, rfl, P5, by decide, by decide, fun m G6 m0 m1 o6 P6 => ⟨m, rfl, by omega, by omega, fun ex nex => ?_⟩⟩
      have nep : ex ≠ p := P6.ne nex
      have e6 := o6.get nwp e5
      have et6 := o6.get ntp et5
      have new : wb ≠ ex := ne_of_none e6 nex
      have net : tl ≠ ex := ne_of_none et6 nex
      refine lc_range (lo := 0) (n := m.toNat) (fun i G => PoolAt K G p a ∧ G wb = some (.lst (bv (blocksOf told))) ∧ G tl = some (.lst (bv told)) ∧ ∃ l : List Nat, G ex = some (.lst (bv l)) ∧ l.length = i ∧ ∀ b ∈ l, b < 256) ⟨P6.new nex, (upd_ne new).trans e6, (upd_ne net).trans et6, [], upd_same, rfl, fun b hb => by cases hb⟩ ?_ ?_
      · rintro i G hi ⟨PG, eg, tg, l, el, ll, lb⟩
        refine ⟨rfl, ?_⟩
        dsimp only [tYes]
        refine iteT ⟨.ref p, rfl, p, a, 256, rfl, PG, by decide, by decide, fun v G2 u0 u1 o2 P2 => ?_⟩
        obtain ⟨b, rfl⟩ := Int.eq_ofNat_of_zero_le u0
        have el2 := o2.get nep el
        refine ⟨_, el2, by rw [bv_len]; exact sq_len (by omega), P2.put nep el2, (upd_ne new).trans (o2.get nwp eg), (upd_ne net).trans (o2.get ntp tg), l ++ [b], by rw [upd_same, bv_app]; rfl, by rw [List.length_append, ll]; rfl, fun c hc => ?_⟩
        rcases List.mem_append.mp hc with hc | hc
        · exact lb c hc
        · rw [List.mem_singleton.mp hc]; omega
      rintro G7 ⟨P7, e7, et7, l, el, ll, lb⟩
      refine ⟨wb, ex, _, _, rfl, rfl, e7, el, big (by rw [bv_len, bv_len]; omega), fun yb n8 => ?_⟩
      generalize hN8 : L2.upd G7 yb _ = G8
      have s8 := new_of n8 hN8
      have e8 := at_of hN8
      try dsimp only at e8
      clear hN8
      rw [← bv_app] at e8
      exact ⟨_, yb, _, rfl, P7.same s8, s8 _ _ et7, e8, fun x hx => (by
        rcases List.mem_append.mp hx with hx | hx
        · exact bW x hx
        · exact lb x hx), by rw [List.length_append]; omega, fun c d _ => ⟨⟨l, rfl⟩, fun z => absurd c2 z⟩⟩
    refine ifND (fun z => c2 (V.int.inj z)) ⟨_, rfl, rfl, _, rfl, ?_⟩
    by_cases c3 : way = 3
    · refine ifD (by rw [c3]) ⟨.ref wb, rfl, _, rfl, wb, _, rfl, SqL.of e5, fun u1 n6 => ?_⟩
      generalize hN6 : L2.upd G5 u1 _ = G6
      have s6 := new_of n6 hN6
      have e6 := at_of hN6
      try dsimp only at e6
      clear hN6
      rw [show cutV (bv (blocksOf told)) (some 64) none = bv ((blocksOf told).drop 64) from (cut_ge _ 64).trans (bv_drop _ _)] at e6
      refine ⟨.ref wb, rfl, _, rfl, wb, _, rfl, SqL.of (by nofun), fun u2 n7 => ?_⟩
      generalize hN7 : L2.upd G6 u2 _ = G7
      have s7 := new_of n7 hN7
      have e7 := at_of hN7
      try dsimp only at e7
      clear hN7
      rw [show cutV (bv (blocksOf told)) none (some 64) = bv ((blocksOf told).take 64) from (cut_lt _ 64).trans (bv_take _ _)] at e7
      refine ⟨u1, u2, _, _, rfl, rfl, by nofun, e7, big (by rw [bv_len, bv_len, List.length_take, List.length_drop]; omega), fun yb n8 => ?_⟩
      generalize hN8 : L2.upd G7 yb _ = G8
      have s8 := new_of n8 hN8
      have e8 := at_of hN8
      try dsimp only at e8
      clear hN8
      rw [← bv_app] at e8
      refine ⟨_, yb, _, rfl, P5.same (s6.trans (s7.trans s8)), by nofun, e8, fun x hx => (by
        rcases List.mem_append.mp hx with hx | hx
        · exact bW x (List.mem_of_mem_drop hx)
        · exact bW x (List.mem_of_mem_take hx)), by rw [List.length_append, List.length_drop, List.length_take]; omega, fun c d z => ?_⟩
      by_cases one : 1 < cntOf told
      · exact absurd z (Feed.not_whole_swapped one hc)
      · have e : (blocksOf told).drop 64 ++ (blocksOf told).take 64 = blocksOf told := by
          rw [List.drop_eq_nil_of_le (by omega), List.take_of_length_le (by omega), List.nil_append]
        rw [e]
        exact ⟨⟨[], (List.append_nil _).symm⟩, fun _ => rfl⟩
    refine ifND (fun z => c3 (V.int.inj z)) ?_
    exact ⟨_, wb, _, rfl, P5, et5, e5, bW, by omega, fun c d _ => ⟨⟨[], (List.append_nil _).symm⟩, fun _ => rfl⟩⟩
  rintro σ' G6 ⟨y, yb, x3, rfl, P6, et6, ey6, gd⟩
  clear e5 et5 P5 a1 ntw nwp
  -- the feeder
  have npy : yb ≠ p := P6.ne_nums ey6
  have npt : tl ≠ p := P6.ne_nums et6
  refine fun fp dx0 nfp ndx ndp => ⟨fp, dx0, rfl, upd_same, fun G7 b7 F7 => ⟨rfl, ?_⟩⟩
  have s7 : Same G6 G7 := b7.keep (made_same nfp ndx ndp) nfp
  have P7 : PoolAt K G7 p a := P6.same s7
  have et7 := s7 _ _ et6
  have ey7 := s7 _ _ ey6
  clear b7 s7
  have fed0 : Feed.Fed (y.take 0) .more none [] [] := .inl ⟨rfl, 0, .start, .inl rfl, rfl, by rw [List.take_zero]; decide⟩
  have byt : ∀ n, Bytes (y.take n) := fun n x hx => gd.by_ x (List.mem_of_mem_take hx)
  have ly := gd.len
  refine ⟨400, rfl, by decide, by decide, for_range (lo := 0) (n := 400) (fun i σ G => ∃ (fp : Addr) (here : Nat) (s : Feed.St) (c : Option Nat) (d r : List Nat) (x9 x10 x11 x12 : Option V), σ = [some (.ref a), some (.ref p), some (.ref tl), x3, some (.ref yb), some (.int way), some (.int (at_ : Nat)), some (.ref fp), some (.int (here : Nat)), x9, x10, x11, x12, none, none, none] ∧ here ≤ y.length ∧ PoolAt K G p a ∧ G tl = some (.lst (bv told)) ∧ G yb = some (.lst (bv y)) ∧ FdAt K C G fp s c d r ∧ Feed.Fed (y.take here) s c d r) ⟨fp, 0, _, _, _, _, _, _, _, _, rfl, Nat.zero_le _, P7, et7, ey7, F7, fed0⟩ ?_ ?_⟩
  · rintro i σ G hi ⟨fp, here, s, c, d, r, x9, x10, x11, x12, rfl, hh, PG, et, ey, FG, fed⟩
    refine ⟨_, rfl, .ref yb, rfl, yb, _, rfl, .inl (SqL.of ey), _, _, rfl, rfl, _, rfl, ?_⟩
    by_cases lt : here < y.length
    case neg =>
      refine ifND (by rw [bv_len]; omega) ?_
      exact ⟨fp, here, s, c, d, r, _, _, _, _, rfl, hh, PG, et, ey, FG, fed⟩
    refine ifD (by rw [bv_len]; omega) ?_
    refine ⟨.ref p, rfl, p, a, rfl, PG, fun G1 o1 P1 => ?_⟩
    have et1 := o1.get npt et
    have ey1 := o1.get npy ey
    have F1 := FG.but o1.but PG
    clear et ey FG PG o1
    refine ⟨.ref p, rfl, .ref p, rfl, (by show 3 ≤ sizeLine; decide), fun op n2 => ?_⟩
    generalize hN2 : L2.upd G1 op _ = G2
    have s2 := new_of n2 hN2
    have e2 := at_of hN2
    try dsimp only at e2
    clear hN2
    refine ⟨p, a, op, [.int 2, .int 40, .int 200], rfl, by nofun, SqL.of e2, P1.ne n2, by decide, by decide, fun x G3 hx o3 P3 => ?_⟩
    have et3 := o3.get npt (s2 _ _ et1)
    have ey3 := o3.get npy (s2 _ _ ey1)
    have F3 := (F1.same s2).but o3.but (P1.same s2)
    clear s2 e2 et1 ey1 F1 P1 o3
    obtain ⟨lim, rfl, l0, l1⟩ : ∃ lim : Int, x = .int lim ∧ 0 < lim ∧ lim ≤ 200 := by
      simp only [List.mem_cons, List.not_mem_nil, or_false] at hx
      rcases hx with rfl | rfl | rfl
      · exact ⟨_, rfl, by decide, by decide⟩
      · exact ⟨_, rfl, by decide, by decide⟩
      · exact ⟨_, rfl, by decide, by decide⟩
    refine ⟨p, a, lim, rfl, P3, l0, by omega, fun sz0 G4 z0 z1 o4 P4 => ?_⟩
    have et4 := o4.get npt et3
    have ey4 := o4.get npy ey3
    have F4 := F3.but o4.but P3
    clear et3 ey3 F3 P3 o4
    obtain ⟨sz, rfl⟩ := Int.eq_ofNat_of_zero_le z0
    refine ⟨.ref yb, rfl, _, rfl, _, rfl, _, rfl, _, rfl, _, _, rfl, rfl, _, rfl, yb, _, rfl, SqL.of ey4, fun pc n5 => ?_⟩
    generalize hN5 : L2.upd G4 pc _ = G5
    have s5 := new_of n5 hN5
    have e5 := at_of hN5
    try dsimp only at e5
    clear hN5
    rw [show ((here : Nat) : Int) + ((sz : Nat) : Int) = ((here + sz : Nat) : Int) by omega, cut_mid, bv_drop, bv_take, Nat.add_sub_cancel_left] at e5
    have et5 := s5 _ _ et4
    have ey5 := s5 _ _ ey4
    have F5 := F4.same s5
    have P5 := P4.same s5
    have tp := take_piece y here sz
    have lp : ((y.drop here).take sz).length ≤ y.length - here := by rw [List.length_take, List.length_drop]; omega
    clear et4 ey4 F4 P4 s5
    generalize (y.drop here).take sz = pcs at *
    refine ⟨_, rfl, .ref pc, rfl, pc, _, rfl, .inl (SqL.of e5), _, _, rfl, rfl, ?_⟩
    dsimp only
    rw [bv_len, show ((here : Nat) : Int) + ((pcs.length : Nat) : Int) = ((here + pcs.length : Nat) : Int) by omega]
    have L := fed.low (byt _) (by rw [List.length_take]; omega)
    have fine := fd_fine L
    refine ⟨fun σ' G' => ∃ (fp : Addr) (x12 : Option V), σ' = [some (.ref a), some (.ref p), some (.ref tl), x3, some (.ref yb), some (.int way), some (.int (at_ : Nat)), some (.ref fp), some (.int (here + pcs.length : Nat)), some (.int (0 + (i : Int))), some (.int (sz : Nat)), some (.ref pc), x12, none, none, none] ∧ PoolAt K G' p a ∧ G' tl = some (.lst (bv told)) ∧ G' yb = some (.lst (bv y)) ∧ G' pc = some (.lst (bv pcs)) ∧ FdAt K C G' fp s c d r, ?_, ?_⟩
    · refine ⟨.ref p, rfl, p, a, 3, rfl, P5, by decide, by decide, fun v G6 _ _ o6 P6 => ⟨rfl, _, rfl, ?_⟩⟩
      have et6 := o6.get npt et5
      have ey6 := o6.get npy ey5
      have ep6 := o6.get (P5.ne_nums e5) e5
      have F6 := F5.but o6.but P5
      clear et5 ey5 e5 F5 P5 o6
      refine ite2 (fun _ => ?_) (fun _ => ?_)
      · obtain ⟨dx, sa, ta, ra, hfp, _⟩ := F6.ex
        refine ⟨.ref fp, rfl, fp, dx, _, rfl, hfp, fd_no _ _ _ _ (by decide +kernel) (by decide +kernel) (by decide +kernel) (by decide +kernel), fp, s, c, d, r, rfl, F6, fun t G7 s7 hv => ?_⟩
        refine ⟨_, rfl, .ref t, fdVal s c d r, 3, rfl, hv, fine.1, by omega, fine.2.2.2, fun G8 s8 => ⟨true, true, rfl, rfl, _, rfl, ifnD rfl ?_⟩⟩
        refine ⟨_, rfl, .ref t, fdVal s c d r, 3, rfl, hv.same s8, fine.1, by omega, by omega, fun b G9 s9 n9 e9 => ?_⟩
        refine ⟨b, fdVal s c d r, rfl, SqL.of e9, fine.1, by omega, fine.2.2.2, fun t2 x G10 s10 n10 e10 hx => ?_⟩
        refine ⟨t2, _, _, _, rfl, rfl, SqT.of e10, rfl, x, _, s, c, d, r, rfl, hx, fun fp2 G11 s11 n11 F11 => ?_⟩
        have s6 := s7.trans (s8.trans (s9.trans (s10.trans s11)))
        exact ⟨fp2, _, rfl, P6.same s6, s6 _ _ et6, s6 _ _ ey6, s6 _ _ ep6, F11⟩
      · exact ⟨fp, _, rfl, P6, et6, ey6, ep6, F6⟩
    clear et5 ey5 e5 F5 P5
    rintro σ' G6 ⟨fp, x12, rfl, P6, et6, ey6, ep6, F6⟩
    obtain ⟨dx, sa, ta, ra, hfp, _⟩ := F6.ex
    refine ⟨.ref fp, rfl, fp, dx, _, rfl, hfp, fd_no _ _ _ _ (by decide +kernel) (by decide +kernel) (by decide +kernel) (by decide +kernel), .ref pc, rfl, pc, _, rfl, .inl (SqL.of ep6), fun l2 n7 => ?_⟩
    generalize hN7 : L2.upd G6 l2 _ = G7
    have s7 := new_of n7 hN7
    have e7 := at_of hN7
    try dsimp only at e7
    clear hN7
    refine ⟨fp, l2, y.take here, pcs, s, c, d, r, rfl, F6.same s7, SqL.of e7, fed, by rw [tp, List.length_take]; omega, fun t s' c' d' r' G8 b8 ht F8 fed' => ?_⟩
    rw [tp] at fed'
    have hfp7 := s7 _ _ hfp
    have P8 : PoolAt K G8 p a := (P6.same s7).butI b8 hfp7
    have et8 := b8.lstI hfp7 (s7 _ _ et6)
    have ey8 := b8.lstI hfp7 (s7 _ _ ey6)
    clear b8 s7 e7 hfp7
    refine ⟨.ref yb, rfl, _, rfl, _, rfl, yb, _, rfl, SqL.of ey8, fun l3 n9 => ?_⟩
    generalize hN9 : L2.upd G8 l3 _ = G9
    have s9 := new_of n9 hN9
    have e9 := at_of hN9
    try dsimp only at e9
    clear hN9
    rw [cut_lt, bv_take] at e9
    refine ⟨l3, y.take (here + pcs.length), rfl, SqL.of e9, by rw [List.length_take]; omega, byt _, fun t2 G10 s10 ht2 => ?_⟩
    rw [fed'.due] at ht2
    refine ⟨.ref t, .ref t2, stD s', rfl, st_dw (n := 4) (sqT_same (s9.trans s10) ht), st_dw (n := 4) ht2, fun G11 s11 => ⟨_, rfl, iteF ?_⟩⟩
    have s8 := s9.trans (s10.trans s11)
    exact ⟨fp, here + pcs.length, s', c', d', r', _, _, _, _, rfl, by omega, P8.same s8, s8 _ _ et8, s8 _ _ ey8, F8.same s8, fed'⟩
  rintro σ G7 ⟨fp, here, s, c, d, r, x9, x10, x11, x12, rfl, hh, P7, et7, ey7, F7, fed⟩
  refine ⟨.ref yb, rfl, yb, y, rfl, SqL.of ey7, by omega, gd.by_, fun dt G8 s8 hdt => ?_⟩
  have P8 := P7.same s8
  have et8 := s8 _ _ et7
  have ey8 := s8 _ _ ey7
  have F8 := F7.same s8
  clear P7 et7 ey7 F7 s8
  refine ⟨_, rfl, .ref yb, rfl, yb, _, rfl, .inl (SqL.of ey8), _, _, rfl, rfl, _, rfl, ?_⟩
  by_cases lt : here < y.length
  · exact ifD (by rw [bv_len]; omega) (q G8)
  refine ifND (by rw [bv_len]; omega) ?_
  rw [List.take_of_length_le (by omega)] at fed
  rw [fed.due] at hdt
  have wdat : dataOf (blocksOf told) = .data told := by
    have := data_whole (told := told) (t := []) hc
    rw [List.append_nil] at this
    exact this
  have resw : ∀ {s c d r}, Feed.Fed y s c d r → s = .whole → Feed.Res y .whole c d := fun h z => by
    rcases h with ⟨k, _⟩ | ⟨_, k, _⟩
    · rw [z] at k; cases k
    · rw [z] at k; exact k
  have resd : ∀ {c d}, Feed.Res y .whole c d → ∃ l, wend (d.drop (d.length - 56)) = some l ∧ d.take (d.length - 56) ++ l = told := fun {c d} h => by
    obtain ⟨ex, ee⟩ := (gd.wh c d h).1
    rw [ee] at h
    exact Feed.whole_app hc h
  -- whole
  refine ⟨fun σ' G' => ∃ (wt : Addr) (r : Told), σ' = [some (.ref a), some (.ref p), some (.ref tl), x3, some (.ref yb), some (.int way), some (.int (at_ : Nat)), some (.ref fp), some (.int (here : Nat)), x9, x10, x11, x12, some (.ref dt), some (.ref wt), none] ∧ Same G8 G' ∧ ToldAt G' r (.ref wt) ∧ (s = .whole → r = .data told), ?_, ?_⟩
  · have ref_ : ∀ {G : Hp} {r : Told} {v : V}, ToldAt G r v → ∃ t, v = .ref t := fun {G r v} h => by
      cases r with
      | block n => obtain ⟨t, e, _⟩ := h; exact ⟨t, e⟩
      | data l => obtain ⟨t, q, e, _⟩ := h; exact ⟨t, e⟩
    refine ⟨_, rfl, rfl, _, rfl, ?_⟩
    by_cases w2 : way = 2
    · refine ifnD (by rw [w2]) ⟨.ref tl, rfl, tl, told, rfl, et8, by omega, fun b G9 s9 n9 e9 => ?_⟩
      refine ⟨b, blocksOf told, rfl, SqL.of e9, by omega, fun v G10 s10 hv => ?_⟩
      obtain ⟨wt, rfl⟩ := ref_ hv
      exact ⟨wt, _, rfl, s9.trans s10, hv, fun _ => wdat⟩
    · refine ifnND (fun z => w2 (V.int.inj z)) ⟨.ref yb, rfl, yb, y, rfl, SqL.of ey8, by omega, fun v G9 s9 hv => ?_⟩
      obtain ⟨wt, rfl⟩ := ref_ hv
      refine ⟨wt, _, rfl, s9, hv, fun z => ?_⟩
      rw [(gd.wh c d (resw fed z)).2 w2]
      exact wdat
  rintro σ' G9 ⟨wt, rt, rfl, s9, hwt, hrt⟩
  have P9 := P8.same s9
  have ey9 := s9 _ _ ey8
  have F9 := F8.same s9
  have hdt9 := sqT_same s9 hdt
  clear P8 et8 ey8 F8 s9 hdt
  have L := fed.low gd.by_ (by omega)
  have ld := L.ld
  refine ⟨fun σ' G' => σ' = [some (.ref a), some (.ref p), some (.ref tl), x3, some (.ref yb), some (.int way), some (.int (at_ : Nat)), some (.ref fp), some (.int (here : Nat)), x9, x10, x11, x12, some (.ref dt), some (.ref wt), none] ∧ Same G9 G', ?_, ?_⟩
  · obtain ⟨dx, sa, ta, ra, hfp, _⟩ := F9.ex
    by_cases sw : s = .whole
    · obtain ⟨l, ew, el⟩ := resd (resw fed sw)
      refine ⟨.ref fp, rfl, fp, dx, _, rfl, hfp, fd_no _ _ _ _ (by decide +kernel) (by decide +kernel) (by decide +kernel) (by decide +kernel), fp, s, c, d, r, rfl, F9, by omega, (fun z => absurd sw z), fun _ => ⟨l, ew, by rw [el]; omega, fun o G10 s10 n10 e10 => ?_⟩⟩
      rw [el] at e10
      refine ⟨_, rfl, (by show 1 ≤ sizeLine; decide), fun t1 n11 => ?_⟩
      generalize hN11 : L2.upd G10 t1 _ = G11
      have s11 := new_of n11 hN11
      have e11 := at_of hN11
      try dsimp only at e11
      clear hN11
      refine ⟨_, _, st_dp (sqT_same (s10.trans s11) hdt9), st_dp (s := .whole) (SqT.of e11), st_sh _, st_sh .whole, _, rfl, ?_⟩
      rw [st_eq]
      rw [hrt sw] at hwt
      obtain ⟨t, q', ew', e1, e2⟩ := hwt
      cases ew'
      have e1' := s11 _ _ (s10 _ _ e1)
      have e2' := s11 _ _ (s10 _ _ e2)
      refine ifD sw ⟨.ref wt, rfl, wt, _, _, _, rfl, rfl, SqT.of e1', rfl, .ref o, .ref q', nd told, rfl, DW.nums (SqL.of (s11 _ _ e10)) (by omega) 4, DW.nums (SqL.of e2') (by omega) 4, fun G12 s12 => ⟨_, rfl, iteF ?_⟩⟩
      exact ⟨rfl, s10.trans (s11.trans s12)⟩
    · refine ⟨.ref fp, rfl, fp, dx, _, rfl, hfp, fd_no _ _ _ _ (by decide +kernel) (by decide +kernel) (by decide +kernel) (by decide +kernel), fp, s, c, d, r, rfl, F9, by omega, (fun _ G10 s10 => ?_), fun z => absurd z sw⟩
      refine ⟨_, rfl, (by show 1 ≤ sizeLine; decide), fun t1 n11 => ?_⟩
      generalize hN11 : L2.upd G10 t1 _ = G11
      have s11 := new_of n11 hN11
      have e11 := at_of hN11
      try dsimp only at e11
      clear hN11
      refine ⟨_, _, st_dp (sqT_same (s10.trans s11) hdt9), st_dp (s := .whole) (SqT.of e11), st_sh _, st_sh .whole, _, rfl, ?_⟩
      rw [st_eq]
      refine ifND sw ⟨.non, .non, .none, rfl, rfl, rfl, fun G12 s12 => ⟨_, rfl, iteF ?_⟩⟩
      exact ⟨rfl, s10.trans (s11.trans s12)⟩
  rintro σ' G10 ⟨rfl, s10⟩
  have ey10 := s10 _ _ ey9
  have F10 := F9.same s10
  have hdt10 := sqT_same s10 hdt9
  clear hwt hrt P9 ey9 F9 hdt9 s10
  -- one
  refine fun op dx0 nop ndx ndp => ⟨op, dx0, rfl, upd_same, fun G11 b11 O11 => ⟨rfl, ?_⟩⟩
  have s11 : Same G10 G11 := b11.keep (made_same nop ndx ndp) nop
  clear b11
  have ey11 := s11 _ _ ey10
  have F11 := F10.same s11
  have hdt11 := sqT_same s11 hdt10
  clear ey10 hdt10 s11
  obtain ⟨dxo, _, _, _, hop, _⟩ := O11.ex
  have nfo : fp ≠ op := fun z => by
    obtain ⟨_, _, _, _, e, _⟩ := F10.ex
    rw [z, nop] at e
    cases e
  have three : ([1, 2, 3] : List Nat).length = 3 := rfl
  have fed00 : Feed.Fed [] .more none [] [] := .inl ⟨rfl, 0, .start, .inl rfl, rfl, by decide⟩
  refine ⟨.ref op, rfl, op, dxo, _, rfl, hop, fd_no _ _ _ _ (by decide +kernel) (by decide +kernel) (by decide +kernel) (by decide +kernel), .ref yb, rfl, yb, _, rfl, .inl (SqL.of ey11), fun l1 n12 => ?_⟩
  generalize hN12 : L2.upd G11 l1 _ = G12
  have s12 := new_of n12 hN12
  have e12 := at_of hN12
  try dsimp only at e12
  clear hN12
  refine ⟨op, l1, [], y, .more, none, [], [], rfl, O11.same s12, SqL.of e12, fed00, (by rw [List.nil_append]; omega), fun t s1 c1 d1 r1 G13 b13 ht O13 fed1 => ?_⟩
  rw [List.nil_append] at fed1
  have es1 : s1 = s := fed1.due.symm.trans fed.due
  subst es1
  have ey13 := b13.lstI (s12 _ _ hop) (s12 _ _ ey11)
  have hdt13 := b13.tupI (s12 _ _ hop) (sqT_same s12 hdt11)
  have F13 := (F11.same s12).butI b13 (s12 _ _ hop) nfo
  clear b13 s12 e12
  refine ⟨_, rfl, .ref t, .ref dt, stD s1, rfl, st_dw (n := 4) ht, st_dw (n := 4) hdt13, fun G14 s14 => ⟨_, rfl, iteT ?_⟩⟩
  have ey14 := s14 _ _ ey13
  have F14 := F13.same s14
  have O14 := O13.same s14
  have hdt14 := sqT_same s14 hdt13
  clear ey13 F13 O13 hdt13 s14 ht
  have L1 := fed1.low gd.by_ (by omega)
  have ld1 := L1.ld
  obtain ⟨dxo2, _, _, _, hop14, _⟩ := O14.ex
  obtain ⟨dx, sa, ta, ra, hfp, _⟩ := F14.ex
  by_cases sw : s1 = .whole
  · obtain ⟨l, ew, el⟩ := resd (resw fed sw)
    obtain ⟨l', ew', el'⟩ := resd (resw fed1 sw)
    refine ⟨.ref op, rfl, op, dxo2, _, rfl, hop14, fd_no _ _ _ _ (by decide +kernel) (by decide +kernel) (by decide +kernel) (by decide +kernel), op, s1, c1, d1, r1, rfl, O14, by omega, (fun z => absurd sw z), fun _ => ⟨l', ew', by rw [el']; omega, fun o1 G15 s15 n15 e15 => ?_⟩⟩
    rw [el'] at e15
    refine ⟨.ref fp, rfl, fp, dx, _, rfl, s15 _ _ hfp, fd_no _ _ _ _ (by decide +kernel) (by decide +kernel) (by decide +kernel) (by decide +kernel), fp, s1, c, d, r, rfl, F14.same s15, by omega, (fun z => absurd sw z), fun _ => ⟨l, ew, by rw [el]; omega, fun o2 G16 s16 n16 e16 => ?_⟩⟩
    rw [el] at e16
    refine ⟨.ref o1, .ref o2, nd told, rfl, DW.nums (SqL.of (s16 _ _ e15)) (by omega) 4, DW.nums (SqL.of e16) (by omega) 4, fun G17 s17' => ⟨_, rfl, iteT ?_⟩⟩
    have s17 := s15.trans (s16.trans s17')
    clear s15 s16 s17' e15 e16
    -- three more
    have ey17 := s17 _ _ ey14
    have O17 := O14.same s17
    have hdt17 := sqT_same s17 hdt14
    clear s17
    obtain ⟨dxo3, _, _, _, hop17, _⟩ := O17.ex
    refine ⟨.ref op, rfl, op, dxo3, _, rfl, hop17, fd_no _ _ _ _ (by decide +kernel) (by decide +kernel) (by decide +kernel) (by decide +kernel), (by show 3 ≤ sizeLine; decide), fun l3 n18 => ?_⟩
    generalize hN18 : L2.upd G17 l3 _ = G18
    have s18 := new_of n18 hN18
    have e18 := at_of hN18
    try dsimp only at e18
    clear hN18
    have e18 : G18 l3 = some (.lst (bv [1, 2, 3])) := e18
    refine ⟨op, l3, y, [1, 2, 3], s1, c1, d1, r1, rfl, O17.same s18, SqL.of e18, fed1, (by rw [List.length_append, three]; omega), fun t3 s3 c3 d3 r3 G19 b19 ht3 O3 fed3 => ?_⟩
    have ey19 := b19.lstI (s18 _ _ hop17) (s18 _ _ ey17)
    have hdt19 := b19.tupI (s18 _ _ hop17) (sqT_same s18 hdt17)
    clear b19 s18 e18
    refine ⟨_, rfl, (by show 1 ≤ sizeLine; decide), fun t4 n20 => ?_⟩
    generalize hN20 : L2.upd G19 t4 _ = G20
    have s20 := new_of n20 hN20
    have e20 := at_of hN20
    try dsimp only at e20
    clear hN20
    refine ⟨_, _, st_dp (sqT_same s20 hdt19), st_dp (s := .more) (SqT.of e20), st_sh _, st_sh .more, _, rfl, ?_⟩
    rw [st_eq]
    by_cases sm : s1 = .more
    · refine ifnD sm ⟨.ref yb, rfl, (by show 3 ≤ sizeLine; decide), fun l5 n21 => ?_⟩
      generalize hN21 : L2.upd G20 l5 _ = G21
      have s21 := new_of n21 hN21
      have e21 := at_of hN21
      try dsimp only at e21
      clear hN21
      have e21 : G21 l5 = some (.lst (bv [1, 2, 3])) := e21
      refine ⟨yb, l5, _, _, rfl, rfl, by nofun, e21, big (by rw [bv_len, bv_len, three]; omega), fun l6 n22 => ?_⟩
      generalize hN22 : L2.upd G21 l6 _ = G22
      have s22 := new_of n22 hN22
      have e22 := at_of hN22
      try dsimp only at e22
      clear hN22
      rw [← bv_app] at e22
      refine ⟨l6, y ++ [1, 2, 3], rfl, SqL.of e22, by rw [List.length_append, three]; omega, fun x hx => (by
        rcases List.mem_append.mp hx with hx | hx
        · exact gd.by_ x hx
        · simp only [List.mem_cons, List.not_mem_nil, or_false] at hx
          omega), fun t6 G23 s23 ht6 => ?_⟩
      rw [fed3.due] at ht6
      exact ⟨.ref t3, .ref t6, stD s3, rfl, st_dw (n := 4) (sqT_same (s20.trans (s21.trans (s22.trans s23))) ht3), st_dw (n := 4) ht6, fun G24 _ => q G24⟩
    · have e3 : s3 = s1 := by
        have res : Feed.Res y s1 c1 d1 := by
          rcases fed1 with ⟨k, _⟩ | ⟨_, k, _⟩
          · exact absurd k sm
          · exact k
        exact fed3.due.symm.trans (Feed.due_res (res.app [1, 2, 3]))
      subst e3
      exact ifnND sm ⟨_, rfl, .ref t3, .ref dt, stD s3, rfl, st_dw (n := 4) (sqT_same s20 ht3), st_dw (n := 4) (sqT_same s20 hdt19), fun G24 _ => q G24⟩
  · refine ⟨.ref op, rfl, op, dxo2, _, rfl, hop14, fd_no _ _ _ _ (by decide +kernel) (by decide +kernel) (by decide +kernel) (by decide +kernel), op, s1, c1, d1, r1, rfl, O14, by omega, (fun _ G15 s15 => ?_), fun z => absurd z sw⟩
    refine ⟨.ref fp, rfl, fp, dx, _, rfl, s15 _ _ hfp, fd_no _ _ _ _ (by decide +kernel) (by decide +kernel) (by decide +kernel) (by decide +kernel), fp, s1, c, d, r, rfl, F14.same s15, by omega, (fun _ G16 s16 => ?_), fun z => absurd z sw⟩
    refine ⟨.non, .non, .none, rfl, rfl, rfl, fun G17 s17' => ⟨_, rfl, iteT ?_⟩⟩
    have s17 := s15.trans (s16.trans s17')
    clear s15 s16 s17'
    -- three more
    have ey17 := s17 _ _ ey14
    have O17 := O14.same s17
    have hdt17 := sqT_same s17 hdt14
    clear s17
    obtain ⟨dxo3, _, _, _, hop17, _⟩ := O17.ex
    refine ⟨.ref op, rfl, op, dxo3, _, rfl, hop17, fd_no _ _ _ _ (by decide +kernel) (by decide +kernel) (by decide +kernel) (by decide +kernel), (by show 3 ≤ sizeLine; decide), fun l3 n18 => ?_⟩
    generalize hN18 : L2.upd G17 l3 _ = G18
    have s18 := new_of n18 hN18
    have e18 := at_of hN18
    try dsimp only at e18
    clear hN18
    have e18 : G18 l3 = some (.lst (bv [1, 2, 3])) := e18
    refine ⟨op, l3, y, [1, 2, 3], s1, c1, d1, r1, rfl, O17.same s18, SqL.of e18, fed1, (by rw [List.length_append, three]; omega), fun t3 s3 c3 d3 r3 G19 b19 ht3 O3 fed3 => ?_⟩
    have ey19 := b19.lstI (s18 _ _ hop17) (s18 _ _ ey17)
    have hdt19 := b19.tupI (s18 _ _ hop17) (sqT_same s18 hdt17)
    clear b19 s18 e18
    refine ⟨_, rfl, (by show 1 ≤ sizeLine; decide), fun t4 n20 => ?_⟩
    generalize hN20 : L2.upd G19 t4 _ = G20
    have s20 := new_of n20 hN20
    have e20 := at_of hN20
    try dsimp only at e20
    clear hN20
    refine ⟨_, _, st_dp (sqT_same s20 hdt19), st_dp (s := .more) (SqT.of e20), st_sh _, st_sh .more, _, rfl, ?_⟩
    rw [st_eq]
    by_cases sm : s1 = .more
    · refine ifnD sm ⟨.ref yb, rfl, (by show 3 ≤ sizeLine; decide), fun l5 n21 => ?_⟩
      generalize hN21 : L2.upd G20 l5 _ = G21
      have s21 := new_of n21 hN21
      have e21 := at_of hN21
      try dsimp only at e21
      clear hN21
      have e21 : G21 l5 = some (.lst (bv [1, 2, 3])) := e21
      refine ⟨yb, l5, _, _, rfl, rfl, by nofun, e21, big (by rw [bv_len, bv_len, three]; omega), fun l6 n22 => ?_⟩
      generalize hN22 : L2.upd G21 l6 _ = G22
      have s22 := new_of n22 hN22
      have e22 := at_of hN22
      try dsimp only at e22
      clear hN22
      rw [← bv_app] at e22
      refine ⟨l6, y ++ [1, 2, 3], rfl, SqL.of e22, by rw [List.length_append, three]; omega, fun x hx => (by
        rcases List.mem_append.mp hx with hx | hx
        · exact gd.by_ x hx
        · simp only [List.mem_cons, List.not_mem_nil, or_false] at hx
          omega), fun t6 G23 s23 ht6 => ?_⟩
      rw [fed3.due] at ht6
      exact ⟨.ref t3, .ref t6, stD s3, rfl, st_dw (n := 4) (sqT_same (s20.trans (s21.trans (s22.trans s23))) ht3), st_dw (n := 4) ht6, fun G24 _ => q G24⟩
    · have e3 : s3 = s1 := by
        have res : Feed.Res y s1 c1 d1 := by
          rcases fed1 with ⟨k, _⟩ | ⟨_, k, _⟩
          · exact absurd k sm
          · exact k
        exact fed3.due.symm.trans (Feed.due_res (res.app [1, 2, 3]))
      subst e3
      exact ifnND sm ⟨_, rfl, .ref t3, .ref dt, stD s3, rfl, st_dw (n := 4) (sqT_same s20 ht3), st_dw (n := 4) (sqT_same s20 hdt19), fun G24 _ => q G24⟩
end
end My
set_option Elab.async false
set_option linter.all false
set_option maxRecDepth 100000
set_option maxHeartbeats 4000000
namespace My
open PySem PySem.Spec PyProof.Rows L2
theorem all_mk {l : PySem.W.OpenLaw} {w : World} {K : PySem.W.Frag} {h : Heap} {mg : Str → Option Value} {fa : Addr} (X : K.In h) (G : h.Ns mainGlobals mg) (hfa : mg "law" = some (.ref fa))
    {f0 : Addr} {od0 an0 : Option Addr} {sl0 : Array (Option Value)} {oc0 kV0 dc0 pm0 cd0 ct0 : Value}
    (a0 : PySem.W.nsIn K mainGlobals "sum_of_bits" = some (some (.ref f0))) (l0 : K.lookup f0 = some ⟨oc0, od0, .func (PySem.W.fnOf "sum_of_bits" "sum_of_bits" (defArgs st_sum_of_bits) (defBody st_sum_of_bits) (defScope st_sum_of_bits) .none kV0 dc0 pm0 an0 cd0 ct0), sl0⟩) (c0 : PySem.W.codeIn K cd0 "sum_of_bits" = true) (k0 : PySem.W.keepIn K (.ref f0) = true)
    {f1 : Addr} {od1 an1 : Option Addr} {sl1 : Array (Option Value)} {oc1 kV1 dc1 pm1 cd1 ct1 : Value}
    (a1 : PySem.W.nsIn K mainGlobals "block" = some (some (.ref f1))) (l1 : K.lookup f1 = some ⟨oc1, od1, .func (PySem.W.fnOf "block" "block" (defArgs st_block) (defBody st_block) (defScope st_block) .none kV1 dc1 pm1 an1 cd1 ct1), sl1⟩) (c1 : PySem.W.codeIn K cd1 "block" = true) (k1 : PySem.W.keepIn K (.ref f1) = true)
    {f2 : Addr} {od2 an2 : Option Addr} {sl2 : Array (Option Value)} {oc2 kV2 dc2 pm2 cd2 ct2 : Value}
    (a2 : PySem.W.nsIn K mainGlobals "blocks_of" = some (some (.ref f2))) (l2 : K.lookup f2 = some ⟨oc2, od2, .func (PySem.W.fnOf "blocks_of" "blocks_of" (defArgs st_blocks_of) (defBody st_blocks_of) (defScope st_blocks_of) .none kV2 dc2 pm2 an2 cd2 ct2), sl2⟩) (c2 : PySem.W.codeIn K cd2 "blocks_of" = true) (k2 : PySem.W.keepIn K (.ref f2) = true)
    {f3 : Addr} {od3 an3 : Option Addr} {sl3 : Array (Option Value)} {oc3 kV3 dc3 pm3 cd3 ct3 : Value}
    (a3 : PySem.W.nsIn K mainGlobals "is_block" = some (some (.ref f3))) (l3 : K.lookup f3 = some ⟨oc3, od3, .func (PySem.W.fnOf "is_block" "is_block" (defArgs st_is_block) (defBody st_is_block) (defScope st_is_block) .none kV3 dc3 pm3 an3 cd3 ct3), sl3⟩) (c3 : PySem.W.codeIn K cd3 "is_block" = true) (k3 : PySem.W.keepIn K (.ref f3) = true)
    {f4 : Addr} {od4 an4 : Option Addr} {sl4 : Array (Option Value)} {oc4 kV4 dc4 pm4 cd4 ct4 : Value}
    (a4 : PySem.W.nsIn K mainGlobals "without_end" = some (some (.ref f4))) (l4 : K.lookup f4 = some ⟨oc4, od4, .func (PySem.W.fnOf "without_end" "without_end" (defArgs st_without_end) (defBody st_without_end) (defScope st_without_end) .none kV4 dc4 pm4 an4 cd4 ct4), sl4⟩) (c4 : PySem.W.codeIn K cd4 "without_end" = true) (k4 : PySem.W.keepIn K (.ref f4) = true)
    {f5 : Addr} {od5 an5 : Option Addr} {sl5 : Array (Option Value)} {oc5 kV5 dc5 pm5 cd5 ct5 : Value}
    (a5 : PySem.W.nsIn K mainGlobals "data_of" = some (some (.ref f5))) (l5 : K.lookup f5 = some ⟨oc5, od5, .func (PySem.W.fnOf "data_of" "data_of" (defArgs st_data_of) (defBody st_data_of) (defScope st_data_of) .none kV5 dc5 pm5 an5 cd5 ct5), sl5⟩) (c5 : PySem.W.codeIn K cd5 "data_of" = true) (k5 : PySem.W.keepIn K (.ref f5) = true)
    {f6 : Addr} {od6 an6 : Option Addr} {sl6 : Array (Option Value)} {oc6 kV6 dc6 pm6 cd6 ct6 : Value}
    (a6 : PySem.W.nsIn K mainGlobals "feeder_of" = some (some (.ref f6))) (l6 : K.lookup f6 = some ⟨oc6, od6, .func (PySem.W.fnOf "feeder_of" "feeder_of" (defArgs st_feeder_of) (defBody st_feeder_of) (defScope st_feeder_of) .none kV6 dc6 pm6 an6 cd6 ct6), sl6⟩) (c6 : PySem.W.codeIn K cd6 "feeder_of" = true) (k6 : PySem.W.keepIn K (.ref f6) = true)
    {f7 : Addr} {od7 an7 : Option Addr} {sl7 : Array (Option Value)} {oc7 kV7 dc7 pm7 cd7 ct7 : Value}
    (a7 : PySem.W.nsIn K mainGlobals "is_plain" = some (some (.ref f7))) (l7 : K.lookup f7 = some ⟨oc7, od7, .func (PySem.W.fnOf "is_plain" "is_plain" (defArgs st_is_plain) (defBody st_is_plain) (defScope st_is_plain) .none kV7 dc7 pm7 an7 cd7 ct7), sl7⟩) (c7 : PySem.W.codeIn K cd7 "is_plain" = true) (k7 : PySem.W.keepIn K (.ref f7) = true)
    {f8 : Addr} {od8 an8 : Option Addr} {sl8 : Array (Option Value)} {oc8 kV8 dc8 pm8 cd8 ct8 : Value}
    (a8 : PySem.W.nsIn K mainGlobals "number_bytes" = some (some (.ref f8))) (l8 : K.lookup f8 = some ⟨oc8, od8, .func (PySem.W.fnOf "number_bytes" "number_bytes" (defArgs st_number_bytes) (defBody st_number_bytes) (defScope st_number_bytes) .none kV8 dc8 pm8 an8 cd8 ct8), sl8⟩) (c8 : PySem.W.codeIn K cd8 "number_bytes" = true) (k8 : PySem.W.keepIn K (.ref f8) = true)
    {f9 : Addr} {od9 an9 : Option Addr} {sl9 : Array (Option Value)} {oc9 kV9 dc9 pm9 cd9 ct9 : Value}
    (a9 : PySem.W.nsIn K mainGlobals "bytes_of" = some (some (.ref f9))) (l9 : K.lookup f9 = some ⟨oc9, od9, .func (PySem.W.fnOf "bytes_of" "bytes_of" (defArgs st_bytes_of) (defBody st_bytes_of) (defScope st_bytes_of) .none kV9 dc9 pm9 an9 cd9 ct9), sl9⟩) (c9 : PySem.W.codeIn K cd9 "bytes_of" = true) (k9 : PySem.W.keepIn K (.ref f9) = true)
    {f10 : Addr} {od10 an10 : Option Addr} {sl10 : Array (Option Value)} {oc10 kV10 dc10 pm10 cd10 ct10 : Value}
    (a10 : PySem.W.nsIn K mainGlobals "read_number" = some (some (.ref f10))) (l10 : K.lookup f10 = some ⟨oc10, od10, .func (PySem.W.fnOf "read_number" "read_number" (defArgs st_read_number) (defBody st_read_number) (defScope st_read_number) .none kV10 dc10 pm10 an10 cd10 ct10), sl10⟩) (c10 : PySem.W.codeIn K cd10 "read_number" = true) (k10 : PySem.W.keepIn K (.ref f10) = true)
    {f11 : Addr} {od11 an11 : Option Addr} {sl11 : Array (Option Value)} {oc11 kV11 dc11 pm11 cd11 ct11 : Value}
    (a11 : PySem.W.nsIn K mainGlobals "read_string" = some (some (.ref f11))) (l11 : K.lookup f11 = some ⟨oc11, od11, .func (PySem.W.fnOf "read_string" "read_string" (defArgs st_read_string) (defBody st_read_string) (defScope st_read_string) .none kV11 dc11 pm11 an11 cd11 ct11), sl11⟩) (c11 : PySem.W.codeIn K cd11 "read_string" = true) (k11 : PySem.W.keepIn K (.ref f11) = true)
    {f12 : Addr} {od12 an12 : Option Addr} {sl12 : Array (Option Value)} {oc12 kV12 dc12 pm12 cd12 ct12 : Value}
    (a12 : PySem.W.nsIn K mainGlobals "read_one" = some (some (.ref f12))) (l12 : K.lookup f12 = some ⟨oc12, od12, .func (PySem.W.fnOf "read_one" "read_one" (defArgs st_read_one) (defBody st_read_one) (defScope st_read_one) .none kV12 dc12 pm12 an12 cd12 ct12), sl12⟩) (c12 : PySem.W.codeIn K cd12 "read_one" = true) (k12 : PySem.W.keepIn K (.ref f12) = true)
    {f13 : Addr} {od13 an13 : Option Addr} {sl13 : Array (Option Value)} {oc13 kV13 dc13 pm13 cd13 ct13 : Value}
    (a13 : PySem.W.nsIn K mainGlobals "value_of" = some (some (.ref f13))) (l13 : K.lookup f13 = some ⟨oc13, od13, .func (PySem.W.fnOf "value_of" "value_of" (defArgs st_value_of) (defBody st_value_of) (defScope st_value_of) .none kV13 dc13 pm13 an13 cd13 ct13), sl13⟩) (c13 : PySem.W.codeIn K cd13 "value_of" = true) (k13 : PySem.W.keepIn K (.ref f13) = true)
    {f14 : Addr} {od14 an14 : Option Addr} {sl14 : Array (Option Value)} {oc14 kV14 dc14 pm14 cd14 ct14 : Value}
    (a14 : PySem.W.nsIn K mainGlobals "_law_mixed" = some (some (.ref f14))) (l14 : K.lookup f14 = some ⟨oc14, od14, .func (PySem.W.fnOf "_law_mixed" "_law_mixed" (defArgs st_law_mixed) (defBody st_law_mixed) (defScope st_law_mixed) .none kV14 dc14 pm14 an14 cd14 ct14), sl14⟩) (c14 : PySem.W.codeIn K cd14 "_law_mixed" = true) (k14 : PySem.W.keepIn K (.ref f14) = true)
    {f15 : Addr} {od15 an15 : Option Addr} {sl15 : Array (Option Value)} {oc15 kV15 dc15 pm15 cd15 ct15 : Value}
    (a15 : PySem.W.nsIn K mainGlobals "_law_rest" = some (some (.ref f15))) (l15 : K.lookup f15 = some ⟨oc15, od15, .func (PySem.W.fnOf "_law_rest" "_law_rest" (defArgs st_law_rest) (defBody st_law_rest) (defScope st_law_rest) .none kV15 dc15 pm15 an15 cd15 ct15), sl15⟩) (c15 : PySem.W.codeIn K cd15 "_law_rest" = true) (k15 : PySem.W.keepIn K (.ref f15) = true)
    {f16 : Addr} {od16 an16 : Option Addr} {sl16 : Array (Option Value)} {oc16 kV16 dc16 pm16 cd16 ct16 : Value}
    (a16 : PySem.W.nsIn K mainGlobals "_law_pool" = some (some (.ref f16))) (l16 : K.lookup f16 = some ⟨oc16, od16, .func (PySem.W.fnOf "_law_pool" "_law_pool" (defArgs st_law_pool) (defBody st_law_pool) (defScope st_law_pool) .none kV16 dc16 pm16 an16 cd16 ct16), sl16⟩) (c16 : PySem.W.codeIn K cd16 "_law_pool" = true) (k16 : PySem.W.keepIn K (.ref f16) = true)
    {f17 : Addr} {od17 an17 : Option Addr} {sl17 : Array (Option Value)} {oc17 kV17 dc17 pm17 cd17 ct17 : Value}
    (a17 : PySem.W.nsIn K mainGlobals "_law_next" = some (some (.ref f17))) (l17 : K.lookup f17 = some ⟨oc17, od17, .func (PySem.W.fnOf "_law_next" "_law_next" (defArgs st_law_next) (defBody st_law_next) (defScope st_law_next) .none kV17 dc17 pm17 an17 cd17 ct17), sl17⟩) (c17 : PySem.W.codeIn K cd17 "_law_next" = true) (k17 : PySem.W.keepIn K (.ref f17) = true)
    {f18 : Addr} {od18 an18 : Option Addr} {sl18 : Array (Option Value)} {oc18 kV18 dc18 pm18 cd18 ct18 : Value}
    (a18 : PySem.W.nsIn K mainGlobals "_law_draw" = some (some (.ref f18))) (l18 : K.lookup f18 = some ⟨oc18, od18, .func (PySem.W.fnOf "_law_draw" "_law_draw" (defArgs st_law_draw) (defBody st_law_draw) (defScope st_law_draw) .none kV18 dc18 pm18 an18 cd18 ct18), sl18⟩) (c18 : PySem.W.codeIn K cd18 "_law_draw" = true) (k18 : PySem.W.keepIn K (.ref f18) = true)
    {f19 : Addr} {od19 an19 : Option Addr} {sl19 : Array (Option Value)} {oc19 kV19 dc19 pm19 cd19 ct19 : Value}
    (a19 : PySem.W.nsIn K mainGlobals "_law_pick" = some (some (.ref f19))) (l19 : K.lookup f19 = some ⟨oc19, od19, .func (PySem.W.fnOf "_law_pick" "_law_pick" (defArgs st_law_pick) (defBody st_law_pick) (defScope st_law_pick) .none kV19 dc19 pm19 an19 cd19 ct19), sl19⟩) (c19 : PySem.W.codeIn K cd19 "_law_pick" = true) (k19 : PySem.W.keepIn K (.ref f19) = true)
    {f20 : Addr} {od20 an20 : Option Addr} {sl20 : Array (Option Value)} {oc20 kV20 dc20 pm20 cd20 ct20 : Value}
    (a20 : PySem.W.nsIn K mainGlobals "_law_same" = some (some (.ref f20))) (l20 : K.lookup f20 = some ⟨oc20, od20, .func (PySem.W.fnOf "_law_same" "_law_same" (defArgs st_law_same) (defBody st_law_same) (defScope st_law_same) .none kV20 dc20 pm20 an20 cd20 ct20), sl20⟩) (c20 : PySem.W.codeIn K cd20 "_law_same" = true) (k20 : PySem.W.keepIn K (.ref f20) = true)
    {f21 : Addr} {od21 an21 : Option Addr} {sl21 : Array (Option Value)} {oc21 kV21 dc21 pm21 cd21 ct21 : Value}
    (a21 : PySem.W.nsIn K mainGlobals "_law_due" = some (some (.ref f21))) (l21 : K.lookup f21 = some ⟨oc21, od21, .func (PySem.W.fnOf "_law_due" "_law_due" (defArgs st_law_due) (defBody st_law_due) (defScope st_law_due) .none kV21 dc21 pm21 an21 cd21 ct21), sl21⟩) (c21 : PySem.W.codeIn K cd21 "_law_due" = true) (k21 : PySem.W.keepIn K (.ref f21) = true)
    {f22 : Addr} {od22 an22 : Option Addr} {sl22 : Array (Option Value)} {oc22 kV22 dc22 pm22 cd22 ct22 : Value}
    (a22 : PySem.W.nsIn K mainGlobals "law" = some (some (.ref f22))) (l22 : K.lookup f22 = some ⟨oc22, od22, .func (PySem.W.fnOf "law" "law" (defArgs st_law) (defBody st_law) (defScope st_law) .none kV22 dc22 pm22 an22 cd22 ct22), sl22⟩) (c22 : PySem.W.codeIn K cd22 "law" = true) (k22 : PySem.W.keepIn K (.ref f22) = true)
    {C0 : Addr} (ca0 : PySem.W.nsIn K mainGlobals "Feeder" = some (some (.ref C0))) (cg0 : PySem.W.plainGet K C0 Str.empty = true) (ch0 : PySem.W.hasDictIn K C0 = true) (co0 : PySem.W.plainOver K C0 = true) (cs0 : PySem.W.findIn K (.ref C0) "__setattr__" = some (some (.builtin "object.__setattr__"))) (cm0 : PySem.W.makesIn K C0 = true) (ck0 : PySem.W.keepIn K (.ref C0) = true) (nf0_0 : PySem.W.findIn K (.ref C0) "state" = some none) (nf0_1 : PySem.W.findIn K (.ref C0) "count" = some none) (nf0_2 : PySem.W.findIn K (.ref C0) "taken" = some none) (nf0_3 : PySem.W.findIn K (.ref C0) "rest" = some none)
    {mf0 : Addr} {mod0 man0 : Option Addr} {msl0 : Array (Option Value)} {moc0 mkV0 mdc0 mpm0 mcd0 mct0 : Value}
    (ma0 : PySem.W.findIn K (.ref C0) "__init__" = some (some (.ref mf0))) (mi0 : PySem.W.isFn K (.ref mf0) = true) (ml0 : K.lookup mf0 = some ⟨moc0, mod0, .func (PySem.W.fnOf "__init__" "Feeder.__init__" (defArgs st_Feeder___init__) (defBody st_Feeder___init__) (defScope st_Feeder___init__) .none mkV0 mdc0 mpm0 man0 mcd0 mct0), msl0⟩) (mc0 : PySem.W.codeIn K mcd0 "Feeder.__init__" = true) (mk0 : PySem.W.keepIn K (.ref mf0) = true)
    {mf1 : Addr} {mod1 man1 : Option Addr} {msl1 : Array (Option Value)} {moc1 mkV1 mdc1 mpm1 mcd1 mct1 : Value}
    (ma1 : PySem.W.findIn K (.ref C0) "feed" = some (some (.ref mf1))) (mi1 : PySem.W.isFn K (.ref mf1) = true) (ml1 : K.lookup mf1 = some ⟨moc1, mod1, .func (PySem.W.fnOf "feed" "Feeder.feed" (defArgs st_Feeder_feed) (defBody st_Feeder_feed) (defScope st_Feeder_feed) .none mkV1 mdc1 mpm1 man1 mcd1 mct1), msl1⟩) (mc1 : PySem.W.codeIn K mcd1 "Feeder.feed" = true) (mk1 : PySem.W.keepIn K (.ref mf1) = true)
    {mf2 : Addr} {mod2 man2 : Option Addr} {msl2 : Array (Option Value)} {moc2 mkV2 mdc2 mpm2 mcd2 mct2 : Value}
    (ma2 : PySem.W.findIn K (.ref C0) "take" = some (some (.ref mf2))) (mi2 : PySem.W.isFn K (.ref mf2) = true) (ml2 : K.lookup mf2 = some ⟨moc2, mod2, .func (PySem.W.fnOf "take" "Feeder.take" (defArgs st_Feeder_take) (defBody st_Feeder_take) (defScope st_Feeder_take) .none mkV2 mdc2 mpm2 man2 mcd2 mct2), msl2⟩) (mc2 : PySem.W.codeIn K mcd2 "Feeder.take" = true) (mk2 : PySem.W.keepIn K (.ref mf2) = true)
    {mf3 : Addr} {mod3 man3 : Option Addr} {msl3 : Array (Option Value)} {moc3 mkV3 mdc3 mpm3 mcd3 mct3 : Value}
    (ma3 : PySem.W.findIn K (.ref C0) "told" = some (some (.ref mf3))) (mi3 : PySem.W.isFn K (.ref mf3) = true) (ml3 : K.lookup mf3 = some ⟨moc3, mod3, .func (PySem.W.fnOf "told" "Feeder.told" (defArgs st_Feeder_told) (defBody st_Feeder_told) (defScope st_Feeder_told) .none mkV3 mdc3 mpm3 man3 mcd3 mct3), msl3⟩) (mc3 : PySem.W.codeIn K mcd3 "Feeder.told" = true) (mk3 : PySem.W.keepIn K (.ref mf3) = true)
    {mf4 : Addr} {mod4 man4 : Option Addr} {msl4 : Array (Option Value)} {moc4 mkV4 mdc4 mpm4 mcd4 mct4 : Value}
    (ma4 : PySem.W.findIn K (.ref C0) "data" = some (some (.ref mf4))) (mi4 : PySem.W.isFn K (.ref mf4) = true) (ml4 : K.lookup mf4 = some ⟨moc4, mod4, .func (PySem.W.fnOf "data" "Feeder.data" (defArgs st_Feeder_data) (defBody st_Feeder_data) (defScope st_Feeder_data) .none mkV4 mdc4 mpm4 man4 mcd4 mct4), msl4⟩) (mc4 : PySem.W.codeIn K mcd4 "Feeder.data" = true) (mk4 : PySem.W.keepIn K (.ref mf4) = true)
    {v0 : Tok} (q0 : PySem.W.nsIn K mainGlobals "SIZE" = some (some (.int 64 v0)))
    {v1 : Tok} (q1 : PySem.W.nsIn K mainGlobals "DATA" = some (some (.int 56 v1)))
    {v2 : Tok} (q2 : PySem.W.nsIn K mainGlobals "FACTORS" = some (some (.int 79764919 v2)))
    {v3 : Tok} (q3 : PySem.W.nsIn K mainGlobals "TOP" = some (some (.int 4294967296 v3)))
    {v4 : Tok} (q4 : PySem.W.nsIn K mainGlobals "DEEPEST" = some (some (.int 60 v4)))
    {v5 : Tok} (q5 : PySem.W.nsIn K mainGlobals "SIGNS" = some (some (.str (Str.ofString "\n abcdefghijklmnopqrstuvwxyzABCDEFGHIJKLMNOPQRSTUVWXYZ0123456789(),=!<+-.") v5)))
    (z_isinstance : PySem.W.nsIn K mainGlobals "isinstance" = some none)
    (z_dict : PySem.W.nsIn K mainGlobals "dict" = some none)
    (z_list : PySem.W.nsIn K mainGlobals "list" = some none)
    (z_tuple : PySem.W.nsIn K mainGlobals "tuple" = some none)
    (z_bool : PySem.W.nsIn K mainGlobals "bool" = some none)
    (z_str : PySem.W.nsIn K mainGlobals "str" = some none)
    (z_int : PySem.W.nsIn K mainGlobals "int" = some none)
    (z_len : PySem.W.nsIn K mainGlobals "len" = some none)
    (z_range : PySem.W.nsIn K mainGlobals "range" = some none)
    (z_all : PySem.W.nsIn K mainGlobals "all" = some none)
    : ∃ fd : FuncData, (∀ (s : Shared) (v : Value), BindsTo s fd ⟨[v], []⟩ [("script", v)]) ∧ ∀ base : Heap, K.In base → base.Ns mainGlobals mg → FnOk l.prog w K mg base CX0 7 fa fd ["script"] (spLaw K) := by
  have T_sum_of_bits : Top K mg "sum_of_bits" st_sum_of_bits ["told"] := top_mk X G a0 l0 c0 k0 (fun _ _ _ _ _ _ us hl => match us, hl with | [_], _ => rfl)
  have T_block : Top K mg "block" st_block ["number", "count", "data"] := top_mk X G a1 l1 c1 k1 (fun _ _ _ _ _ _ us hl => match us, hl with | [_, _, _], _ => rfl)
  have T_blocks_of : Top K mg "blocks_of" st_blocks_of ["told"] := top_mk X G a2 l2 c2 k2 (fun _ _ _ _ _ _ us hl => match us, hl with | [_], _ => rfl)
  have T_is_block : Top K mg "is_block" st_is_block ["told", "number", "count"] := top_mk X G a3 l3 c3 k3 (fun _ _ _ _ _ _ us hl => match us, hl with | [_, _, _], _ => rfl)
  have T_without_end : Top K mg "without_end" st_without_end ["data"] := top_mk X G a4 l4 c4 k4 (fun _ _ _ _ _ _ us hl => match us, hl with | [_], _ => rfl)
  have T_data_of : Top K mg "data_of" st_data_of ["told"] := top_mk X G a5 l5 c5 k5 (fun _ _ _ _ _ _ us hl => match us, hl with | [_], _ => rfl)
  have T_feeder_of : Top K mg "feeder_of" st_feeder_of ["value"] := top_mk X G a6 l6 c6 k6 (fun _ _ _ _ _ _ us hl => match us, hl with | [_], _ => rfl)
  have T_is_plain : Top K mg "is_plain" st_is_plain ["value"] := top_mk X G a7 l7 c7 k7 (fun _ _ _ _ _ _ us hl => match us, hl with | [_], _ => rfl)
  have T_number_bytes : Top K mg "number_bytes" st_number_bytes ["number"] := top_mk X G a8 l8 c8 k8 (fun _ _ _ _ _ _ us hl => match us, hl with | [_], _ => rfl)
  have T_bytes_of : Top K mg "bytes_of" st_bytes_of ["value"] := top_mk X G a9 l9 c9 k9 (fun _ _ _ _ _ _ us hl => match us, hl with | [_], _ => rfl)
  have T_read_number : Top K mg "read_number" st_read_number ["told", "at"] := top_mk X G a10 l10 c10 k10 (fun _ _ _ _ _ _ us hl => match us, hl with | [_, _], _ => rfl)
  have T_read_string : Top K mg "read_string" st_read_string ["told", "at"] := top_mk X G a11 l11 c11 k11 (fun _ _ _ _ _ _ us hl => match us, hl with | [_, _], _ => rfl)
  have T_read_one : Top K mg "read_one" st_read_one ["told", "at"] := top_mk X G a12 l12 c12 k12 (fun _ _ _ _ _ _ us hl => match us, hl with | [_, _], _ => rfl)
  have T_value_of : Top K mg "value_of" st_value_of ["told"] := top_mk X G a13 l13 c13 k13 (fun _ _ _ _ _ _ us hl => match us, hl with | [_], _ => rfl)
  have T_law_mixed : Top K mg "_law_mixed" st_law_mixed ["number", "place"] := top_mk X G a14 l14 c14 k14 (fun _ _ _ _ _ _ us hl => match us, hl with | [_, _], _ => rfl)
  have T_law_rest : Top K mg "_law_rest" st_law_rest ["script", "place", "fills"] := top_mk X G a15 l15 c15 k15 (fun _ _ _ _ _ _ us hl => match us, hl with | [_, _, _], _ => rfl)
  have T_law_pool : Top K mg "_law_pool" st_law_pool ["script"] := top_mk X G a16 l16 c16 k16 (fun _ _ _ _ _ _ us hl => match us, hl with | [_], _ => rfl)
  have T_law_next : Top K mg "_law_next" st_law_next ["pool"] := top_mk X G a17 l17 c17 k17 (fun _ _ _ _ _ _ us hl => match us, hl with | [_], _ => rfl)
  have T_law_draw : Top K mg "_law_draw" st_law_draw ["pool", "limit"] := top_mk X G a18 l18 c18 k18 (fun _ _ _ _ _ _ us hl => match us, hl with | [_, _], _ => rfl)
  have T_law_pick : Top K mg "_law_pick" st_law_pick ["pool", "options"] := top_mk X G a19 l19 c19 k19 (fun _ _ _ _ _ _ us hl => match us, hl with | [_, _], _ => rfl)
  have T_law_same : Top K mg "_law_same" st_law_same ["answer", "due"] := top_mk X G a20 l20 c20 k20 (fun _ _ _ _ _ _ us hl => match us, hl with | [_, _], _ => rfl)
  have T_law_due : Top K mg "_law_due" st_law_due ["told"] := top_mk X G a21 l21 c21 k21 (fun _ _ _ _ _ _ us hl => match us, hl with | [_], _ => rfl)
  have T_law : Top K mg "law" st_law ["script"] := top_mk X G a22 l22 c22 k22 (fun _ _ _ _ _ _ us hl => match us, hl with | [_], _ => rfl)
  have K_Feeder : Kls K mg "Feeder" C0 ["state", "count", "taken", "rest"] := ⟨⟨cg0, ch0, co0, cs0⟩, (fun f hf => by
    simp only [List.mem_cons, List.not_mem_nil, or_false] at hf
    rcases hf with rfl | rfl | rfl | rfl
    · exact nf0_0
    · exact nf0_1
    · exact nf0_2
    · exact nf0_3), PySem.W.mg_of X G ca0⟩
  have T_Feeder___init__ : ITop K C0 "Feeder.__init__" st_Feeder___init__ ["self"] := itop_mk cm0 ck0 ma0 mi0 ml0 mc0 mk0 (fun _ _ _ _ _ _ us hl => match us, hl with | [_], _ => rfl)
  have T_Feeder_feed : MTop K C0 "feed" "Feeder.feed" st_Feeder_feed ["self", "told"] := mtop_mk ma1 mi1 ml1 mc1 mk1 (fun _ _ _ _ _ _ us hl => match us, hl with | [_, _], _ => rfl)
  have T_Feeder_take : MTop K C0 "take" "Feeder.take" st_Feeder_take ["self", "here"] := mtop_mk ma2 mi2 ml2 mc2 mk2 (fun _ _ _ _ _ _ us hl => match us, hl with | [_, _], _ => rfl)
  have T_Feeder_told : MTop K C0 "told" "Feeder.told" st_Feeder_told ["self"] := mtop_mk ma3 mi3 ml3 mc3 mk3 (fun _ _ _ _ _ _ us hl => match us, hl with | [_], _ => rfl)
  have T_Feeder_data : MTop K C0 "data" "Feeder.data" st_Feeder_data ["self"] := mtop_mk ma4 mi4 ml4 mc4 mk4 (fun _ _ _ _ _ _ us hl => match us, hl with | [_], _ => rfl)
  have m_SIZE := PySem.W.mg_of X G q0
  have m_DATA := PySem.W.mg_of X G q1
  have m_FACTORS := PySem.W.mg_of X G q2
  have m_TOP := PySem.W.mg_of X G q3
  have m_DEEPEST := PySem.W.mg_of X G q4
  have m_SIGNS := PySem.W.mg_of X G q5
  replace z_isinstance := PySem.W.mg_none_of X G z_isinstance
  replace z_dict := PySem.W.mg_none_of X G z_dict
  replace z_list := PySem.W.mg_none_of X G z_list
  replace z_tuple := PySem.W.mg_none_of X G z_tuple
  replace z_bool := PySem.W.mg_none_of X G z_bool
  replace z_str := PySem.W.mg_none_of X G z_str
  replace z_int := PySem.W.mg_none_of X G z_int
  replace z_len := PySem.W.mg_none_of X G z_len
  replace z_range := PySem.W.mg_none_of X G z_range
  replace z_all := PySem.W.mg_none_of X G z_all
  have e := hfa.symm.trans (PySem.W.mg_of X G a22)
  cases e
  refine ⟨PySem.W.fnOf "law" "law" (defArgs st_law) (defBody st_law) (defScope st_law) .none kV22 dc22 pm22 an22 cd22 ct22, fun s v => .of_eq rfl, fun base _ _ => ?_⟩
  have Z : ZSame mg := ⟨z_isinstance, z_dict, z_list, z_tuple, z_bool, z_str, z_int, z_len, z_range, z_all⟩
  have C : Consts mg := ⟨⟨_, m_SIZE⟩, ⟨_, m_DATA⟩, ⟨_, m_FACTORS⟩, ⟨_, m_TOP⟩⟩
  have hS : ∃ t, mg "SIGNS" = some (.str Pv.SIGNS t) := ⟨_, m_SIGNS⟩
  have hD : ∃ t, mg "DEEPEST" = some (.int 60 t) := ⟨_, m_DEEPEST⟩
  have D_mixed : Def l.prog w K mg base 1 "_law_mixed" ["number", "place"] spMixed := ok_mixed T_law_mixed z_int
  have D_rest := ok_rest T_law_rest D_mixed z_int z_len
  have D_draw := ok_draw T_law_draw D_rest z_int
  have D_next := ok_next T_law_next D_rest
  have D_pick := ok_pick T_law_pick D_draw z_len
  have D_sum : Def l.prog w K mg base 1 "sum_of_bits" ["told"] (spSum K) := ok_sum T_sum_of_bits C z_range
  have D_blocks := ok_blocks_of T_blocks_of C (ok_block T_block D_sum) z_len z_range
  have D_is := ok_is_block T_is_block C D_sum z_len
  have D_wend : Def l.prog w K mg base 1 "without_end" ["data"] (spWend K) := ok_without_end T_without_end z_len
  have D_data := ok_data_of T_data_of C z_len D_is D_wend
  have D_nb : Def l.prog w K mg base 1 "number_bytes" ["number"] spNumBytes := ok_number_bytes T_number_bytes
  have D_bytes := ok_bytes_of T_bytes_of hS D_nb z_isinstance z_tuple z_str z_len
  have D_rn : Def l.prog w K mg base 1 "read_number" ["told", "at"] (spReadNum K) := ok_read_number T_read_number z_len
  have D_value := ok_value_of T_value_of hD (ok_read_one T_read_one D_rn (ok_read_string T_read_string hS D_rn z_len)) z_len z_tuple
  have D_plain : Def l.prog w K mg base 1 "is_plain" ["value"] (spPlain K) := ok_plain T_is_plain hS hD z_isinstance z_tuple z_str z_int z_bool z_all
  have D_ini : Ini l.prog w K mg base 1 C0 ["self"] (spFInit C0 K) := ok_finit T_Feeder___init__ K_Feeder
  have D_take := ok_take T_Feeder_take C K_Feeder z_len D_is D_wend
  have D_feed := ok_feed T_Feeder_feed C K_Feeder z_len z_list D_take
  have D_told : Mth l.prog w K mg base 1 C0 "told" ["self"] (spFTold C0 K) := ok_ftold T_Feeder_told K_Feeder z_tuple
  have D_fdata := ok_fdata T_Feeder_data C K_Feeder D_wend
  have D_fof := ok_fof T_feeder_of K_Feeder D_ini z_list
  have D_due := ok_due T_law_due D_data z_len
  have D_law := ok_law T_law K_Feeder ⟨ok_pool T_law_pool D_rest, D_next, D_draw, D_pick, ok_same T_law_same Z 6, D_due, D_blocks, D_data, D_plain, D_bytes, D_value, D_fof, D_ini, D_feed, D_told, D_fdata⟩ z_range z_len z_int z_list z_tuple
  exact D_law.at_ hfa l22
end My
open PySem PySem.W PyProof.Rows
set_option maxHeartbeats 0 in
theorem PySem.Challenge.cw_playproof_k48_whole_files_fed_in_pieces_holds : PySem.Challenge.rw_playproof_k48_whole_files_fed_in_pieces.Holds := by
  w_on; o_law; k_head; (case hw => w_witness2)
  k_fill
  refine L2.walk_of (l := PySem.Challenge.rw_playproof_k48_whole_files_fed_in_pieces) (n := 63) (k := 7) (x := "script") (CX := fun _ => L2.CX0) (sp := fun w => My.spLaw _) rfl (by decide) rfl ⟨rfl, by decide, by decide⟩ (fun w h Y => PySem.W.kIn_of Y) ?F (fun _ _ a ns hl ho hS => ⟨a, ns, rfl, My.Scr.of ho hS, hl, fun _ => rfl⟩) (fun _ _ _ _ _ h => h)
  case F =>
    intro w mg fa h KX G hmg
    refine' My.all_mk KX G hmg ?a0 ?l0 ?c0 ?k0 ?a1 ?l1 ?c1 ?k1 ?a2 ?l2 ?c2 ?k2 ?a3 ?l3 ?c3 ?k3 ?a4 ?l4 ?c4 ?k4 ?a5 ?l5 ?c5 ?k5 ?a6 ?l6 ?c6 ?k6 ?a7 ?l7 ?c7 ?k7 ?a8 ?l8 ?c8 ?k8 ?a9 ?l9 ?c9 ?k9 ?a10 ?l10 ?c10 ?k10 ?a11 ?l11 ?c11 ?k11 ?a12 ?l12 ?c12 ?k12 ?a13 ?l13 ?c13 ?k13 ?a14 ?l14 ?c14 ?k14 ?a15 ?l15 ?c15 ?k15 ?a16 ?l16 ?c16 ?k16 ?a17 ?l17 ?c17 ?k17 ?a18 ?l18 ?c18 ?k18 ?a19 ?l19 ?c19 ?k19 ?a20 ?l20 ?c20 ?k20 ?a21 ?l21 ?c21 ?k21 ?a22 ?l22 ?c22 ?k22 ?ca0 ?cg0 ?ch0 ?co0 ?cs0 ?cm0 ?ck0 ?nf0_0 ?nf0_1 ?nf0_2 ?nf0_3 ?ma0 ?mi0 ?ml0 ?mc0 ?mk0 ?ma1 ?mi1 ?ml1 ?mc1 ?mk1 ?ma2 ?mi2 ?ml2 ?mc2 ?mk2 ?ma3 ?mi3 ?ml3 ?mc3 ?mk3 ?ma4 ?mi4 ?ml4 ?mc4 ?mk4 ?q0 ?q1 ?q2 ?q3 ?q4 ?q5 ?z_isinstance ?z_dict ?z_list ?z_tuple ?z_bool ?z_str ?z_int ?z_len ?z_range ?z_all
    (case a0 => k_is)
    (case l0 => k_is)
    (case c0 => k_is)
    (case k0 => k_is)
    (case a1 => k_is)
    (case l1 => k_is)
    (case c1 => k_is)
    (case k1 => k_is)
    (case a2 => k_is)
    (case l2 => k_is)
    (case c2 => k_is)
    (case k2 => k_is)
    (case a3 => k_is)
    (case l3 => k_is)
    (case c3 => k_is)
    (case k3 => k_is)
    (case a4 => k_is)
    (case l4 => k_is)
    (case c4 => k_is)
    (case k4 => k_is)
    (case a5 => k_is)
    (case l5 => k_is)
    (case c5 => k_is)
    (case k5 => k_is)
    (case a6 => k_is)
    (case l6 => k_is)
    (case c6 => k_is)
    (case k6 => k_is)
    (case a7 => k_is)
    (case l7 => k_is)
    (case c7 => k_is)
    (case k7 => k_is)
    (case a8 => k_is)
    (case l8 => k_is)
    (case c8 => k_is)
    (case k8 => k_is)
    (case a9 => k_is)
    (case l9 => k_is)
    (case c9 => k_is)
    (case k9 => k_is)
    (case a10 => k_is)
    (case l10 => k_is)
    (case c10 => k_is)
    (case k10 => k_is)
    (case a11 => k_is)
    (case l11 => k_is)
    (case c11 => k_is)
    (case k11 => k_is)
    (case a12 => k_is)
    (case l12 => k_is)
    (case c12 => k_is)
    (case k12 => k_is)
    (case a13 => k_is)
    (case l13 => k_is)
    (case c13 => k_is)
    (case k13 => k_is)
    (case a14 => k_is)
    (case l14 => k_is)
    (case c14 => k_is)
    (case k14 => k_is)
    (case a15 => k_is)
    (case l15 => k_is)
    (case c15 => k_is)
    (case k15 => k_is)
    (case a16 => k_is)
    (case l16 => k_is)
    (case c16 => k_is)
    (case k16 => k_is)
    (case a17 => k_is)
    (case l17 => k_is)
    (case c17 => k_is)
    (case k17 => k_is)
    (case a18 => k_is)
    (case l18 => k_is)
    (case c18 => k_is)
    (case k18 => k_is)
    (case a19 => k_is)
    (case l19 => k_is)
    (case c19 => k_is)
    (case k19 => k_is)
    (case a20 => k_is)
    (case l20 => k_is)
    (case c20 => k_is)
    (case k20 => k_is)
    (case a21 => k_is)
    (case l21 => k_is)
    (case c21 => k_is)
    (case k21 => k_is)
    (case a22 => k_is)
    (case l22 => k_is)
    (case c22 => k_is)
    (case k22 => k_is)
    (case ca0 => k_is)
    (case cg0 => k_is)
    (case ch0 => k_is)
    (case co0 => k_is)
    (case cs0 => k_is)
    (case cm0 => k_is)
    (case ck0 => k_is)
    (case nf0_0 => k_is)
    (case nf0_1 => k_is)
    (case nf0_2 => k_is)
    (case nf0_3 => k_is)
    (case ma0 => k_is)
    (case mi0 => k_is)
    (case ml0 => k_is)
    (case mc0 => k_is)
    (case mk0 => k_is)
    (case ma1 => k_is)
    (case mi1 => k_is)
    (case ml1 => k_is)
    (case mc1 => k_is)
    (case mk1 => k_is)
    (case ma2 => k_is)
    (case mi2 => k_is)
    (case ml2 => k_is)
    (case mc2 => k_is)
    (case mk2 => k_is)
    (case ma3 => k_is)
    (case mi3 => k_is)
    (case ml3 => k_is)
    (case mc3 => k_is)
    (case mk3 => k_is)
    (case ma4 => k_is)
    (case mi4 => k_is)
    (case ml4 => k_is)
    (case mc4 => k_is)
    (case mk4 => k_is)
    (case q0 => k_is)
    (case q1 => k_is)
    (case q2 => k_is)
    (case q3 => k_is)
    (case q4 => k_is)
    (case q5 => k_is)
    (case z_isinstance => k_is)
    (case z_dict => k_is)
    (case z_list => k_is)
    (case z_tuple => k_is)
    (case z_bool => k_is)
    (case z_str => k_is)
    (case z_int => k_is)
    (case z_len => k_is)
    (case z_range => k_is)
    (case z_all => k_is)
