import PyProof.Rows.All
import Wide.All
import OpenK.AllK
import Wide.FinOn
import HandS.ForMost
import HandS.Wide
import HandS.DictComp
import HandS.IsInst
import HandS.Evl
import PySem.Challenge.RW_playproof_k07_rows_run_by_the_machine
set_option Elab.async false
set_option linter.all false
set_option maxRecDepth 100000
set_option maxHeartbeats 4000000
/-! Own base: a def by its contract (Def), heaps but for one address (Off), the law's pool of numbers -/
namespace My
open PySem PySem.Spec PyProof.Rows L2
/-- a def of the top that keeps its promise, by the name that it is called by -/
structure Def (P : Program) (w : World) (K : PySem.W.Frag) (mg : Str → Option Value) (base : Heap) (k : Nat) (x : Str) (ps : List Str) (sp : Sp) : Prop where
  ex : ∃ (f : Addr) (fd : FuncData), FnOk P w K mg base CX0 k f fd ps sp ∧ mg x = some (.ref f) ∧ PySem.W.keepIn K (.ref f) = true ∧ Binds K fd ps [] ∧ ∃ oc od osl, K.lookup f = some ⟨oc, od, .func fd, osl⟩
/-- a def as it stands behind the top -/
structure Top (K : PySem.W.Frag) (mg : Str → Option Value) (x : Str) (st : Stmt) (ps : List Str) : Prop where
  ex : ∃ (f : Addr) (fd : FuncData), Fun K x x st f fd ∧ mg x = some (.ref f) ∧ Binds K fd ps []
section
variable {P : Program} {w : World} {K : PySem.W.Frag} {mg : Str → Option Value} {base : Heap} {x : Str} {st : Stmt} {ps N : List Str} {k : Nat} {sp : Sp}
theorem Top.def (T : Top K mg x st ps) (h : ∀ f fd, Fun K x x st f fd → FnOk P w K mg base CX0 k f fd ps sp) : Def P w K mg base k x ps sp := by
  obtain ⟨f, fd, F, m, b⟩ := T.ex
  obtain ⟨oc, od, kV, doc, pm, an, cdv, ct, osl, _, l, _⟩ := F.ex
  exact ⟨f, fd, h f fd F, m, F.kp, b, oc, od, osl, l⟩
theorem Def.mono {j : Nat} (D : Def P w K mg base j x ps sp) (h : j ≤ k) : Def P w K mg base k x ps sp := by
  obtain ⟨f, fd, F, m, kp, b, l⟩ := D.ex
  exact ⟨f, fd, F.mono h, m, kp, b, l⟩
theorem Def.imp {sp' : Sp} (D : Def P w K mg base k x ps sp) (h : ∀ vs H Q E, sp' vs H Q E → sp vs H Q E) : Def P w K mg base k x ps sp' := by
  obtain ⟨f, fd, F, m, kp, b, l⟩ := D.ex
  exact ⟨f, fd, F.imp h, m, kp, b, l⟩
theorem Def.at_ {f : Addr} {fd : FuncData} {oc : Value} {od : Option Addr} {osl : Array (Option Value)} (D : Def P w K mg base k x ps sp) (hm : mg x = some (.ref f)) (hl : K.lookup f = some ⟨oc, od, .func fd, osl⟩) : FnOk P w K mg base CX0 k f fd ps sp := by
  obtain ⟨f', fd', F, m, _, _, oc', od', osl', l⟩ := D.ex
  obtain rfl : f' = f := by
    rw [hm] at m
    injection m with e
    injection e with e
    exact e.symm
  rw [hl] at l
  injection l with e
  injection e with _ _ e _
  injection e with e
  subst e
  exact F
/-- a def of the top, by what the head's facts say of it -/
theorem top_mk {h : Heap} {f : Addr} {od an : Option Addr} {osl : Array (Option Value)} {oc kV doc pm cd ct : Value} (X : K.In h) (G : h.Ns mainGlobals mg) (a : PySem.W.nsIn K mainGlobals x = some (some (.ref f)))
    (l : K.lookup f = some ⟨oc, od, .func (PySem.W.fnOf x x (defArgs st) (defBody st) (defScope st) .none kV doc pm an cd ct), osl⟩) (c : PySem.W.codeIn K cd x = true) (kp : PySem.W.keepIn K (.ref f) = true)
    (hb : ∀ (kV doc pm : Value) (an : Option Addr) (cdv ct : Value) (us : List Value), us.length = ps.length → bindArgs (PySem.W.fnOf x x (defArgs st) (defBody st) (defScope st) .none kV doc pm an cdv ct) ⟨us, []⟩ = pure (ps.zip us)) : Top K mg x st ps :=
  have F := fun_mk (st := st) l c kp
  ⟨f, _, F, PySem.W.mg_of X G a, F.binds hb⟩
theorem rel_abs : ∀ {u : Value} {y : V}, absV u = some y → RelV y u := fun {u y} e => by
  cases u <;> cases e <;> first | rfl | exact ⟨_, rfl⟩
theorem vals_abs : ∀ {us : List Value} {ys : List V}, us.map absV = ys.map some → Vals ys us
  | [], [], _ => .nil
  | [], _ :: _, e => by cases e
  | _ :: _, [], e => by cases e
  | u :: us, y :: ys, e => by
    injection e with e1 e2
    exact .cons (rel_abs e1) (vals_abs e2)
/-- a tuple of the module -/
theorem tup_mk {a : Addr} {od : Option Addr} {its : Array Value} {n : Nat} {osl : Array (Option Value)} {ys : List V} (l : K.lookup a = some ⟨.type "tuple", od, .seq its n, osl⟩) (z : its.size ≤ 1000) (e : its.toList.map absV = ys.map some) (H : Hp) : SqT K H a ys :=
  .inr ⟨_, its, n, l, rfl, rfl, Nat.le_of_lt (small1000 z), vals_abs e⟩
/-- THE RULE for a def: as Fun.ok -/
theorem Top.ok (T : Top K mg x st ps) (S : FnScope N ps (defScope st)) (len : ∀ vs H Q E, sp vs H Q E → vs.length = ps.length)
    (hbody : ∀ (f : Addr) (cdv : Value) (A : Around) (outer : List Env) (s : Shared) (H : Hp) (vs : List V) (Q : VK) (E : XK), Room k (A.deeper (envOfC x (defScope st) s.heap.objs.size f cdv)) → sp vs H Q E →
      ∃ t, PSs (cxOf CX0 P w K mg base N x (defScope st) f cdv A outer s H E).nox (defBody st) t ∧ t { nx := fun _ H' => Q .non H', rt := Q } (start N vs) H) : Def P w K mg base (k + 1) x ps sp :=
  T.def fun f fd F => F.ok S len (hbody f)
end
section
variable {X : Cx} {x : Str} {p pos : Pos} {e : Expr} {es : List Expr} {t : TA} {k : Nat} {ps : List Str} {sp : Sp}
theorem pe_def (D : Def X.prog X.w X.K X.mg X.base k x ps sp) (hr : Room k X.A) (hg : Gl X x) (ha : PA X (e :: es) t) (hdb : (x == ("__debug__" : Str)) = false := by decide)
    (he : starEach (e :: es) X.env = (false, eval e X.env) :: starEach es X.env := by rfl) (hpl : (backTo pos (starEach es X.env)).any (·.1) = false := by rfl) : PE X (.Call (.Name x p) (e :: es) [] pos) (tCall sp [] E0 t) := by
  obtain ⟨f, fd, F, m, kp, b, _⟩ := D.ex
  exact pe_call F hr hg m kp b .nil pass0 ha hdb he hpl
theorem pe_def0 (D : Def X.prog X.w X.K X.mg X.base k x ps sp) (hr : Room k X.A) (hg : Gl X x) (hdb : (x == ("__debug__" : Str)) = false := by decide) : PE X (.Call (.Name x p) [] [] pos) (tCall sp [] E0 tNil) := by
  obtain ⟨f, fd, F, m, kp, b, _⟩ := D.ex
  exact pe_call0 F hr hg m kp b .nil pass0 hdb
end
/-- over a locked dict's keys -/
theorem for_keys {d : Addr} {o : Obj} {kvs : List (Key × V)} {g : TG} {tb : TS} {D : Ends} {σ : L2.St} {H : Hp} (Pv : Nat → L2.St → Hp → Prop) (h0 : Pv 0 σ H) (hl : ∀ i σ H, Pv i σ H → H d = some (.frz o (.dK kvs)))
    (hs : ∀ i k v σ H, kvs[i]? = some (k, v) → Pv i σ H → g (kV k) σ H fun σ2 H2 => tb { D with nx := Pv (i + 1), ct := Pv (i + 1), bk := D.nx } σ2 H2) (hd : ∀ σ H, Pv kvs.length σ H → D.nx σ H) :
    ∃ W : Nat → Nat → L2.St → Hp → Prop, (∃ m, W 0 m σ H) ∧ ∀ i m σ H, W i m σ H → ((Itk d o kvs).stop i H ∧ D.nx σ H) ∨ ((Itk d o kvs).go i H ∧ ∃ N : L2.St → Hp → Prop, (∀ σ' H', N σ' H' → ∃ m', m' < m ∧ W (i + 1) m' σ' H') ∧
      ∀ x H', (Itk d o kvs).yld i H x H' → g x σ H' fun σ2 H2 => tb { D with nx := N, ct := N, bk := D.nx } σ2 H2) := by
  refine ⟨fun i m σ H => m = kvs.length - i ∧ i ≤ kvs.length ∧ Pv i σ H, ⟨_, rfl, Nat.zero_le _, h0⟩, ?_⟩
  rintro i m σ H ⟨rfl, hi, p⟩
  by_cases lt : i < kvs.length
  · refine .inr ⟨⟨hl i σ H p, lt⟩, Pv (i + 1), fun σ' H' p' => ⟨_, by omega, rfl, lt, p'⟩, fun x H' y => ?_⟩
    obtain ⟨rfl, k, v, e, rfl⟩ := y
    exact hs i k v σ H' e p
  · have e : i = kvs.length := Nat.le_antisymm hi (Nat.le_of_not_lt lt)
    exact .inl ⟨⟨hl i σ H p, by omega⟩, hd σ H (e ▸ p)⟩
/-! ### heaps -/
/-- all but p is as it was -/
def Off (p : Addr) (H H' : Hp) : Prop := ∀ b, b ≠ p → H' b = H b
theorem Off.refl {p : Addr} (H : Hp) : Off p H H := fun _ _ => rfl
theorem Off.trans {p : Addr} {H H1 H2 : Hp} (a : Off p H H1) (b : Off p H1 H2) : Off p H H2 := fun c h => (b c h).trans (a c h)
theorem Off.upd {p : Addr} {H : Hp} {o : HO} : Off p H (L2.upd H p o) := fun _ h => upd_ne h
theorem Off.get {p : Addr} {H H' : Hp} (a : Off p H H') {b : Addr} {o : HO} (h : b ≠ p) (e : H b = some o) : H' b = some o := (a b h).trans e
theorem Off.tup {p : Addr} {H H' : Hp} (a : Off p H H') {b : Addr} {xs ys : List V} (hp : H p = some (.lst xs)) (e : H b = some (.tup ys)) : H' b = some (.tup ys) :=
  a.get (fun z => by subst z; rw [hp] at e; cases e) e
theorem sqL_off {K : PySem.W.Frag} {p a : Addr} {H H' : Hp} {xs : List V} (o : Off p H H') (n : a ≠ p) (h : SqL K H a xs) : SqL K H' a xs := by
  rcases h with (h | ⟨u, h⟩) | h
  · exact .inl (.inl (o.get n h))
  · exact .inl (.inr ⟨u, o.get n h⟩)
  · exact .inr h
theorem sqT_off {K : PySem.W.Frag} {p a : Addr} {H H' : Hp} {xs : List V} (o : Off p H H') (n : a ≠ p) (h : SqT K H a xs) : SqT K H' a xs := by
  rcases h with (h | ⟨u, h⟩) | h
  · exact .inl (.inl (o.get n h))
  · exact .inl (.inr ⟨u, o.get n h⟩)
  · exact .inr h
theorem sqL_upd {K : PySem.W.Frag} {p a : Addr} {H : Hp} {o : HO} {xs : List V} (n : a ≠ p) (h : SqL K H a xs) : SqL K (upd H p o) a xs := sqL_off Off.upd n h
theorem sqT_upd {K : PySem.W.Frag} {p a : Addr} {H : Hp} {o : HO} {xs : List V} (n : a ≠ p) (h : SqT K H a xs) : SqT K (upd H p o) a xs := sqT_off Off.upd n h
/-! ### the pool of numbers: [script, place, rest, fills] -/
def poolO (a : Addr) (i : Nat) (n f : Int) : HO := .lst [.ref a, .int i, .int n, .int f]
/-- the script: locked, or an object of the module -/
def Scr (K : PySem.W.Frag) (H : Hp) (a : Addr) (ns : List Int) : Prop :=
  (∃ u, H a = some (.frz u (.lst (ns.map V.int)))) ∨ ∀ H', SqL K H' a (ns.map V.int)
theorem Scr.sq {K : PySem.W.Frag} {H : Hp} {a : Addr} {ns : List Int} (h : Scr K H a ns) : SqL K H a (ns.map V.int) := by
  rcases h with ⟨u, h⟩ | h
  · exact .inl (.inr ⟨u, h⟩)
  · exact h H
theorem Scr.of {K : PySem.W.Frag} {H : Hp} {a : Addr} {ns : List Int} (ho : Only H) (h : SqL K H a (ns.map V.int)) : Scr K H a ns := by
  rcases h with (h | ⟨u, h⟩) | h
  · rcases ho a with e | ⟨o, xs, e⟩ <;> rw [h] at e <;> cases e
  · exact .inl ⟨u, h⟩
  · exact .inr fun _ => .inr h
/-- what may change: nothing that is locked -/
def Fz : Option HO → Prop
  | some (.frz _ _) => False
  | _ => True
theorem Scr.off {K : PySem.W.Frag} {H H' : Hp} {a q : Addr} {ns : List Int} (h : Scr K H a ns) (o : Off q H H') (n : Fz (H q)) : Scr K H' a ns := by
  rcases h with ⟨u, h⟩ | h
  · refine .inl ⟨u, o.get (fun z => ?_) h⟩
    subst z
    rw [h] at n
    exact n
  · exact .inr h
structure PoolAt (K : PySem.W.Frag) (H : Hp) (p a : Addr) : Prop where
  ex : ∃ (i : Nat) (n f : Int), H p = some (poolO a i n f)
  sc : ∃ ns : List Int, ns.length ≤ 63 ∧ Scr K H a ns
theorem PoolAt.off {K : PySem.W.Frag} {H H' : Hp} {p a q : Addr} (h : PoolAt K H p a) (o : Off q H H') (n : p ≠ q) (z : Fz (H q)) : PoolAt K H' p a := by
  obtain ⟨⟨i, y, f, e⟩, ⟨ns, l, s⟩⟩ := h
  exact ⟨⟨i, y, f, o.get n e⟩, ⟨ns, l, s.off o z⟩⟩
/-- a new object beside it -/
theorem PoolAt.new {K : PySem.W.Frag} {H : Hp} {p a q : Addr} {o : HO} (h : PoolAt K H p a) (n : H q = none) : PoolAt K (L2.upd H q o) p a := by
  obtain ⟨i, y, f, e⟩ := h.ex
  exact h.off Off.upd (ne_of_none e n) (by rw [n]; trivial)
theorem PoolAt.upd {K : PySem.W.Frag} {H : Hp} {p a : Addr} {i : Nat} {n f : Int} (h : PoolAt K H p a) : PoolAt K (L2.upd H p (poolO a i n f)) p a := by
  obtain ⟨⟨i', n', f', e⟩, ⟨ns, l, s⟩⟩ := h
  exact ⟨⟨i, n, f, upd_same⟩, ⟨ns, l, s.off Off.upd (by rw [e]; trivial)⟩⟩
/-! ### the promises of the law's own numbers -/
def spMixed : Sp := fun vs H Q _ => ∃ n p : Int, vs = [.int n, .int p] ∧ ∀ v : Int, Q (.int v) H
/-- a rest at a place of the script -/
def spRest (K : PySem.W.Frag) : Sp := fun vs H Q _ => ∃ (a : Addr) (ns : List Int) (i f : Int), vs = [.ref a, .int i, .int f] ∧ Scr K H a ns ∧ ns.length ≤ 63 ∧ ∀ v : Int, Q (.int v) H
def spPool (K : PySem.W.Frag) : Sp := fun vs H Q _ => ∃ (a : Addr) (ns : List Int), vs = [.ref a] ∧ Scr K H a ns ∧ ns.length ≤ 63 ∧ ∀ (p : Addr) (H' : Hp), H p = none → Off p H H' → PoolAt K H' p a → Q (.ref p) H'
def spNext (K : PySem.W.Frag) : Sp := fun vs H Q _ => ∃ p a : Addr, vs = [.ref p] ∧ PoolAt K H p a ∧ ∀ H', Off p H H' → PoolAt K H' p a → Q .non H'
/-- a number below the limit -/
def spDraw (K : PySem.W.Frag) : Sp := fun vs H Q _ => ∃ (p a : Addr) (lim : Int), vs = [.ref p, .int lim] ∧ PoolAt K H p a ∧ 0 < lim ∧ lim < 1073741824 ∧ ∀ (v : Int) (H' : Hp), 0 ≤ v → v < lim → Off p H H' → PoolAt K H' p a → Q (.int v) H'
/-- one of a list's items -/
def spPick (K : PySem.W.Frag) : Sp := fun vs H Q _ => ∃ (p a o : Addr) (xs : List V), vs = [.ref p, .ref o] ∧ PoolAt K H p a ∧ SqL K H o xs ∧ o ≠ p ∧ 0 < xs.length ∧ xs.length ≤ 100000 ∧ ∀ (x : V) (H' : Hp), x ∈ xs → Off p H H' → PoolAt K H' p a → Q x H'
/-- the item of a list at a place that % gives -/
theorem at_mod {α : Type} {xs : List α} {i : Int} (h : 0 < xs.length) : ∃ x, atI xs (i % (xs.length : Int)) = some x ∧ x ∈ xs := by
  have h0 : 0 ≤ i % (xs.length : Int) := Int.emod_nonneg _ (by omega)
  have h1 : i % (xs.length : Int) < (xs.length : Int) := Int.emod_lt_of_pos _ (by omega)
  obtain ⟨j, e⟩ := Int.eq_ofNat_of_zero_le h0
  have hj : j < xs.length := by omega
  rw [e]
  exact ⟨xs[j], atI_nat (List.getElem?_eq_getElem hj), List.getElem_mem hj⟩
theorem at_in {α : Type} {xs : List α} {i : Int} (h0 : 0 ≤ i) (h1 : i < (xs.length : Int)) : ∃ x, atI xs i = some x ∧ x ∈ xs := by
  obtain ⟨j, e⟩ := Int.eq_ofNat_of_zero_le h0
  have hj : j < xs.length := by omega
  rw [e]
  exact ⟨xs[j], atI_nat (List.getElem?_eq_getElem hj), List.getElem_mem hj⟩
theorem emod_abs {i m : Int} {b : Nat} (h : 0 < m) (hm : m ≤ 2 ^ b) : (i % m).natAbs < 2 ^ b := by
  have h0 := Int.emod_nonneg i (Int.ne_of_gt h)
  have h1 := Int.emod_lt_of_pos i h
  have h2 : i % m < ((2 ^ b : Nat) : Int) := Int.lt_of_lt_of_le h1 (by exact_mod_cast hm)
  omega
end My
set_option Elab.async false
set_option linter.all false
set_option maxRecDepth 100000
set_option maxHeartbeats 4000000
/-! {**e, k: v}: a display that takes a dict in, and one pair more -/
namespace My
open PySem PySem.Spec PyProof.Rows L2
section
variable {prog : Program} {w : World} {K : Type} [DecidableEq K] {knd : KeyKind prog w K} {A : Around} {E : Value → Shared → Prop} {s : Shared}
theorem put_pairs {d : Addr} {kvs : List (K × Value)} {k : K} {u r : Value} {Q : Unit → Shared → Prop} (hu : knd.is k u = true) (hd : s.heap.DictOf knd d kvs) (hz : kvs.length ≤ sizeLine)
    (q : ∀ g, g.DictOf knd d (stored kvs k r) → Heap.SameBut d s.heap g → Q () { s with heap := g }) : wpAny (model prog w) A (dictPut d (knd.hash k) u r) Q E s := by
  obtain ⟨ob, tab, epo, h1, h2, h3, h4, h5, h6⟩ := hd
  have hn : tab.size ≤ sizeLine := by
    have e1 := h5.length
    rw [Array.length_toList] at e1
    omega
  unfold dictPut
  refine wpAny_bind (wpAny_dictFind_of hu h1 h3 h4 ?_)
  have same : (tab.findIdx? fun e => knd.is k e.key) = kvs.findIdx? fun kv => decide (kv.1 = k) := by
    rw [← h5.findIdx k]
    exact (by intro t; obtain ⟨l⟩ := t; simp : ∀ t : Array DictEntry, (t.findIdx? fun e => knd.is k e.key) = t.toList.findIdx? fun e => knd.is k e.key) tab
  cases found : tab.findIdx? fun e => knd.is k e.key with
  | some i =>
    refine wpAny_updateDict h1 h3 (q _ ⟨_, _, epo, Heap.get?_update_self _ h1 (Obj.isFreed_of_dict (Obj.data_mapDict h3 _)), h2.mapDict _, Obj.data_mapDict h3 _, h4.modify _ _, ?_, ?_⟩ (Heap.SameBut.update ..))
    · rw [stored, if_pos (any_of_findIdx_some (same ▸ found))]
      have there : (tab.toList.findIdx? fun e => knd.is k e.key) = some i := by
        rw [← found]
        exact (by intro t; obtain ⟨l⟩ := t; simp : ∀ t : Array DictEntry, (t.toList.findIdx? fun e => knd.is k e.key) = t.findIdx? fun e => knd.is k e.key) tab
      have z := h5.modify h6 there r
      rw [Array.toList_modify]
      exact z
    · rw [stored, if_pos (any_of_findIdx_some (same ▸ found)), keys_map_store]
      exact h6
  | none =>
    have out : k ∉ kvs.map (·.1) := not_mem_of_findIdx_none (same ▸ found)
    have none_is : ¬ (kvs.any fun kv => decide (kv.1 = k)) = true := fun z => by
      obtain ⟨kv, m, e⟩ := List.any_eq_true.mp z
      exact out (List.mem_map.mpr ⟨kv, m, of_decide_eq_true e⟩)
    refine wpAny_updateDictKeys (hz := hn) h1 h3 (q _ ⟨_, _, epo + 1, Heap.get?_update_self _ h1 (Obj.isFreed_of_dict (Obj.data_mapDictKeys h3 _)), h2.mapDictKeys _, Obj.data_mapDictKeys h3 _, h4.push hu _, ?_, ?_⟩ (Heap.SameBut.update ..))
    · rw [stored, if_neg none_is, Array.toList_push]
      exact h5.append hu (knd.hash k) r
    · rw [stored, if_neg none_is, List.map_append, List.nodup_append]
      refine ⟨h6, List.pairwise_singleton _ _, fun x hx y hy z => ?_⟩
      rw [List.map_cons, List.map_nil, List.mem_singleton] at hy
      subst hy
      exact out (z ▸ hx)
end
section
variable {P : Program} {w : World} {A : Around} {E : Value → Shared → Prop} {s : Shared}
theorem mapping_merged {d a : Addr} {kvs more : List (Key × Value)} {Q : Unit → Shared → Prop} (ne : d ≠ a) (na : (a == sysModules) = false) (hd : s.heap.DictOf (mixKind P w) d kvs) (ha : s.heap.DictOf (mixKind P w) a more)
    (hz : kvs.length + more.length ≤ sizeLine) (q : ∀ g, g.DictOf (mixKind P w) d (merged kvs more) → Heap.SameBut d s.heap g → Q () { s with heap := g }) : wpAny (model P w) A (mergeMapping d (.ref a) false) Q E s := by
  obtain ⟨od, ed, pd, hd1, hd2, hd3, hd4, hd5, hd6⟩ := id hd
  obtain ⟨oa, ea, pa, ha1, ha2, ha3, ha4, ha5, ha6⟩ := id ha
  have len : more.length = ea.size := by rw [← ha5.length, Array.length_toList]
  unfold mergeMapping
  refine wpAny_bind (wpAny_isInstance ha.typeIs isSubtype_dict_dict ?_)
  dsimp only
  rw [if_pos rfl]
  refine wpAny_bind (wpAny_specialOf ha.typeIs F.slot_dict_iter.lookup ?_)
  rw [show ((some (Value.builtin "dict.__iter__") : Option Value) == some (.builtin "dict.__iter__")) = true from rfl]
  refine wpAny_bind (wpAny_pure ?_)
  dsimp only
  rw [if_neg (by rw [na]; exact Bool.false_ne_true)]
  simp only [Bool.false_eq_true, if_false]
  have turns : wpAny (model P w) A (do
      let es ← dictEntries a
      let epoch ← dictEpoch a
      forIn (List.range es.size) PUnit.unit fun i (_ : PUnit) => (do
        let es' ← dictEntries a
        match es'[i]? with
        | some e => do
          holding [e.key, e.val] (dictPut d e.hash e.key e.val)
          let now ← dictEpoch a
          if (now != epoch) = true then do
            (unsupported "dict.changed-during-merge" : Sem PUnit)
            pure (ForInStep.yield PUnit.unit)
          else pure (ForInStep.yield PUnit.unit)
        | _ => do
          (unsupported "dict.changed-during-merge" : Sem PUnit)
          pure (ForInStep.yield PUnit.unit) : Sem (ForInStep PUnit))
      pure ()) Q E s := by
    refine wpAny_bind (wpAny_dictEntries ha1 ha3 (wpAny_bind (wpAny_dictEpoch ha1 ha3 (wpAny_bind ?_))))
    rw [List.range_eq_range']
    refine wpAny_forIn_list _ (fun rest _ s' => ∃ g i, s' = { s with heap := g } ∧ rest = List.range' i (ea.size - i) ∧ i ≤ ea.size ∧ g.DictOf (mixKind P w) d (merged kvs (more.take i)) ∧ g.get? a = some oa ∧ Heap.SameBut d s.heap g) _ ?_ ?_ _ _
      ⟨s.heap, 0, rfl, by simp, Nat.zero_le _, by simpa [merged] using hd, ha1, Heap.SameBut.refl _ _⟩
    · rintro x rest b s' ⟨g, i, rfl, er, hi, gd, ga, gs⟩
      have lt : i < ea.size := by
        rcases Nat.lt_or_ge i ea.size with h | h
        · exact h
        · rw [Nat.sub_eq_zero_of_le h] at er
          cases er
      obtain ⟨rfl, er'⟩ : x = i ∧ rest = List.range' (i + 1) (ea.size - (i + 1)) := by
        rw [show ea.size - i = (ea.size - (i + 1)) + 1 by omega, List.range'_succ] at er
        injection er with z1 z2
        exact ⟨z1, z2⟩
      refine wpAny_bind (wpAny_dictEntries ga ha3 ?_)
      rw [Array.getElem?_eq_getElem lt]
      have lt' : x < more.length := by omega
      obtain ⟨hk, hv⟩ := ha5.get? (e := ea[x]) (k := more[x].1) (v := more[x].2) (i := x) (by simp [lt]) (by rw [List.getElem?_eq_getElem lt'])
      obtain ⟨k', hk', hh⟩ := ha4 ea[x] (Array.getElem_mem lt)
      have ek : k' = more[x].1 := (mixKind P w).inj _ _ _ hk' hk
      dsimp only
      rw [hh, hv, ek]
      have hm : (merged kvs (more.take x)).length ≤ sizeLine := by
        have e1 := merged_length_le kvs (more.take x)
        rw [List.length_take] at e1
        omega
      refine wpAny_bind (wpAny_holding (put_pairs hk gd hm fun g2 gd2 gs2 => ?_))
      have ga2 : g2.get? a = some oa := (gs2.2 a (Ne.symm ne)).trans ga
      refine wpAny_bind (wpAny_dictEpoch ga2 ha3 ?_)
      rw [if_neg (by simp)]
      exact wpAny_pure ⟨g2, x + 1, rfl, er', lt, by rw [merged_take_succ kvs more x more[x] (List.getElem?_eq_getElem lt')]; exact gd2, ga2, gs.trans gs2⟩
    · rintro b s' ⟨g, i, rfl, er, hi, gd, ga, gs⟩
      have e : i = ea.size := by
        rcases Nat.lt_or_ge i ea.size with h | h
        · rw [show ea.size - i = (ea.size - (i + 1)) + 1 by omega, List.range'_succ] at er
          cases er
        · exact Nat.le_antisymm hi h
      rw [e, ← len, List.take_length] at gd
      exact wpAny_pure (q g gd gs)
  refine wpAny_bind (wpAny_dictEntries hd1 hd3 ?_)
  split
  · refine wpAny_bind (wpAny_dictEntries ha1 ha3 ?_)
    rw [← Array.forIn_toList]
    refine wpAny_bind (wpAny_forIn_list _ (fun rest _ s' => s' = s ∧ ∀ e ∈ rest, e ∈ ea.toList) _ ?_ ?_ _ _ ⟨rfl, fun _ h => h⟩)
    · rintro e rest b s' ⟨rfl, hr⟩
      obtain ⟨k, hk, _⟩ := ha4 e (Array.mem_toList_iff.mp (hr e List.mem_cons_self))
      rcases keyIs_shape hk with ⟨i, t, _, e1⟩ | ⟨z, t, _, e1⟩
      · rw [e1]
        exact wpAny_pure ⟨rfl, fun y h => hr y (List.mem_cons_of_mem _ h)⟩
      · rw [e1]
        exact wpAny_pure ⟨rfl, fun y h => hr y (List.mem_cons_of_mem _ h)⟩
    · rintro b s' ⟨rfl, _⟩
      exact turns
  · exact turns
end
/-- {**e, k: v}: the new dict at p; the pair stands in a dict of its own, at q, first -/
def tStar (te tk tv : TE) : TE := fun σ H Q => ∀ p, H p = none → te σ (upd H p (.dK [])) fun x H1 => ∃ a kvs, x = .ref a ∧ a ≠ p ∧ H1 a = some (.dK kvs) ∧ H1 p = some (.dK []) ∧ kvs.length < sizeLine ∧
  ∀ q, upd H1 p (.dK (mergeK [] kvs)) q = none → tk σ (upd (upd H1 p (.dK (mergeK [] kvs))) q (.dK [])) fun y H2 => tv σ H2 fun z H3 => ∃ k, y = kV k ∧ H3 q = some (.dK []) ∧ H3 p = some (.dK (mergeK [] kvs)) ∧
    Q (.ref p) (upd (upd H3 q (.dK [(k, z)])) p (.dK (putK (mergeK [] kvs) k z)))
section
variable {X : Cx} {e k v : Expr} {te tk tv : TE} {pos : Pos}
theorem pe_star (he : PE X e te) (hk : PE X k tk) (hv : PE X v tv) : PE X (.Dict [none, some k] [e, v] pos) (tStar te tk tv) := by
  refine ⟨fun pins s σ H Q I h => ?_⟩
  rw [arm_eval_Dict]
  refine wpAny_bind (wpAny_standAt ?_)
  have sh : (evalEachOpt [none, some k] X.env).zip ((evalEach [e, v] X.env).map fun t => do let x ← t; standAt pos; pure x) =
    [(none, do let x ← eval e X.env; standAt pos; pure x), (some (eval k X.env), do let x ← eval v X.env; standAt pos; pure x)] := rfl
  rw [sh]
  unfold dictDisplay
  dsimp only
  have n0 := I.hok.fresh (Nat.le_refl s.heap.objs.size)
  have I1 := I.laid (a := s.heap.objs.size) (o := .dK []) (h' := s.heap.push { cls := .type "dict", data := .dict #[] }) (t' := s.toks) (fun _ _ z => Heap.get?_push_of_some _ z) (Nat.le_refl _) (dk_empty s.heap I.big)
  rw [List.forIn_cons]
  dsimp only
  refine wpAny_bind (wpAny_bind (wpAny_bind ?_))
  rw [if_pos (show (List.isEmpty ([] : List (Sem Value × Sem Value))) = true from rfl)]
  refine wpAny_pure ?_
  dsimp only
  refine wpAny_bind (wpAny_alloc ?_)
  refine wpAny_bind (wpAny_holding (wpAny_bind (thn (he.run pins _ σ _ _ I1 (h _ n0)) fun u s1 r => ?_)))
  obtain ⟨x, H1, I2, rx, a, kvs, rfl, na, ha, hp, lt, rest⟩ := r
  obtain rfl : u = .ref a := rx
  refine wpAny_bind (wpAny_standAt (wpAny_pure ?_))
  obtain ⟨za, sa, va, ka, da⟩ := dk_of I2.hok ha
  obtain ⟨zp, sp', vp, kp, dp⟩ := dk_of I2.hok hp
  cases kp
  have hz : (mergeK [] kvs).length ≤ kvs.length := by
    have z := length_mergeK kvs []
    rw [List.length_nil] at z
    omega
  have lva : va.length = kvs.length := (KV.length ka).symm
  refine wpAny_bind (wpAny_onRaise (wpAny_tryCatch (wpAny_onRaise (wpAny_holding (mapping_merged (Ne.symm na) sa dp da (by rw [List.length_nil]; omega) fun g gd gs => ?_)))))
  have I3 : L2.Inv X pins σ (upd H1 s.heap.objs.size (.dK (mergeK [] kvs))) { s1 with heap := g, toks := s1.toks } :=
    d_write I2 (by rw [hp]; exact True.intro) gs (let ⟨o, _, _, ho, _⟩ := gd; ⟨o, ho⟩) (dk_new (by omega) sp' (ka.merge .nil) gd)
  refine wpAny_pure ?_
  dsimp only
  rw [List.forIn_cons]
  dsimp only
  refine wpAny_bind ?_
  rw [if_neg (by simp)]
  refine wpAny_pure ?_
  dsimp only
  rw [List.forIn_nil]
  refine wpAny_pure ?_
  dsimp only
  refine wpAny_bind ?_
  rw [if_neg (by simp)]
  have n3 := I3.hok.fresh (Nat.le_refl g.objs.size)
  have I4 := I3.laid (a := g.objs.size) (o := .dK []) (h' := g.push { cls := .type "dict", data := .dict #[] }) (t' := s1.toks) (fun _ _ z => Heap.get?_push_of_some _ z) (Nat.le_refl _) (dk_empty g I3.big)
  have pairs : PPs X pos [some k] [v] [(tk, tv)] := pps_cons hk hv pps_nil
  refine wpAny_bind (wpAny_holding (wpAny_subDict (knd := mixKind X.prog X.w) (by simp) (thn (pairs.run pins _ σ _ (fun ps H3 => match ps with
    | [(y, z)] => ∃ k, y = kV k ∧ H3 g.objs.size = some (.dK []) ∧ H3 s.heap.objs.size = some (.dK (mergeK [] kvs)) ∧
        Q (.ref s.heap.objs.size) (upd (upd H3 g.objs.size (.dK [(k, z)])) s.heap.objs.size (.dK (putK (mergeK [] kvs) k z)))
    | _ => False) I4 (rest _ n3)) fun ws s5 r => ?_)))
  obtain ⟨ps, H5, I5, rel, r⟩ := r
  match ps, rel, r with
  | [(y, z)], rel, ⟨k', ey, e5, e6, q⟩ =>
  subst ey
  obtain ⟨rs, c, rk⟩ := carries_of (P := X.prog) (w := X.w) (kvs := [(k', z)]) rel
  obtain ⟨_, _, v5, r5, d5⟩ := dk_of I5.hok e5
  cases r5
  refine ⟨rs, c, d5, fun g2 gd2 gs2 => ?_⟩
  have lrs : rs.length = 1 := (KV.length rk).symm
  have I6 : L2.Inv X pins σ (upd H5 g.objs.size (.dK [(k', z)])) { s5 with heap := g2, toks := s5.toks + ws.length } :=
    d_write I5 (by rw [e5]; exact True.intro) gs2 (let ⟨o, _, _, ho, _⟩ := gd2; ⟨o, ho⟩) (dk_new (by rw [sizeLine_eq]; simp) (by
      obtain ⟨_, z2, _⟩ := dk_of I5.hok e5
      exact z2) (rk.merge .nil) gd2)
  have npq : s.heap.objs.size ≠ g.objs.size := fun z => by
    rw [← z, upd_same] at n3
    cases n3
  have e7 : (upd H5 g.objs.size (.dK [(k', z)])) s.heap.objs.size = some (.dK (mergeK [] kvs)) := by
    rw [upd_ne npq]
    exact e6
  obtain ⟨_, sp7, v7, r7, d7⟩ := dk_of I6.hok e7
  obtain ⟨_, sq7, v8, r8, d8⟩ := dk_of I6.hok (upd_same (H := H5) (a := g.objs.size) (o := .dK [(k', z)]))
  refine wpAny_bind (wpAny_onRaise (wpAny_holding (mapping_merged npq sq7 d7 d8 (by
    have z1 := (KV.length r7).symm
    have z2 : v8.length = 1 := (KV.length r8).symm
    omega) fun g3 gd3 gs3 => ?_)))
  have I8 : L2.Inv X pins σ (upd (upd H5 g.objs.size (.dK [(k', z)])) s.heap.objs.size (.dK (mergeK (mergeK [] kvs) [(k', z)]))) { ({ s5 with heap := g2, toks := s5.toks + ws.length } : Shared) with heap := g3, toks := s5.toks + ws.length } :=
    d_write I6 (by rw [e7]; exact True.intro) gs3 (let ⟨o, _, _, ho, _⟩ := gd3; ⟨o, ho⟩) (dk_new (by
      have z1 := length_mergeK [(k', z)] (mergeK [] kvs)
      rw [List.length_singleton] at z1
      omega) sp7 (KV.merge r8 r7) gd3)
  exact wpAny_pure (wpAny_pure ⟨.ref s.heap.objs.size, _, I8, rfl, q⟩)
end
end My
set_option Elab.async false
set_option linter.all false
set_option maxRecDepth 100000
set_option maxHeartbeats 4000000
/-! name = {k: v for ..} on one line -/
namespace My
open PySem PySem.Spec PyProof.Rows L2
section
variable {X : Cx}
theorem ps_setDc {i : Nat} {y : Str} {py : Pos} {kx vx tg iter : Expr} {ifs : List Expr} {scope : Scope} {own : List (Str × Nat)} {pos spos : Pos} {wi : TI} {g : TG} {tt : TT} {tk tv : TE} (hc : X.calm = true) (hN : X.N.Nodup) (hy : X.N[i]? = some y)
    (hyl : X.env.scope.names.lookup y = some .local) (hsw : swapsWith (.DictComp kx vx [⟨tg, iter, ifs, 0⟩] scope pos) (some (.Name y py)) spos.line X.env = pure true) (hi : PI X tg iter wi) (ok : BlkOk X.N X.env.scope scope own)
    (hg : ∀ (t : Shared) (G : Hp) (C : Addr) (cl : List (Str × Addr)) (fp : List Addr), PG (X.blk t G scope (compEnvC scope cl C X.env) fp) tg g) (ht : ∀ (t : Shared) (G : Hp) (C : Addr) (cl : List (Str × Addr)) (fp : List Addr), PTs (X.blk t G scope (compEnvC scope cl C X.env) fp) ifs tt)
    (hk : ∀ (t : Shared) (G : Hp) (C : Addr) (cl : List (Str × Addr)) (fp : List Addr), PE (X.blk t G scope (compEnvC scope cl C X.env) fp) kx tk)
    (he : ∀ (t : Shared) (G : Hp) (C : Addr) (cl : List (Str × Addr)) (fp : List Addr), PE (X.blk t G scope (compEnvC scope cl C X.env) fp) vx tv) (hs : ∀ x, foldedSetIterable iter X.env x = pure x := by intro _; rfl) :
    PS X (.Assign [.Name y py] (.DictComp kx vx [⟨tg, iter, ifs, 0⟩] scope pos) spos) (tAsg (tDc wi g tt tk tv (own.map (·.2))) (gName i)) := by
  refine ⟨fun pins s σ H D I want => ?_⟩
  rw [exec_Assign_Name_used _ _ _ _ hsw]
  refine wpAny_bind (wpAny_standAt (wpAny_bind ?_))
  show wpAny _ X.A (do let _ ← comprehension (.DictComp kx vx [⟨tg, iter, ifs, 0⟩] scope pos) scope X.env (firstIterPos [⟨tg, iter, ifs, 0⟩] pos) newDict false (eval iter X.env) (some (assign (.Name y py) X.env))) _ _ s
  have want : tDc wi g tt tk tv (own.map (·.2)) σ H (fun x G => gName i x σ G D.nx) := want
  refine wpAny_bind (thn (dc_core (Qf := fun _ t => SP X pins D .next t) hc hN I hi ok hg ht hk he hs want fun L C t m G J q nC fr => ?_) fun _ t z => wpAny_pure (wpAny_pure z))
  show wpAny _ _ (assign (.Name y py) X.env (.ref L)) _ _ _
  obtain ⟨r0, r1, r2, r3, r4, r5⟩ := fr
  refine wpAny_assign_Name (store_ok2 (v := V.ref L) J hN hy (.inl hyl) rfl (fun t2 J2 ⟨a, sb, whi⟩ => ?_) (.inr hyl))
  have apart : C ≠ a := by
    rcases whi with z | z
    · rw [z]
      exact r1
    · exact fun e => r4 y a z e.symm
  exact ⟨m, nC.sameBut sb apart, fun h3 sb3 => ⟨_, G, J2.turned (t' := t2.toks) (fun b o nb e => (sb3.2 b nb).trans e) r0 r1 r3 r4 r5, q⟩⟩
theorem swd_true {kx vx : Expr} {gs : List Comprehension} {scope : Scope} {pos py : Pos} {y : Str} {l : Nat} {env : Env} (h1 : env.scope.kind = .function) (h2 : env.scope.names.lookup y = some .local) (h3 : (py.line == pos.line) = true)
    (h4 : (scope.names.any fun (n, k) => n == y && (k == .local || k == .cell)) = false) : swapsWith (.DictComp kx vx gs scope pos) (some (.Name y py)) l env = pure true := by
  have b1 : env.kindOf y = some .local := h2
  have b2 : env.blockKind = .function := by
    unfold Env.blockKind
    rw [h1]
    rfl
  unfold swapsWith
  simp only [b2, b1, h4, Expr.pos, h3]
  rfl
end
end My
set_option linter.all false
namespace My
open PySem
/-- the text by places -/
def topS (i : Nat) : Stmt := PySem.Challenge.pw_playproof_k07_rows_run_by_the_machine.main.body.getD i (.Pass ⟨0, 0, 0, 0⟩)
end My
set_option Elab.async false
set_option linter.all false
set_option maxRecDepth 100000
set_option maxHeartbeats 4000000
/-! The law's own numbers: what the six small defs promise -/
namespace My
open PySem PySem.Spec PyProof.Rows L2
abbrev st_law_mixed : Stmt := topS 9
theorem sc_law_mixed : FnScope ["number", "place", "first", "second", "third"] ["number", "place"] (defScope st_law_mixed) := ⟨rfl, rfl, rfl, by decide +kernel, rfl, by decide +kernel, by decide +kernel⟩
abbrev st_law_rest : Stmt := topS 10
theorem sc_law_rest : FnScope ["script", "place", "fills", "number"] ["script", "place", "fills"] (defScope st_law_rest) := ⟨rfl, rfl, rfl, by decide +kernel, rfl, by decide +kernel, by decide +kernel⟩
abbrev st_law_pool : Stmt := topS 11
theorem sc_law_pool : FnScope ["script"] ["script"] (defScope st_law_pool) := ⟨rfl, rfl, rfl, by decide +kernel, rfl, by decide +kernel, by decide +kernel⟩
abbrev st_law_next : Stmt := topS 12
theorem sc_law_next : FnScope ["pool"] ["pool"] (defScope st_law_next) := ⟨rfl, rfl, rfl, by decide +kernel, rfl, by decide +kernel, by decide +kernel⟩
abbrev st_law_draw : Stmt := topS 13
theorem sc_law_draw : FnScope ["pool", "limit", "value"] ["pool", "limit"] (defScope st_law_draw) := ⟨rfl, rfl, rfl, by decide +kernel, rfl, by decide +kernel, by decide +kernel⟩
abbrev st_law_pick : Stmt := topS 14
theorem sc_law_pick : FnScope ["pool", "options"] ["pool", "options"] (defScope st_law_pick) := ⟨rfl, rfl, rfl, by decide +kernel, rfl, by decide +kernel, by decide +kernel⟩
section
variable {P : Program} {w : World} {K : PySem.W.Frag} {mg : Str → Option Value} {base : Heap}
theorem ok_mixed (T : Top K mg "_law_mixed" st_law_mixed ["number", "place"]) (z_int : mg "int" = none) : Def P w K mg base 1 "_law_mixed" ["number", "place"] spMixed := by
  refine T.ok sc_law_mixed (fun vs H Q E h => ?_) (fun f cdv A outer s H vs Q E hr h => ?_)
  · obtain ⟨n, p, rfl, _⟩ := h
    rfl
  obtain ⟨n, p, rfl, q⟩ := h
  refine ⟨_, (pss_cons (ps_set (i := 2) sc_law_mixed.nd rfl (Or.inl rfl) (pe_op op_mod (pe_callTy call_int1 rfl z_int (by decide +kernel) (pa_cons (pe_op op_add (pe_op op_add (pe_op op_mul (pv 0) pe_int) (pe_op op_mul (pv 1) pe_int)) pe_int) pa_nil)) pe_int))
    (pss_cons (ps_set (i := 3) sc_law_mixed.nd rfl (Or.inl rfl) (pe_op op_mod (pe_callTy call_int1 rfl z_int (by decide +kernel) (pa_cons (pe_op op_add (pe_op op_add (pe_op op_mulW (pv 2) (pv 2)) (pe_op op_mul pe_int (pv 2))) (pv 1)) pa_nil)) pe_int))
    (pss_cons (ps_set (i := 4) sc_law_mixed.nd rfl (Or.inl rfl) (pe_op op_mod (pe_callTy call_int1 rfl z_int (by decide +kernel) (pa_cons (pe_op op_add (pe_op op_mulW (pv 3) (pv 3)) (pv 2)) pa_nil)) pe_int))
    (pss_one (ps_ret (pe_op op_add (pe_op op_mulW (pv 3) pe_int) (pv 4))))))), ?_⟩
  have g1 : ∀ i : Int, (i % 618970019642690137449562111).natAbs < 2 ^ 100 := fun i => emod_abs (by decide) (by decide)
  have g2 : ∀ i : Int, (i % 162259276829213363391578010288127).natAbs < 2 ^ 110 := fun i => emod_abs (by decide) (by decide)
  refine ⟨_, rfl, _, _, rfl, rfl, .inr ⟨by decide, by decide⟩, _, rfl, _, _, rfl, rfl, .inr ⟨by decide, by decide⟩, _, _, rfl, rfl, _, _, rfl, rfl, .inl ⟨_, rfl, ?_⟩⟩
  refine ⟨_, _, rfl, rfl, (by show (0:Int) < _; decide), ?_⟩
  refine ⟨_, rfl, _, rfl, _, _, rfl, rfl, wide_mul (g1 _) (g1 _) (by decide) (by decide) (by decide), ?_⟩
  refine ⟨_, rfl, _, _, rfl, rfl, .inl ⟨by decide, by decide⟩, _, _, rfl, rfl, _, rfl, _, _, rfl, rfl, .inl ⟨_, rfl, ?_⟩⟩
  refine ⟨_, _, rfl, rfl, (by show (0:Int) < _; decide), ?_⟩
  refine ⟨_, rfl, _, rfl, _, _, rfl, rfl, wide_mul (g2 _) (g2 _) (by decide) (by decide) (by decide), ?_⟩
  refine ⟨_, rfl, _, _, rfl, rfl, .inl ⟨_, rfl, ?_⟩⟩
  refine ⟨_, _, rfl, rfl, (by show (0:Int) < _; decide), ?_⟩
  refine ⟨_, rfl, _, _, rfl, rfl, wide_mul (b := 100) (g2 _) (by decide) (by decide) (by decide) (by decide), ?_⟩
  refine ⟨_, rfl, _, _, rfl, rfl, q _⟩
theorem ok_rest (T : Top K mg "_law_rest" st_law_rest ["script", "place", "fills"]) (D_law_mixed : Def P w K mg base 1 "_law_mixed" ["number", "place"] spMixed) (z_int : mg "int" = none) (z_len : mg "len" = none) :
    Def P w K mg base 2 "_law_rest" ["script", "place", "fills"] (spRest K) := by
  refine T.ok sc_law_rest (fun vs H Q E h => ?_) (fun f cdv A outer s H vs Q E hr h => ?_)
  · obtain ⟨a, ns, i, f, rfl, _⟩ := h
    rfl
  obtain ⟨a, ns, i, f, rfl, hC, hl, q⟩ := h
  have hS := hC.sq
  refine ⟨_, (pss_cons (ps_set (i := 3) sc_law_rest.nd rfl (Or.inl rfl) pe_int)
    (Evl.pss_cut (ps_if (pt_cmpR op_gt (pe_callB call_len_seq rfl z_len (by decide +kernel) (pa_cons (pv 0) pa_nil)) pe_int (nomark _))
    (pss_one (ps_set (i := 3) sc_law_rest.nd rfl (Or.inl rfl) (pe_callTy call_int1 rfl z_int (by decide +kernel) (pa_cons (pe_ix ix_list (pv 0) (pe_op op_mod (pe_callTy call_int1 rfl z_int (by decide +kernel) (pa_cons (pv 1) pa_nil)) (pe_callB call_len_seq rfl z_len (by decide +kernel) (pa_cons (pv 0) pa_nil))) (fun _ _ => rfl)) pa_nil))))
    pss_nil)
    (Evl.pss_cut (ps_if (pt_cmpR op_lt (pv 3) pe_int (nomark _))
    (pss_one (ps_set (i := 3) sc_law_rest.nd rfl (Or.inl rfl) (pe_op op_sub pe_int (pe_op op_mul pe_int (pv 3)))))
    pss_nil)
    (Evl.pss_cut (ps_if (PW.pt (pw_and (pt_cmpR op_eq (pv 2) pe_int (nomark _)) (pw_and (pt_cmpR op_lt (pv 1) (pe_callB call_len_seq rfl z_len (by decide +kernel) (pa_cons (pv 0) pa_nil)) (nomark _)) (pw_and1 (pt_cmpR op_ge (pv 3) (pe_op op_pow pe_int pe_int) (nomark _))))))
    (pss_one (ps_ret (pe_op op_sub (pv 3) (pe_op op_pow pe_int pe_int))))
    pss_nil)
    (pss_one (ps_ret (pe_def D_law_mixed (hr.mono (by decide)) rfl (pa_cons (pe_op op_add (pv 3) (pe_op op_mul (pv 2) pe_int)) (pa_cons (pv 1) pa_nil))))))))), ?_⟩
  have el : (ns.map V.int).length = ns.length := List.length_map _
  -- number = 0; if len(script) > 0
  refine ⟨fun σ' H' => ∃ z : Int, σ' = [some (.ref a), some (.int i), some (.int f), some (.int z)] ∧ H' = H, ?_, ?_⟩
  · refine ⟨.ref a, rfl, a, _, rfl, .inl hS, _, _, rfl, rfl, _, rfl, ?_⟩
    refine ite2 (fun c => ?_) (fun c => ⟨0, rfl, rfl⟩)
    have h0 : 0 < (ns.map V.int).length := by
      have := of_decide_eq_true c
      omega
    obtain ⟨x, e, hx⟩ := at_mod (xs := ns.map V.int) (i := i) h0
    obtain ⟨z, _, rfl⟩ := List.mem_map.mp hx
    refine ⟨.ref a, rfl, _, rfl, .inl ⟨_, rfl, .ref a, rfl, a, _, rfl, .inl hS, _, _, rfl, rfl, by omega, a, _, _, V.int z, rfl, rfl, hS, e, .inl ⟨z, rfl, z, rfl, rfl⟩⟩⟩
  rintro σ' H' ⟨z, rfl, rfl⟩
  -- if number < 0
  refine ⟨fun σ' H1 => ∃ z : Int, σ' = [some (.ref a), some (.int i), some (.int f), some (.int z)] ∧ H1 = H', ?_, ?_⟩
  · refine ⟨_, rfl, _, _, rfl, rfl, _, rfl, ite2 (fun c => ?_) (fun c => ⟨z, rfl, rfl⟩)⟩
    refine ⟨_, rfl, _, _, rfl, rfl, .inl ⟨by decide, by decide⟩, _, _, rfl, rfl, _, rfl, rfl⟩
  rintro σ' H1 ⟨y, rfl, rfl⟩
  refine ⟨fun σ' H1' => ∃ z : Int, σ' = [some (.ref a), some (.int i), some (.int f), some (.int z)] ∧ H1' = H1, ?_, ?_⟩
  · refine ⟨_, rfl, rfl, _, rfl, ite2 (fun c => ?_) (fun c => iteF ⟨y, rfl, rfl⟩)⟩
    refine ⟨_, rfl, .ref a, rfl, a, _, rfl, .inl hS, _, _, rfl, rfl, _, rfl, ite2 (fun c => ?_) (fun c => iteF ⟨y, rfl, rfl⟩)⟩
    refine ⟨_, rfl, _, _, rfl, rfl, (by unfold CPow; decide), _, _, rfl, rfl, _, rfl, ite2 (fun c => ?_) (fun c => ⟨y, rfl, rfl⟩)⟩
    refine ⟨_, rfl, _, _, rfl, rfl, (by unfold CPow; decide), _, _, rfl, rfl, q _⟩
  rintro σ' H2 ⟨y', rfl, rfl⟩
  refine ⟨_, rfl, _, rfl, _, _, rfl, rfl, .inr ⟨by decide, by decide⟩, _, _, rfl, rfl, _, rfl, _, _, rfl, fun v => q v⟩
theorem ok_pool (T : Top K mg "_law_pool" st_law_pool ["script"]) (D_law_rest : Def P w K mg base 2 "_law_rest" ["script", "place", "fills"] (spRest K)) :
    Def P w K mg base 3 "_law_pool" ["script"] (spPool K) := by
  refine T.ok sc_law_pool (fun vs H Q E h => ?_) (fun f cdv A outer s H vs Q E hr h => ?_)
  · obtain ⟨a, ns, rfl, _⟩ := h
    rfl
  obtain ⟨a, ns, rfl, hS, hl, q⟩ := h
  refine ⟨_, (pss_one (ps_ret (pe_lst (pa_cons (pv 0) (pa_cons pe_int (pa_cons (pe_def D_law_rest (hr.mono (by decide)) rfl (pa_cons (pv 0) (pa_cons pe_int (pa_cons pe_int pa_nil)))) (pa_cons pe_int pa_nil))))))), ?_⟩
  refine ⟨_, rfl, _, rfl, a, ns, 0, 0, rfl, hS, hl, fun v => ⟨by show 4 ≤ sizeLine; decide, fun p hp => ?_⟩⟩
  exact q p _ hp Off.upd ⟨⟨0, v, 0, upd_same⟩, ⟨ns, hl, hS.off Off.upd (by rw [hp]; trivial)⟩⟩
theorem ok_next (T : Top K mg "_law_next" st_law_next ["pool"]) (D_law_rest : Def P w K mg base 2 "_law_rest" ["script", "place", "fills"] (spRest K)) :
    Def P w K mg base 3 "_law_next" ["pool"] (spNext K) := by
  refine T.ok sc_law_next (fun vs H Q E h => ?_) (fun f cdv A outer s H vs Q E hr h => ?_)
  · obtain ⟨p, a, rfl, _⟩ := h
    rfl
  obtain ⟨p, a, rfl, hP, q⟩ := h
  obtain ⟨⟨i, n, g, hp⟩, ⟨ns, hl, hS⟩⟩ := id hP
  refine ⟨_, (pss_cons (ps_asg (pe_op op_add (pe_ix ix_list (pv 0) pe_int (fun _ _ => rfl)) pe_int) (pg_sub (pv 0) pe_int set_list))
    (pss_cons (ps_asg (pe_def D_law_rest (hr.mono (by decide)) rfl (pa_cons (pe_ix ix_list (pv 0) pe_int (fun _ _ => rfl)) (pa_cons (pe_ix ix_list (pv 0) pe_int (fun _ _ => rfl)) (pa_cons pe_int pa_nil)))) (pg_sub (pv 0) pe_int set_list))
    (pss_one (ps_asg pe_int (pg_sub (pv 0) pe_int set_list))))), ?_⟩
  have up : ∀ {H' : Hp} {i' n' g' i2 n2 g2 : Int}, H' = upd H p (.lst [.ref a, .int i', .int n', .int g']) → upd H' p (.lst [.ref a, .int i2, .int n2, .int g2]) = upd H p (.lst [.ref a, .int i2, .int n2, .int g2]) := fun e => by rw [e, upd_upd]
  -- pool[1] = pool[1] + 1
  refine ⟨.ref p, rfl, _, _, _, _, rfl, rfl, SqL.of hp, atI_nat (j := 1) rfl, _, _, rfl, rfl, .ref p, rfl, p, _, 1, 1, rfl, rfl, hp, rfl, ?_⟩
  -- pool[2] = _law_rest(pool[0], pool[1], 0)
  refine ⟨.ref p, rfl, _, _, _, _, rfl, rfl, SqL.of upd_same, atI_nat (j := 0) rfl, .ref p, rfl, _, _, _, _, rfl, rfl, SqL.of upd_same, atI_nat (j := 1) rfl, a, ns, _, 0, rfl, hS.off Off.upd (by rw [hp]; trivial), hl, fun v => ?_⟩
  refine ⟨.ref p, rfl, p, _, 2, 2, rfl, rfl, upd_same, rfl, ?_⟩
  rw [upd_upd]
  refine ⟨.ref p, rfl, p, _, 3, 3, rfl, rfl, upd_same, rfl, ?_⟩
  rw [upd_upd]
  exact q _ Off.upd (hP.upd (i := i + 1) (n := v) (f := 0))
theorem ok_draw (T : Top K mg "_law_draw" st_law_draw ["pool", "limit"]) (D_law_rest : Def P w K mg base 2 "_law_rest" ["script", "place", "fills"] (spRest K)) (z_int : mg "int" = none) :
    Def P w K mg base 3 "_law_draw" ["pool", "limit"] (spDraw K) := by
  refine T.ok sc_law_draw (fun vs H Q E h => ?_) (fun f cdv A outer s H vs Q E hr h => ?_)
  · obtain ⟨p, a, l, rfl, _⟩ := h
    rfl
  obtain ⟨p, a, l, rfl, hP, h0, h1, q⟩ := h
  refine ⟨_, (Evl.pss_cut (ps_if (pt_cmpR op_le (pe_ix ix_list (pv 0) pe_int (fun _ _ => rfl)) pe_int (nomark _))
    (pss_cons (ps_asg (pe_op op_add (pe_ix ix_list (pv 0) pe_int (fun _ _ => rfl)) pe_int) (pg_sub (pv 0) pe_int set_list))
      (pss_one (ps_asg (pe_def D_law_rest (hr.mono (by decide)) rfl (pa_cons (pe_ix ix_list (pv 0) pe_int (fun _ _ => rfl)) (pa_cons (pe_ix ix_list (pv 0) pe_int (fun _ _ => rfl)) (pa_cons (pe_ix ix_list (pv 0) pe_int (fun _ _ => rfl)) pa_nil)))) (pg_sub (pv 0) pe_int set_list))))
    pss_nil)
    (pss_cons (ps_set (i := 2) sc_law_draw.nd rfl (Or.inl rfl) (pe_op op_mod (pe_callTy call_int1 rfl z_int (by decide +kernel) (pa_cons (pe_ix ix_list (pv 0) pe_int (fun _ _ => rfl)) pa_nil)) (pv 1)))
    (pss_cons (ps_asg (pe_op op_fdiv (pe_callTy call_int1 rfl z_int (by decide +kernel) (pa_cons (pe_ix ix_list (pv 0) pe_int (fun _ _ => rfl)) pa_nil)) (pv 1)) (pg_sub (pv 0) pe_int set_list))
    (pss_one (ps_ret (pv 2)))))), ?_⟩
  refine ⟨fun σ' H' => σ' = [some (.ref p), some (.int l), none] ∧ Off p H H' ∧ PoolAt K H' p a, ?_, ?_⟩
  · obtain ⟨⟨i, n, g, hp⟩, ⟨ns, hl, hS⟩⟩ := id hP
    refine ⟨.ref p, rfl, _, _, _, _, rfl, rfl, SqL.of hp, atI_nat (j := 2) rfl, _, _, rfl, rfl, _, rfl, ite2 (fun c => ?_) (fun c => ⟨rfl, Off.refl _, hP⟩)⟩
    refine ⟨.ref p, rfl, _, _, _, _, rfl, rfl, SqL.of hp, atI_nat (j := 3) rfl, _, _, rfl, rfl, .ref p, rfl, p, _, 3, 3, rfl, rfl, hp, rfl, ?_⟩
    refine ⟨.ref p, rfl, _, _, _, _, rfl, rfl, SqL.of upd_same, atI_nat (j := 0) rfl, .ref p, rfl, _, _, _, _, rfl, rfl, SqL.of upd_same, atI_nat (j := 1) rfl, .ref p, rfl, _, _, _, _, rfl, rfl, SqL.of upd_same, atI_nat (j := 3) rfl, a, ns, _, _, rfl, hS.off Off.upd (by rw [hp]; trivial), hl, fun v => ?_⟩
    refine ⟨.ref p, rfl, p, _, 2, 2, rfl, rfl, upd_same, rfl, ?_⟩
    rw [upd_upd]
    exact ⟨rfl, Off.upd, hP.upd (i := i)⟩
  rintro σ' H' ⟨rfl, o, hP'⟩
  obtain ⟨⟨i, n, g, hp⟩, ⟨ns, hl, hS⟩⟩ := id hP'
  refine ⟨.ref p, rfl, _, _, _, _, rfl, rfl, SqL.of hp, atI_nat (j := 2) rfl, .inl ⟨n, rfl, _, rfl, _, _, rfl, rfl, h0, ?_⟩⟩
  refine ⟨.ref p, rfl, _, _, _, _, rfl, rfl, SqL.of hp, atI_nat (j := 2) rfl, .inl ⟨n, rfl, _, rfl, _, _, rfl, rfl, ⟨h0, h1⟩, ?_⟩⟩
  refine ⟨.ref p, rfl, p, _, 2, 2, rfl, rfl, hp, rfl, ?_⟩
  exact ⟨_, rfl, q _ _ (Int.emod_nonneg _ (by omega)) (Int.emod_lt_of_pos _ h0) (o.trans Off.upd) (hP'.upd (i := i))⟩
theorem ok_pick (T : Top K mg "_law_pick" st_law_pick ["pool", "options"]) (D_law_draw : Def P w K mg base 3 "_law_draw" ["pool", "limit"] (spDraw K)) (z_len : mg "len" = none) :
    Def P w K mg base 4 "_law_pick" ["pool", "options"] (spPick K) := by
  refine T.ok sc_law_pick (fun vs H Q E h => ?_) (fun f cdv A outer s H vs Q E hr h => ?_)
  · obtain ⟨p, a, o, xs, rfl, _⟩ := h
    rfl
  obtain ⟨p, a, o, xs, rfl, hP, hS, ne, h0, h1, q⟩ := h
  refine ⟨_, (pss_one (ps_ret (pe_ix ix_list (pv 1) (pe_def D_law_draw (hr.mono (by decide)) rfl (pa_cons (pv 0) (pa_cons (pe_callB call_len_seq rfl z_len (by decide +kernel) (pa_cons (pv 1) pa_nil)) pa_nil))) (fun _ _ => rfl)))), ?_⟩
  refine ⟨.ref o, rfl, .ref p, rfl, .ref o, rfl, o, xs, rfl, .inl hS, p, a, _, rfl, hP, by omega, by omega, fun v H' hv0 hv1 off hP' => ?_⟩
  obtain ⟨x, e, hx⟩ := at_in hv0 hv1
  exact ⟨o, xs, v, x, rfl, rfl, sqL_off off ne hS, e, q x H' hx off hP'⟩
end
end My
set_option Elab.async false
set_option linter.all false
set_option maxRecDepth 100000
set_option maxHeartbeats 4000000
/-! The machine of rows: its meaning, and the program's own run -/
namespace My
open PySem PySem.Spec PyProof.Rows L2
def REGS : List Str := ["facts", "views", "legal", "ends", "puts", "takes", "kept"]
def kvsOf (g : Str → Int) : List (Key × V) := REGS.map fun n => ((Sum.inr n : Key), V.int (g n))
def put1 (g : Str → Int) (a : Str) (v : Int) : Str → Int := fun s => if s = a then v else g s
def g0 (n : Int) : Str → Int := put1 (fun _ => 0) "facts" (n / 2)
theorem regs_nd : REGS.Nodup := by decide +kernel
theorem val_map (g : Str → Int) (a : Str) : ∀ L : List Str, a ∈ L → valV (L.map fun n => ((Sum.inr n : Key), V.int (g n))) (Sum.inr a) = some (.int (g a))
  | [], h => by cases h
  | x :: L, h => by
    by_cases e : x = a
    · subst e
      exact valV_pos rfl
    · rw [List.map_cons, valV_neg (fun z => e (Sum.inr.inj z))]
      exact val_map g a L ((List.mem_cons.mp h).resolve_left fun z => e z.symm)
theorem val_out (g : Str → Int) (a : Str) : ∀ L : List Str, a ∉ L → valV (L.map fun n => ((Sum.inr n : Key), V.int (g n))) (Sum.inr a) = none
  | [], _ => rfl
  | x :: L, h => by
    rw [List.map_cons, valV_neg (fun z => h (by rw [Sum.inr.inj z]; exact List.mem_cons_self))]
    exact val_out g a L fun z => h (List.mem_cons_of_mem _ z)
theorem val_kvs {g : Str → Int} {a : Str} (h : a ∈ REGS) : valV (kvsOf g) (Sum.inr a) = some (.int (g a)) := val_map g a REGS h
theorem put_kvs {g : Str → Int} {a : Str} {v : Int} (h : a ∈ REGS) : putK (kvsOf g) (Sum.inr a) (.int v) = kvsOf (put1 g a v) := by
  have e : ((kvsOf g).any fun kv => decide (kv.1 = Sum.inr a)) = true := by
    rw [valV_any, val_kvs h]
    rfl
  unfold putK
  rw [if_pos e]
  unfold kvsOf
  rw [List.map_map]
  refine List.map_congr_left fun n _ => ?_
  show (if (Sum.inr n : Key) = Sum.inr a then ((Sum.inr n : Key), V.int v) else (Sum.inr n, V.int (g n))) = (Sum.inr n, V.int (put1 g a v n))
  unfold put1
  by_cases z : n = a
  · subst z
    rw [if_pos rfl, if_pos rfl]
  · rw [if_neg (fun y => z (Sum.inr.inj y)), if_neg z]
/-- the rows -/
inductive Row where
  | tst (al : Bool) (n : Str) (k : Int) (to : Nat)
  | set (n : Str) (k : Int)
  | who (sec : Bool) (to : Nat)
  | chosen (m : Int) (to : Nat)
  | mark
  | again (to : Nat)
  | stop
def plr (b : Bool) : Str := if b then "second" else "first"
def Row.toV : Row → List V
  | .tst al n k to => [.str (if al then "all" else "none"), .str n, .int k, .int to]
  | .set n k => [.str "set", .str n, .int k, .str ""]
  | .who sec to => [.str "who", .str (plr sec), .int to, .str ""]
  | .chosen m to => [.str "chosen", .int m, .int to, .str ""]
  | .mark => [.str "mark", .str "", .str "", .str ""]
  | .again to => [.str "again", .int to, .str "", .str ""]
  | .stop => [.str "stop", .str "", .str "", .str ""]
def Row.Ok : Row → Prop
  | .tst _ n _ _ => n ∈ REGS
  | .set n _ => n ∈ REGS
  | _ => True
/-- does a row that tests let on; where it jumps -/
def Row.goes (g : Str → Int) (sec : Bool) (mv : Int) : Row → Bool
  | .tst al n k _ => if al then decide (Builtin.bitAnd (g n) k = k) else decide (Builtin.bitAnd (g n) k = 0)
  | .who s _ => decide (sec = s)
  | .chosen m _ => decide (mv = m)
  | .again _ => decide (g "views" = g "kept")
  | _ => true
def Row.tgt : Row → Nat
  | .tst _ _ _ to => to
  | .who _ to => to
  | .chosen _ to => to
  | .again to => to
  | _ => 0
def Row.acts (g : Str → Int) : Row → Str → Int
  | .set n k => put1 g n (Builtin.bitOr (g n) k)
  | .mark => put1 g "kept" (g "views")
  | _ => g
def isStop : Row → Bool
  | .stop => true
  | _ => false
/-- m steps are left, c are done -/
def exec1 (rows : List Row) (sec : Bool) (mv : Int) : Nat → Nat → Nat → (Str → Int) → Option ((Str → Int) × Nat)
  | 0, _, _, _ => none
  | m + 1, c, pc, g => match rows[pc]? with
    | none => none
    | some r => if isStop r = true then some (g, c + 1) else exec1 rows sec mv m (c + 1) (if r.goes g sec mv = true then pc + 1 else r.tgt) (r.acts g)
/-- what a run hands back -/
def Res (H H' : Hp) (o : Option ((Str → Int) × Nat)) (v : V) : Prop := match o with
  | none => v = .non
  | some (g, c) => ∃ d, v = .ref d ∧ H d = none ∧ H' d = some (.dK (kvsOf g ++ [((Sum.inr "steps" : Key), V.int (c : Int))]))
def RowsAt (K : PySem.W.Frag) (H : Hp) (refs : List V) (rows : List Row) : Prop := refs.length = rows.length ∧ ∀ (i : Nat) (r : Row), rows[i]? = some r → r.Ok ∧ ∃ t : Addr, refs[i]? = some (V.ref t) ∧ SqT K H t r.toV
theorem sqT_same {K : PySem.W.Frag} {H H' : Hp} {a : Addr} {xs : List V} (s : Same H H') (h : SqT K H a xs) : SqT K H' a xs := by
  rcases h with (h | ⟨u, h⟩) | h
  · exact .inl (.inl (s _ _ h))
  · exact .inl (.inr ⟨u, s _ _ h⟩)
  · exact .inr h
theorem RowsAt.same {K : PySem.W.Frag} {H H' : Hp} {refs : List V} {rows : List Row} (h : RowsAt K H refs rows) (s : Same H H') : RowsAt K H' refs rows :=
  ⟨h.1, fun i r e => by
    obtain ⟨o, t, a, b⟩ := h.2 i r e
    exact ⟨o, t, a, sqT_same s b⟩⟩
theorem Same.new {H : Hp} {p : Addr} {o : HO} (h : H p = none) : Same H (upd H p o) := fun b x e => by
  rw [upd_ne (ne_of_none e h)]
  exact e
theorem ifS {x : Str} {A B : Prop} (h : A) : if decide (V.str x = V.str x) = true then A else B := by
  rw [decide_eq_true rfl]
  exact iteT h
theorem ifN {x y : Str} {A B : Prop} (n : x ≠ y) (h : B) : if decide (V.str x = V.str y) = true then A else B := by
  rw [decide_eq_false fun z => n (V.str.inj z)]
  exact iteF h
theorem get_kvs {H : Hp} {d : Addr} {g : Str → Int} {n : Str} (h : H d = some (.dK (kvsOf g))) (m : n ∈ REGS) : DGet H d (.str n) (some (.int (g n))) := by
  have z := DGet.k (k := Sum.inr n) h
  rw [val_kvs m] at z
  exact z
theorem m_views : ("views" : Str) ∈ REGS := by decide +kernel
theorem m_kept : ("kept" : Str) ∈ REGS := by decide +kernel
theorem dec_i (i j : Int) : decide (V.int i = V.int j) = decide (i = j) := by
  by_cases e : i = j
  · subst e
    rw [decide_eq_true rfl, decide_eq_true rfl]
  · rw [decide_eq_false e, decide_eq_false fun z => e (V.int.inj z)]
theorem dec_p (a b : Bool) : decide (V.str (plr a) = V.str (plr b)) = decide (a = b) := by
  cases a <;> cases b <;> decide +kernel
def spStarted : Sp := fun vs H Q _ => ∃ n : Int, vs = [.int n] ∧ ∀ d H', H d = none → Off d H H' → H' d = some (.dK (kvsOf (g0 n))) → Q (.ref d) H'
def spGoes (K : PySem.W.Frag) : Sp := fun vs H Q _ => ∃ (d t : Addr) (sec : Bool) (mv : Int) (g : Str → Int) (r : Row), vs = [.ref d, .str (plr sec), .int mv, .ref t] ∧ H d = some (.dK (kvsOf g)) ∧ SqT K H t r.toV ∧ r.Ok ∧
  r.toV[0]? ≠ some (.str "stop") ∧ r.toV[0]? ≠ some (.str "set") ∧ r.toV[0]? ≠ some (.str "mark") ∧ Q (.bl (r.goes g sec mv)) H
def spTarget (K : PySem.W.Frag) : Sp := fun vs H Q _ => ∃ (t : Addr) (r : Row), vs = [.ref t] ∧ SqT K H t r.toV ∧
  r.toV[0]? ≠ some (.str "stop") ∧ r.toV[0]? ≠ some (.str "set") ∧ r.toV[0]? ≠ some (.str "mark") ∧ ∀ H', Same H H' → Q (.int (r.tgt : Int)) H'
def spRun (K : PySem.W.Frag) : Sp := fun vs H Q _ => ∃ (t : Addr) (n mv : Int) (most : Nat) (refs : List V) (rows : List Row), vs = [.ref t, .int n, .int mv, .int most] ∧ SqT K H t refs ∧ RowsAt K H refs rows ∧
  ∀ v H', Same H H' → Res H H' (exec1 rows (decide (n % 2 = 1)) mv most 0 0 (g0 n)) v → Q v H'
abbrev st_started : Stmt := topS 3
theorem sc_started : FnScope ["number", "registers", "name"] ["number"] (defScope st_started) := ⟨rfl, rfl, rfl, by decide +kernel, rfl, by decide +kernel, by decide +kernel⟩
abbrev st_goes_on : Stmt := topS 4
theorem sc_goes_on : FnScope ["registers", "who", "move", "row", "word", "a", "b", "_"] ["registers", "who", "move", "row"] (defScope st_goes_on) := ⟨rfl, rfl, rfl, by decide +kernel, rfl, by decide +kernel, by decide +kernel⟩
abbrev st_target : Stmt := topS 5
theorem sc_target : FnScope ["row"] ["row"] (defScope st_target) := ⟨rfl, rfl, rfl, by decide +kernel, rfl, by decide +kernel, by decide +kernel⟩
abbrev st_run : Stmt := topS 6
theorem sc_run : FnScope ["rows", "number", "move", "most", "registers", "who", "at", "steps", "row"] ["rows", "number", "move", "most"] (defScope st_run) := ⟨rfl, rfl, rfl, by decide +kernel, rfl, by decide +kernel, by decide +kernel⟩
abbrev st_most_steps : Stmt := topS 7
theorem sc_most_steps : FnScope ["rows", "views"] ["rows", "views"] (defScope st_most_steps) := ⟨rfl, rfl, rfl, by decide +kernel, rfl, by decide +kernel, by decide +kernel⟩
section
variable {P : Program} {w : World} {K : PySem.W.Frag} {mg : Str → Option Value} {base : Heap} {aR aP : Addr}
theorem ok_started (T : Top K mg "started" st_started ["number"]) (m_REG : mg "REGISTERS" = some (.ref aR)) (t_REG : ∀ H, SqT K H aR (REGS.map V.str)) : Def P w K mg base 1 "started" ["number"] spStarted := by
  refine T.ok sc_started (fun vs H Q E h => ?_) (fun f cdv A outer s H vs Q E hr h => ?_)
  · obtain ⟨n, rfl, _⟩ := h
    rfl
  obtain ⟨n, rfl, q⟩ := h
  have hu := hu_of hr
  refine ⟨_, (pss_cons (ps_setDc (i := 1) (own := [("name", 2)]) (g := gName 2) (tt := tYes) rfl sc_started.nd rfl rfl (swd_true rfl rfl rfl (by decide +kernel)) (pi_tup (pe_glob (v := .ref aR) rfl m_REG rfl)) (blkOk_by (own := [("name", 2)]) (N := ["number", "registers", "name"]) (sc := defScope st_started) (by decide +kernel)) (fun _ _ _ _ _ => (pg_name (i := 2) sc_started.nd rfl (Or.inl rfl))) (fun _ _ _ _ _ => pts_nil) (fun _ _ _ _ _ => (pv 2)) (fun _ _ _ _ _ => pe_int))
    (pss_cons (ps_dput hu (pv 1) pe_str (pe_op op_fdiv (pv 0) pe_int) rfl)
    (pss_one (ps_ret (pv 1))))), ?_⟩
  refine ⟨_, rfl, ⟨_, t_REG _⟩, fun D hD => dc_tup (K := K) (a := aR) (xs := REGS.map V.str) (fun i H' => Off D H H' ∧ H' D = some (.dK ((REGS.take i).map fun n => ((Sum.inr n : Key), V.int 0)))) ⟨Off.upd, upd_same⟩ (fun _ _ _ _ => t_REG _) ?_ ?_⟩
  · rintro i x H' hx ⟨o, e⟩
    rw [List.getElem?_map] at hx
    cases hz : REGS[i]? with
    | none =>
      rw [hz] at hx
      cases hx
    | some z =>
      rw [hz] at hx
      cases hx
      have lt : i < REGS.length := (List.getElem?_eq_some_iff.mp hz).1
      have ez : REGS[i] = z := (List.getElem?_eq_some_iff.mp hz).2
      have out : z ∉ REGS.take i := fun m => by
        obtain ⟨j, hj, ej⟩ := List.mem_iff_getElem.mp m
        rw [List.length_take] at hj
        have e2 : REGS[j]? = some z := by
          rw [List.getElem_take] at ej
          rw [← ej]
          exact List.getElem?_eq_getElem _
        have := nodup_ix regs_nd hz e2
        omega
      refine ⟨rfl, _, rfl, _, Sum.inr z, rfl, e, small1000 ?_, o.trans Off.upd, ?_⟩
      · have l7 : REGS.length = 7 := rfl
        rw [List.length_map, List.length_take]
        omega
      · rw [upd_same, putK_new _ (val_out (fun _ => 0) z _ out), List.take_add_one, hz, List.map_append]
        rfl
  · rintro H' ⟨o, e⟩
    have e : H' D = some (.dK (kvsOf fun _ => 0)) := e
    have me : ("facts" : Str) ∈ REGS := by decide +kernel
    refine ⟨_, rfl, _, _, rfl, rfl, ⟨by decide, by decide⟩, .ref D, rfl, D, _, rfl, DPut.k (k := Sum.inr "facts") e (small1000 (by decide)), _, rfl, ?_⟩
    exact q D _ hD (o.trans Off.upd) (by rw [upd_same, put_kvs me]; rfl)
theorem ok_goes (T : Top K mg "goes_on" st_goes_on ["registers", "who", "move", "row"]) : Def P w K mg base 1 "goes_on" ["registers", "who", "move", "row"] (spGoes K) := by
  refine T.ok sc_goes_on (fun vs H Q E h => ?_) (fun f cdv A outer s H vs Q E hr h => ?_)
  · obtain ⟨d, t, sec, mv, g, r, rfl, _⟩ := h
    rfl
  obtain ⟨d, t, sec, mv, g, r, rfl, hd, ht, hok, n1, n2, n3, q⟩ := h
  have hu := hu_of hr
  refine ⟨_, (pss_cons (ps_asg (pv 3) (pg_tup rfl (pgs_cons (pg_name (i := 4) sc_goes_on.nd rfl (Or.inl rfl)) (pgs_cons (pg_name (i := 5) sc_goes_on.nd rfl (Or.inl rfl)) (pgs_cons (pg_name (i := 6) sc_goes_on.nd rfl (Or.inl rfl)) (pgs_cons (pg_name (i := 7) sc_goes_on.nd rfl (Or.inl rfl)) pgs_nil))))))
    (pss_cons (ps_if (pt_cmpR op_eq (pv 4) pe_str (nomark _))
    (pss_one (ps_ret (pe_cmpR op_eq (pe_op op_and (pe_dget hu (pv 0) (pv 5) (fun _ _ => rfl)) (pv 6)) (pv 6) (nomark _))))
    pss_nil)
    (pss_cons (ps_if (pt_cmpR op_eq (pv 4) pe_str (nomark _))
    (pss_one (ps_ret (pe_cmpR op_eq (pe_op op_and (pe_dget hu (pv 0) (pv 5) (fun _ _ => rfl)) (pv 6)) pe_int (nomark _))))
    pss_nil)
    (pss_cons (ps_if (pt_cmpR op_eq (pv 4) pe_str (nomark _))
    (pss_one (ps_ret (pe_cmpR op_eq (pv 1) (pv 5) (nomark _))))
    pss_nil)
    (pss_cons (ps_if (pt_cmpR op_eq (pv 4) pe_str (nomark _))
    (pss_one (ps_ret (pe_cmpR op_eq (pv 2) (pv 5) (nomark _))))
    pss_nil)
    (pss_one (ps_ret (pe_cmpR op_eq (pe_dget hu (pv 0) pe_str (fun _ _ => rfl)) (pe_dget hu (pv 0) pe_str (fun _ _ => rfl)) (nomark _))))))))), ?_⟩
  cases r with
  | stop => exact absurd rfl n1
  | set n k => exact absurd rfl n2
  | mark => exact absurd rfl n3
  | tst al n k to =>
    have mn : n ∈ REGS := hok
    refine ⟨.ref t, rfl, t, _, rfl, ht, rfl, _, _, rfl, _, _, rfl, _, _, rfl, _, _, rfl, rfl, ?_⟩
    cases al with
    | true =>
      refine ⟨_, rfl, rfl, _, rfl, ifS ?_⟩
      refine ⟨_, rfl, _, rfl, d, _, rfl, get_kvs hd mn, _, rfl, _, _, rfl, rfl, _, rfl, rfl, ?_⟩
      rw [dec_i]
      exact q
    | false =>
      refine ⟨_, rfl, rfl, _, rfl, ifN (by decide +kernel) ?_⟩
      refine ⟨_, rfl, rfl, _, rfl, ifS ?_⟩
      refine ⟨_, rfl, _, rfl, d, _, rfl, get_kvs hd mn, _, rfl, _, _, rfl, rfl, rfl, ?_⟩
      rw [dec_i]
      exact q
  | who s' to =>
    refine ⟨.ref t, rfl, t, _, rfl, ht, rfl, _, _, rfl, _, _, rfl, _, _, rfl, _, _, rfl, rfl, ?_⟩
    refine ⟨_, rfl, rfl, _, rfl, ifN (by decide +kernel) ?_⟩
    refine ⟨_, rfl, rfl, _, rfl, ifN (by decide +kernel) ?_⟩
    refine ⟨_, rfl, rfl, _, rfl, ifS ?_⟩
    refine ⟨_, rfl, _, rfl, rfl, ?_⟩
    rw [dec_p]
    exact q
  | chosen m to =>
    refine ⟨.ref t, rfl, t, _, rfl, ht, rfl, _, _, rfl, _, _, rfl, _, _, rfl, _, _, rfl, rfl, ?_⟩
    refine ⟨_, rfl, rfl, _, rfl, ifN (by decide +kernel) ?_⟩
    refine ⟨_, rfl, rfl, _, rfl, ifN (by decide +kernel) ?_⟩
    refine ⟨_, rfl, rfl, _, rfl, ifN (by decide +kernel) ?_⟩
    refine ⟨_, rfl, rfl, _, rfl, ifS ?_⟩
    refine ⟨_, rfl, _, rfl, rfl, ?_⟩
    rw [dec_i]
    exact q
  | again to =>
    refine ⟨.ref t, rfl, t, _, rfl, ht, rfl, _, _, rfl, _, _, rfl, _, _, rfl, _, _, rfl, rfl, ?_⟩
    refine ⟨_, rfl, rfl, _, rfl, ifN (by decide +kernel) ?_⟩
    refine ⟨_, rfl, rfl, _, rfl, ifN (by decide +kernel) ?_⟩
    refine ⟨_, rfl, rfl, _, rfl, ifN (by decide +kernel) ?_⟩
    refine ⟨_, rfl, rfl, _, rfl, ifN (by decide +kernel) ?_⟩
    refine ⟨_, rfl, d, _, rfl, get_kvs hd m_views, _, rfl, d, _, rfl, get_kvs hd m_kept, rfl, ?_⟩
    rw [dec_i]
    exact q
theorem ok_target (T : Top K mg "target" st_target ["row"]) : Def P w K mg base 1 "target" ["row"] (spTarget K) := by
  refine T.ok sc_target (fun vs H Q E h => ?_) (fun f cdv A outer s H vs Q E hr h => ?_)
  · obtain ⟨t, r, rfl, _⟩ := h
    rfl
  obtain ⟨t, r, rfl, ht, n1, n2, n3, q⟩ := h
  refine ⟨_, (pss_cons (ps_if (pt_cmpR op_in_seq (pe_ix ix_tup (pv 0) pe_int (fun _ _ => rfl)) (pe_tup (pa_cons pe_str (pa_cons pe_str pa_nil))) (by with_unfolding_all rfl))
    (pss_one (ps_ret (pe_ix ix_tup (pv 0) pe_int (fun _ _ => rfl))))
    pss_nil)
    (pss_one (ps_ret (pe_ifExp (pt_cmpR op_in_seq (pe_ix ix_tup (pv 0) pe_int (fun _ _ => rfl)) (pe_tup (pa_cons pe_str (pa_cons pe_str pa_nil))) (by with_unfolding_all rfl)) (pe_ix ix_tup (pv 0) pe_int (fun _ _ => rfl)) (pe_ix ix_tup (pv 0) pe_int (fun _ _ => rfl)))))), ?_⟩
  cases r with
  | stop => exact absurd rfl n1
  | set n k => exact absurd rfl n2
  | mark => exact absurd rfl n3
  | tst al n k to =>
    refine ⟨.ref t, rfl, t, _, _, _, rfl, rfl, ht, atI_nat (j := 0) rfl, (by show 2 ≤ sizeLine; decide), fun p hp => ?_⟩
    refine ⟨p, _, rfl, .inr (SqT.of upd_same), rfl, rfl, _, rfl, ?_⟩
    have e : inV (V.str (if al = true then "all" else "none")) [.str "all", .str "none"] = true := by cases al <;> decide +kernel
    rw [if_neg Bool.false_ne_true, e]
    refine iteT ?_
    exact ⟨.ref t, rfl, t, _, _, _, rfl, rfl, sqT_same (Same.new hp) ht, atI_nat (j := 3) rfl, q _ (Same.new hp)⟩
  | who s' to =>
    refine ⟨.ref t, rfl, t, _, _, _, rfl, rfl, ht, atI_nat (j := 0) rfl, (by show 2 ≤ sizeLine; decide), fun p hp => ?_⟩
    refine ⟨p, _, rfl, .inr (SqT.of upd_same), rfl, rfl, _, rfl, ?_⟩
    have e : inV (V.str "who") [.str "all", .str "none"] = false := by decide +kernel
    rw [if_neg Bool.false_ne_true, e]
    refine iteF ?_
    refine ⟨.ref t, rfl, t, _, _, _, rfl, rfl, sqT_same (Same.new hp) ht, atI_nat (j := 0) rfl, (by show 2 ≤ sizeLine; decide), fun p2 hp2 => ?_⟩
    refine ⟨p2, _, rfl, .inr (SqT.of upd_same), rfl, rfl, _, rfl, ?_⟩
    have e2 : inV (V.str "who") [.str "who", .str "chosen"] = true := by decide +kernel
    rw [if_neg Bool.false_ne_true, e2]
    have sm := (Same.new (o := .tup [.str "all", .str "none"]) hp).trans (Same.new (o := .tup [.str "who", .str "chosen"]) hp2)
    exact iteT ⟨.ref t, rfl, t, _, _, _, rfl, rfl, sqT_same sm ht, atI_nat (j := 2) rfl, q _ sm⟩
  | chosen m to =>
    refine ⟨.ref t, rfl, t, _, _, _, rfl, rfl, ht, atI_nat (j := 0) rfl, (by show 2 ≤ sizeLine; decide), fun p hp => ?_⟩
    refine ⟨p, _, rfl, .inr (SqT.of upd_same), rfl, rfl, _, rfl, ?_⟩
    have e : inV (V.str "chosen") [.str "all", .str "none"] = false := by decide +kernel
    rw [if_neg Bool.false_ne_true, e]
    refine iteF ?_
    refine ⟨.ref t, rfl, t, _, _, _, rfl, rfl, sqT_same (Same.new hp) ht, atI_nat (j := 0) rfl, (by show 2 ≤ sizeLine; decide), fun p2 hp2 => ?_⟩
    refine ⟨p2, _, rfl, .inr (SqT.of upd_same), rfl, rfl, _, rfl, ?_⟩
    have e2 : inV (V.str "chosen") [.str "who", .str "chosen"] = true := by decide +kernel
    rw [if_neg Bool.false_ne_true, e2]
    have sm := (Same.new (o := .tup [.str "all", .str "none"]) hp).trans (Same.new (o := .tup [.str "who", .str "chosen"]) hp2)
    exact iteT ⟨.ref t, rfl, t, _, _, _, rfl, rfl, sqT_same sm ht, atI_nat (j := 2) rfl, q _ sm⟩
  | again to =>
    refine ⟨.ref t, rfl, t, _, _, _, rfl, rfl, ht, atI_nat (j := 0) rfl, (by show 2 ≤ sizeLine; decide), fun p hp => ?_⟩
    refine ⟨p, _, rfl, .inr (SqT.of upd_same), rfl, rfl, _, rfl, ?_⟩
    have e : inV (V.str "again") [.str "all", .str "none"] = false := by decide +kernel
    rw [if_neg Bool.false_ne_true, e]
    refine iteF ?_
    refine ⟨.ref t, rfl, t, _, _, _, rfl, rfl, sqT_same (Same.new hp) ht, atI_nat (j := 0) rfl, (by show 2 ≤ sizeLine; decide), fun p2 hp2 => ?_⟩
    refine ⟨p2, _, rfl, .inr (SqT.of upd_same), rfl, rfl, _, rfl, ?_⟩
    have e2 : inV (V.str "again") [.str "who", .str "chosen"] = false := by decide +kernel
    rw [if_neg Bool.false_ne_true, e2]
    have sm := (Same.new (o := .tup [.str "all", .str "none"]) hp).trans (Same.new (o := .tup [.str "who", .str "chosen"]) hp2)
    exact iteF ⟨.ref t, rfl, t, _, _, _, rfl, rfl, sqT_same sm ht, atI_nat (j := 1) rfl, q _ sm⟩
theorem RowsAt.at_ {K : PySem.W.Frag} {H : Hp} {refs : List V} {rows : List Row} (h : RowsAt K H refs rows) {pc : Nat} (hp : pc < rows.length) : ∃ r t, rows[pc]? = some r ∧ r.Ok ∧ atI refs (pc : Int) = some (V.ref t) ∧ SqT K H t r.toV := by
  obtain ⟨o, t, a, b⟩ := h.2 pc rows[pc] (List.getElem?_eq_getElem hp)
  exact ⟨_, t, List.getElem?_eq_getElem hp, o, atI_nat a, b⟩
theorem res_new {H H1 H' : Hp} {o : Option ((Str → Int) × Nat)} {v : V} (s : Same H H1) (h : Res H1 H' o v) : Res H H' o v := by
  cases o with
  | none => exact h
  | some p =>
    obtain ⟨d, e, n, k⟩ := h
    exact ⟨d, e, s.free n, k⟩
theorem merge_nd : ∀ (more acc : List (Key × V)), ((acc ++ more).map (·.1)).Nodup → mergeK acc more = acc ++ more
  | [], acc, _ => (List.append_nil acc).symm
  | p :: more, acc, h => by
    have out : valV acc p.1 = none := by
      cases e : valV acc p.1 with
      | none => rfl
      | some v =>
        exfalso
        rw [List.map_append, List.map_cons, List.nodup_append] at h
        exact h.2.2 _ (valV_in e) _ List.mem_cons_self rfl
    show mergeK (putK acc p.1 p.2) more = acc ++ p :: more
    rw [putK_new _ out, merge_nd more _ (by rw [List.append_assoc]; exact h), List.append_assoc]
    rfl
theorem merge_kvs (g : Str → Int) : mergeK [] (kvsOf g) = kvsOf g := by
  refine merge_nd _ [] ?_
  rw [List.nil_append]
  unfold kvsOf
  rw [List.map_map]
  have e : List.map ((fun x : Key × V => x.1) ∘ fun n => ((Sum.inr n : Key), V.int (g n))) REGS = REGS.map Sum.inr := rfl
  rw [e]
  decide +kernel
theorem m_steps : ("steps" : Str) ∉ REGS := by decide +kernel
theorem len_kvs (g : Str → Int) : (kvsOf g).length = 7 := rfl
def Row.word : Row → Str
  | .tst al _ _ _ => if al then "all" else "none"
  | .set _ _ => "set"
  | .who _ _ => "who"
  | .chosen _ _ => "chosen"
  | .mark => "mark"
  | .again _ => "again"
  | .stop => "stop"
theorem Row.head (r : Row) : atI r.toV 0 = some (.str r.word) := by cases r <;> exact atI_nat (j := 0) rfl
theorem Row.head0 (r : Row) : r.toV[0]? = some (.str r.word) := by cases r <;> rfl
structure Row.Test (r : Row) : Prop where
  n1 : r.word ≠ "stop"
  n2 : r.word ≠ "set"
  n3 : r.word ≠ "mark"
  st : isStop r = false
  ac : ∀ g, r.acts g = g
theorem tst_w {w : Str} (al : Bool) (h1 : ("all" : Str) ≠ w) (h2 : ("none" : Str) ≠ w) : (if al = true then ("all" : Str) else "none") ≠ w := by
  cases al
  · exact h2
  · exact h1
theorem Row.kinds (r : Row) : r = .stop ∨ (∃ n k, r = .set n k) ∨ r = .mark ∨ r.Test := by
  cases r with
  | stop => exact .inl rfl
  | set n k => exact .inr (.inl ⟨n, k, rfl⟩)
  | mark => exact .inr (.inr (.inl rfl))
  | tst al n k to => exact .inr (.inr (.inr ⟨tst_w al (by decide +kernel) (by decide +kernel), tst_w al (by decide +kernel) (by decide +kernel), tst_w al (by decide +kernel) (by decide +kernel), rfl, fun _ => rfl⟩))
  | who s to => exact .inr (.inr (.inr ⟨by show ("who" : Str) ≠ _; decide +kernel, by show ("who" : Str) ≠ _; decide +kernel, by show ("who" : Str) ≠ _; decide +kernel, rfl, fun _ => rfl⟩))
  | chosen s to => exact .inr (.inr (.inr ⟨by show ("chosen" : Str) ≠ _; decide +kernel, by show ("chosen" : Str) ≠ _; decide +kernel, by show ("chosen" : Str) ≠ _; decide +kernel, rfl, fun _ => rfl⟩))
  | again to => exact .inr (.inr (.inr ⟨by show ("again" : Str) ≠ _; decide +kernel, by show ("again" : Str) ≠ _; decide +kernel, by show ("again" : Str) ≠ _; decide +kernel, rfl, fun _ => rfl⟩))
theorem exec1_at {rows : List Row} {sec : Bool} {mv : Int} {m c pc : Nat} {g : Str → Int} {r : Row} (e : rows[pc]? = some r) : exec1 rows sec mv (m + 1) c pc g = if isStop r = true then some (g, c + 1) else exec1 rows sec mv m (c + 1) (if r.goes g sec mv = true then pc + 1 else r.tgt) (r.acts g) := by
  show (match rows[pc]? with
    | none => none
    | some r => if isStop r = true then some (g, c + 1) else exec1 rows sec mv m (c + 1) (if r.goes g sec mv = true then pc + 1 else r.tgt) (r.acts g)) = _
  rw [e]
theorem exec1_off {rows : List Row} {sec : Bool} {mv : Int} {m c pc : Nat} {g : Str → Int} (e : rows[pc]? = none) : exec1 rows sec mv (m + 1) c pc g = none := by
  show (match rows[pc]? with
    | none => none
    | some r => if isStop r = true then some (g, c + 1) else exec1 rows sec mv m (c + 1) (if r.goes g sec mv = true then pc + 1 else r.tgt) (r.acts g)) = _
  rw [e]
/-- what holds between two turns of the program's loop -/
def RunW (H : Hp) (t d : Addr) (n mv : Int) (most : Nat) (rows : List Row) (sec : Bool) (fin : Option ((Str → Int) × Nat)) (m : Nat) (σ : L2.St) (H' : Hp) : Prop :=
  ∃ (c pc : Nat) (g : Str → Int) (row : Option V), σ = [some (.ref t), some (.int n), some (.int mv), some (.int most), some (.ref d), some (.str (plr sec)), some (.int pc), some (.int c), row] ∧ Same H H' ∧ H' d = some (.dK (kvsOf g)) ∧
    c ≤ most ∧ m = most - c ∧ exec1 rows sec mv (most - c) c pc g = fin
theorem same_mut {H H' : Hp} {d : Addr} {o : HO} (s : Same H H') (n : H d = none) : Same H (upd H' d o) := fun b x e => by
  rw [upd_ne (ne_of_none e n)]
  exact s b x e
theorem ok_run (T : Top K mg "run" st_run ["rows", "number", "move", "most"]) (D_started : Def P w K mg base 1 "started" ["number"] spStarted) (D_goes_on : Def P w K mg base 1 "goes_on" ["registers", "who", "move", "row"] (spGoes K))
    (D_target : Def P w K mg base 1 "target" ["row"] (spTarget K)) (m_PL : mg "PLAYERS" = some (.ref aP)) (t_PL : ∀ H, SqT K H aP [.str "first", .str "second"]) (z_len : mg "len" = none) : Def P w K mg base 2 "run" ["rows", "number", "move", "most"] (spRun K) := by
  refine T.ok sc_run (fun vs H Q E h => ?_) (fun f cdv A outer s H vs Q E hr h => ?_)
  · obtain ⟨t, n, mv, most, refs, rows, rfl, _⟩ := h
    rfl
  obtain ⟨t, n, mv, most, refs, rows, rfl, ht, hR, q⟩ := h
  have hu := hu_of hr
  refine ⟨_, (pss_cons (ps_set (i := 4) sc_run.nd rfl (Or.inl rfl) (pe_def D_started (hr.mono (by decide)) rfl (pa_cons (pv 1) pa_nil)))
    (pss_cons (ps_set (i := 5) sc_run.nd rfl (Or.inl rfl) (pe_ix ix_tup (pe_glob (v := .ref aP) rfl m_PL rfl) (pe_op op_mod (pv 1) pe_int) (fun _ _ => rfl)))
    (pss_cons (ps_set (i := 6) sc_run.nd rfl (Or.inl rfl) pe_int)
    (pss_cons (ps_set (i := 7) sc_run.nd rfl (Or.inl rfl) pe_int)
    (pss_cons (ps_while PassesOwn.never (PW.pt (pw_and (pt_cmpR op_lt (pv 7) (pv 3) (nomark _)) (pw_and1 (pt_cmpR op_lt (pv 6) (pe_callB call_len_seq rfl z_len (by decide +kernel) (pa_cons (pv 0) pa_nil)) (nomark _)))))
    (pss_cons (ps_set (i := 8) sc_run.nd rfl (Or.inl rfl) (pe_ix ix_tup (pv 0) (pv 6) (fun _ _ => rfl)))
      (pss_cons (ps_set (i := 7) sc_run.nd rfl (Or.inl rfl) (pe_op op_add (pv 7) pe_int))
      (pss_cons (ps_set (i := 6) sc_run.nd rfl (Or.inl rfl) (pe_op op_add (pv 6) pe_int))
      (pss_cons (ps_if (pt_cmpR op_eq (pe_ix ix_tup (pv 8) pe_int (fun _ _ => rfl)) pe_str (nomark _))
      (pss_one (ps_ret (pe_star (pv 4) pe_str (pv 7))))
      pss_nil)
      (pss_one (ps_if (pt_cmpR op_eq (pe_ix ix_tup (pv 8) pe_int (fun _ _ => rfl)) pe_str (nomark _))
      (pss_one (ps_dput hu (pv 4) (pe_ix ix_tup (pv 8) pe_int (fun _ _ => rfl)) (pe_op op_or (pe_dget hu (pv 4) (pe_ix ix_tup (pv 8) pe_int (fun _ _ => rfl)) (fun _ _ => rfl)) (pe_ix ix_tup (pv 8) pe_int (fun _ _ => rfl))) rfl))
      (pss_one (ps_if (pt_cmpR op_eq (pe_ix ix_tup (pv 8) pe_int (fun _ _ => rfl)) pe_str (nomark _))
        (pss_one (ps_dput hu (pv 4) pe_str (pe_dget hu (pv 4) pe_str (fun _ _ => rfl)) rfl))
        (pss_one (ps_if (pt_not (pt_val (pe_def D_goes_on (hr.mono (by decide)) rfl (pa_cons (pv 4) (pa_cons (pv 5) (pa_cons (pv 2) (pa_cons (pv 8) pa_nil)))))))
          (pss_one (ps_set (i := 6) sc_run.nd rfl (Or.inl rfl) (pe_def D_target (hr.mono (by decide)) rfl (pa_cons (pv 8) pa_nil))))
          pss_nil)))))))))))
    (pss_one (ps_ret pe_non))))))), ?_⟩
  -- registers = started(number)
  refine ⟨_, rfl, n, rfl, fun d H1 nd off hd => ?_⟩
  have s1 : Same H H1 := fun b x e => off.get (ne_of_none e nd) e
  -- who = PLAYERS[number % 2]
  obtain ⟨sec, hsec, epl⟩ : ∃ sec : Bool, sec = decide (n % 2 = 1) ∧ atI [V.str "first", V.str "second"] (n % 2) = some (.str (plr sec)) := by
    rcases Int.emod_two_eq n with e | e
    · exact ⟨false, by rw [e]; rfl, by rw [e]; rfl⟩
    · exact ⟨true, by rw [e]; rfl, by rw [e]; rfl⟩
  refine ⟨_, rfl, _, _, rfl, rfl, (by show (0 : Int) < 2; decide), aP, _, _, _, rfl, rfl, t_PL _, epl, ?_⟩
  -- at = 0; steps = 0; while
  have nd0 : H d = none := nd
  refine ⟨RunW H t d n mv most rows sec (exec1 rows (decide (n % 2 = 1)) mv most 0 0 (g0 n)), ⟨most, 0, 0, g0 n, none, rfl, s1, hd, Nat.zero_le _, rfl, by rw [hsec]; rfl⟩, ?_⟩
  rintro m σ H' ⟨c, pc, g, row, rfl, sm, hd', hc, rfl, ex⟩
  refine ⟨_, rfl, _, rfl, _, _, rfl, rfl, _, rfl, ite2 (fun cc => ?_) (fun cc => ?_)⟩
  · have lt : c < most := by
      have := of_decide_eq_true cc
      omega
    obtain ⟨k, hk⟩ : ∃ k, most - c = k + 1 := ⟨most - c - 1, by omega⟩
    rw [hk] at ex
    refine ⟨_, rfl, .ref t, rfl, t, _, rfl, .inr (sqT_same sm ht), _, _, rfl, rfl, _, rfl, ite2 (fun c2 => ?_) (fun c2 => ?_)⟩
    · have l2 : pc < rows.length := by
        have := of_decide_eq_true c2
        rw [hR.1] at this
        omega
      obtain ⟨r, tr, er, ok, at_, hr⟩ := (hR.same sm).at_ l2
      refine ⟨RunW H t d n mv most rows sec (exec1 rows (decide (n % 2 = 1)) mv most 0 0 (g0 n)) (most - (c + 1)), fun σ' G w => ⟨_, by omega, w⟩, ?_⟩
      have ek : most - (c + 1) = k := by omega
      -- row = rows[at]; steps, at
      refine ⟨.ref t, rfl, _, rfl, t, _, _, _, rfl, rfl, sqT_same sm ht, at_, ?_⟩
      refine ⟨_, rfl, _, _, rfl, rfl, _, rfl, _, _, rfl, rfl, ?_⟩
      -- if row[0] == 'stop'
      refine ⟨.ref tr, rfl, tr, _, _, _, rfl, rfl, hr, r.head, rfl, _, rfl, ?_⟩
      rw [exec1_at er] at ex
      rcases r.kinds with rfl | ⟨n', k', rfl⟩ | rfl | tst
      · -- stop
        refine ifS ?_
        intro p hp
        have ndp : d ≠ p := ne_of_none hd' hp
        have hd2 : (upd H' p (.dK [])) d = some (.dK (kvsOf g)) := by
          rw [upd_ne ndp]
          exact hd'
        refine ⟨.ref d, rfl, d, kvsOf g, rfl, ndp, hd2, upd_same, small1000 (by rw [len_kvs]; decide), fun p2 hp2 => ⟨_, rfl, Sum.inr "steps", rfl, upd_same, ?_, ?_⟩⟩
        · have npp : p ≠ p2 := ne_of_none upd_same hp2
          rw [upd_ne npp, upd_same]
        · have n2 : p2 ≠ p := fun z => by
            subst z
            rw [upd_same] at hp2
            cases hp2
          have hp0 : H' p2 = none := by
            rw [upd_ne n2, upd_ne n2] at hp2
            exact hp2
          have hs : Same H (upd (upd (upd (upd (upd H' p (.dK [])) p (.dK (mergeK [] (kvsOf g)))) p2 (.dK [])) p2 (.dK [((Sum.inr "steps" : Key), V.int ((c : Int) + 1))])) p (.dK (putK (mergeK [] (kvsOf g)) (Sum.inr "steps") (V.int ((c : Int) + 1))))) :=
            same_mut (same_mut (same_mut (same_mut (same_mut sm (sm.free hp)) (sm.free hp)) (sm.free hp0)) (sm.free hp0)) (sm.free hp)
          refine q (.ref p) _ hs ?_
          rw [← ex]
          refine ⟨p, rfl, sm.free hp, ?_⟩
          have vn : valV (kvsOf g) (Sum.inr "steps") = none := val_out g "steps" REGS m_steps
          rw [upd_same, merge_kvs, putK_new _ vn]
          rfl
      · -- set
        have mn : n' ∈ REGS := ok
        refine ifN (show ("set" : Str) ≠ "stop" by decide +kernel) ?_
        refine ⟨.ref tr, rfl, tr, _, _, _, rfl, rfl, hr, Row.head _, rfl, _, rfl, ifS ?_⟩
        refine ⟨.ref d, rfl, .ref tr, rfl, tr, _, _, _, rfl, rfl, hr, atI_nat (j := 1) rfl, d, _, rfl, get_kvs hd' mn, .ref tr, rfl, tr, _, _, _, rfl, rfl, hr, atI_nat (j := 2) rfl, _, _, rfl, rfl, ?_⟩
        refine ⟨.ref d, rfl, .ref tr, rfl, tr, _, _, _, rfl, rfl, hr, atI_nat (j := 1) rfl, d, _, rfl, DPut.k (k := Sum.inr n') hd' (small1000 (by rw [len_kvs]; decide)), ?_⟩
        refine ⟨c + 1, pc + 1, put1 g n' (Builtin.bitOr (g n') k'), _, rfl, same_mut sm nd0, ?_, lt, rfl, ?_⟩
        · rw [upd_same, put_kvs mn]
        · rw [ek]
          exact ex
      · -- mark
        refine ifN (by decide +kernel) ?_
        refine ⟨.ref tr, rfl, tr, _, _, _, rfl, rfl, hr, Row.head _, rfl, _, rfl, ifN (by decide +kernel) ?_⟩
        refine ⟨.ref tr, rfl, tr, _, _, _, rfl, rfl, hr, Row.head _, rfl, _, rfl, ifS ?_⟩
        refine ⟨.ref d, rfl, d, _, rfl, get_kvs hd' m_views, .ref d, rfl, d, _, rfl, DPut.k (k := Sum.inr "kept") hd' (small1000 (by rw [len_kvs]; decide)), ?_⟩
        refine ⟨c + 1, pc + 1, put1 g "kept" (g "views"), _, rfl, same_mut sm nd0, ?_, lt, rfl, ?_⟩
        · rw [upd_same, put_kvs m_kept]
        · rw [ek]
          exact ex
      · -- a row that tests
        refine ifN tst.n1 ?_
        refine ⟨.ref tr, rfl, tr, _, _, _, rfl, rfl, hr, r.head, rfl, _, rfl, ifN tst.n2 ?_⟩
        refine ⟨.ref tr, rfl, tr, _, _, _, rfl, rfl, hr, r.head, rfl, _, rfl, ifN tst.n3 ?_⟩
        have y : ∀ w : Str, r.word ≠ w → r.toV[0]? ≠ some (.str w) := fun w nw z => by
          rw [r.head0] at z
          exact nw (V.str.inj (Option.some.inj z))
        rw [if_neg (by rw [tst.st]; exact Bool.false_ne_true), tst.ac] at ex
        refine ⟨.ref d, rfl, _, rfl, _, rfl, .ref tr, rfl, d, tr, sec, mv, g, r, rfl, hd', hr, ok, y _ tst.n1, y _ tst.n2, y _ tst.n3, _, rfl, ?_⟩
        cases go : r.goes g sec mv with
        | true =>
          rw [go, if_pos rfl] at ex
          refine iteF ⟨c + 1, pc + 1, g, _, rfl, sm, hd', lt, rfl, ?_⟩
          rw [ek]
          exact ex
        | false =>
          rw [go, if_neg Bool.false_ne_true] at ex
          refine iteT ⟨.ref tr, rfl, tr, r, rfl, hr, y _ tst.n1, y _ tst.n2, y _ tst.n3, fun G sg => ?_⟩
          refine ⟨c + 1, r.tgt, g, _, rfl, sm.trans sg, sg _ _ hd', lt, rfl, ?_⟩
          rw [ek]
          exact ex
    · have l2 : rows.length ≤ pc := by
        have := of_decide_eq_false (Bool.eq_false_iff.mpr c2)
        rw [hR.1] at this
        omega
      rw [exec1_off (List.getElem?_eq_none l2)] at ex
      exact q .non _ sm (by rw [← ex]; rfl)
  · have e0 : most - c = 0 := by
      have := of_decide_eq_false (Bool.eq_false_iff.mpr cc)
      omega
    rw [e0] at ex
    exact q .non _ sm (by rw [← ex]; rfl)
def spSteps (K : PySem.W.Frag) : Sp := fun vs H Q _ => ∃ (t : Addr) (xs : List V) (v : Int), vs = [.ref t, .int v] ∧ SqT K H t xs ∧ (0 ≤ v ∧ v < 1000000) ∧ Q (.int (((xs.length : Int) + 1) * (v + 2))) H
theorem ok_steps (T : Top K mg "most_steps" st_most_steps ["rows", "views"]) (z_len : mg "len" = none) : Def P w K mg base 1 "most_steps" ["rows", "views"] (spSteps K) := by
  refine T.ok sc_most_steps (fun vs H Q E h => ?_) (fun f cdv A outer s H vs Q E hr h => ?_)
  · obtain ⟨t, xs, v, rfl, _⟩ := h
    rfl
  obtain ⟨t, xs, v, rfl, ht, hv, q⟩ := h
  refine ⟨_, (pss_one (ps_ret (pe_op op_mul (pe_op op_add (pe_callB call_len_seq rfl z_len (by decide +kernel) (pa_cons (pv 0) pa_nil)) pe_int) (pe_op op_add (pv 1) pe_int)))), ?_⟩
  exact ⟨.ref t, rfl, t, xs, rfl, .inr ht, _, _, rfl, rfl, _, rfl, _, _, rfl, rfl, _, _, rfl, rfl, .inr ⟨by omega, by omega⟩, q⟩
end
end My
set_option Elab.async false
set_option linter.all false
set_option maxRecDepth 100000
set_option maxHeartbeats 4000000
/-! The law's own comparing and running -/
namespace My
open PySem PySem.Spec PyProof.Rows L2
abbrev st_law_same : Stmt := topS 15
theorem sc_law_same : FnScope ["due", "answer", "key", "k"] ["due", "answer"] (defScope st_law_same) := ⟨rfl, rfl, rfl, by decide +kernel, rfl, by decide +kernel, by decide +kernel⟩
abbrev st_law_run : Stmt := topS 16
theorem sc_law_run : FnScope ["rows", "number", "move", "most", "names", "held", "name", "who", "at", "count", "word", "a", "b", "c"] ["rows", "number", "move", "most"] (defScope st_law_run) := ⟨rfl, rfl, rfl, by decide +kernel, rfl, by decide +kernel, by decide +kernel⟩
/-- two ints, or nothing on both sides -/
def spSame1 : Sp := fun vs H Q _ => ((∃ i : Int, vs = [.int i, .int i]) ∨ vs = [.non, .non]) ∧ Q (.bl true) H
/-- .. or two dicts of the same ints -/
def spSame2 : Sp := fun vs H Q _ => (((∃ i : Int, vs = [.int i, .int i]) ∨ vs = [.non, .non]) ∧ Q (.bl true) H) ∨ (∃ (a b : Addr) (kvs : List (Key × V)), vs = [.ref a, .ref b] ∧ a ≠ b ∧ H a = some (.dK kvs) ∧ H b = some (.dK kvs) ∧ (kvs.map (·.1)).Nodup ∧ (∀ p ∈ kvs, ∃ i, p.2 = .int i) ∧
  ∀ H', Same H H' → Q (.bl true) H')
theorem val_nd : ∀ (kvs : List (Key × V)), (kvs.map (·.1)).Nodup → ∀ k v, (k, v) ∈ kvs → valV kvs k = some v
  | [], _, _, _, h => by cases h
  | p :: kvs, n, k, v, h => by
    rw [List.map_cons, List.nodup_cons] at n
    rcases List.mem_cons.mp h with e | e
    · subst e
      exact valV_pos rfl
    · rw [valV_neg (fun z => n.1 (by rw [z]; exact List.mem_map.mpr ⟨_, e, rfl⟩))]
      exact val_nd kvs n.2 k v e
section
variable {P : Program} {w : World} {K : PySem.W.Frag} {mg : Str → Option Value} {base : Heap}
structure Zs (mg : Str → Option Value) : Prop where
  isi : mg "isinstance" = none
  dict : mg "dict" = none
  list : mg "list" = none
  tuple : mg "tuple" = none
  bool : mg "bool" = none
  str : mg "str" = none
  int : mg "int" = none
  len : mg "len" = none
  range : mg "range" = none
  min : mg "min" = none
theorem isi {H : Hp} {x : V} {t n : String} {b : Bool} {Q : VK} (ty : TyOf K H x (.type t)) (k : kitB t n = some b) (q : Q (.bl b) H) : rIsi K [x, .ty n] H Q := ⟨x, .ty n, .type t, .type n, b, rfl, .ty n, .base ty, kit_ty k, q⟩
theorem ok_same1 (T : Top K mg "_law_same" st_law_same ["due", "answer"]) (Z : Zs mg) : Def P w K mg base 1 "_law_same" ["due", "answer"] spSame1 := by
  have ⟨z_isinstance, z_dict, z_list, z_tuple, z_bool, z_str, z_int, z_len, _, _⟩ := Z
  refine T.ok sc_law_same (fun vs H Q E h => ?_) (fun f cdv A outer s H vs Q E hr h => ?_)
  · obtain ⟨⟨i, rfl⟩ | rfl, _⟩ := h <;> rfl
  have hu := hu_of hr
  refine ⟨_, (pss_cons (ps_if (pt_val (pe_callB call_isi rfl z_isinstance (by decide +kernel) (pa_cons (pv 0) (pa_cons (pe_bltn (v := .ty "dict") rfl z_dict (by decide +kernel) rfl) pa_nil))))
    pss_never
    pss_nil)
    (pss_cons (ps_if (PW.pt (pw_or (pt_val (pe_callB call_isi rfl z_isinstance (by decide +kernel) (pa_cons (pv 0) (pa_cons (pe_bltn (v := .ty "list") rfl z_list (by decide +kernel) rfl) pa_nil)))) (pw_or1 (pt_val (pe_callB call_isi rfl z_isinstance (by decide +kernel) (pa_cons (pv 0) (pa_cons (pe_bltn (v := .ty "tuple") rfl z_tuple (by decide +kernel) rfl) pa_nil)))))))
    pss_never
    pss_nil)
    (pss_cons (ps_if (PW.pt (pw_or (pt_cmpR op_isN (pv 0) pe_non (nomark _)) (pw_or1 (pt_cmpR op_isN (pv 1) pe_non (nomark _)))))
    (pss_one (ps_ret (pe_and (pe_cmpR op_isN (pv 0) pe_non (nomark _)) (pe_one (pe_cmpR op_isN (pv 1) pe_non (nomark _))))))
    pss_nil)
    (pss_cons (ps_if (PW.pt (pw_or (pt_val (pe_callB call_isi rfl z_isinstance (by decide +kernel) (pa_cons (pv 0) (pa_cons (pe_bltn (v := .ty "bool") rfl z_bool (by decide +kernel) rfl) pa_nil)))) (pw_or1 (pt_val (pe_callB call_isi rfl z_isinstance (by decide +kernel) (pa_cons (pv 1) (pa_cons (pe_bltn (v := .ty "bool") rfl z_bool (by decide +kernel) rfl) pa_nil)))))))
    (pss_one (ps_ret (pe_and (pe_callB call_isi rfl z_isinstance (by decide +kernel) (pa_cons (pv 0) (pa_cons (pe_bltn (v := .ty "bool") rfl z_bool (by decide +kernel) rfl) pa_nil))) (pe_and (pe_callB call_isi rfl z_isinstance (by decide +kernel) (pa_cons (pv 1) (pa_cons (pe_bltn (v := .ty "bool") rfl z_bool (by decide +kernel) rfl) pa_nil))) (pe_one (pe_cmpR op_eq (pv 0) (pv 1) (nomark _)))))))
    pss_nil)
    (pss_cons (ps_if (pt_val (pe_callB call_isi rfl z_isinstance (by decide +kernel) (pa_cons (pv 0) (pa_cons (pe_bltn (v := .ty "str") rfl z_str (by decide +kernel) rfl) pa_nil))))
    (pss_one (ps_ret (pe_and (pe_callB call_isi rfl z_isinstance (by decide +kernel) (pa_cons (pv 1) (pa_cons (pe_bltn (v := .ty "str") rfl z_str (by decide +kernel) rfl) pa_nil))) (pe_one (pe_cmpR op_eq (pv 0) (pv 1) (nomark _))))))
    pss_nil)
    (pss_one (ps_ret (pe_and (pe_callB call_isi rfl z_isinstance (by decide +kernel) (pa_cons (pv 1) (pa_cons (pe_bltn (v := .ty "int") rfl z_int (by decide +kernel) rfl) pa_nil))) (pe_one (pe_cmpR op_eq (pv 0) (pv 1) (nomark _))))))))))), ?_⟩
  obtain ⟨⟨i, rfl⟩ | rfl, q⟩ := h
  · -- int
    refine ⟨_, rfl, _, _, _, _, false, rfl, .ty _, .base (.int i), kit_ty (by decide +kernel), _, rfl, iteF ?_⟩
    refine ⟨_, rfl, _, _, _, _, false, rfl, .ty _, .base (.int i), kit_ty (by decide +kernel), _, rfl, iteF ⟨_, rfl, _, _, _, _, false, rfl, .ty _, .base (.int i), kit_ty (by decide +kernel), _, rfl, iteF ?_⟩⟩
    refine ⟨_, rfl, rfl, _, rfl, iteF ⟨_, rfl, rfl, _, rfl, iteF ?_⟩⟩
    refine ⟨_, rfl, _, _, _, _, false, rfl, .ty _, .base (.int i), kit_ty (by decide +kernel), _, rfl, iteF ⟨_, rfl, _, _, _, _, false, rfl, .ty _, .base (.int i), kit_ty (by decide +kernel), _, rfl, iteF ?_⟩⟩
    refine ⟨_, rfl, _, _, _, _, false, rfl, .ty _, .base (.int i), kit_ty (by decide +kernel), _, rfl, iteF ?_⟩
    refine ⟨_, rfl, _, _, _, _, true, rfl, .ty _, .base (.int i), kit_ty (by decide +kernel), _, rfl, iteT ⟨_, rfl, _, rfl, rfl, ?_⟩⟩
    rw [decide_eq_true rfl]
    exact q
  · -- NoneType
    refine ⟨_, rfl, _, _, _, _, false, rfl, .ty _, .base .non, kit_ty (by decide +kernel), _, rfl, iteF ?_⟩
    refine ⟨_, rfl, _, _, _, _, false, rfl, .ty _, .base .non, kit_ty (by decide +kernel), _, rfl, iteF ⟨_, rfl, _, _, _, _, false, rfl, .ty _, .base .non, kit_ty (by decide +kernel), _, rfl, iteF ?_⟩⟩
    refine ⟨_, rfl, rfl, _, rfl, iteT (iteT ?_)⟩
    exact ⟨_, rfl, rfl, _, rfl, iteT ⟨_, rfl, rfl, q⟩⟩
theorem ok_same2 (T : Top K mg "_law_same" st_law_same ["due", "answer"]) (Z : Zs mg) : Def P w K mg base 2 "_law_same" ["due", "answer"] spSame2 := by
  have D1 : Def P w K mg base 1 "_law_same" ["due", "answer"] spSame1 := ok_same1 T Z
  have ⟨z_isinstance, z_dict, z_list, z_tuple, z_bool, z_str, z_int, z_len, _, _⟩ := Z
  refine T.ok sc_law_same (fun vs H Q E h => ?_) (fun f cdv A outer s H vs Q E hr h => ?_)
  · rcases h with ⟨⟨i, rfl⟩ | rfl, _⟩ | ⟨a, b, kvs, rfl, _⟩ <;> rfl
  have hu := hu_of hr
  have D_law_same := D1
  refine ⟨_, (pss_cons (ps_if (pt_val (pe_callB call_isi rfl z_isinstance (by decide +kernel) (pa_cons (pv 0) (pa_cons (pe_bltn (v := .ty "dict") rfl z_dict (by decide +kernel) rfl) pa_nil))))
    (pss_cons (ps_if (PW.pt (pw_or (pt_not (pt_val (pe_callB call_isi rfl z_isinstance (by decide +kernel) (pa_cons (pv 1) (pa_cons (pe_bltn (v := .ty "dict") rfl z_dict (by decide +kernel) rfl) pa_nil))))) (pw_or1 (pt_cmpR op_ne (pe_callB call_lenD rfl z_len (by decide +kernel) (pa_cons (pv 0) pa_nil)) (pe_callB call_lenD rfl z_len (by decide +kernel) (pa_cons (pv 1) pa_nil)) (nomark _)))))
      (pss_one (ps_ret pe_bl))
      pss_nil)
      (pss_cons (ps_lock (ps_for PassesOwn.never rfl (pi_keys (pv 0)) (pg_name (i := 2) sc_law_same.nd rfl (Or.inl rfl))
      (pss_one (ps_if (PW.pt (pw_or (pt_cmp (pc_dnotin hu (pv 2) (pv 1))) (pw_or1 (pt_not (pt_val (pe_def D_law_same (hr.mono (by decide)) rfl (pa_cons (pe_dget hu (pv 0) (pv 2) (fun _ _ => rfl)) (pa_cons (pe_dget hu (pv 1) (pv 2) (fun _ _ => rfl)) pa_nil))))))))
        (pss_one (ps_ret pe_bl))
        pss_nil))))
      (pss_one (ps_ret pe_bl))))
    pss_nil)
    (pss_cons (ps_if (PW.pt (pw_or (pt_val (pe_callB call_isi rfl z_isinstance (by decide +kernel) (pa_cons (pv 0) (pa_cons (pe_bltn (v := .ty "list") rfl z_list (by decide +kernel) rfl) pa_nil)))) (pw_or1 (pt_val (pe_callB call_isi rfl z_isinstance (by decide +kernel) (pa_cons (pv 0) (pa_cons (pe_bltn (v := .ty "tuple") rfl z_tuple (by decide +kernel) rfl) pa_nil)))))))
    pss_never
    pss_nil)
    (pss_cons (ps_if (PW.pt (pw_or (pt_cmpR op_isN (pv 0) pe_non (nomark _)) (pw_or1 (pt_cmpR op_isN (pv 1) pe_non (nomark _)))))
    (pss_one (ps_ret (pe_and (pe_cmpR op_isN (pv 0) pe_non (nomark _)) (pe_one (pe_cmpR op_isN (pv 1) pe_non (nomark _))))))
    pss_nil)
    (pss_cons (ps_if (PW.pt (pw_or (pt_val (pe_callB call_isi rfl z_isinstance (by decide +kernel) (pa_cons (pv 0) (pa_cons (pe_bltn (v := .ty "bool") rfl z_bool (by decide +kernel) rfl) pa_nil)))) (pw_or1 (pt_val (pe_callB call_isi rfl z_isinstance (by decide +kernel) (pa_cons (pv 1) (pa_cons (pe_bltn (v := .ty "bool") rfl z_bool (by decide +kernel) rfl) pa_nil)))))))
    (pss_one (ps_ret (pe_and (pe_callB call_isi rfl z_isinstance (by decide +kernel) (pa_cons (pv 0) (pa_cons (pe_bltn (v := .ty "bool") rfl z_bool (by decide +kernel) rfl) pa_nil))) (pe_and (pe_callB call_isi rfl z_isinstance (by decide +kernel) (pa_cons (pv 1) (pa_cons (pe_bltn (v := .ty "bool") rfl z_bool (by decide +kernel) rfl) pa_nil))) (pe_one (pe_cmpR op_eq (pv 0) (pv 1) (nomark _)))))))
    pss_nil)
    (pss_cons (ps_if (pt_val (pe_callB call_isi rfl z_isinstance (by decide +kernel) (pa_cons (pv 0) (pa_cons (pe_bltn (v := .ty "str") rfl z_str (by decide +kernel) rfl) pa_nil))))
    (pss_one (ps_ret (pe_and (pe_callB call_isi rfl z_isinstance (by decide +kernel) (pa_cons (pv 1) (pa_cons (pe_bltn (v := .ty "str") rfl z_str (by decide +kernel) rfl) pa_nil))) (pe_one (pe_cmpR op_eq (pv 0) (pv 1) (nomark _))))))
    pss_nil)
    (pss_one (ps_ret (pe_and (pe_callB call_isi rfl z_isinstance (by decide +kernel) (pa_cons (pv 1) (pa_cons (pe_bltn (v := .ty "int") rfl z_int (by decide +kernel) rfl) pa_nil))) (pe_one (pe_cmpR op_eq (pv 0) (pv 1) (nomark _))))))))))), ?_⟩
  rcases h with ⟨⟨i, rfl⟩ | rfl, q⟩ | ⟨a, b, kvs, rfl, nab, ha, hb, nd, allI, q⟩
  · -- int
    refine ⟨_, rfl, _, _, _, _, false, rfl, .ty _, .base (.int i), kit_ty (by decide +kernel), _, rfl, iteF ?_⟩
    refine ⟨_, rfl, _, _, _, _, false, rfl, .ty _, .base (.int i), kit_ty (by decide +kernel), _, rfl, iteF ⟨_, rfl, _, _, _, _, false, rfl, .ty _, .base (.int i), kit_ty (by decide +kernel), _, rfl, iteF ?_⟩⟩
    refine ⟨_, rfl, rfl, _, rfl, iteF ⟨_, rfl, rfl, _, rfl, iteF ?_⟩⟩
    refine ⟨_, rfl, _, _, _, _, false, rfl, .ty _, .base (.int i), kit_ty (by decide +kernel), _, rfl, iteF ⟨_, rfl, _, _, _, _, false, rfl, .ty _, .base (.int i), kit_ty (by decide +kernel), _, rfl, iteF ?_⟩⟩
    refine ⟨_, rfl, _, _, _, _, false, rfl, .ty _, .base (.int i), kit_ty (by decide +kernel), _, rfl, iteF ?_⟩
    refine ⟨_, rfl, _, _, _, _, true, rfl, .ty _, .base (.int i), kit_ty (by decide +kernel), _, rfl, iteT ⟨_, rfl, _, rfl, rfl, ?_⟩⟩
    rw [decide_eq_true rfl]
    exact q
  · -- NoneType
    refine ⟨_, rfl, _, _, _, _, false, rfl, .ty _, .base .non, kit_ty (by decide +kernel), _, rfl, iteF ?_⟩
    refine ⟨_, rfl, _, _, _, _, false, rfl, .ty _, .base .non, kit_ty (by decide +kernel), _, rfl, iteF ⟨_, rfl, _, _, _, _, false, rfl, .ty _, .base .non, kit_ty (by decide +kernel), _, rfl, iteF ?_⟩⟩
    refine ⟨_, rfl, rfl, _, rfl, iteT (iteT ?_)⟩
    exact ⟨_, rfl, rfl, _, rfl, iteT ⟨_, rfl, rfl, q⟩⟩
  · refine ⟨_, rfl, _, _, _, _, true, rfl, .ty _, .base (.dK ha), kit_ty (by decide +kernel), _, rfl, iteT ?_⟩
    -- not isinstance(answer, dict) or len(due) != len(answer)
    refine ⟨_, rfl, _, _, _, _, true, rfl, .ty _, .base (.dK hb), kit_ty (by decide +kernel), _, rfl, iteF ?_⟩
    refine ⟨_, rfl, a, kvs, rfl, ha, _, rfl, b, kvs, rfl, hb, rfl, _, rfl, ?_⟩
    rw [decide_eq_true rfl]
    refine iteF ?_
    refine ⟨a, .dK kvs, ha, trivial, fun od => ?_⟩
    have hb1 : (upd H a (.frz od (.dK kvs))) b = some (.dK kvs) := by
      rw [upd_ne (Ne.symm nab)]
      exact hb
    refine ⟨.ref a, rfl, a, od, rfl, .inl ⟨kvs, upd_same, for_keys (d := a) (o := od) (fun i σ H' => ∃ x : Option V, σ = [some (.ref a), some (.ref b), x, none] ∧ Same (upd H a (.frz od (.dK kvs))) H') ⟨none, rfl, Same.refl _⟩ (fun i σ H' ⟨x, _, sm⟩ => sm _ _ upd_same) ?_ ?_⟩⟩
    · rintro i k v σ H' hk ⟨x, rfl, sm⟩
      have mem : (k, v) ∈ kvs := List.mem_of_getElem? hk
      obtain ⟨z, ez⟩ := allI _ mem
      have hv : valV kvs k = some v := val_nd kvs nd k v mem
      have g1 : DGet H' b (kV k) (some v) := by
        have y := DGet.k (k := k) (sm _ _ hb1)
        rw [hv] at y
        exact y
      have g2 : DGet H' a (kV k) (some v) := .inl ⟨kvs, k, .inr ⟨od, sm _ _ upd_same⟩, rfl, hv.symm⟩
      refine ⟨_, rfl, .ref b, rfl, b, _, rfl, g1, _, rfl, iteF ?_⟩
      have ez : v = .int z := ez
      refine ⟨.ref a, rfl, _, rfl, a, _, rfl, g2, .ref b, rfl, _, rfl, b, _, rfl, g1, .inl ⟨z, by rw [ez]; rfl⟩, _, rfl, iteF ?_⟩
      exact ⟨_, rfl, sm⟩
    · rintro σ H' ⟨x, rfl, sm⟩
      refine ⟨sm _ _ upd_same, q _ fun c o e => ?_⟩
      by_cases ca : c = a
      · subst ca
        rw [upd_same, ← ha]
        exact e
      · rw [upd_ne ca]
        exact sm _ _ (by rw [upd_ne ca]; exact e)
def spLRun (K : PySem.W.Frag) : Sp := fun vs H Q _ => ∃ (o : Addr) (n mv : Int) (most : Nat) (refs : List V) (rows : List Row), vs = [.ref o, .int n, .int mv, .int most] ∧ SqL K H o refs ∧ RowsAt K H refs rows ∧ most ≤ 1000 ∧
  ∀ v H', Same H H' → Res H H' (exec1 rows (decide (n % 2 = 1)) mv most 0 0 (g0 n)) v → Q v H'
theorem ifB {c A B : Prop} [Decidable c] {b : Bool} (h : decide c = b) (k : if b = true then A else B) : if decide c = true then A else B := by
  rw [h]
  exact k
theorem ifnB {c A B : Prop} [Decidable c] {b : Bool} (h : decide c = b) (k : if b = true then B else A) : if (!decide c) = true then A else B := by
  rw [h]
  cases b
  · exact iteT k
  · exact iteF k
theorem ifD {c A B : Prop} [Decidable c] (h : c) (a : A) : if decide c = true then A else B := by
  rw [decide_eq_true h]
  exact iteT a
theorem ifND {c A B : Prop} [Decidable c] (h : ¬ c) (b : B) : if decide c = true then A else B := by
  rw [decide_eq_false h]
  exact iteF b
theorem ifnD {c A B : Prop} [Decidable c] (h : c) (b : B) : if (!decide c) = true then A else B := by
  rw [decide_eq_true h]
  exact iteF b
theorem ifnND {c A B : Prop} [Decidable c] (h : ¬ c) (a : A) : if (!decide c) = true then A else B := by
  rw [decide_eq_false h]
  exact iteT a
def LRunP (H : Hp) (o d l : Addr) (n mv : Int) (most : Nat) (rows : List Row) (sec : Bool) (fin : Option ((Str → Int) × Nat)) (i : Nat) (σ : L2.St) (H' : Hp) : Prop :=
  ∃ (pc : Nat) (g : Str → Int) (x6 x9 x10 x11 x12 x13 : Option V), σ = [some (.ref o), some (.int n), some (.int mv), some (.int most), some (.ref l), some (.ref d), x6, some (.str (plr sec)), some (.int pc), x9, x10, x11, x12, x13] ∧ Same H H' ∧ H' d = some (.dK (kvsOf g)) ∧
    exec1 rows sec mv (most - i) i pc g = fin
theorem ok_lrun (T : Top K mg "_law_run" st_law_run ["rows", "number", "move", "most"]) (Z : Zs mg) : Def P w K mg base 1 "_law_run" ["rows", "number", "move", "most"] (spLRun K) := by
  have ⟨_, _, _, _, _, _, _, z_len, z_range, _⟩ := Z
  refine T.ok sc_law_run (fun vs H Q E h => ?_) (fun f cdv A outer s H vs Q E hr h => ?_)
  · obtain ⟨t, n, mv, most, refs, rows, rfl, _⟩ := h
    rfl
  obtain ⟨o, n, mv, most, refs, rows, rfl, ho, hR, hm, q⟩ := h
  have hu := hu_of hr
  refine ⟨_, (pss_cons (ps_set (i := 4) sc_law_run.nd rfl (Or.inl rfl) (pe_lst (pa_cons pe_str (pa_cons pe_str (pa_cons pe_str (pa_cons pe_str (pa_cons pe_str (pa_cons pe_str (pa_cons pe_str pa_nil)))))))))
    (pss_cons (ps_set (i := 5) sc_law_run.nd rfl (Or.inl rfl) pe_dnewK)
    (pss_cons (ps_for PassesOwn.never rfl (pi_list (pv 4)) (pg_name (i := 6) sc_law_run.nd rfl (Or.inl rfl))
    (pss_one (ps_dput hu (pv 5) (pv 6) pe_int rfl)))
    (pss_cons (ps_dput hu (pv 5) pe_str (pe_op op_fdiv (pv 1) pe_int) rfl)
    (Evl.pss_cut (ps_set (i := 7) sc_law_run.nd rfl (Or.inl rfl) (pe_ifExp (pt_cmpR op_eq (pe_op op_and (pv 1) pe_int) pe_int (nomark _)) pe_str pe_str))
    (pss_cons (ps_set (i := 8) sc_law_run.nd rfl (Or.inl rfl) pe_int)
    (pss_cons (ps_for PassesOwn.never rfl (pi_range2 rfl z_range (pa_cons pe_int (pa_cons (pe_op op_add (pv 3) pe_int) pa_nil))) (pg_name (i := 9) sc_law_run.nd rfl (Or.inl rfl))
    (pss_cons (ps_if (pt_not (pt_chain op_le op_lt pe_int (pv 8) (pe_callB call_len_seq rfl z_len (by decide +kernel) (pa_cons (pv 0) pa_nil))))
      (pss_one (ps_ret pe_non))
      pss_nil)
      (pss_cons (ps_asg (pe_ix ix_list (pv 0) (pv 8) (fun _ _ => rfl)) (pg_tup rfl (pgs_cons (pg_name (i := 10) sc_law_run.nd rfl (Or.inl rfl)) (pgs_cons (pg_name (i := 11) sc_law_run.nd rfl (Or.inl rfl)) (pgs_cons (pg_name (i := 12) sc_law_run.nd rfl (Or.inl rfl)) (pgs_cons (pg_name (i := 13) sc_law_run.nd rfl (Or.inl rfl)) pgs_nil))))))
      (pss_cons (ps_set (i := 8) sc_law_run.nd rfl (Or.inl rfl) (pe_op op_add (pv 8) pe_int))
      (pss_cons (ps_if (pt_cmpR op_eq (pv 10) pe_str (nomark _))
      (pss_cons (ps_dput hu (pv 5) pe_str (pv 9) rfl)
        (pss_one (ps_ret (pv 5))))
      pss_nil)
      (pss_one (ps_if (pt_cmpR op_eq (pv 10) pe_str (nomark _))
      (pss_one (ps_dput hu (pv 5) (pv 11) (pe_op op_or (pe_dget hu (pv 5) (pv 11) (fun _ _ => rfl)) (pv 12)) rfl))
      (pss_one (ps_if (pt_cmpR op_eq (pv 10) pe_str (nomark _))
        (pss_one (ps_dput hu (pv 5) pe_str (pe_dget hu (pv 5) pe_str (fun _ _ => rfl)) rfl))
        (pss_one (ps_if (PW.pt (pw_or (PW.pt (pw_and (pt_cmpR op_eq (pv 10) pe_str (nomark _)) (pw_and1 (pt_cmpR op_ne (pe_op op_and (pe_dget hu (pv 5) (pv 11) (fun _ _ => rfl)) (pv 12)) (pv 12) (nomark _))))) (pw_or1 (PW.pt (pw_and (pt_cmpR op_eq (pv 10) pe_str (nomark _)) (pw_and1 (pt_cmpR op_ne (pe_op op_and (pe_dget hu (pv 5) (pv 11) (fun _ _ => rfl)) (pv 12)) pe_int (nomark _))))))))
          (pss_one (ps_set (i := 8) sc_law_run.nd rfl (Or.inl rfl) (pv 13)))
          (pss_one (ps_if (PW.pt (pw_or (PW.pt (pw_and (pt_cmpR op_eq (pv 10) pe_str (nomark _)) (pw_and1 (pt_cmpR op_ne (pv 7) (pv 11) (nomark _))))) (pw_or1 (PW.pt (pw_and (pt_cmpR op_eq (pv 10) pe_str (nomark _)) (pw_and1 (pt_cmpR op_ne (pv 2) (pv 11) (nomark _))))))))
            (pss_one (ps_set (i := 8) sc_law_run.nd rfl (Or.inl rfl) (pv 12)))
            (pss_one (ps_if (PW.pt (pw_and (pt_cmpR op_eq (pv 10) pe_str (nomark _)) (pw_and1 (pt_cmpR op_ne (pe_dget hu (pv 5) pe_str (fun _ _ => rfl)) (pe_dget hu (pv 5) pe_str (fun _ _ => rfl)) (nomark _)))))
              (pss_one (ps_set (i := 8) sc_law_run.nd rfl (Or.inl rfl) (pv 11)))
              pss_nil)))))))))))))))
    (pss_one (ps_ret pe_non))))))))), ?_⟩
  -- names = [..]; held = {}
  refine ⟨by show 7 ≤ sizeLine; decide, fun l hl => ?_⟩
  intro d hd
  have ndl : d ≠ l := fun z => by
    subst z
    rw [upd_same] at hd
    cases hd
  have hd0 : H d = none := by
    rw [upd_ne ndl] at hd
    exact hd
  have s0 : Same H (upd (upd H l (.lst (REGS.map V.str))) d (.dK [])) := same_mut (Same.new hl) hd0
  -- for name in names: held[name] = 0
  refine ⟨.ref l, rfl, l, rfl, ⟨REGS.map V.str, SqL.of (by rw [upd_ne (Ne.symm ndl)]; exact upd_same)⟩, for_list (K := K) (a := l) (xs := REGS.map V.str) (fun i σ H' => ∃ x6 : Option V, σ = [some (.ref o), some (.int n), some (.int mv), some (.int most), some (.ref l), some (.ref d), x6, none, none, none, none, none, none, none] ∧
    Same H H' ∧ H' l = some (.lst (REGS.map V.str)) ∧ H' d = some (.dK ((REGS.take i).map fun n => ((Sum.inr n : Key), V.int 0)))) ⟨none, rfl, s0, by rw [upd_ne (Ne.symm ndl)]; exact upd_same, upd_same⟩ (fun _ _ _ _ ⟨_, _, _, e, _⟩ => SqL.of e) ?_ ?_⟩
  · rintro i x σ H' hx ⟨x6, rfl, sm, el, e⟩
    rw [List.getElem?_map] at hx
    cases hz : REGS[i]? with
    | none =>
      rw [hz] at hx
      cases hx
    | some z =>
      rw [hz] at hx
      cases hx
      have lt : i < REGS.length := (List.getElem?_eq_some_iff.mp hz).1
      have out : z ∉ REGS.take i := fun m => by
        obtain ⟨j, hj, ej⟩ := List.mem_iff_getElem.mp m
        rw [List.length_take] at hj
        have e2 : REGS[j]? = some z := by
          rw [List.getElem_take] at ej
          rw [← ej]
          exact List.getElem?_eq_getElem _
        have := nodup_ix regs_nd hz e2
        omega
      refine ⟨.ref d, rfl, _, rfl, d, _, rfl, DPut.k (k := Sum.inr z) e (small1000 ?_), _, rfl, same_mut sm hd0, ?_, ?_⟩
      · have l7 : REGS.length = 7 := rfl
        rw [List.length_map, List.length_take]
        omega
      · rw [upd_ne (Ne.symm ndl)]
        exact el
      · rw [upd_same, putK_new _ (val_out (fun _ => 0) z _ out), List.take_add_one, hz, List.map_append]
        rfl
  rintro σ H1 ⟨x6, rfl, s1, _, e1⟩
  have e1 : H1 d = some (.dK (kvsOf fun _ => 0)) := e1
  have me : ("facts" : Str) ∈ REGS := by decide +kernel
  -- held['facts'] = number // 2
  refine ⟨_, rfl, _, _, rfl, rfl, ⟨by decide, by decide⟩, .ref d, rfl, d, _, rfl, DPut.k (k := Sum.inr "facts") e1 (small1000 (by rw [len_kvs]; decide)), ?_⟩
  have s2 : Same H (upd H1 d (.dK (putK (kvsOf fun _ => 0) (Sum.inr "facts") (.int (n / 2))))) := same_mut s1 hd0
  have e2 : (upd H1 d (.dK (putK (kvsOf fun _ => 0) (Sum.inr "facts") (.int (n / 2))))) d = some (.dK (kvsOf (g0 n))) := by
    rw [upd_same, put_kvs me]
    rfl
  -- who
  obtain ⟨sec, hsec⟩ : ∃ sec : Bool, sec = decide (n % 2 = 1) := ⟨_, rfl⟩
  have eb : Builtin.bitAnd n 1 = n % 2 := PySem.W.kbt_mask n 1
  have key : ∀ H', Same H H' → H' d = some (.dK (kvsOf (g0 n))) → LRunP H o d l n mv most rows sec (exec1 rows (decide (n % 2 = 1)) mv most 0 0 (g0 n)) 0 [some (.ref o), some (.int n), some (.int mv), some (.int most), some (.ref l), some (.ref d), x6, some (.str (plr sec)), some (.int (0 : Nat)), none, none, none, none, none] H' :=
    fun H' s' e' => ⟨0, g0 n, _, _, _, _, _, _, rfl, s', e', by rw [hsec]; rfl⟩
  refine ⟨fun σ G => σ = [some (.ref o), some (.int n), some (.int mv), some (.int most), some (.ref l), some (.ref d), x6, some (.str (plr sec)), none, none, none, none, none, none] ∧ G = upd H1 d (.dK (putK (kvsOf fun _ => 0) (Sum.inr "facts") (.int (n / 2)))), ?_, ?_⟩
  · have eq : decide (V.int (Builtin.bitAnd n 1) = V.int 1) = sec := by rw [dec_i, eb, hsec]
    refine ⟨_, rfl, _, _, rfl, rfl, rfl, _, rfl, ifB eq ?_⟩
    cases sec
    · exact iteF ⟨rfl, rfl⟩
    · exact iteT ⟨rfl, rfl⟩
  rintro σ G ⟨rfl, rfl⟩
  -- at = 0; for count in range(1, most + 1)
  refine ⟨_, rfl, _, _, rfl, rfl, 1, (most : Int) + 1, rfl, ⟨by omega, by omega, by omega, by omega⟩, for_range (lo := 1) (n := ((most : Int) + 1 - 1).toNat) (LRunP H o d l n mv most rows sec (exec1 rows (decide (n % 2 = 1)) mv most 0 0 (g0 n))) (key _ s2 e2) ?_ ?_⟩
  · rintro i σ H' hi ⟨pc, g, y6, y9, y10, y11, y12, y13, rfl, sm, hd', ex⟩
    obtain ⟨k, hk⟩ : ∃ k, most - i = k + 1 := ⟨most - i - 1, by omega⟩
    have ek : most - (i + 1) = k := by omega
    rw [hk] at ex
    have hS : SqL K H' o refs := sm.seq ho
    refine ⟨_, rfl, _, _, rfl, rfl, _, rfl, ifD (by omega) ⟨.ref o, rfl, o, _, rfl, .inl hS, _, _, rfl, rfl, _, rfl, ?_⟩⟩
    by_cases l2 : (pc : Int) < refs.length
    · refine ifnD l2 ?_
      obtain ⟨r, tr, er, ok, at_, hr⟩ := (hR.same sm).at_ (pc := pc) (by rw [← hR.1]; omega)
      rw [exec1_at er] at ex
      cases r with
      | stop =>
        refine ⟨.ref o, rfl, _, rfl, o, _, _, _, rfl, rfl, hS, at_, tr, _, rfl, hr, rfl, _, _, rfl, _, _, rfl, _, _, rfl, _, _, rfl, rfl, ?_⟩
        refine ⟨_, rfl, _, _, rfl, rfl, ?_⟩
        refine ⟨_, rfl, rfl, _, rfl, ifS ?_⟩
        refine ⟨_, rfl, .ref d, rfl, d, _, rfl, DPut.k (k := Sum.inr "steps") hd' (small1000 (by rw [len_kvs]; decide)), .ref d, rfl, ?_⟩
        refine q (.ref d) _ (same_mut sm hd0) ?_
        rw [← ex]
        refine ⟨d, rfl, hd0, ?_⟩
        have vn : valV (kvsOf g) (Sum.inr "steps") = none := val_out g "steps" REGS m_steps
        rw [upd_same, putK_new _ vn]
        have e : (1 : Int) + (i : Int) = ((i + 1 : Nat) : Int) := by omega
        rw [e]
      | set n' k' =>
        have mn : n' ∈ REGS := ok
        refine ⟨.ref o, rfl, _, rfl, o, _, _, _, rfl, rfl, hS, at_, tr, _, rfl, hr, rfl, _, _, rfl, _, _, rfl, _, _, rfl, _, _, rfl, rfl, ?_⟩
        refine ⟨_, rfl, _, _, rfl, rfl, ?_⟩
        refine ⟨_, rfl, rfl, _, rfl, ifN (show ("set" : Str) ≠ "stop" by decide +kernel) ?_⟩
        refine ⟨_, rfl, rfl, _, rfl, ifS ?_⟩
        refine ⟨.ref d, rfl, _, rfl, d, _, rfl, get_kvs hd' mn, _, rfl, _, _, rfl, rfl, .ref d, rfl, _, rfl, d, _, rfl, DPut.k (k := Sum.inr n') hd' (small1000 (by rw [len_kvs]; decide)), ?_⟩
        refine ⟨pc + 1, put1 g n' (Builtin.bitOr (g n') k'), _, _, _, _, _, _, rfl, same_mut sm hd0, ?_, ?_⟩
        · rw [upd_same, put_kvs mn]
        · rw [ek]
          exact ex
      | mark =>
        refine ⟨.ref o, rfl, _, rfl, o, _, _, _, rfl, rfl, hS, at_, tr, _, rfl, hr, rfl, _, _, rfl, _, _, rfl, _, _, rfl, _, _, rfl, rfl, ?_⟩
        refine ⟨_, rfl, _, _, rfl, rfl, ?_⟩
        refine ⟨_, rfl, rfl, _, rfl, ifN (show ("mark" : Str) ≠ "stop" by decide +kernel) ?_⟩
        refine ⟨_, rfl, rfl, _, rfl, ifN (show ("mark" : Str) ≠ "set" by decide +kernel) ?_⟩
        refine ⟨_, rfl, rfl, _, rfl, ifS ?_⟩
        refine ⟨.ref d, rfl, d, _, rfl, get_kvs hd' m_views, .ref d, rfl, d, _, rfl, DPut.k (k := Sum.inr "kept") hd' (small1000 (by rw [len_kvs]; decide)), ?_⟩
        refine ⟨pc + 1, put1 g "kept" (g "views"), _, _, _, _, _, _, rfl, same_mut sm hd0, ?_, ?_⟩
        · rw [upd_same, put_kvs m_kept]
        · rw [ek]
          exact ex
      | tst al n' k' to =>
        have mn : n' ∈ REGS := ok
        refine ⟨.ref o, rfl, _, rfl, o, _, _, _, rfl, rfl, hS, at_, tr, _, rfl, hr, rfl, _, _, rfl, _, _, rfl, _, _, rfl, _, _, rfl, rfl, ?_⟩
        refine ⟨_, rfl, _, _, rfl, rfl, ?_⟩
        rw [if_neg (show ¬ isStop (Row.tst al n' k' to) = true from Bool.false_ne_true)] at ex
        cases al with
        | true =>
          refine ⟨_, rfl, rfl, _, rfl, ifN (show ("all" : Str) ≠ "stop" by decide +kernel) ?_⟩
          refine ⟨_, rfl, rfl, _, rfl, ifN (show ("all" : Str) ≠ "set" by decide +kernel) ?_⟩
          refine ⟨_, rfl, rfl, _, rfl, ifN (show ("all" : Str) ≠ "mark" by decide +kernel) ?_⟩
          refine ⟨_, rfl, rfl, _, rfl, ifS ⟨.ref d, rfl, _, rfl, d, _, rfl, get_kvs hd' mn, _, rfl, _, _, rfl, rfl, _, rfl, rfl, _, rfl, ?_⟩⟩
          by_cases cc : Builtin.bitAnd (g n') k' = k'
          · refine ifnB (b := true) ((dec_i _ _).trans (decide_eq_true cc)) (iteT ⟨_, rfl, rfl, _, rfl, ifN (show ("all" : Str) ≠ "none" by decide +kernel) (iteF ?_)⟩)
            refine ⟨_, rfl, rfl, _, rfl, ifN (show ("all" : Str) ≠ "who" by decide +kernel) (iteF ⟨_, rfl, rfl, _, rfl, ifN (show ("all" : Str) ≠ "chosen" by decide +kernel) (iteF ?_)⟩)⟩
            refine ⟨_, rfl, rfl, _, rfl, ifN (show ("all" : Str) ≠ "again" by decide +kernel) (iteF ?_)⟩
            rw [if_pos (show Row.goes g sec mv (Row.tst true n' k' to) = true from decide_eq_true cc)] at ex
            refine ⟨pc + 1, g, _, _, _, _, _, _, rfl, sm, hd', ?_⟩
            rw [ek]
            exact ex
          · refine ifnB (b := false) ((dec_i _ _).trans (decide_eq_false cc)) (iteF (iteT ⟨_, rfl, ?_⟩))
            rw [if_neg (show ¬ Row.goes g sec mv (Row.tst true n' k' to) = true from fun z => cc (of_decide_eq_true z))] at ex
            refine ⟨to, g, _, _, _, _, _, _, rfl, sm, hd', ?_⟩
            rw [ek]
            exact ex
        | false =>
          refine ⟨_, rfl, rfl, _, rfl, ifN (show ("none" : Str) ≠ "stop" by decide +kernel) ?_⟩
          refine ⟨_, rfl, rfl, _, rfl, ifN (show ("none" : Str) ≠ "set" by decide +kernel) ?_⟩
          refine ⟨_, rfl, rfl, _, rfl, ifN (show ("none" : Str) ≠ "mark" by decide +kernel) ?_⟩
          refine ⟨_, rfl, rfl, _, rfl, ifN (show ("none" : Str) ≠ "all" by decide +kernel) (iteF ⟨_, rfl, rfl, _, rfl, ifS ⟨.ref d, rfl, _, rfl, d, _, rfl, get_kvs hd' mn, _, rfl, _, _, rfl, rfl, rfl, _, rfl, ?_⟩⟩)⟩
          by_cases cc : Builtin.bitAnd (g n') k' = 0
          · refine ifnB (b := true) ((dec_i _ _).trans (decide_eq_true cc)) (iteT ?_)
            refine ⟨_, rfl, rfl, _, rfl, ifN (show ("none" : Str) ≠ "who" by decide +kernel) (iteF ⟨_, rfl, rfl, _, rfl, ifN (show ("none" : Str) ≠ "chosen" by decide +kernel) (iteF ?_)⟩)⟩
            refine ⟨_, rfl, rfl, _, rfl, ifN (show ("none" : Str) ≠ "again" by decide +kernel) (iteF ?_)⟩
            rw [if_pos (show Row.goes g sec mv (Row.tst false n' k' to) = true from decide_eq_true cc)] at ex
            refine ⟨pc + 1, g, _, _, _, _, _, _, rfl, sm, hd', ?_⟩
            rw [ek]
            exact ex
          · refine ifnB (b := false) ((dec_i _ _).trans (decide_eq_false cc)) (iteF ⟨_, rfl, ?_⟩)
            rw [if_neg (show ¬ Row.goes g sec mv (Row.tst false n' k' to) = true from fun z => cc (of_decide_eq_true z))] at ex
            refine ⟨to, g, _, _, _, _, _, _, rfl, sm, hd', ?_⟩
            rw [ek]
            exact ex
      | who s' to =>
        refine ⟨.ref o, rfl, _, rfl, o, _, _, _, rfl, rfl, hS, at_, tr, _, rfl, hr, rfl, _, _, rfl, _, _, rfl, _, _, rfl, _, _, rfl, rfl, ?_⟩
        refine ⟨_, rfl, _, _, rfl, rfl, ?_⟩
        rw [if_neg (show ¬ isStop (Row.who s' to) = true from Bool.false_ne_true)] at ex
        refine ⟨_, rfl, rfl, _, rfl, ifN (show ("who" : Str) ≠ "stop" by decide +kernel) ?_⟩
        refine ⟨_, rfl, rfl, _, rfl, ifN (show ("who" : Str) ≠ "set" by decide +kernel) ?_⟩
        refine ⟨_, rfl, rfl, _, rfl, ifN (show ("who" : Str) ≠ "mark" by decide +kernel) ?_⟩
        refine ⟨_, rfl, rfl, _, rfl, ifN (show ("who" : Str) ≠ "all" by decide +kernel) (iteF ⟨_, rfl, rfl, _, rfl, ifN (show ("who" : Str) ≠ "none" by decide +kernel) (iteF ?_)⟩)⟩
        refine ⟨_, rfl, rfl, _, rfl, ifS ⟨_, rfl, _, rfl, rfl, _, rfl, ?_⟩⟩
        by_cases cc : sec = s'
        · refine ifnB (b := true) ((dec_p _ _).trans (decide_eq_true cc)) (iteT ⟨_, rfl, rfl, _, rfl, ifN (show ("who" : Str) ≠ "chosen" by decide +kernel) (iteF ?_)⟩)
          refine ⟨_, rfl, rfl, _, rfl, ifN (show ("who" : Str) ≠ "again" by decide +kernel) (iteF ?_)⟩
          rw [if_pos (show Row.goes g sec mv (Row.who s' to) = true from decide_eq_true cc)] at ex
          refine ⟨pc + 1, g, _, _, _, _, _, _, rfl, sm, hd', ?_⟩
          rw [ek]
          exact ex
        · refine ifnB (b := false) ((dec_p _ _).trans (decide_eq_false cc)) (iteF (iteT ⟨_, rfl, ?_⟩))
          rw [if_neg (show ¬ Row.goes g sec mv (Row.who s' to) = true from fun z => cc (of_decide_eq_true z))] at ex
          refine ⟨to, g, _, _, _, _, _, _, rfl, sm, hd', ?_⟩
          rw [ek]
          exact ex
      | chosen m' to =>
        refine ⟨.ref o, rfl, _, rfl, o, _, _, _, rfl, rfl, hS, at_, tr, _, rfl, hr, rfl, _, _, rfl, _, _, rfl, _, _, rfl, _, _, rfl, rfl, ?_⟩
        refine ⟨_, rfl, _, _, rfl, rfl, ?_⟩
        rw [if_neg (show ¬ isStop (Row.chosen m' to) = true from Bool.false_ne_true)] at ex
        refine ⟨_, rfl, rfl, _, rfl, ifN (show ("chosen" : Str) ≠ "stop" by decide +kernel) ?_⟩
        refine ⟨_, rfl, rfl, _, rfl, ifN (show ("chosen" : Str) ≠ "set" by decide +kernel) ?_⟩
        refine ⟨_, rfl, rfl, _, rfl, ifN (show ("chosen" : Str) ≠ "mark" by decide +kernel) ?_⟩
        refine ⟨_, rfl, rfl, _, rfl, ifN (show ("chosen" : Str) ≠ "all" by decide +kernel) (iteF ⟨_, rfl, rfl, _, rfl, ifN (show ("chosen" : Str) ≠ "none" by decide +kernel) (iteF ?_)⟩)⟩
        refine ⟨_, rfl, rfl, _, rfl, ifN (show ("chosen" : Str) ≠ "who" by decide +kernel) (iteF ⟨_, rfl, rfl, _, rfl, ifS ⟨_, rfl, _, rfl, rfl, _, rfl, ?_⟩⟩)⟩
        by_cases cc : mv = m'
        · refine ifnB (b := true) ((dec_i _ _).trans (decide_eq_true cc)) (iteT ?_)
          refine ⟨_, rfl, rfl, _, rfl, ifN (show ("chosen" : Str) ≠ "again" by decide +kernel) (iteF ?_)⟩
          rw [if_pos (show Row.goes g sec mv (Row.chosen m' to) = true from decide_eq_true cc)] at ex
          refine ⟨pc + 1, g, _, _, _, _, _, _, rfl, sm, hd', ?_⟩
          rw [ek]
          exact ex
        · refine ifnB (b := false) ((dec_i _ _).trans (decide_eq_false cc)) (iteF ⟨_, rfl, ?_⟩)
          rw [if_neg (show ¬ Row.goes g sec mv (Row.chosen m' to) = true from fun z => cc (of_decide_eq_true z))] at ex
          refine ⟨to, g, _, _, _, _, _, _, rfl, sm, hd', ?_⟩
          rw [ek]
          exact ex
      | again to =>
        refine ⟨.ref o, rfl, _, rfl, o, _, _, _, rfl, rfl, hS, at_, tr, _, rfl, hr, rfl, _, _, rfl, _, _, rfl, _, _, rfl, _, _, rfl, rfl, ?_⟩
        refine ⟨_, rfl, _, _, rfl, rfl, ?_⟩
        rw [if_neg (show ¬ isStop (Row.again to) = true from Bool.false_ne_true)] at ex
        refine ⟨_, rfl, rfl, _, rfl, ifN (show ("again" : Str) ≠ "stop" by decide +kernel) ?_⟩
        refine ⟨_, rfl, rfl, _, rfl, ifN (show ("again" : Str) ≠ "set" by decide +kernel) ?_⟩
        refine ⟨_, rfl, rfl, _, rfl, ifN (show ("again" : Str) ≠ "mark" by decide +kernel) ?_⟩
        refine ⟨_, rfl, rfl, _, rfl, ifN (show ("again" : Str) ≠ "all" by decide +kernel) (iteF ⟨_, rfl, rfl, _, rfl, ifN (show ("again" : Str) ≠ "none" by decide +kernel) (iteF ?_)⟩)⟩
        refine ⟨_, rfl, rfl, _, rfl, ifN (show ("again" : Str) ≠ "who" by decide +kernel) (iteF ⟨_, rfl, rfl, _, rfl, ifN (show ("again" : Str) ≠ "chosen" by decide +kernel) (iteF ?_)⟩)⟩
        refine ⟨_, rfl, rfl, _, rfl, ifS ⟨.ref d, rfl, d, _, rfl, get_kvs hd' m_views, .ref d, rfl, d, _, rfl, get_kvs hd' m_kept, rfl, _, rfl, ?_⟩⟩
        by_cases cc : g "views" = g "kept"
        · refine ifnB (b := true) ((dec_i _ _).trans (decide_eq_true cc)) (iteT ?_)
          rw [if_pos (show Row.goes g sec mv (Row.again to) = true from decide_eq_true cc)] at ex
          refine ⟨pc + 1, g, _, _, _, _, _, _, rfl, sm, hd', ?_⟩
          rw [ek]
          exact ex
        · refine ifnB (b := false) ((dec_i _ _).trans (decide_eq_false cc)) (iteF ⟨_, rfl, ?_⟩)
          rw [if_neg (show ¬ Row.goes g sec mv (Row.again to) = true from fun z => cc (of_decide_eq_true z))] at ex
          refine ⟨to, g, _, _, _, _, _, _, rfl, sm, hd', ?_⟩
          rw [ek]
          exact ex
    · refine ifnND l2 ?_
      rw [exec1_off (List.getElem?_eq_none (by rw [← hR.1]; omega))] at ex
      exact q .non _ sm (by rw [← ex]; rfl)
  · rintro σ H' ⟨pc, g, y6, y9, y10, y11, y12, y13, rfl, sm, hd', ex⟩
    rw [show most - ((most : Int) + 1 - 1).toNat = 0 by omega] at ex
    exact q .non _ sm (by rw [← ex]; rfl)
end
end My
set_option Elab.async false
set_option linter.all false
set_option maxRecDepth 100000
set_option maxHeartbeats 4000000
/-! The law of the rows -/
namespace My
open PySem PySem.Spec PyProof.Rows L2
abbrev st_law : Stmt := topS 17
theorem sc_law : FnScope ["script", "pool", "trial", "many", "rows", "k", "choice", "to", "name", "number", "move", "most"] ["script"] (defScope st_law) := ⟨rfl, rfl, rfl, by decide +kernel, rfl, by decide +kernel, by decide +kernel⟩
/-- the pool, and the rows that are made so far -/
structure Bag (K : PySem.W.Frag) (H : Hp) (p a r : Addr) (refs : List V) (rs : List Row) : Prop where
  pool : PoolAt K H p a
  ne : p ≠ r
  lst : H r = some (.lst refs)
  rows : RowsAt K H refs rs
theorem RowsAt.keep {K : PySem.W.Frag} {H H' : Hp} {refs : List V} {rs : List Row} {q : Addr} (h : RowsAt K H refs rs) (o : Off q H H') (z : ∀ xs, ¬ Rd H q (.tup xs)) : RowsAt K H' refs rs :=
  ⟨h.1, fun i r e => by
    obtain ⟨ok, t, at_, s⟩ := h.2 i r e
    refine ⟨ok, t, at_, ?_⟩
    rcases s with s | s
    · exact sqT_off o (fun y => z _ (y ▸ s)) (.inl s)
    · exact .inr s⟩
theorem rd_lst {H : Hp} {q : Addr} {ys : List V} (h : H q = some (.lst ys)) : ∀ xs, ¬ Rd H q (.tup xs) := fun xs r => by
  rcases r with r | ⟨u, r⟩ <;> rw [h] at r <;> cases r
theorem rd_none {H : Hp} {q : Addr} (h : H q = none) : ∀ xs, ¬ Rd H q (.tup xs) := fun xs r => by
  rcases r with r | ⟨u, r⟩ <;> rw [h] at r <;> cases r
section
variable {K : PySem.W.Frag} {H H' : Hp} {p a r q t : Addr} {refs : List V} {rs : List Row}
theorem Bag.off (b : Bag K H p a r refs rs) (o : Off p H H') (h : PoolAt K H' p a) : Bag K H' p a r refs rs := by
  obtain ⟨i, n, f, e⟩ := b.pool.ex
  exact ⟨h, b.ne, o.get (Ne.symm b.ne) b.lst, b.rows.keep o (rd_lst e)⟩
theorem Bag.new {o : HO} (b : Bag K H p a r refs rs) (h : H q = none) : Bag K (upd H q o) p a r refs rs :=
  ⟨b.pool.new h, b.ne, by rw [upd_ne (ne_of_none b.lst h)]; exact b.lst, b.rows.keep Off.upd (rd_none h)⟩
theorem Bag.app {row : Row} (b : Bag K H p a r refs rs) (s : SqT K H t row.toV) (ok : row.Ok) : Bag K (upd H r (.lst (refs ++ [.ref t]))) p a r (refs ++ [.ref t]) (rs ++ [row]) := by
  refine ⟨b.pool.off Off.upd b.ne (by rw [b.lst]; trivial), b.ne, upd_same, ?_, fun i x e => ?_⟩
  · rw [List.length_append, List.length_append, b.rows.1]
    rfl
  · have k := b.rows.keep (H' := upd H r (.lst (refs ++ [.ref t]))) Off.upd (rd_lst b.lst)
    by_cases lt : i < rs.length
    · rw [List.getElem?_append_left lt] at e
      obtain ⟨o, t', e1, e2⟩ := k.2 i x e
      refine ⟨o, t', ?_, e2⟩
      rw [List.getElem?_append_left (by rw [b.rows.1]; exact lt)]
      exact e1
    · rw [List.getElem?_append_right (by omega)] at e
      have ei : i - rs.length = 0 := by
        have := (List.getElem?_eq_some_iff.mp e).1
        rw [List.length_singleton] at this
        omega
      rw [ei] at e
      obtain rfl : row = x := Option.some.inj e
      refine ⟨ok, t, ?_, ?_⟩
      · rw [List.getElem?_append_right (by rw [b.rows.1]; omega), b.rows.1, ei]
        rfl
      · rcases s with s | s
        · exact sqT_off Off.upd (fun y => rd_lst b.lst _ (y ▸ s)) (.inl s)
        · exact .inr s
theorem Bag.same (b : Bag K H p a r refs rs) (s : Same H H') : Bag K H' p a r refs rs := by
  obtain ⟨⟨i, n, f, e⟩, ns, l, sc⟩ := b.pool
  refine ⟨⟨⟨i, n, f, s _ _ e⟩, ns, l, ?_⟩, b.ne, s _ _ b.lst, b.rows.same s⟩
  rcases sc with ⟨u, h⟩ | h
  · exact .inl ⟨u, s _ _ h⟩
  · exact .inr h
end
def spLaw (K : PySem.W.Frag) : Sp := fun vs H Q _ => ∃ (a : Addr) (ns : List Int), vs = [.ref a] ∧ Scr K H a ns ∧ ns.length ≤ 63 ∧ ∀ H', Q (.bl true) H'
section
variable {P : Program} {w : World} {K : PySem.W.Frag} {mg : Str → Option Value} {base : Heap}
theorem ok_law (T : Top K mg "law" st_law ["script"]) (Z : Zs mg)
    (D_law_pool : Def P w K mg base 3 "_law_pool" ["script"] (spPool K)) (D_law_next : Def P w K mg base 3 "_law_next" ["pool"] (spNext K)) (D_law_draw : Def P w K mg base 3 "_law_draw" ["pool", "limit"] (spDraw K))
    (D_law_pick : Def P w K mg base 4 "_law_pick" ["pool", "options"] (spPick K)) (D_law_same : Def P w K mg base 2 "_law_same" ["due", "answer"] spSame2) (D_law_run : Def P w K mg base 1 "_law_run" ["rows", "number", "move", "most"] (spLRun K))
    (D_run : Def P w K mg base 2 "run" ["rows", "number", "move", "most"] (spRun K)) (D_most_steps : Def P w K mg base 1 "most_steps" ["rows", "views"] (spSteps K)) : Def P w K mg base 5 "law" ["script"] (spLaw K) := by
  have ⟨_, _, _, z_tuple, _, _, _, z_len, z_range, z_min⟩ := Z
  refine T.ok sc_law (fun vs H Q E h => ?_) (fun f cdv A outer s H vs Q E hr h => ?_)
  · obtain ⟨a, ns, rfl, _⟩ := h
    rfl
  obtain ⟨a, ns, rfl, hC, hl, q⟩ := h
  have hu := hu_of hr
  refine ⟨_, (pss_cons (ps_set (i := 1) sc_law.nd rfl (Or.inl rfl) (pe_def D_law_pool (hr.mono (by decide)) rfl (pa_cons (pv 0) pa_nil)))
    (pss_cons (ps_for PassesOwn.never rfl (pi_range1 rfl z_range (pa_cons pe_int pa_nil)) (pg_name (i := 2) sc_law.nd rfl (Or.inl rfl))
    (pss_cons (ps_expr (pe_def D_law_next (hr.mono (by decide)) rfl (pa_cons (pv 1) pa_nil)))
      (pss_cons (ps_set (i := 3) sc_law.nd rfl (Or.inl rfl) (pe_op op_add pe_int (pe_def D_law_draw (hr.mono (by decide)) rfl (pa_cons (pv 1) (pa_cons pe_int pa_nil)))))
      (pss_cons (ps_set (i := 4) sc_law.nd rfl (Or.inl rfl) (pe_lst pa_nil))
      (pss_cons (ps_for PassesOwn.never rfl (pi_range1 rfl z_range (pa_cons (pv 3) pa_nil)) (pg_name (i := 5) sc_law.nd rfl (Or.inl rfl))
      (pss_cons (ps_set (i := 6) sc_law.nd rfl (Or.inl rfl) (pe_def D_law_draw (hr.mono (by decide)) rfl (pa_cons (pv 1) (pa_cons pe_int pa_nil))))
        (Evl.pss_cut (ps_set (i := 7) sc_law.nd rfl (Or.inl rfl) (pe_ifExp (pt_cmpR op_eq (pe_def D_law_draw (hr.mono (by decide)) rfl (pa_cons (pv 1) (pa_cons pe_int pa_nil))) pe_int (nomark _)) (pe_def D_law_draw (hr.mono (by decide)) rfl (pa_cons (pv 1) (pa_cons (pv 3) pa_nil))) (pe_callB (call_min2 rfl) rfl z_min (by decide +kernel) (pa_cons (pe_op op_sub (pv 3) pe_int) (pa_cons (pe_op op_add (pe_op op_add (pv 5) pe_int) (pe_def D_law_draw (hr.mono (by decide)) rfl (pa_cons (pv 1) (pa_cons pe_int pa_nil)))) pa_nil)))))
        (Evl.pss_cut (ps_set (i := 8) sc_law.nd rfl (Or.inl rfl) (pe_def D_law_pick (hr.mono (by decide)) rfl (pa_cons (pv 1) (pa_cons (pe_lst (pa_cons pe_str (pa_cons pe_str (pa_cons pe_str (pa_cons pe_str (pa_cons pe_str (pa_cons pe_str (pa_cons pe_str pa_nil)))))))) pa_nil))))
        (pss_one (ps_if (pt_cmpR op_lt (pv 6) pe_int (nomark _))
        (pss_one (ps_expr (pe_bm PySem.F.plainAttrs_list PySem.F.slot_list_append PySem.F.type_list_append mt_append (pv 4) (pa_cons (pe_tup (pa_cons (pe_def D_law_pick (hr.mono (by decide)) rfl (pa_cons (pv 1) (pa_cons (pe_lst (pa_cons pe_str (pa_cons pe_str pa_nil))) pa_nil))) (pa_cons (pv 8) (pa_cons (pe_def D_law_draw (hr.mono (by decide)) rfl (pa_cons (pv 1) (pa_cons pe_int pa_nil))) (pa_cons (pv 7) pa_nil))))) pa_nil))))
        (pss_one (ps_if (pt_cmpR op_lt (pv 6) pe_int (nomark _))
          (pss_one (ps_expr (pe_bm PySem.F.plainAttrs_list PySem.F.slot_list_append PySem.F.type_list_append mt_append (pv 4) (pa_cons (pe_tup (pa_cons pe_str (pa_cons (pe_def D_law_pick (hr.mono (by decide)) rfl (pa_cons (pv 1) (pa_cons (pe_lst (pa_cons pe_str (pa_cons pe_str (pa_cons pe_str (pa_cons pe_str (pa_cons pe_str pa_nil)))))) pa_nil))) (pa_cons (pe_def D_law_draw (hr.mono (by decide)) rfl (pa_cons (pv 1) (pa_cons pe_int pa_nil))) (pa_cons pe_str pa_nil))))) pa_nil))))
          (pss_one (ps_if (pt_cmpR op_eq (pv 6) pe_int (nomark _))
            (pss_one (ps_expr (pe_bm PySem.F.plainAttrs_list PySem.F.slot_list_append PySem.F.type_list_append mt_append (pv 4) (pa_cons (pe_tup (pa_cons pe_str (pa_cons (pe_def D_law_pick (hr.mono (by decide)) rfl (pa_cons (pv 1) (pa_cons (pe_lst (pa_cons pe_str (pa_cons pe_str pa_nil))) pa_nil))) (pa_cons (pv 7) (pa_cons pe_str pa_nil))))) pa_nil))))
            (pss_one (ps_if (pt_cmpR op_eq (pv 6) pe_int (nomark _))
              (pss_one (ps_expr (pe_bm PySem.F.plainAttrs_list PySem.F.slot_list_append PySem.F.type_list_append mt_append (pv 4) (pa_cons (pe_tup (pa_cons pe_str (pa_cons (pe_def D_law_draw (hr.mono (by decide)) rfl (pa_cons (pv 1) (pa_cons pe_int pa_nil))) (pa_cons (pv 7) (pa_cons pe_str pa_nil))))) pa_nil))))
              (pss_one (ps_if (pt_cmpR op_eq (pv 6) pe_int (nomark _))
                (pss_one (ps_expr (pe_bm PySem.F.plainAttrs_list PySem.F.slot_list_append PySem.F.type_list_append mt_append (pv 4) (pa_cons (pe_def D_law_pick (hr.mono (by decide)) rfl (pa_cons (pv 1) (pa_cons (pe_lst (pa_cons (pe_tup (pa_cons pe_str (pa_cons pe_str (pa_cons pe_str (pa_cons pe_str pa_nil))))) (pa_cons (pe_tup (pa_cons pe_str (pa_cons (pv 7) (pa_cons pe_str (pa_cons pe_str pa_nil))))) pa_nil))) pa_nil))) pa_nil))))
                (pss_one (ps_expr (pe_bm PySem.F.plainAttrs_list PySem.F.slot_list_append PySem.F.type_list_append mt_append (pv 4) (pa_cons (pe_tup (pa_cons pe_str (pa_cons pe_str (pa_cons pe_str (pa_cons pe_str pa_nil))))) pa_nil))))))))))))))))))
      (pss_cons (ps_expr (pe_bm PySem.F.plainAttrs_list PySem.F.slot_list_append PySem.F.type_list_append mt_append (pv 4) (pa_cons (pe_tup (pa_cons pe_str (pa_cons pe_str (pa_cons pe_str (pa_cons pe_str pa_nil))))) pa_nil)))
      (pss_cons (ps_set (i := 9) sc_law.nd rfl (Or.inl rfl) (pe_def D_law_draw (hr.mono (by decide)) rfl (pa_cons (pv 1) (pa_cons pe_int pa_nil))))
      (pss_cons (ps_set (i := 10) sc_law.nd rfl (Or.inl rfl) (pe_op op_sub (pe_def D_law_draw (hr.mono (by decide)) rfl (pa_cons (pv 1) (pa_cons pe_int pa_nil))) pe_int))
      (pss_cons (ps_set (i := 11) sc_law.nd rfl (Or.inl rfl) (pe_def D_law_pick (hr.mono (by decide)) rfl (pa_cons (pv 1) (pa_cons (pe_lst (pa_cons pe_int (pa_cons pe_int (pa_cons pe_int pa_nil)))) pa_nil))))
      (Evl.pss_cut (ps_if (pt_not (pt_val (pe_def D_law_same (hr.mono (by decide)) rfl (pa_cons (pe_def D_law_run (hr.mono (by decide)) rfl (pa_cons (pv 4) (pa_cons (pv 9) (pa_cons (pv 10) (pa_cons (pv 11) pa_nil))))) (pa_cons (pe_def D_run (hr.mono (by decide)) rfl (pa_cons (pe_callTy call_tuple_of rfl z_tuple (by decide +kernel) (pa_cons (pv 4) pa_nil)) (pa_cons (pv 9) (pa_cons (pv 10) (pa_cons (pv 11) pa_nil))))) pa_nil)))))
      (pss_one (ps_ret pe_bl))
      pss_nil)
      (pss_one (ps_if (pt_cmpR op_ne (pe_def D_most_steps (hr.mono (by decide)) rfl (pa_cons (pe_callTy call_tuple_of rfl z_tuple (by decide +kernel) (pa_cons (pv 4) pa_nil)) (pa_cons pe_int pa_nil))) (pe_op op_mul (pe_op op_add (pe_callB call_len_seq rfl z_len (by decide +kernel) (pa_cons (pv 4) pa_nil)) pe_int) pe_int) (nomark _))
      (pss_one (ps_ret pe_bl))
      pss_nil))))))))))))
    (pss_one (ps_ret (pe_cmpR op_isN (pe_def D_run (hr.mono (by decide)) rfl (pa_cons (pe_tup (pa_cons (pe_tup (pa_cons pe_str (pa_cons pe_str (pa_cons pe_int (pa_cons pe_str pa_nil))))) pa_nil)) (pa_cons pe_int (pa_cons (pe_un un_neg pe_int) (pa_cons pe_int pa_nil))))) pe_non (nomark _)))))), ?_⟩
  refine ⟨.ref a, rfl, a, ns, rfl, hC, hl, fun p H0 np o0 hP0 => ?_⟩
  -- for trial in range(6)
  refine ⟨6, rfl, by decide, by decide, for_range (lo := 0) (n := 6) (fun i σ H' => ∃ x2 x3 x4 x5 x6 x7 x8 x9 x10 x11 : Option V, σ = [some (.ref a), some (.ref p), x2, x3, x4, x5, x6, x7, x8, x9, x10, x11] ∧ PoolAt K H' p a) ⟨_, _, _, _, _, _, _, _, _, _, rfl, hP0⟩ ?_ ?_⟩
  · rintro i σ H1 hi ⟨x2, x3, x4, x5, x6, x7, x8, x9, x10, x11, rfl, hP⟩
    -- _law_next(pool); many = 1 + _law_draw(pool, 14); rows = []
    refine ⟨.ref p, rfl, p, a, rfl, hP, fun H2 o2 hP2 => ?_⟩
    refine ⟨.ref p, rfl, p, a, 14, rfl, hP2, by decide, by decide, fun m H3 hm0 hm1 o3 hP3 => ⟨_, _, rfl, rfl, ?_⟩⟩
    obtain ⟨many, rfl⟩ := Int.eq_ofNat_of_zero_le hm0
    refine ⟨Nat.zero_le _, fun r nr => ?_⟩
    have npr : p ≠ r := by
      obtain ⟨_, _, _, e⟩ := hP3.ex
      exact ne_of_none e nr
    have B0 : Bag K (upd H3 r (.lst [])) p a r [] [] := ⟨hP3.new nr, npr, upd_same, rfl, fun i x e => by cases e⟩
    -- for k in range(many)
    refine ⟨_, rfl, (1 : Int) + many, rfl, by omega, by omega, for_range (lo := 0) (n := ((1 : Int) + many).toNat) (fun i σ H' => ∃ (y2 x5 x6 x7 x8 : Option V) (refs : List V) (rs : List Row), σ = [some (.ref a), some (.ref p), y2, some (.int (1 + many)), some (.ref r), x5, x6, x7, x8, x9, x10, x11] ∧
      Bag K H' p a r refs rs ∧ refs.length ≤ i) ⟨_, _, _, _, _, _, _, rfl, B0, Nat.le_refl _⟩ ?_ ?_⟩
    · rintro k σ H4 hk ⟨y2, y5, y6, y7, y8, refs, rs, rfl, B4, hlen⟩
      -- choice = _law_draw(pool, 9)
      refine ⟨.ref p, rfl, p, a, 9, rfl, B4.pool, by decide, by decide, fun ch H5 hc0 hc1 o5 hP5 => ?_⟩
      have B5 := B4.off o5 hP5
      -- to = ..
      refine ⟨fun σ' G => ∃ to : Nat, σ' = [some (.ref a), some (.ref p), y2, some (.int (1 + many)), some (.ref r), some (.int (0 + k)), some (.int ch), some (.int to), y8, x9, x10, x11] ∧ Bag K G p a r refs rs, ?_, ?_⟩
      · refine ⟨.ref p, rfl, p, a, 4, rfl, B5.pool, by decide, by decide, fun f4 H6 _ _ o6 hP6 => ⟨rfl, _, rfl, ?_⟩⟩
        have B6 := B5.off o6 hP6
        refine ite2 (fun _ => ?_) (fun _ => ?_)
        · refine ⟨.ref p, rfl, _, rfl, p, a, _, rfl, B6.pool, by omega, by omega, fun v H7 v0 v1 o7 hP7 => ?_⟩
          obtain ⟨to, rfl⟩ := Int.eq_ofNat_of_zero_le v0
          exact ⟨to, rfl, B6.off o7 hP7⟩
        · refine ⟨_, rfl, _, _, rfl, rfl, _, rfl, _, _, rfl, rfl, .ref p, rfl, p, a, 3, rfl, B6.pool, by decide, by decide, fun v H7 v0 v1 o7 hP7 => ⟨_, _, rfl, rfl, _, _, rfl, ?_⟩⟩
          have nn : 0 ≤ (if (0 + (k : Int) + 1 + v) < (1 + (many : Int) - 1) then (0 + (k : Int) + 1 + v) else (1 + (many : Int) - 1)) := by
            split <;> omega
          obtain ⟨to, e⟩ := Int.eq_ofNat_of_zero_le nn
          exact ⟨to, by rw [← e]; rfl, B6.off o7 hP7⟩
      rintro σ' H8 ⟨to, rfl, B8⟩
      -- name = _law_pick(pool, [..])
      refine ⟨fun σ' G => ∃ nm : Str, nm ∈ REGS ∧ σ' = [some (.ref a), some (.ref p), y2, some (.int (1 + many)), some (.ref r), some (.int (0 + k)), some (.int ch), some (.int to), some (.str nm), x9, x10, x11] ∧ Bag K G p a r refs rs, ?_, ?_⟩
      · refine ⟨.ref p, rfl, (by show 7 ≤ sizeLine; decide), fun o no => ⟨p, a, o, REGS.map V.str, rfl, B8.pool.new no, SqL.of upd_same, (fun z => ?_), (by decide), (by decide), fun x G hx og hPg => ?_⟩⟩
        · obtain ⟨_, _, _, e⟩ := B8.pool.ex
          exact ne_of_none e no z.symm
        · obtain ⟨nm, hn, rfl⟩ := List.mem_map.mp hx
          exact ⟨nm, hn, rfl, (B8.new no).off og hPg⟩
      rintro σ' H9 ⟨nm, hnm, rfl, B9⟩
      have lim : refs.length < sizeLine := small1000 (by omega)
      have fin : ∀ (G : Hp) (row : Row) (t : Addr), Bag K G p a r refs rs → SqT K G t row.toV → row.Ok → ∃ (z2 x5 x6 x7 x8 : Option V) (refs' : List V) (rs' : List Row),
          [some (.ref a), some (.ref p), y2, some (.int (1 + many)), some (.ref r), some (.int (0 + k)), some (.int ch), some (.int to), some (.str nm), x9, x10, x11] = [some (V.ref a), some (.ref p), z2, some (.int (1 + many)), some (.ref r), x5, x6, x7, x8, x9, x10, x11] ∧
          Bag K (upd G r (.lst (refs ++ [.ref t]))) p a r refs' rs' ∧ refs'.length ≤ k + 1 := fun G row t b s ok =>
        ⟨y2, _, _, _, _, _, _, rfl, b.app s ok, by rw [List.length_append, List.length_singleton]; omega⟩
      -- if choice < 2
      refine ⟨_, rfl, _, _, rfl, rfl, _, rfl, ite2 (fun _ => ?_) (fun _ => ?_)⟩
      · refine ⟨.ref r, rfl, .inl ⟨rfl, _, SqL.of B9.lst⟩, .ref p, rfl, (by show 2 ≤ sizeLine; decide), fun o no => ⟨p, a, o, _, rfl, B9.pool.new no, SqL.of upd_same, (fun z => ?_), (by decide), (by decide), fun x G hx og hPg => ?_⟩⟩
        · obtain ⟨_, _, _, e⟩ := B9.pool.ex
          exact ne_of_none e no z.symm
        have B10 := (B9.new (o := .lst [.str "all", .str "none"]) no).off og hPg
        obtain ⟨al, rfl⟩ : ∃ al : Bool, x = .str (if al then "all" else "none") := by
          rcases List.mem_cons.mp hx with e | e
          · exact ⟨true, e⟩
          · exact ⟨false, List.mem_singleton.mp e⟩
        refine ⟨_, rfl, .ref p, rfl, p, a, 16, rfl, B10.pool, by decide, by decide, fun v H11 v0 v1 o11 hP11 => ⟨_, rfl, (by show 4 ≤ sizeLine; decide), fun t nt => ?_⟩⟩
        have B11 := (B10.off o11 hP11).new (o := .tup (Row.toV (.tst al nm v to))) nt
        exact ⟨r, refs, .ref t, rfl, rfl, B11.lst, lim, fin _ (.tst al nm v to) t B11 (SqT.of upd_same) hnm⟩
      -- elif choice < 5
      refine ⟨_, rfl, _, _, rfl, rfl, _, rfl, ite2 (fun _ => ?_) (fun _ => ?_)⟩
      · refine ⟨.ref r, rfl, .inl ⟨rfl, _, SqL.of B9.lst⟩, .ref p, rfl, (by show 5 ≤ sizeLine; decide), fun o no => ⟨p, a, o, _, rfl, B9.pool.new no, SqL.of upd_same, (fun z => ?_), (by decide), (by decide), fun x G hx og hPg => ?_⟩⟩
        · obtain ⟨_, _, _, e⟩ := B9.pool.ex
          exact ne_of_none e no z.symm
        have B10 := (B9.new no).off og hPg
        obtain ⟨n', hn', rfl⟩ : ∃ n' : Str, n' ∈ REGS ∧ x = .str n' := by
          have hx : x ∈ (["views", "legal", "ends", "puts", "takes"] : List Str).map V.str := hx
          obtain ⟨n', h, rfl⟩ := List.mem_map.mp hx
          refine ⟨n', ?_, rfl⟩
          have all : ∀ m ∈ (["views", "legal", "ends", "puts", "takes"] : List Str), m ∈ REGS := by decide +kernel
          exact all _ h
        refine ⟨.ref p, rfl, p, a, 16, rfl, B10.pool, by decide, by decide, fun v H11 v0 v1 o11 hP11 => ⟨(by show 4 ≤ sizeLine; decide), fun t nt => ?_⟩⟩
        have B11 := (B10.off o11 hP11).new (o := .tup (Row.toV (.set n' v))) nt
        exact ⟨r, refs, .ref t, rfl, rfl, B11.lst, lim, fin _ (.set n' v) t B11 (SqT.of upd_same) hn'⟩
      -- elif choice == 5
      refine ⟨_, rfl, rfl, _, rfl, ite2 (fun _ => ?_) (fun _ => ?_)⟩
      · refine ⟨.ref r, rfl, .inl ⟨rfl, _, SqL.of B9.lst⟩, .ref p, rfl, (by show 2 ≤ sizeLine; decide), fun o no => ⟨p, a, o, _, rfl, B9.pool.new no, SqL.of upd_same, (fun z => ?_), (by decide), (by decide), fun x G hx og hPg => ?_⟩⟩
        · obtain ⟨_, _, _, e⟩ := B9.pool.ex
          exact ne_of_none e no z.symm
        have B10 := (B9.new no).off og hPg
        obtain ⟨sec, rfl⟩ : ∃ sec : Bool, x = .str (plr sec) := by
          rcases List.mem_cons.mp hx with e | e
          · exact ⟨false, e⟩
          · exact ⟨true, List.mem_singleton.mp e⟩
        refine ⟨_, rfl, (by show 4 ≤ sizeLine; decide), fun t nt => ?_⟩
        have B11 := B10.new (o := .tup (Row.toV (.who sec to))) nt
        exact ⟨r, refs, .ref t, rfl, rfl, B11.lst, lim, fin _ (.who sec to) t B11 (SqT.of upd_same) trivial⟩
      -- elif choice == 6
      refine ⟨_, rfl, rfl, _, rfl, ite2 (fun _ => ?_) (fun _ => ?_)⟩
      · refine ⟨.ref r, rfl, .inl ⟨rfl, _, SqL.of B9.lst⟩, .ref p, rfl, p, a, 3, rfl, B9.pool, by decide, by decide, fun v H11 v0 v1 o11 hP11 => ⟨_, rfl, (by show 4 ≤ sizeLine; decide), fun t nt => ?_⟩⟩
        have B11 := (B9.off o11 hP11).new (o := .tup (Row.toV (.chosen v to))) nt
        exact ⟨r, refs, .ref t, rfl, rfl, B11.lst, lim, fin _ (.chosen v to) t B11 (SqT.of upd_same) trivial⟩
      -- elif choice == 7
      refine ⟨_, rfl, rfl, _, rfl, ite2 (fun _ => ?_) (fun _ => ?_)⟩
      · refine ⟨.ref r, rfl, .inl ⟨rfl, _, SqL.of B9.lst⟩, .ref p, rfl, (by show 4 ≤ sizeLine; decide), fun t1 n1 => ⟨_, rfl, (by show 4 ≤ sizeLine; decide), fun t2 n2 => ⟨(by show 2 ≤ sizeLine; decide), fun o no => ?_⟩⟩⟩
        have C1 := B9.new (o := .tup (Row.toV .mark)) n1
        have C2 := C1.new (o := .tup (Row.toV (.again to))) n2
        have C3 := C2.new (o := .lst [.ref t1, .ref t2]) no
        have f1 : SqT K (upd (upd (upd H9 t1 (.tup (Row.toV .mark))) t2 (.tup (Row.toV (.again to)))) o (.lst [.ref t1, .ref t2])) t1 (Row.toV .mark) := sqT_same ((Same.new n2).trans (Same.new no)) (SqT.of upd_same)
        have f2 : SqT K (upd (upd (upd H9 t1 (.tup (Row.toV .mark))) t2 (.tup (Row.toV (.again to)))) o (.lst [.ref t1, .ref t2])) t2 (Row.toV (.again to)) := sqT_same (Same.new no) (SqT.of upd_same)
        obtain ⟨i0, y0, z0, e0⟩ := C3.pool.ex
        refine ⟨p, a, o, _, rfl, C3.pool, SqL.of upd_same, (fun z => ?_), (by show 0 < 2; decide), (by show 2 ≤ 100000; decide), fun x G hx og hPg => ?_⟩
        · obtain ⟨_, _, _, e⟩ := C2.pool.ex
          exact ne_of_none e no z.symm
        have keepT : ∀ t xs, SqT K (upd (upd (upd H9 t1 (.tup (Row.toV .mark))) t2 (.tup (Row.toV (.again to)))) o (.lst [.ref t1, .ref t2])) t xs → SqT K G t xs := fun t xs s => by
          rcases s with s | s
          · exact sqT_off og (fun y => rd_lst e0 _ (y ▸ s)) (.inl s)
          · exact .inr s
        have C4 := C3.off og hPg
        rcases List.mem_cons.mp hx with e | e
        · subst e
          exact ⟨r, refs, .ref t1, rfl, rfl, C4.lst, lim, fin _ .mark t1 C4 (keepT _ _ f1) trivial⟩
        · obtain rfl := List.mem_singleton.mp e
          exact ⟨r, refs, .ref t2, rfl, rfl, C4.lst, lim, fin _ (.again to) t2 C4 (keepT _ _ f2) trivial⟩
      -- else
      · refine ⟨.ref r, rfl, .inl ⟨rfl, _, SqL.of B9.lst⟩, (by show 4 ≤ sizeLine; decide), fun t nt => ?_⟩
        have B11 := B9.new (o := .tup (Row.toV .stop)) nt
        exact ⟨r, refs, .ref t, rfl, rfl, B11.lst, lim, fin _ .stop t B11 (SqT.of upd_same) trivial⟩
    rintro σ H4 ⟨y2, y5, y6, y7, y8, refs, rs, rfl, B4, hlen⟩
    have hlen : refs.length ≤ 20 := by omega
    -- rows.append(('stop', '', '', ''))
    refine ⟨.ref r, rfl, .inl ⟨rfl, _, SqL.of B4.lst⟩, (by show 4 ≤ sizeLine; decide), fun t nt => ?_⟩
    have B5 := B4.new (o := .tup (Row.toV .stop)) nt
    refine ⟨r, refs, .ref t, rfl, rfl, B5.lst, small1000 (by omega), ?_⟩
    have B6 := B5.app (row := .stop) (t := t) (SqT.of upd_same) trivial
    -- number, move, most
    refine ⟨.ref p, rfl, p, a, 32, rfl, B6.pool, by decide, by decide, fun n H7 n0 n1 o7 hP7 => ?_⟩
    have B7 := B6.off o7 hP7
    refine ⟨.ref p, rfl, p, a, 4, rfl, B7.pool, by decide, by decide, fun mv H8 m0 m1 o8 hP8 => ⟨_, _, rfl, rfl, ?_⟩⟩
    have B8 := B7.off o8 hP8
    refine ⟨.ref p, rfl, (by show 3 ≤ sizeLine; decide), fun o no => ⟨p, a, o, _, rfl, B8.pool.new no, SqL.of upd_same, (fun z => ?_), (by decide), (by decide), fun x G hx og hPg => ?_⟩⟩
    · obtain ⟨_, _, _, e⟩ := B8.pool.ex
      exact ne_of_none e no z.symm
    have B9 := (B8.new no).off og hPg
    obtain ⟨most, hmost, rfl⟩ : ∃ most : Nat, most ≤ 1000 ∧ x = .int most := by
      rcases List.mem_cons.mp hx with e | hx
      · exact ⟨3, by decide, e⟩
      · rcases List.mem_cons.mp hx with e | hx
        · exact ⟨10, by decide, e⟩
        · exact ⟨60, by decide, List.mem_singleton.mp hx⟩
    -- _law_run(..), run(tuple(rows), ..)
    refine ⟨fun σ' G' => ∃ y2 y5 y6 y7 y8 y9 y10 y11 : Option V, σ' = [some (.ref a), some (.ref p), y2, some (.int (1 + many)), some (.ref r), y5, y6, y7, y8, y9, y10, y11] ∧ Bag K G' p a r (refs ++ [.ref t]) (rs ++ [.stop]), ?_, ?_⟩
    · refine ⟨.ref r, rfl, _, rfl, _, rfl, _, rfl, r, n, _, most, _, _, rfl, SqL.of B9.lst, B9.rows, hmost, fun v1 G1 sg1 r1 => ?_⟩
      have B10 := B9.same sg1
      refine ⟨.ref r, rfl, r, _, rfl, .inl ⟨SqL.of B10.lst, fun tt ntt => ?_⟩⟩
      have B11 := B10.new (o := .tup (refs ++ [.ref t])) ntt
      refine ⟨_, rfl, _, rfl, _, rfl, tt, n, _, most, _, _, rfl, SqT.of upd_same, B11.rows, fun v2 G2 sg2 r2 => ?_⟩
      have B12 := B11.same sg2
      -- the two hand back the same
      cases ex : exec1 (rs ++ [.stop]) (decide (n % 2 = 1)) (mv - 1) most 0 0 (g0 n) with
      | none =>
        have r1 := r1
        rw [ex] at r1 r2
        obtain rfl : v1 = .non := r1
        obtain rfl : v2 = .non := r2
        exact .inl ⟨.inr rfl, _, rfl, iteF ⟨_, _, _, _, _, _, _, _, rfl, B12⟩⟩
      | some gc =>
        obtain ⟨g, c⟩ := gc
        rw [ex] at r1 r2
        obtain ⟨d1, rfl, n1, e1⟩ := r1
        obtain ⟨d2, rfl, n2, e2⟩ := r2
        have e1' : (upd G1 tt (.tup (refs ++ [.ref t]))) d1 = some (.dK (kvsOf g ++ [((Sum.inr "steps" : Key), V.int (c : Int))])) := by
          rw [upd_ne (ne_of_none e1 ntt)]
          exact e1
        refine .inr ⟨d1, d2, _, rfl, ne_of_none e1' n2, sg2 _ _ e1', e2, ?_, ?_, fun G3 sg3 => ⟨_, rfl, iteF ⟨_, _, _, _, _, _, _, _, rfl, B12.same sg3⟩⟩⟩
        · show (List.map _ (List.map _ REGS ++ _)).Nodup
          rw [List.map_append, List.map_map]
          show (REGS.map Sum.inr ++ [(Sum.inr "steps" : Key)]).Nodup
          decide +kernel
        · intro x hx
          rcases List.mem_append.mp hx with h | h
          · obtain ⟨s, _, rfl⟩ := List.mem_map.mp h
            exact ⟨_, rfl⟩
          · rw [List.mem_singleton.mp h]
            exact ⟨_, rfl⟩
    rintro σ' G3 ⟨y2, y5, y6, y7, y8, y9, y10, y11, rfl, B13⟩
    -- most_steps
    refine ⟨.ref r, rfl, r, _, rfl, .inl ⟨SqL.of B13.lst, fun t3 nt3 => ⟨t3, _, 5, rfl, SqT.of upd_same, ⟨by decide, by decide⟩, ?_⟩⟩⟩
    have B14 := B13.new (o := .tup (refs ++ [.ref t])) nt3
    refine ⟨.ref r, rfl, r, _, rfl, .inl (SqL.of B14.lst), _, _, rfl, rfl, _, _, rfl, rfl, .inr ⟨by decide, by decide⟩, rfl, _, rfl, ?_⟩
    refine ifnD rfl ?_
    exact ⟨_, _, _, _, _, _, _, _, _, _, rfl, B14.pool⟩
  · rintro σ H1 ⟨x2, x3, x4, x5, x6, x7, x8, x9, x10, x11, rfl, hP⟩
    -- run((('set', 'views', 1, ''),), 0, -1, 9) is None
    refine ⟨(by show 4 ≤ sizeLine; decide), fun t nt => ⟨(by show 1 ≤ sizeLine; decide), fun t2 nt2 => ⟨_, rfl, t2, 0, -1, 9, [.ref t], [.set "views" 1], rfl, SqT.of upd_same, ⟨rfl, fun i r e => ?_⟩, fun v G sg rs => ?_⟩⟩⟩
    · cases i with
      | zero =>
        obtain rfl := Option.some.inj e
        exact ⟨m_views, t, rfl, sqT_same (Same.new nt2) (SqT.of upd_same)⟩
      | succ j => cases e
    · obtain rfl : v = .non := rs
      exact ⟨rfl, q _⟩
end
end My
set_option Elab.async false
set_option linter.all false
set_option maxRecDepth 100000
set_option maxHeartbeats 4000000
namespace My
open PySem PySem.Spec PyProof.Rows L2
theorem all_mk {l : PySem.W.OpenLaw} {w : World} {K : PySem.W.Frag} {h : Heap} {mg : Str → Option Value} {fa : Addr} (X : K.In h) (G : h.Ns mainGlobals mg) (hfa : mg "law" = some (.ref fa))
    {f0 : Addr} {od0 an0 : Option Addr} {sl0 : Array (Option Value)} {oc0 kV0 dc0 pm0 cd0 ct0 : Value}
    (a0 : PySem.W.nsIn K mainGlobals "started" = some (some (.ref f0))) (l0 : K.lookup f0 = some ⟨oc0, od0, .func (PySem.W.fnOf "started" "started" (defArgs st_started) (defBody st_started) (defScope st_started) .none kV0 dc0 pm0 an0 cd0 ct0), sl0⟩) (c0 : PySem.W.codeIn K cd0 "started" = true) (k0 : PySem.W.keepIn K (.ref f0) = true)
    {f1 : Addr} {od1 an1 : Option Addr} {sl1 : Array (Option Value)} {oc1 kV1 dc1 pm1 cd1 ct1 : Value}
    (a1 : PySem.W.nsIn K mainGlobals "goes_on" = some (some (.ref f1))) (l1 : K.lookup f1 = some ⟨oc1, od1, .func (PySem.W.fnOf "goes_on" "goes_on" (defArgs st_goes_on) (defBody st_goes_on) (defScope st_goes_on) .none kV1 dc1 pm1 an1 cd1 ct1), sl1⟩) (c1 : PySem.W.codeIn K cd1 "goes_on" = true) (k1 : PySem.W.keepIn K (.ref f1) = true)
    {f2 : Addr} {od2 an2 : Option Addr} {sl2 : Array (Option Value)} {oc2 kV2 dc2 pm2 cd2 ct2 : Value}
    (a2 : PySem.W.nsIn K mainGlobals "target" = some (some (.ref f2))) (l2 : K.lookup f2 = some ⟨oc2, od2, .func (PySem.W.fnOf "target" "target" (defArgs st_target) (defBody st_target) (defScope st_target) .none kV2 dc2 pm2 an2 cd2 ct2), sl2⟩) (c2 : PySem.W.codeIn K cd2 "target" = true) (k2 : PySem.W.keepIn K (.ref f2) = true)
    {f3 : Addr} {od3 an3 : Option Addr} {sl3 : Array (Option Value)} {oc3 kV3 dc3 pm3 cd3 ct3 : Value}
    (a3 : PySem.W.nsIn K mainGlobals "run" = some (some (.ref f3))) (l3 : K.lookup f3 = some ⟨oc3, od3, .func (PySem.W.fnOf "run" "run" (defArgs st_run) (defBody st_run) (defScope st_run) .none kV3 dc3 pm3 an3 cd3 ct3), sl3⟩) (c3 : PySem.W.codeIn K cd3 "run" = true) (k3 : PySem.W.keepIn K (.ref f3) = true)
    {f4 : Addr} {od4 an4 : Option Addr} {sl4 : Array (Option Value)} {oc4 kV4 dc4 pm4 cd4 ct4 : Value}
    (a4 : PySem.W.nsIn K mainGlobals "most_steps" = some (some (.ref f4))) (l4 : K.lookup f4 = some ⟨oc4, od4, .func (PySem.W.fnOf "most_steps" "most_steps" (defArgs st_most_steps) (defBody st_most_steps) (defScope st_most_steps) .none kV4 dc4 pm4 an4 cd4 ct4), sl4⟩) (c4 : PySem.W.codeIn K cd4 "most_steps" = true) (k4 : PySem.W.keepIn K (.ref f4) = true)
    {f5 : Addr} {od5 an5 : Option Addr} {sl5 : Array (Option Value)} {oc5 kV5 dc5 pm5 cd5 ct5 : Value}
    (a5 : PySem.W.nsIn K mainGlobals "_law_mixed" = some (some (.ref f5))) (l5 : K.lookup f5 = some ⟨oc5, od5, .func (PySem.W.fnOf "_law_mixed" "_law_mixed" (defArgs st_law_mixed) (defBody st_law_mixed) (defScope st_law_mixed) .none kV5 dc5 pm5 an5 cd5 ct5), sl5⟩) (c5 : PySem.W.codeIn K cd5 "_law_mixed" = true) (k5 : PySem.W.keepIn K (.ref f5) = true)
    {f6 : Addr} {od6 an6 : Option Addr} {sl6 : Array (Option Value)} {oc6 kV6 dc6 pm6 cd6 ct6 : Value}
    (a6 : PySem.W.nsIn K mainGlobals "_law_rest" = some (some (.ref f6))) (l6 : K.lookup f6 = some ⟨oc6, od6, .func (PySem.W.fnOf "_law_rest" "_law_rest" (defArgs st_law_rest) (defBody st_law_rest) (defScope st_law_rest) .none kV6 dc6 pm6 an6 cd6 ct6), sl6⟩) (c6 : PySem.W.codeIn K cd6 "_law_rest" = true) (k6 : PySem.W.keepIn K (.ref f6) = true)
    {f7 : Addr} {od7 an7 : Option Addr} {sl7 : Array (Option Value)} {oc7 kV7 dc7 pm7 cd7 ct7 : Value}
    (a7 : PySem.W.nsIn K mainGlobals "_law_pool" = some (some (.ref f7))) (l7 : K.lookup f7 = some ⟨oc7, od7, .func (PySem.W.fnOf "_law_pool" "_law_pool" (defArgs st_law_pool) (defBody st_law_pool) (defScope st_law_pool) .none kV7 dc7 pm7 an7 cd7 ct7), sl7⟩) (c7 : PySem.W.codeIn K cd7 "_law_pool" = true) (k7 : PySem.W.keepIn K (.ref f7) = true)
    {f8 : Addr} {od8 an8 : Option Addr} {sl8 : Array (Option Value)} {oc8 kV8 dc8 pm8 cd8 ct8 : Value}
    (a8 : PySem.W.nsIn K mainGlobals "_law_next" = some (some (.ref f8))) (l8 : K.lookup f8 = some ⟨oc8, od8, .func (PySem.W.fnOf "_law_next" "_law_next" (defArgs st_law_next) (defBody st_law_next) (defScope st_law_next) .none kV8 dc8 pm8 an8 cd8 ct8), sl8⟩) (c8 : PySem.W.codeIn K cd8 "_law_next" = true) (k8 : PySem.W.keepIn K (.ref f8) = true)
    {f9 : Addr} {od9 an9 : Option Addr} {sl9 : Array (Option Value)} {oc9 kV9 dc9 pm9 cd9 ct9 : Value}
    (a9 : PySem.W.nsIn K mainGlobals "_law_draw" = some (some (.ref f9))) (l9 : K.lookup f9 = some ⟨oc9, od9, .func (PySem.W.fnOf "_law_draw" "_law_draw" (defArgs st_law_draw) (defBody st_law_draw) (defScope st_law_draw) .none kV9 dc9 pm9 an9 cd9 ct9), sl9⟩) (c9 : PySem.W.codeIn K cd9 "_law_draw" = true) (k9 : PySem.W.keepIn K (.ref f9) = true)
    {f10 : Addr} {od10 an10 : Option Addr} {sl10 : Array (Option Value)} {oc10 kV10 dc10 pm10 cd10 ct10 : Value}
    (a10 : PySem.W.nsIn K mainGlobals "_law_pick" = some (some (.ref f10))) (l10 : K.lookup f10 = some ⟨oc10, od10, .func (PySem.W.fnOf "_law_pick" "_law_pick" (defArgs st_law_pick) (defBody st_law_pick) (defScope st_law_pick) .none kV10 dc10 pm10 an10 cd10 ct10), sl10⟩) (c10 : PySem.W.codeIn K cd10 "_law_pick" = true) (k10 : PySem.W.keepIn K (.ref f10) = true)
    {f11 : Addr} {od11 an11 : Option Addr} {sl11 : Array (Option Value)} {oc11 kV11 dc11 pm11 cd11 ct11 : Value}
    (a11 : PySem.W.nsIn K mainGlobals "_law_same" = some (some (.ref f11))) (l11 : K.lookup f11 = some ⟨oc11, od11, .func (PySem.W.fnOf "_law_same" "_law_same" (defArgs st_law_same) (defBody st_law_same) (defScope st_law_same) .none kV11 dc11 pm11 an11 cd11 ct11), sl11⟩) (c11 : PySem.W.codeIn K cd11 "_law_same" = true) (k11 : PySem.W.keepIn K (.ref f11) = true)
    {f12 : Addr} {od12 an12 : Option Addr} {sl12 : Array (Option Value)} {oc12 kV12 dc12 pm12 cd12 ct12 : Value}
    (a12 : PySem.W.nsIn K mainGlobals "_law_run" = some (some (.ref f12))) (l12 : K.lookup f12 = some ⟨oc12, od12, .func (PySem.W.fnOf "_law_run" "_law_run" (defArgs st_law_run) (defBody st_law_run) (defScope st_law_run) .none kV12 dc12 pm12 an12 cd12 ct12), sl12⟩) (c12 : PySem.W.codeIn K cd12 "_law_run" = true) (k12 : PySem.W.keepIn K (.ref f12) = true)
    {f13 : Addr} {od13 an13 : Option Addr} {sl13 : Array (Option Value)} {oc13 kV13 dc13 pm13 cd13 ct13 : Value}
    (a13 : PySem.W.nsIn K mainGlobals "law" = some (some (.ref f13))) (l13 : K.lookup f13 = some ⟨oc13, od13, .func (PySem.W.fnOf "law" "law" (defArgs st_law) (defBody st_law) (defScope st_law) .none kV13 dc13 pm13 an13 cd13 ct13), sl13⟩) (c13 : PySem.W.codeIn K cd13 "law" = true) (k13 : PySem.W.keepIn K (.ref f13) = true)
    {u0 : Addr} {uo0 : Option Addr} {ui0 : Array Value} {un0 : Nat} {us0 : Array (Option Value)} (ua0 : PySem.W.nsIn K mainGlobals "REGISTERS" = some (some (.ref u0))) (ul0 : K.lookup u0 = some ⟨.type "tuple", uo0, .seq ui0 un0, us0⟩) (uz0 : ui0.size ≤ 1000) (ue0 : ui0.toList.map absV = (REGS.map V.str).map some)
    {u1 : Addr} {uo1 : Option Addr} {ui1 : Array Value} {un1 : Nat} {us1 : Array (Option Value)} (ua1 : PySem.W.nsIn K mainGlobals "PLAYERS" = some (some (.ref u1))) (ul1 : K.lookup u1 = some ⟨.type "tuple", uo1, .seq ui1 un1, us1⟩) (uz1 : ui1.size ≤ 1000) (ue1 : ui1.toList.map absV = (([.str "first", .str "second"] : List V)).map some)
    (z_isinstance : PySem.W.nsIn K mainGlobals "isinstance" = some none)
    (z_dict : PySem.W.nsIn K mainGlobals "dict" = some none)
    (z_list : PySem.W.nsIn K mainGlobals "list" = some none)
    (z_tuple : PySem.W.nsIn K mainGlobals "tuple" = some none)
    (z_bool : PySem.W.nsIn K mainGlobals "bool" = some none)
    (z_str : PySem.W.nsIn K mainGlobals "str" = some none)
    (z_int : PySem.W.nsIn K mainGlobals "int" = some none)
    (z_len : PySem.W.nsIn K mainGlobals "len" = some none)
    (z_range : PySem.W.nsIn K mainGlobals "range" = some none)
    (z_min : PySem.W.nsIn K mainGlobals "min" = some none)
    : ∃ fd : FuncData, (∀ (s : Shared) (v : Value), BindsTo s fd ⟨[v], []⟩ [("script", v)]) ∧ ∀ base : Heap, K.In base → base.Ns mainGlobals mg → FnOk l.prog w K mg base CX0 5 fa fd ["script"] (spLaw K) := by
  have T_started : Top K mg "started" st_started ["number"] := top_mk X G a0 l0 c0 k0 (fun _ _ _ _ _ _ us hl => match us, hl with | [_], _ => rfl)
  have T_goes_on : Top K mg "goes_on" st_goes_on ["registers", "who", "move", "row"] := top_mk X G a1 l1 c1 k1 (fun _ _ _ _ _ _ us hl => match us, hl with | [_, _, _, _], _ => rfl)
  have T_target : Top K mg "target" st_target ["row"] := top_mk X G a2 l2 c2 k2 (fun _ _ _ _ _ _ us hl => match us, hl with | [_], _ => rfl)
  have T_run : Top K mg "run" st_run ["rows", "number", "move", "most"] := top_mk X G a3 l3 c3 k3 (fun _ _ _ _ _ _ us hl => match us, hl with | [_, _, _, _], _ => rfl)
  have T_most_steps : Top K mg "most_steps" st_most_steps ["rows", "views"] := top_mk X G a4 l4 c4 k4 (fun _ _ _ _ _ _ us hl => match us, hl with | [_, _], _ => rfl)
  have T_law_mixed : Top K mg "_law_mixed" st_law_mixed ["number", "place"] := top_mk X G a5 l5 c5 k5 (fun _ _ _ _ _ _ us hl => match us, hl with | [_, _], _ => rfl)
  have T_law_rest : Top K mg "_law_rest" st_law_rest ["script", "place", "fills"] := top_mk X G a6 l6 c6 k6 (fun _ _ _ _ _ _ us hl => match us, hl with | [_, _, _], _ => rfl)
  have T_law_pool : Top K mg "_law_pool" st_law_pool ["script"] := top_mk X G a7 l7 c7 k7 (fun _ _ _ _ _ _ us hl => match us, hl with | [_], _ => rfl)
  have T_law_next : Top K mg "_law_next" st_law_next ["pool"] := top_mk X G a8 l8 c8 k8 (fun _ _ _ _ _ _ us hl => match us, hl with | [_], _ => rfl)
  have T_law_draw : Top K mg "_law_draw" st_law_draw ["pool", "limit"] := top_mk X G a9 l9 c9 k9 (fun _ _ _ _ _ _ us hl => match us, hl with | [_, _], _ => rfl)
  have T_law_pick : Top K mg "_law_pick" st_law_pick ["pool", "options"] := top_mk X G a10 l10 c10 k10 (fun _ _ _ _ _ _ us hl => match us, hl with | [_, _], _ => rfl)
  have T_law_same : Top K mg "_law_same" st_law_same ["due", "answer"] := top_mk X G a11 l11 c11 k11 (fun _ _ _ _ _ _ us hl => match us, hl with | [_, _], _ => rfl)
  have T_law_run : Top K mg "_law_run" st_law_run ["rows", "number", "move", "most"] := top_mk X G a12 l12 c12 k12 (fun _ _ _ _ _ _ us hl => match us, hl with | [_, _, _, _], _ => rfl)
  have T_law : Top K mg "law" st_law ["script"] := top_mk X G a13 l13 c13 k13 (fun _ _ _ _ _ _ us hl => match us, hl with | [_], _ => rfl)
  have m_REGISTERS := PySem.W.mg_of X G ua0
  have t_REGISTERS := tup_mk ul0 uz0 ue0
  have m_PLAYERS := PySem.W.mg_of X G ua1
  have t_PLAYERS := tup_mk ul1 uz1 ue1
  replace z_isinstance := PySem.W.mg_none_of X G z_isinstance
  replace z_dict := PySem.W.mg_none_of X G z_dict
  replace z_list := PySem.W.mg_none_of X G z_list
  replace z_tuple := PySem.W.mg_none_of X G z_tuple
  replace z_bool := PySem.W.mg_none_of X G z_bool
  replace z_str := PySem.W.mg_none_of X G z_str
  replace z_int := PySem.W.mg_none_of X G z_int
  replace z_len := PySem.W.mg_none_of X G z_len
  replace z_range := PySem.W.mg_none_of X G z_range
  replace z_min := PySem.W.mg_none_of X G z_min
  have e := hfa.symm.trans (PySem.W.mg_of X G a13)
  cases e
  refine ⟨PySem.W.fnOf "law" "law" (defArgs st_law) (defBody st_law) (defScope st_law) .none kV13 dc13 pm13 an13 cd13 ct13, fun s v => .of_eq rfl, fun base _ _ => ?_⟩
  have Z : Zs mg := ⟨z_isinstance, z_dict, z_list, z_tuple, z_bool, z_str, z_int, z_len, z_range, z_min⟩
  have D_mixed : Def l.prog w K mg base 1 "_law_mixed" ["number", "place"] spMixed := ok_mixed T_law_mixed z_int
  have D_rest := ok_rest T_law_rest D_mixed z_int z_len
  have D_draw := ok_draw T_law_draw D_rest z_int
  have D_started : Def l.prog w K mg base 1 "started" ["number"] spStarted := ok_started T_started m_REGISTERS t_REGISTERS
  have D_run := ok_run T_run D_started (ok_goes T_goes_on) (ok_target T_target) m_PLAYERS t_PLAYERS z_len
  have D_law := ok_law T_law Z (ok_pool T_law_pool D_rest) (ok_next T_law_next D_rest) D_draw (ok_pick T_law_pick D_draw z_len) (ok_same2 T_law_same Z) (ok_lrun T_law_run Z) D_run (ok_steps T_most_steps z_len)
  exact D_law.at_ hfa l13
end My
open PySem PySem.W PyProof.Rows
set_option maxHeartbeats 0 in
theorem PySem.Challenge.cw_playproof_k07_rows_run_by_the_machine_holds : PySem.Challenge.rw_playproof_k07_rows_run_by_the_machine.Holds := by
  w_on; o_law; k_head; (case hw => w_witness2)
  k_fill
  refine L2.walk_of (l := PySem.Challenge.rw_playproof_k07_rows_run_by_the_machine) (n := 63) (k := 5) (x := "script") (CX := fun _ => L2.CX0) (sp := fun w => My.spLaw _) rfl (by decide) rfl ⟨rfl, by decide, by decide⟩ (fun w h Y => PySem.W.kIn_of Y) ?F (fun _ _ a ns hl ho hS => ⟨a, ns, rfl, My.Scr.of ho hS, hl, fun _ => rfl⟩) (fun _ _ _ _ _ h => h)
  case F =>
    intro w mg fa h KX G hmg
    refine' My.all_mk KX G hmg ?a0 ?l0 ?c0 ?k0 ?a1 ?l1 ?c1 ?k1 ?a2 ?l2 ?c2 ?k2 ?a3 ?l3 ?c3 ?k3 ?a4 ?l4 ?c4 ?k4 ?a5 ?l5 ?c5 ?k5 ?a6 ?l6 ?c6 ?k6 ?a7 ?l7 ?c7 ?k7 ?a8 ?l8 ?c8 ?k8 ?a9 ?l9 ?c9 ?k9 ?a10 ?l10 ?c10 ?k10 ?a11 ?l11 ?c11 ?k11 ?a12 ?l12 ?c12 ?k12 ?a13 ?l13 ?c13 ?k13 ?ua0 ?ul0 ?uz0 ?ue0 ?ua1 ?ul1 ?uz1 ?ue1 ?z_isinstance ?z_dict ?z_list ?z_tuple ?z_bool ?z_str ?z_int ?z_len ?z_range ?z_min
    (case a0 => k_is)
    (case l0 => k_is)
    (case c0 => k_is)
    (case k0 => k_is)
    (case a1 => k_is)
    (case l1 => k_is)
    (case c1 => k_is)
    (case k1 => k_is)
    (case a2 => k_is)
    (case l2 => k_is)
    (case c2 => k_is)
    (case k2 => k_is)
    (case a3 => k_is)
    (case l3 => k_is)
    (case c3 => k_is)
    (case k3 => k_is)
    (case a4 => k_is)
    (case l4 => k_is)
    (case c4 => k_is)
    (case k4 => k_is)
    (case a5 => k_is)
    (case l5 => k_is)
    (case c5 => k_is)
    (case k5 => k_is)
    (case a6 => k_is)
    (case l6 => k_is)
    (case c6 => k_is)
    (case k6 => k_is)
    (case a7 => k_is)
    (case l7 => k_is)
    (case c7 => k_is)
    (case k7 => k_is)
    (case a8 => k_is)
    (case l8 => k_is)
    (case c8 => k_is)
    (case k8 => k_is)
    (case a9 => k_is)
    (case l9 => k_is)
    (case c9 => k_is)
    (case k9 => k_is)
    (case a10 => k_is)
    (case l10 => k_is)
    (case c10 => k_is)
    (case k10 => k_is)
    (case a11 => k_is)
    (case l11 => k_is)
    (case c11 => k_is)
    (case k11 => k_is)
    (case a12 => k_is)
    (case l12 => k_is)
    (case c12 => k_is)
    (case k12 => k_is)
    (case a13 => k_is)
    (case l13 => k_is)
    (case c13 => k_is)
    (case k13 => k_is)
    (case ua0 => k_is)
    (case ul0 => k_is)
    (case ua1 => k_is)
    (case ul1 => k_is)
    (case z_isinstance => k_is)
    (case z_dict => k_is)
    (case z_list => k_is)
    (case z_tuple => k_is)
    (case z_bool => k_is)
    (case z_str => k_is)
    (case z_int => k_is)
    (case z_len => k_is)
    (case z_range => k_is)
    (case z_min => k_is)
    (case uz0 => decide)
    (case ue0 => rfl)
    (case uz1 => decide)
    (case ue1 => rfl)
