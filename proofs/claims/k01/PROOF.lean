import PyProof.Rows.All
import Wide.All
import OpenK.AllK
import Wide.FinOn
import HandS.ForMost
import HandS.IsInst
import HandS.Wide
import HandS.Style
import HandS.TupLen
import HandS.EndBits
import HandS.Evl
import HandS.DictTup
import KE.KDictWalk
import HandS.Walk
import PySem.Challenge.RW_everymeets_k01_whole_plan
set_option Elab.async false
set_option linter.all false
set_option maxRecDepth 100000
set_option maxHeartbeats 4000000
namespace Em
open PySem PySem.Spec PyProof.Rows L2 Evl

/-- a def of the top as it stands: its function object, its name, how its arguments bind -/
def DAt (K : PySem.W.Frag) (mg : Str → Option Value) (x : Str) (st : Stmt) (ps : List Str) : Prop :=
  ∃ (f : Addr) (fd : FuncData), Fun K x x st f fd ∧ mg x = some (.ref f) ∧ Binds K fd ps []
/-- a def that keeps its promise -/
def DOk (P : Program) (w : World) (K : PySem.W.Frag) (mg : Str → Option Value) (base : Heap) (k : Nat) (x : Str) (ps : List Str) (sp : Sp) : Prop :=
  ∃ (f : Addr) (fd : FuncData), FnOk P w K mg base CX0 k f fd ps sp ∧ mg x = some (.ref f) ∧ PySem.W.keepIn K (.ref f) = true ∧ Binds K fd ps []
section
variable {P : Program} {w : World} {K : PySem.W.Frag} {mg : Str → Option Value} {base : Heap} {X : Cx}
theorem DAt.ok {x : Str} {st : Stmt} {N ps : List Str} {k : Nat} {sp : Sp} (F : DAt K mg x st ps) (S : FnScope N ps (defScope st)) (len : ∀ vs H Q E, sp vs H Q E → vs.length = ps.length)
    (hbody : ∀ (f : Addr) (cdv : Value) (A : Around) (outer : List Env) (s : Shared) (H : Hp) (vs : List V) (Q : VK) (E : XK), Room k (A.deeper (envOfC x (defScope st) s.heap.objs.size f cdv)) → sp vs H Q E →
      ∃ t, PSs (cxOf CX0 P w K mg base N x (defScope st) f cdv A outer s H E).nox (defBody st) t ∧ t { nx := fun _ H' => Q .non H', rt := Q } (start N vs) H) : DOk P w K mg base (k + 1) x ps sp := by
  obtain ⟨f, fd, F, g, b⟩ := F
  exact ⟨f, fd, F.ok S len (hbody f), g, F.kp, b⟩
theorem pe_callD {x : Str} {k : Nat} {ps : List Str} {sp : Sp} {p pos : Pos} {e : Expr} {es : List Expr} {t : TA} (D : DOk X.prog X.w X.K X.mg X.base k x ps sp) (hr : Room k X.A) (ha : PA X (e :: es) t) (hg : Gl X x := by rfl)
    (hdb : (x == ("__debug__" : Str)) = false := by decide) (he : starEach (e :: es) X.env = (false, eval e X.env) :: starEach es X.env := by rfl) (hpl : (backTo pos (starEach es X.env)).any (·.1) = false := by rfl) :
    PE X (.Call (.Name x p) (e :: es) [] pos) (tCall sp [] E0 t) := by
  obtain ⟨f, fd, F, g, kp, b⟩ := D
  exact pe_call F hr hg g kp b .nil pass0 ha hdb he hpl
/-- any two ints whose product the model still makes -/
theorem op_mulB : OpR X (binaryOp .Mult) (rI IntMulOk fun i j => .int (i * j)) := opI fun _ _ _ _ _ _ _ hc q => mul_int q hc
/-- four in a chain -/
def tChain3 (r r' r'' : R2) (ta tb tc td : TE) : TE := fun σ H Q => ta σ H fun x H1 => tb σ H1 fun y H2 => r x y H2 fun z H3 => ∃ k, z = .bl k ∧
  (if k = true then tc σ H3 fun w' H4 => r' y w' H4 fun z' H5 => ∃ k', z' = .bl k' ∧ (if k' = true then td σ H5 fun w2 H6 => r'' w' w2 H6 Q else Q (.bl false) H5) else Q (.bl false) H3)
theorem pe_chain3 {a b c d : Expr} {ta tb tc td : TE} {pos : Pos} {op op' op'' : CmpOp} {r r' r'' : R2} (ho : OpR X (compareOp op) r) (ho' : OpR X (compareOp op') r') (ho'' : OpR X (compareOp op'') r'') (ha : PE X a ta) (hb : PE X b tb) (hc : PE X c tc) (hd : PE X d td)
    (hm : lastMarks [op, op', op''] [b, c, d] = false := by with_unfolding_all rfl) : PE X (.Compare a [op, op', op''] [b, c, d] pos) (tChain3 r r' r'' ta tb tc td) := by
  refine ⟨fun pins s σ H Q I h => ?_⟩
  refine Compare_chain (thn (ha.run pins s σ H _ I h) fun v s1 ⟨x, H1, I1, r1, q1⟩ => chain_link (thn (hb.run pins s1 σ H1 _ I1 q1) fun u s2 ⟨y, H2, I2, r2, q2⟩ =>
    thn (ho pins s2 σ H2 x y v u _ I2 r1 r2 q2) fun d' s3 ⟨z, H3, I3, r3, k, e, q3⟩ => ?_)) hm
  subst e
  cases r3
  refine wpAny_truthy_bool ?_
  cases k with
  | false => exact ite_ff ⟨.bl false, H3, I3, rfl, q3⟩
  | true =>
    refine ite_tt (chain_link (thn (hc.run pins s3 σ H3 _ I3 q3) fun w' s4 ⟨z', H4, I4, r4, q4⟩ => thn (ho' pins s4 σ H4 y z' u w' _ I4 r2 r4 q4) fun d2 s5 ⟨z2, H5, I5, r5, k2, e2, q5⟩ => ?_))
    subst e2
    cases r5
    refine wpAny_truthy_bool ?_
    cases k2 with
    | false => exact ite_ff ⟨.bl false, H5, I5, rfl, q5⟩
    | true => exact ite_tt (chain_last (thn (hd.run pins s5 σ H5 _ I5 q5) fun w2 s6 ⟨z3, H6, I6, r6, q6⟩ => ho'' pins s6 σ H6 z' z3 w' w2 Q I6 r4 r6 q6))
end
section
variable {K : PySem.W.Frag} {σ : L2.St} {H H' : Hp} {ta tb tc td te : TE} {t u : TT} {x y z v : V} {r r' r'' : R2}
theorem ev_chain {c d : Bool} (ha : Ev ta σ H x) (hb : Ev tb σ H y) (hr : RV r x y H (.bl c)) (hc : c = true → ∃ z, Ev tc σ H z ∧ RV r' y z H (.bl d)) : Ev (tChain r r' ta tb tc) σ H (.bl (c && d)) := fun H1 e Q q =>
  ha H1 e _ fun H2 e2 => hb H2 (e.trans e2) _ fun H3 e3 => hr H3 ((e.trans e2).trans e3) _ fun H4 e4 => ⟨c, rfl, by
    cases c with
    | true =>
      obtain ⟨z, h1, h2⟩ := hc rfl
      show tc σ H4 fun w' H4 => r' y w' H4 Q
      refine h1 H4 (((e.trans e2).trans e3).trans e4) _ fun H5 e5 => ?_
      exact h2 H5 ((((e.trans e2).trans e3).trans e4).trans e5) Q fun H6 e6 => q H6 ((((e2.trans e3).trans e4).trans e5).trans e6)
    | false => exact q H4 ((e2.trans e3).trans e4)⟩
/-- three ints in a row -/
theorem ev_ch2 {g g' : Int → Int → Bool} {i j k : Int} (ha : Ev ta σ H (.int i)) (hb : Ev tb σ H (.int j)) (hc : Ev tc σ H (.int k)) :
    Ev (tChain (rI0 fun i j => .bl (g i j)) (rI0 fun i j => .bl (g' i j)) ta tb tc) σ H (.bl (g i j && g' j k)) := ev_chain ha hb (rv_I0 (g := fun i j => .bl (g i j))) fun _ => ⟨_, hc, rv_I0 (g := fun i j => .bl (g' i j))⟩
theorem ev_ch3 {g g' g'' : Int → Int → Bool} {i j k l : Int} (ha : Ev ta σ H (.int i)) (hb : Ev tb σ H (.int j)) (hc : Ev tc σ H (.int k)) (hd : Ev td σ H (.int l)) :
    Ev (tChain3 (rI0 fun i j => .bl (g i j)) (rI0 fun i j => .bl (g' i j)) (rI0 fun i j => .bl (g'' i j)) ta tb tc td) σ H (.bl (g i j && (g' j k && g'' k l))) := fun H1 e Q q =>
  ha H1 e _ fun H2 e2 => hb H2 (e.trans e2) _ fun H3 e3 => ⟨i, j, rfl, rfl, g i j, rfl, by
    cases hg : g i j with
    | false =>
      rw [hg] at q
      exact q H3 (e2.trans e3)
    | true =>
      show tc σ H3 _
      refine hc H3 ((e.trans e2).trans e3) _ fun H4 e4 => ⟨j, k, rfl, rfl, g' j k, rfl, ?_⟩
      cases hg' : g' j k with
      | false =>
        rw [hg, hg'] at q
        exact q H4 ((e2.trans e3).trans e4)
      | true =>
        show td σ H4 _
        refine hd H4 (((e.trans e2).trans e3).trans e4) _ fun H5 e5 => ⟨k, l, rfl, rfl, ?_⟩
        rw [hg, hg'] at q
        exact q H5 (((e2.trans e3).trans e4).trans e5)⟩
theorem et_ch2 {g g' : Int → Int → Bool} {i j k : Int} (ha : Ev ta σ H (.int i)) (hb : Ev tb σ H (.int j)) (hc : Ev tc σ H (.int k)) :
    EvT (tTest (tChain (rI0 fun i j => .bl (g i j)) (rI0 fun i j => .bl (g' i j)) ta tb tc)) σ H (g i j && g' j k) := et_test (ev_ch2 ha hb hc)
theorem et_ch3 {g g' g'' : Int → Int → Bool} {i j k l : Int} (ha : Ev ta σ H (.int i)) (hb : Ev tb σ H (.int j)) (hc : Ev tc σ H (.int k)) (hd : Ev td σ H (.int l)) :
    EvT (tTest (tChain3 (rI0 fun i j => .bl (g i j)) (rI0 fun i j => .bl (g' i j)) (rI0 fun i j => .bl (g'' i j)) ta tb tc td)) σ H (g i j && (g' j k && g'' k l)) := et_test (ev_ch3 ha hb hc hd)
theorem ev_call0 {sp : Sp} {vs : List V} {E : XK} {tA : TA} (h : EvA tA σ H vs) (hs : SpV sp vs H z) : Ev (tCall sp [] E tA) σ H z := ev_call h (by rw [List.append_nil]; exact hs)
theorem el_call0 {sp : Sp} {vs xs : List V} {E : XK} {tA : TA} (h : EvA tA σ H vs) (hs : SpL sp vs H xs) : EvL (tCall sp [] E tA) σ H xs := el_call h (by rw [List.append_nil]; exact hs)
/-- a promise by what is handed in, what must hold of it, what comes out; new objects may be laid -/
def spV {α : Type} (args : α → List V) (pre : α → Hp → Prop) (val : α → V) : Sp := fun vs H Q _ => ∃ a, vs = args a ∧ pre a H ∧ ∀ H2, Ex H H2 → Q (val a) H2
theorem spv_use {α : Type} {args : α → List V} {pre : α → Hp → Prop} {val : α → V} (a : α) (h : ∀ H1, Ex H H1 → pre a H1) : SpV (spV args pre val) (args a) H (val a) := fun H1 e Q q _ => ⟨a, rfl, h H1 e, q⟩
end
end Em

namespace Em
open PySem PySem.Spec PyProof.Rows L2 Evl
/-- the view d.values() at p -/
def valuesO (p d : Addr) : HO := .ext fun h => h.IsValuesView p d
theorem valuesO_ok {P : Program} {w : World} {H : Hp} {h : Heap} {p d : Addr} (e : h.get? p = some { cls := .type "dict_values", data := .fields #[.ref d] }) : ObjOk P w H h p (valuesO p d) :=
  ⟨⟨_, e, rfl, rfl⟩, ⟨_, e⟩, fun h1 h2 x k => let ⟨o, ho, r⟩ := x; ⟨o, k o ho, r⟩⟩
section
variable {X : Cx}
def rValuesT : V → List V → Hp → VK → Prop := fun x xs H Q => ∃ (a : Addr) (kvs : List (List L2.Key × V)), x = .ref a ∧ xs = [] ∧ H a = some (.dT kvs) ∧ ∀ p, H p = none → Q (.ref p) (upd H p (valuesO p a))
theorem mt_valuesT : MtR X "dict.values" rValuesT := by
  intro pins s σ H x xs v us Q I rx rxs h
  obtain ⟨a, kvs, rfl, rfl, ha, q⟩ := h
  cases rx
  cases rxs
  obtain ⟨z, hd, xs', rel, o, es, ep, ho, hx, hdat, _⟩ := (show ObjOk X.prog X.w H s.heap a (.dT kvs) from I.hok a _ ha)
  refine call_meetsIn PySem.F.slot_dict_values (s := s) ⟨o, ho, hx.1⟩ PySem.F.entry_dict_values (PySem.F.args_dict_values_1 _) (PySem.meets_dict_values_raw a hd) ⟨⟨es, ep, o, ho, hx, hdat⟩, ?_⟩
  have hf : H s.heap.objs.size = none := I.hok.fresh (Nat.le_refl _)
  exact ⟨.ref s.heap.objs.size, upd H s.heap.objs.size (valuesO s.heap.objs.size a), I.laid (t' := s.toks) (fun b u e => Heap.get?_push_of_some _ e) (Nat.le_refl _) (valuesO_ok (Heap.get?_push_size _ rfl)), rfl, q _ hf⟩
/-- max(d.values()), the values ints -/
def rMaxV : List V → Hp → VK → Prop := fun xs H Q => ∃ (p d : Addr) (kvs : List (List L2.Key × V)) (ns : List Int), xs = [.ref p] ∧ H p = some (valuesO p d) ∧ H d = some (.dT kvs) ∧ kvs.map (·.2) = ns.map V.int ∧ 0 < ns.length ∧
  ∀ m, m ∈ ns → (∀ y, y ∈ ns → y ≤ m) → Q (.int m) H
theorem paired_get {α β : Type} {F : α → β → Prop} : ∀ {xs : List α} {ys : List β} {i : Nat} {y : β}, Paired F xs ys → ys[i]? = some y → ∃ x, xs[i]? = some x ∧ F x y
  | _, _, _, _, .nil, e => by simp at e
  | _, _, 0, _, .cons r _, e => by simp at e; subst e; exact ⟨_, rfl, r⟩
  | _, _, i + 1, y, .cons _ t, e => by
    obtain ⟨x, h1, h2⟩ := paired_get (i := i) t (by simpa using e)
    exact ⟨x, by simpa using h1, h2⟩
theorem cr_maxV (hc : X.calm = true) : CallR X (.builtin "max") rMaxV := by
  intro pins s σ H vs us Q I r h
  obtain ⟨p, d, kvs, ns, rfl, hp, hd, hm, hne, q⟩ := h
  rw [Vals.ref1 r]
  obtain ⟨hv, _, _⟩ := (show ObjOk X.prog X.w H s.heap p (valuesO p d) from I.hok p _ hp)
  obtain ⟨z, hdm, xs', rel, o, es, ep, ho, hx, hdat, hes, hnd⟩ := (show ObjOk X.prog X.w H s.heap d (.dT kvs) from I.hok d _ hd)
  have hraw : s.heap.DictRaw d es ep := ⟨o, ho, hx, hdat⟩
  have hdlt : d < s.heap.objs.size := Heap.lt_size ho
  have hlen : es.size = ns.length := by
    have h1 := congrArg List.length hes
    have h2 := Paired.length rel
    have h3 := congrArg List.length hm
    simp only [Array.length_toList, List.length_map] at h1 h3
    omega
  have hval : ∀ (i : Nat) (v : Value), (∃ hi : i < es.size, v = es[i].val) → ∃ t, v = .int (ns.getD i 0) t := by
    rintro i v ⟨hi, rfl⟩
    have e1 : es.toList[i]? = some es[i] := by simp [hi]
    rw [hes, List.getElem?_map] at e1
    obtain ⟨y, hy, ey⟩ := Option.map_eq_some_iff.mp e1
    obtain ⟨kv, hkv, r1, r2, r3⟩ := paired_get rel hy
    have e2 : (kvs.map (·.2))[i]? = some kv.2 := by rw [List.getElem?_map, hkv]; rfl
    rw [hm, List.getElem?_map] at e2
    obtain ⟨k, hk, ek⟩ := Option.map_eq_some_iff.mp e2
    rw [← ek] at r3
    obtain ⟨t, et⟩ := r3
    refine ⟨t, ?_⟩
    rw [← ey]
    rw [List.getD_eq_getElem?_getD, hk]
    exact et
  refine PySem.call_max_walk (PySem.wpAny_pyIter_values_raw hv hraw ?_)
  refine ⟨_, _, _, _, _, _, _, rfl, PySem.Walks.rawValues (A := X.A.in1) (I.ok.hd hc) s.heap.objs.size d (Nat.ne_of_lt hdlt) es ep, ⟨⟨_, Heap.get?_push_size _ rfl, rfl, rfl⟩, hraw.at fun u e => Heap.get?_push_of_some _ e⟩, ?_, by omega, PySem.CmpOf.ints_gt (fun i => ns.getD i 0) hval, fun v h' tk hP hk => ?_⟩
  · intro b hb
    show b < (s.heap.push _).objs.size
    rw [Heap.size_push]
    rcases List.mem_cons.mp hb with rfl | hb
    · exact Nat.lt_succ_self _
    · rcases List.mem_cons.mp hb with rfl | hb
      · exact Nat.lt_succ_of_lt hdlt
      · cases hb
  · obtain ⟨t, rfl⟩ := hval _ _ hP
    obtain ⟨h1, h2⟩ := argBest_gt (fun i => ns.getD i 0) (es.size - 1)
    refine ⟨.int _, H, I.kept (t' := tk) fun b u e => hk b u (fun hm => ?_) (Heap.get?_push_of_some _ e), ⟨t, rfl⟩, q _ (PySem.getD_mem (by omega)) fun y hy => ?_⟩
    · rcases List.mem_cons.mp hm with e1 | hm
      · exact absurd (e1 ▸ Heap.lt_size e) (Nat.lt_irrefl _)
      · cases hm
    · obtain ⟨j, hj, rfl⟩ := mem_getD hy
      exact h2 j (by omega)
end
end Em

namespace Em
open PySem PySem.Spec PyProof.Rows L2 Evl
/-! ### data in the heap, by relations -/
def Mono {β : Type} (R : Hp → V → β → Prop) : Prop := ∀ H H' v b, Ex H H' → R H v b → R H' v b
/-- a pair of ints -/
def IsPair (H : Hp) (v : V) (p : Int × Int) : Prop := ∃ t, v = .ref t ∧ H t = some (.tup [.int p.1, .int p.2])
/-- a list of such -/
def IsL {β : Type} (R : Hp → V → β → Prop) (H : Hp) (v : V) (l : List β) : Prop := ∃ a vs, v = .ref a ∧ H a = some (.lst vs) ∧ Paired (R H) vs l
abbrev IsRow := IsL IsPair
abbrev IsPlan := IsL IsRow
abbrev IsPlans := IsL IsPlan
/-- a plain value by its code -/
def IsV {β : Type} (f : β → V) (_ : Hp) (v : V) (b : β) : Prop := v = f b
theorem mono_pair : Mono IsPair := fun H H' v p e ⟨t, h1, h2⟩ => ⟨t, h1, e t _ h2⟩
theorem mono_V {β : Type} {f : β → V} : Mono (IsV f) := fun _ _ _ _ _ h => h
theorem paired_mono {α β : Type} {F G : α → β → Prop} (h : ∀ a b, F a b → G a b) {l : List α} {m : List β} (p : Paired F l m) : Paired G l m := L2.Paired.mapP p h
theorem mono_L {β : Type} {R : Hp → V → β → Prop} (m : Mono R) : Mono (IsL R) := fun H H' v l e ⟨a, vs, h1, h2, h3⟩ => ⟨a, vs, h1, e a _ h2, paired_mono (fun x b => m H H' x b e) h3⟩
theorem mono_row : Mono IsRow := mono_L mono_pair
theorem mono_plan : Mono IsPlan := mono_L mono_row
theorem mono_plans : Mono IsPlans := mono_L mono_plan
theorem paired_snoc {α β : Type} {F : α → β → Prop} {a : α} {b : β} {l : List α} {m : List β} (p : Paired F l m) (h : F a b) : Paired F (l ++ [a]) (m ++ [b]) := Paired.snoc p h
theorem paired_len {α β : Type} {F : α → β → Prop} {l : List α} {m : List β} (p : Paired F l m) : l.length = m.length := Paired.length p
theorem paired_at {α β : Type} {F : α → β → Prop} : ∀ {l : List α} {m : List β} {i : Nat} {a : α}, Paired F l m → l[i]? = some a → ∃ b, m[i]? = some b ∧ F a b
  | _, _, _, _, .nil, e => by simp at e
  | _, _, 0, _, .cons r _, e => by simp at e; subst e; exact ⟨_, rfl, r⟩
  | _, _, i + 1, a, .cons _ t, e => by
    obtain ⟨b, h1, h2⟩ := paired_at (i := i) t (by simpa using e)
    exact ⟨b, by simpa using h1, h2⟩
theorem paired_map {α β : Type} {f : β → α} : ∀ {l : List α} {m : List β}, Paired (fun a b => a = f b) l m → l = m.map f
  | _, _, .nil => rfl
  | _, _, .cons r t => by rw [r, List.map_cons, paired_map t]
theorem map_paired {α β : Type} {F : α → β → Prop} {f : β → α} (h : ∀ b, F (f b) b) : ∀ l : List β, Paired F (l.map f) l
  | [] => .nil
  | b :: l => .cons (h b) (map_paired h l)
theorem isL_V {β : Type} {f : β → V} {H : Hp} {v : V} {l : List β} (h : IsL (IsV f) H v l) : ∃ a, v = .ref a ∧ H a = some (.lst (l.map f)) := by
  obtain ⟨a, vs, h1, h2, h3⟩ := h
  refine ⟨a, h1, ?_⟩
  rw [h2, paired_map (f := f) h3]

/-- Clean H H1 G H2: G is a part of H2 that holds H and of what was laid between H and H1 nothing -/
structure Clean (H H1 G H2 : Hp) : Prop where
  up : Ex H1 H2
  old : Ex H G
  part : Ex G H2
  apart : ∀ a, H a = none → H1 a ≠ none → G a = none
/-- what comes out is told by R, of a clean part of the heap -/
def EvR (te : TE) (σ : L2.St) (H : Hp) (R : Hp → V → Prop) : Prop := ∀ H1, Ex H H1 → ∀ Q : VK, (∀ v G H2, Clean H H1 G H2 → R G v → Q v H2) → te σ H1 Q
theorem Clean.refl {H H1 : Hp} (e : Ex H H1) : Clean H H1 H H1 := ⟨Ex.refl _, Ex.refl _, e, fun a h _ => h⟩
/-- two parts of a heap together -/
def join (G G' : Hp) : Hp := fun a => if (G a).isSome = true then G a else G' a
theorem join_l {G G' : Hp} : Ex G (join G G') := fun a o h => by
  unfold join
  rw [if_pos (by rw [h]; rfl)]
  exact h
theorem join_r {G G' H : Hp} (h : Ex G H) (h' : Ex G' H) : Ex G' (join G G') := fun a o e => by
  unfold join
  split
  · rename_i q
    obtain ⟨o', e'⟩ := Option.isSome_iff_exists.mp q
    have e1 := h a o' e'
    rw [h' a o e] at e1
    rw [e', ← e1]
  · exact e
theorem join_up {G G' H : Hp} (h : Ex G H) (h' : Ex G' H) : Ex (join G G') H := fun a o e => by
  unfold join at e
  split at e
  · exact h a o e
  · exact h' a o e
theorem join_none {G G' : Hp} {a : Addr} (h : G a = none) (h' : G' a = none) : join G G' a = none := by
  unfold join
  rw [if_neg (by rw [h]; simp)]
  exact h'
/-- the base grown -/
theorem Clean.grow {H H' H1 G H2 : Hp} (e : Ex H H') (e1 : Ex H' H1) (c : Clean H H1 G H2) : Clean H' H1 (join H' G) H2 ∧ Ex G (join H' G) := by
  have u : Ex H' H2 := e1.trans c.up
  refine ⟨⟨c.up, join_l, join_up u c.part, fun a h h1 => join_none h (c.apart a ?_ h1)⟩, join_r u c.part⟩
  cases q : H a with
  | none => rfl
  | some o => rw [e a o q] at h; cases h
theorem Clean.trans {H H1 G H2 G' H3 : Hp} (c : Clean H H1 G H2) (d : Clean G H2 G' H3) : Clean H H1 G' H3 :=
  ⟨c.up.trans d.up, c.old.trans d.old, d.part, fun a h h1 => by
    refine d.apart a (c.apart a h h1) ?_
    cases q : H1 a with
    | none => exact absurd q h1
    | some o => rw [c.up a o q]; simp⟩
/-- a new object -/
theorem Clean.new {H H1 H2 : Hp} {p : Addr} {o : HO} (e : Ex H H1) (hp : H1 p = none) (u : Ex H1 H2) (h : H2 p = some o) : Clean H H1 (upd H p o) H2 := by
  refine ⟨u, Ex.new (fresh_back e hp), fun a o' q => ?_, fun a h1 h2 => ?_⟩
  · by_cases ha : a = p
    · subst ha
      rw [upd_same] at q
      rw [h, ← q]
    · rw [upd_ne ha] at q
      exact u a o' (e a o' q)
  · by_cases ha : a = p
    · subst ha
      exact absurd hp h2
    · rw [upd_ne ha]
      exact h1
section
variable {K : PySem.W.Frag} {σ : L2.St} {H H' : Hp} {ta tb te tl tx : TE} {t : TT} {x y z v : V}
theorem EvR.mono {R : Hp → V → Prop} (m : ∀ H H' v, Ex H H' → R H v → R H' v) (e : Ex H H') (h : EvR te σ H R) : EvR te σ H' R := fun H1 a Q q => h H1 (e.trans a) Q fun v G H2 c r => q v _ H2 (c.grow e a).1 (m _ _ v (c.grow e a).2 r)
theorem EvR.imp {R S : Hp → V → Prop} (h : EvR te σ H R) (f : ∀ G v, Ex H G → R G v → S G v) : EvR te σ H S := fun H1 a Q q => h H1 a Q fun v G H2 c r => q v G H2 c (f G v c.old r)
theorem r_ev {R : Hp → V → Prop} (h : Ev te σ H v) (r : R H v) : EvR te σ H R := fun H1 a Q q => h H1 a Q fun H2 e => q v H H2 ⟨e, Ex.refl _, a.trans e, fun _ h _ => h⟩ r
theorem r_list {xs : List V} {R : Hp → V → Prop} (h : EvL te σ H xs) (r : ∀ p G, H p = none → Ex H G → G p = some (.lst xs) → R G (.ref p)) : EvR te σ H R := fun H1 a Q q => h H1 a Q fun p H2 hp e h2 => q _ _ H2 (Clean.new a hp e h2) (r p _ (fresh_back a hp) (Ex.new (fresh_back a hp)) upd_same)
theorem r_tup {xs : List V} {R : Hp → V → Prop} (h : EvU te σ H xs) (r : ∀ p G, H p = none → Ex H G → G p = some (.tup xs) → R G (.ref p)) : EvR te σ H R := fun H1 a Q q => h H1 a Q fun p H2 hp e h2 => q _ _ H2 (Clean.new a hp e h2) (r p _ (fresh_back a hp) (Ex.new (fresh_back a hp)) upd_same)
theorem eu_pair {i j : Int} (ha : Ev ta σ H (.int i)) (hb : Ev tb σ H (.int j)) : EvU (tTup (tCons ta (tCons tb tNil))) σ H [.int i, .int j] := eu_tup (ea_cons ha (ea_cons hb ea_nil)) (by show 2 ≤ 100000; decide)
theorem er_pair {i j : Int} (ha : Ev ta σ H (.int i)) (hb : Ev tb σ H (.int j)) : EvR (tTup (tCons ta (tCons tb tNil))) σ H (fun G v => IsPair G v (i, j)) := r_tup (eu_pair ha hb) fun p G _ _ h => ⟨p, rfl, h⟩
theorem et_yes : EvT tYes σ H true := fun H1 _ _ q => q H1 (Ex.refl H1)
/-- a list displayed -/
inductive EvRs {β : Type} (R : Hp → V → β → Prop) (σ : L2.St) (H : Hp) : TA → List β → Prop
  | nil : EvRs R σ H tNil []
  | cons {te : TE} {tr : TA} {b : β} {l : List β} : EvR te σ H (fun G v => R G v b) → EvRs R σ H tr l → EvRs R σ H (tCons te tr) (b :: l)
theorem evRs_run {β : Type} {R : Hp → V → β → Prop} (m : Mono R) {ta : TA} {l : List β} (h : EvRs R σ H ta l) : ∀ H1, Ex H H1 → ∀ Q : List V → Hp → Prop, (∀ vs G H2, Clean H H1 G H2 → Paired (R G) vs l → Q vs H2) → ta σ H1 Q := by
  induction h with
  | nil => exact fun H1 e Q q => q [] H H1 (Clean.refl e) .nil
  | cons h1 h2 ih =>
    intro H1 e Q q
    refine h1 H1 e _ fun v G H2 c r => ?_
    refine ih H2 (e.trans c.up) _ fun vs G' H3 c' r' => ?_
    have u1 : Ex G H3 := c.part.trans c'.up
    refine q (v :: vs) (join G G') H3 ⟨c.up.trans c'.up, c.old.trans join_l, join_up u1 c'.part, fun a h h1 => join_none (c.apart a h h1) (c'.apart a h ?_)⟩
      (.cons (m _ _ _ _ join_l r) (paired_mono (fun x b => m _ _ x b (join_r u1 c'.part)) r'))
    cases q : H1 a with
    | none => exact absurd q h1
    | some o => rw [c.up a o q]; simp
theorem er_lst {β : Type} {R : Hp → V → β → Prop} (m : Mono R) {ta : TA} {l : List β} (h : EvRs R σ H ta l) (hl : l.length ≤ 100000) : EvR (tLst ta) σ H (fun G v => IsL R G v l) := fun H1 e Q q =>
  evRs_run m h H1 e _ fun vs G H2 c r => ⟨by rw [paired_len r]; exact sz_of hl, fun p hp => by
    have hg : G p = none := fresh_back c.part hp
    refine q (.ref p) (upd G p (.lst vs)) _ ⟨c.up.trans (Ex.new hp), c.old.trans (Ex.new hg), fun a o z => ?_, fun a h h1 => ?_⟩ ⟨p, vs, rfl, upd_same, paired_mono (fun x b => m _ _ x b (Ex.new hg)) r⟩
    · by_cases ha : a = p
      · subst ha
        rw [upd_same] at z ⊢
        exact z
      · rw [upd_ne ha] at z ⊢
        exact c.part a o z
    · by_cases ha : a = p
      · subst ha
        cases w : H1 a with
        | none => exact absurd w h1
        | some o =>
          rw [c.up a o w] at hp
          cases hp
      · rw [upd_ne ha]
        exact c.apart a h h1⟩

/-- what holds while a comprehension's list grows at D: Hs the heap at its start -/
def Grown {γ : Type} (S : Hp → V → γ → Prop) (H Hs : Hp) (D : Addr) (l : List γ) (H' : Hp) : Prop :=
  ∃ G ys, Ex Hs (fun a => if a = D then none else H' a) ∧ Ex H G ∧ Ex G H' ∧ G D = none ∧ (∀ a, H a = none → Hs a ≠ none → G a = none) ∧ H' D = some (.lst ys) ∧ Paired (S G) ys l
theorem grown_ex {γ : Type} {S : Hp → V → γ → Prop} {Hs : Hp} {D : Addr} {l : List γ} (g : Grown S H Hs D l H') : Ex Hs H' := fun a o h => by
  obtain ⟨G, ys, h1, _⟩ := g
  have q := h1 a o h
  by_cases ha : a = D
  · simp [ha] at q
  · simpa [ha] using q
theorem grown_start {γ : Type} {S : Hp → V → γ → Prop} {Hs : Hp} {D : Addr} (e : Ex H Hs) (hD : Hs D = none) : Grown S H Hs D [] (upd Hs D (.lst [])) := by
  refine ⟨H, [], fun a o h => ?_, Ex.refl _, e.trans (Ex.new hD), fresh_back e hD, fun _ h _ => h, upd_same, .nil⟩
  have : a ≠ D := ne_of_none h hD
  simp only [this, if_false]
  rw [upd_ne this]
  exact h
theorem grown_up {γ : Type} {S : Hp → V → γ → Prop} {Hs H2 : Hp} {D : Addr} {l : List γ} (g : Grown S H Hs D l H') (u : Ex H' H2) : Grown S H Hs D l H2 := by
  obtain ⟨G, ys, h1, h2, h3, h4, h5, h6, h7⟩ := g
  refine ⟨G, ys, fun a o h => ?_, h2, h3.trans u, h4, h5, u D _ h6, h7⟩
  have q := h1 a o h
  by_cases ha : a = D
  · simp [ha] at q
  · simp only [ha, if_false] at q ⊢
    exact u a o q
theorem grown_snoc {γ : Type} {S : Hp → V → γ → Prop} (mS : Mono S) {Hs G' H2 : Hp} {D : Addr} {l : List γ} {c : γ} {v : V} (g : Grown S H Hs D l H') (hH : Ex H H') (cl : Clean H H' G' H2) (r : S G' v c) (hz : l.length < 60000) :
    ∃ acc, H2 D = some (.lst acc) ∧ acc.length < sizeLine ∧ Grown S H Hs D (l ++ [c]) (upd H2 D (.lst (acc ++ [v]))) := by
  obtain ⟨G, ys, h1, h2, h3, h4, h5, h6, h7⟩ := g
  have u : Ex G H2 := h3.trans cl.up
  have hHD : H D = none := fresh_back h2 h4
  have g'D : G' D = none := cl.apart D hHD (by rw [h6]; simp)
  refine ⟨ys, cl.up D _ h6, by rw [paired_len h7]; exact sz_lt (by omega), join G G', ys ++ [v], fun a o h => ?_, h2.trans join_l, Ex.mut (join_up u cl.part) (join_none h4 g'D), join_none h4 g'D, fun a ha hs => join_none (h5 a ha hs) (cl.apart a ha ?_), upd_same,
    paired_snoc (paired_mono (fun x b => mS _ _ x b join_l) h7) (mS _ _ _ _ (join_r u cl.part) r)⟩
  · have q := h1 a o h
    by_cases ha : a = D
    · simp [ha] at q
    · simp only [ha, if_false] at q ⊢
      rw [upd_ne ha]
      exact cl.up a o q
  · cases q : Hs a with
    | none => exact absurd q hs
    | some o =>
      have q1 := h1 a o q
      by_cases haD : a = D
      · simp [haD] at q1
      · simp only [haD, if_false] at q1
        rw [q1]
        simp
theorem grown_end {γ : Type} {S : Hp → V → γ → Prop} (mS : Mono S) {Hs : Hp} {D : Addr} {l : List γ} (hD : Hs D = none) (g : Grown S H Hs D l H') : ∃ G, Clean H Hs G H' ∧ IsL S G (.ref D) l ∧ Ex H G := by
  have gx := grown_ex g
  obtain ⟨G, ys, h1, h2, h3, h4, h5, h6, h7⟩ := g
  refine ⟨upd G D (.lst ys), ⟨gx, h2.trans (Ex.new h4), fun a o q => ?_, fun a h hs => ?_⟩, ⟨D, ys, rfl, upd_same, paired_mono (fun x b => mS _ _ x b (Ex.new h4)) h7⟩, h2.trans (Ex.new h4)⟩
  · by_cases ha : a = D
    · subst ha
      rw [upd_same] at q
      rw [h6, ← q]
    · rw [upd_ne ha] at q
      exact h3 a o q
  · by_cases ha : a = D
    · subst ha
      exact absurd hD hs
    · rw [upd_ne ha]
      exact h5 a h hs

/-- a comprehension over a walk of items that mean the items of l -/
theorem lc_core2 {β γ : Type} {S : Hp → V → γ → Prop} (mS : Mono S) {J : It} {n : Nat} {Gd : Hp → Prop} {Y : Nat → Hp → V → Hp → Prop} (w : Walk J n Gd Y) {g : TG} {tt : TT} {te : TE} {vs : List Nat} {Hs : Hp} {D : Addr} {Q : VK}
    (l : List β) (p : β → Bool) (f : β → γ) (hn : n = l.length) (hz : n ≤ 40000) (e : Ex H Hs) (hD : Hs D = none) (hG : ∀ H', Ex Hs H' → Gd H')
    (hi : ∀ i x b H' H'', l[i]? = some b → Ex H H' → Y i H' x H'' → Ex H' H'' ∧ ∀ Qg : L2.St → Hp → Prop, (∀ σ2, wipe σ2 vs = wipe σ vs → EvT tt σ2 H (p b) → (p b = true → EvR te σ2 H (fun G v => S G v (f b))) → Qg σ2 H'') → g x (wipe σ vs) H'' Qg)
    (q : ∀ v G H2, Clean H Hs G H2 → IsL S G v ((l.filter p).map f) → Q v H2) :
    ∃ W : Nat → Nat → Hp → Prop, (∃ m, W 0 m (upd Hs D (.lst []))) ∧ ∀ i m H, W i m H →
      (J.stop i H ∧ Q (.ref D) H) ∨ (J.go i H ∧ ∃ Nx : Hp → Prop, (∀ H', Nx H' → ∃ m', m' < m ∧ W (i + 1) m' H') ∧ ∀ x H', J.yld i H x H' → g x (wipe σ vs) H' fun σ2 H2 => wipe σ2 vs = wipe σ vs ∧ tt σ2 H2 fun b H3 =>
        if b = true then te σ2 H3 fun y H4 => ∃ acc, H4 D = some (.lst acc) ∧ acc.length < sizeLine ∧ Nx (upd H4 D (.lst (acc ++ [y]))) else Nx H3) := by
  refine lc_it w (Qd := fun H => Q (.ref D) H) (fun i H' => Grown S H Hs D (((l.take i).filter p).map f) H') (grown_start e hD) (fun i H' _ g => hG H' (grown_ex g)) ?_ ?_
  · intro i x H' H'' hin g y
    have hil : i < l.length := by omega
    have hb : l[i]? = some l[i] := by simp [hil]
    have hH : Ex H H' := e.trans (grown_ex g)
    obtain ⟨u, hq⟩ := hi i x l[i] H' H'' hb hH y
    refine hq _ fun σ2 hw ht he => ⟨hw, ?_⟩
    have g2 := grown_up g u
    have hH2 : Ex H H'' := hH.trans u
    have et : (l.take (i + 1)) = l.take i ++ [l[i]] := (List.take_append_getElem hil).symm
    refine ht H'' hH2 _ fun H3 u3 => ?_
    have g3 := grown_up g2 u3
    have hH3 : Ex H H3 := hH2.trans u3
    cases hp : p l[i] with
    | true =>
      show te σ2 H3 _
      refine he hp H3 hH3 _ fun v G' H4 cl r => ?_
      rw [et, List.filter_append, List.map_append, List.filter_cons, if_pos hp]
      exact grown_snoc mS g3 hH3 cl r (by
        have h1 := List.length_filter_le p (l.take i)
        have h2 := List.length_take_le i l
        rw [List.length_map]
        omega)
    | false =>
      show Grown S H Hs D _ H3
      rw [et, List.filter_append, List.map_append, List.filter_cons, if_neg (by rw [hp]; simp)]
      simpa using g3
  · intro H' g
    have et : l.take n = l := by rw [hn]; exact List.take_length
    rw [et] at g
    obtain ⟨G, c, r, _⟩ := grown_end mS hD g
    exact q _ G H' c r
/-- over a list known to the base -/
theorem er_lcL {β γ : Type} {R : Hp → V → β → Prop} {S : Hp → V → γ → Prop} (mS : Mono S) {a : Addr} {xs : List V} {j : Nat} {vs : List Nat} {tt : TT} {l : List β} (p : β → Bool) (f : β → γ) (h : Ev tl σ H (.ref a)) (hx : SqL K H a xs) (hr : Paired (R H) xs l) (hz : l.length ≤ 40000)
    (hw : ∀ x, wipe ((wipe σ vs).set j (some x)) vs = wipe σ vs)
    (ht : ∀ x b, b ∈ l → R H x b → EvT tt ((wipe σ vs).set j (some x)) H (p b)) (he : ∀ x b, b ∈ l → R H x b → p b = true → EvR te ((wipe σ vs).set j (some x)) H (fun G v => S G v (f b))) :
    EvR (tLc (iList K tl) (gName j) tt te vs) σ H (fun G v => IsL S G v ((l.filter p).map f)) := fun H0 e Q q => h H0 e _ fun H1 e1 => ⟨a, rfl, ⟨xs, ex_l (e.trans e1) hx⟩, fun D hD =>
  lc_core2 mS (walk_list (K := K) (a := a) (xs := xs)) l p f (paired_len hr) (by rw [paired_len hr]; exact hz) (e.trans e1) hD (fun H' u => ex_l ((e.trans e1).trans u) hx) (fun i x b H' H'' hb hH y => by
    obtain ⟨rfl, hxi⟩ := y
    obtain ⟨b', hb', rb⟩ := paired_at hr hxi
    rw [hb] at hb'
    cases hb'
    have hm := List.mem_of_getElem? hb
    exact ⟨Ex.refl _, fun Qg k => k _ (hw x) (ht x b hm rb) (he x b hm rb)⟩)
    fun v G H2 c r => q v G H2 ⟨e1.trans c.up, c.old, c.part, fun b hb h1 => c.apart b hb (by
      cases w : H0 b with
      | none => exact absurd w h1
      | some o => rw [e1 b o w]; simp)⟩ r⟩
/-- over range(n) -/
def irange (n : Int) : List Int := (List.range n.toNat).map fun i : Nat => (i : Int)
theorem mem_irange {n i : Int} : i ∈ irange n ↔ 0 ≤ i ∧ i < n := by
  unfold irange
  rw [List.mem_map]
  constructor
  · rintro ⟨k, hk, rfl⟩
    rw [List.mem_range] at hk
    omega
  · rintro ⟨h1, h2⟩
    exact ⟨i.toNat, by rw [List.mem_range]; omega, by omega⟩
theorem irange_len (n : Int) : (irange n).length = n.toNat := by
  unfold irange
  rw [List.length_map, List.length_range]
theorem irange_at {n : Int} {i : Nat} {b : Int} (h : (irange n)[i]? = some b) : b = (i : Int) ∧ (i : Int) < n := by
  unfold irange at h
  rw [List.getElem?_map] at h
  obtain ⟨k, hk, rfl⟩ := Option.map_eq_some_iff.mp h
  obtain ⟨h1, h2⟩ := List.getElem?_eq_some_iff.mp hk
  rw [List.length_range] at h1
  rw [List.getElem_range] at h2
  omega
theorem er_lcR {γ : Type} {S : Hp → V → γ → Prop} (mS : Mono S) {ta : TA} {n : Int} {j : Nat} {vs : List Nat} {tt : TT} (p : Int → Bool) (f : Int → γ) (h : EvA ta σ H [.int n]) (hn : n ≤ 40000)
    (hw : ∀ x, wipe ((wipe σ vs).set j (some x)) vs = wipe σ vs)
    (ht : ∀ i, 0 ≤ i → i < n → EvT tt ((wipe σ vs).set j (some (.int i))) H (p i)) (he : ∀ i, 0 ≤ i → i < n → p i = true → EvR te ((wipe σ vs).set j (some (.int i))) H (fun G v => S G v (f i))) (h0 : -40000 ≤ n := by omega) :
    EvR (tLc (iRng1 ta) (gName j) tt te vs) σ H (fun G v => IsL S G v (((irange n).filter p).map f)) := fun H0 e Q q => h H0 e _ fun H1 e1 => ⟨n, rfl, by omega, by omega, fun D hD =>
  lc_core2 mS (walk_range (lo := 0) (n := n.toNat)) (irange n) p f (irange_len n).symm (by omega) (e.trans e1) hD (fun H' u => trivial) (fun i x b H' H'' hb hH y => by
    obtain ⟨rfl, rfl⟩ := y
    obtain ⟨rfl, hlt⟩ := irange_at hb
    have e0 : (0 : Int) + (i : Int) = (i : Int) := Int.zero_add _
    refine ⟨Ex.refl _, fun Qg k => ?_⟩
    show Qg ((wipe σ vs).set j (some (.int ((0 : Int) + (i : Int))))) H''
    rw [e0]
    exact k _ (hw _) (ht i (by omega) hlt) (he i (by omega) hlt))
    fun v G H2 c r => q v G H2 ⟨e1.trans c.up, c.old, c.part, fun b hb h1 => c.apart b hb (by
      cases w : H0 b with
      | none => exact absurd w h1
      | some o => rw [e1 b o w]; simp)⟩ r⟩
end
end Em

namespace Em
open PySem PySem.Spec PyProof.Rows L2 Evl
/-- nothing known -/
def Void : Hp := fun _ => none
theorem void_ex {H : Hp} : Ex Void H := fun _ _ h => by cases h
/-- all that comes out is new -/
def RetN {β : Type} (R : Hp → V → β → Prop) (b : β) (H : Hp) (Q : VK) : Prop := ∀ v G H2, Ex H H2 → Ex G H2 → (∀ a, H a ≠ none → G a = none) → R G v b → Q v H2
def SpN {β : Type} (sp : Sp) (vs : List V) (H : Hp) (R : Hp → V → β → Prop) (b : β) : Prop := ∀ H1, Ex H H1 → ∀ Q, RetN R b H1 Q → ∀ E, sp vs H1 Q E
theorem retn_clean {β : Type} {R : Hp → V → β → Prop} {b : β} {H H1 G : Hp} {Q : VK} {v : V} (k : RetN R b H Q) (e : Ex H H1) (c : Clean Void H G H1) (r : R G v b) : Q v H1 := k v G H1 e c.part (fun a h => c.apart a rfl h) r
section
variable {K : PySem.W.Frag} {σ : L2.St} {H H' : Hp} {ta tb te tl tx : TE} {t : TT} {x y z v : V}
theorem er_call {β : Type} {R : Hp → V → β → Prop} (m : Mono R) {sp : Sp} {vs : List V} {E : XK} {tA : TA} {b : β} (h : EvA tA σ H vs) (hs : SpN sp vs H R b) : EvR (tCall sp [] E tA) σ H (fun G v => R G v b) := fun H1 e Q q =>
  h H1 e _ fun H2 e2 => by
    rw [List.append_nil]
    refine hs H2 (e.trans e2) Q (fun v G H3 u g a r => q v (join H G) H3 ⟨e2.trans u, join_l, join_up ((e.trans e2).trans u) g, fun a0 h0 h1 => join_none h0 (a a0 ?_)⟩ (m _ _ _ _ (join_r ((e.trans e2).trans u) g) r)) E
    cases w : H1 a0 with
    | none => exact absurd w h1
    | some o => rw [e2 a0 o w]; simp
variable {D : Ends} {tu tw tz : TS}
theorem s_asgR {i : Nat} {B : Hp} {R : Hp → V → Prop} (h : EvR te σ B R) (e : Ex B H) (k : ∀ v G H1, Clean B H G H1 → R G v → D.nx (σ.set i (some v)) H1) : tAsg te (gName i) D σ H := h H e _ fun v G H1 c r => k v G H1 c r
theorem q_asgR {i : Nat} {B : Hp} {R : Hp → V → Prop} (h : EvR te σ B R) (e : Ex B H) (k : ∀ v G H1, Clean B H G H1 → R G v → tz D (σ.set i (some v)) H1) : tSeq (tAsg te (gName i)) tz D σ H := s_asgR (D := { D with nx := tz D }) h e k
theorem s_retR {B : Hp} {R : Hp → V → Prop} (h : EvR te σ B R) (e : Ex B H) (k : ∀ v G H1, Clean B H G H1 → R G v → D.rt v H1) : tRet te D σ H := h H e _ fun v G H1 c r => k v G H1 c r
/-- an append to a list that grows -/
theorem s_appG {γ : Type} {S : Hp → V → γ → Prop} (mS : Mono S) {B Hs : Hp} {F : Addr} {l : List γ} {c : γ} (g : Grown S B Hs F l H) (hB : Ex B H) (ha : Ev ta σ B (.ref F)) (h : EvR te σ B (fun G v => S G v c)) (hz : l.length < 50000)
    (k : ∀ H1, Ex Hs H1 → Grown S B Hs F (l ++ [c]) H1 → D.nx σ H1) : tDrop (tBM K "list" rAppend ta (tCons te tNil)) D σ H := ha H hB _ fun H1 e1 => by
  have g1 := grown_up g e1
  obtain ⟨G, ys, h1, h2, h3, h4, h5, h6, h7⟩ := id g1
  refine ⟨Or.inl ⟨rfl, ys, sq_of h6⟩, h H1 (hB.trans e1) _ fun v G' H2 cl r => ?_⟩
  obtain ⟨acc, a1, a2, a3⟩ := grown_snoc mS g1 (hB.trans e1) cl r (by omega)
  exact ⟨F, acc, v, rfl, rfl, a1, a2, k _ (grown_ex a3) a3⟩
/-- .. of what has been made since -/
theorem s_appW {γ : Type} {S : Hp → V → γ → Prop} (mS : Mono S) {B Hs G' H0 : Hp} {F : Addr} {l : List γ} {c : γ} (g : Grown S B Hs F l H0) (hB : Ex B H0) (ha : ∀ H', Ev ta σ H' (.ref F)) (cl : Clean B H0 G' H) (r : S G' v c) (h : ∀ H', Ev te σ H' v) (hz : l.length < 50000)
    (k : ∀ H1, Ex Hs H1 → Grown S B Hs F (l ++ [c]) H1 → D.nx σ H1) : tDrop (tBM K "list" rAppend ta (tCons te tNil)) D σ H := ha H H (Ex.refl _) _ fun H1 e1 => by
  have g1 := grown_up g (cl.up.trans e1)
  obtain ⟨G, ys, h1, h2, h3, h4, h5, h6, h7⟩ := id g1
  refine ⟨Or.inl ⟨rfl, ys, sq_of h6⟩, h H1 H1 (Ex.refl _) _ fun H2 e2 => ?_⟩
  obtain ⟨acc, a1, a2, a3⟩ := grown_snoc mS g hB (H2 := H2) ⟨(cl.up.trans e1).trans e2, cl.old, (cl.part.trans e1).trans e2, cl.apart⟩ r (by omega)
  exact ⟨F, acc, v, rfl, rfl, a1, a2, k _ (grown_ex a3) a3⟩
end
section
variable {K : PySem.W.Frag} {σ : L2.St} {H H' : Hp} {x y z v : V}
theorem isi_int_int {i : Int} : RC (rIsi K) [.int i, .ty "int"] H (.bl true) := fun H1 _ Q q => ⟨_, _, _, _, true, rfl, .ty "int", .base (.int i), kit_ty (by decide +kernel), q H1 (Ex.refl H1)⟩
theorem isi_int_bool {i : Int} : RC (rIsi K) [.int i, .ty "bool"] H (.bl false) := fun H1 _ Q q => ⟨_, _, _, _, false, rfl, .ty "bool", .base (.int i), kit_ty (by decide +kernel), q H1 (Ex.refl H1)⟩
theorem isi_bl_bool {b : Bool} : RC (rIsi K) [.bl b, .ty "bool"] H (.bl true) := fun H1 _ Q q => ⟨_, _, _, _, true, rfl, .ty "bool", .base (.bl b), kit_ty (by decide +kernel), q H1 (Ex.refl H1)⟩
theorem rc_min2 {i j : Int} : RC (fun xs H Q => ∃ i j, xs = [.int i, .int j] ∧ Q (.int (if j < i then j else i)) H) [.int i, .int j] H (.int (if j < i then j else i)) := fun H1 _ Q q => ⟨i, j, rfl, q H1 (Ex.refl H1)⟩
theorem rc_max2 {i j : Int} : RC (fun xs H Q => ∃ i j, xs = [.int i, .int j] ∧ Q (.int (if j > i then j else i)) H) [.int i, .int j] H (.int (if j > i then j else i)) := fun H1 _ Q q => ⟨i, j, rfl, q H1 (Ex.refl H1)⟩
end

theorem grown_new {γ : Type} {S : Hp → V → γ → Prop} {B Hs H0 : Hp} {D : Addr} (e : Ex B Hs) (hD : Hs D = none) (u : Ex Hs H0) (h : H0 D = some (.lst [])) : Grown S B Hs D [] H0 := by
  refine ⟨B, [], fun a o q => ?_, Ex.refl _, e.trans u, fresh_back e hD, fun _ h _ => h, h, .nil⟩
  have : a ≠ D := ne_of_none q hD
  simp only [this, if_false]
  exact u a o q
/-! ### the plan -/
def rowM (home : Int → Int → Bool) (opp : Int → Int → Int) (n r : Int) : List (Int × Int) := ((irange n).filter fun t => home t r).map fun t => (t, opp t r)
theorem irange_take {n : Int} {i : Nat} (h : (i : Int) < n) : (irange n).take (i + 1) = (irange n).take i ++ [(i : Int)] := by
  have hl : i < (irange n).length := by rw [irange_len]; omega
  rw [← List.take_append_getElem hl]
  congr 2
  have := irange_at (n := n) (i := i) (b := (irange n)[i]) (by simp [hl])
  rw [this.1]
theorem irange_all (n : Int) : (irange n).take n.toNat = irange n := by
  rw [← irange_len]
  exact List.take_length
end Em

namespace Em
/-! ### the mathematics of the told plan: no program here -/
/-- whom a team meets; whether it is at home; the round in which two meet -/
def oppM (n t r : Int) : Int := if t = n - 1 then r else if t = r then n - 1 else (2 * r - t) % (n - 1)
def homeM (n t r : Int) : Bool := if t = n - 1 then decide (r % 2 = 1) else if t = r then decide (r % 2 = 0) else decide ((t - r) % (n - 1) % 2 = 1)
def roundM (n a b : Int) : Int := if n - 1 = a ∨ n - 1 = b then (if b < a then b else a) else (a + b) * (n / 2) % (n - 1)

theorem emod3 {x m : Int} (h : 0 < m) (h1 : -m ≤ x) (h2 : x < 2 * m) : x % m = if x < 0 then x + m else if x < m then x else x - m := by
  split
  · have e : x % m = (x + m) % m := by rw [Int.add_emod_right]
    rw [e]
    exact Int.emod_eq_of_lt (by omega) (by omega)
  · split
    · exact Int.emod_eq_of_lt (by omega) (by omega)
    · have e : x % m = (x - m) % m := by rw [Int.sub_emod_right]
      rw [e]
      exact Int.emod_eq_of_lt (by omega) (by omega)

/-- a count of teams; a team; a round -/
def TeamsOk (n : Int) : Prop := 2 ≤ n ∧ n % 2 = 0
def TeamOk (n t : Int) : Prop := 0 ≤ t ∧ t < n
def RoundOk (n r : Int) : Prop := 0 ≤ r ∧ r < n - 1

theorem opp_lin {n t r : Int} (hn : TeamsOk n) (ht : TeamOk n t) (hr : RoundOk n r) : oppM n t r = if t = n - 1 then r else if t = r then n - 1 else if 2 * r - t < 0 then 2 * r - t + (n - 1) else if 2 * r - t < n - 1 then 2 * r - t else 2 * r - t - (n - 1) := by
  obtain ⟨h1, h2⟩ := hn
  obtain ⟨h3, h4⟩ := ht
  obtain ⟨h5, h6⟩ := hr
  unfold oppM
  split
  · rfl
  · split
    · rfl
    · exact emod3 (by omega) (by omega) (by omega)
theorem opp_ok {n t r : Int} (hn : TeamsOk n) (ht : TeamOk n t) (hr : RoundOk n r) : TeamOk n (oppM n t r) ∧ oppM n t r ≠ t ∧ oppM n (oppM n t r) r = t := by
  have e := opp_lin hn ht hr
  have a : TeamOk n (oppM n t r) := by
    rw [e]
    obtain ⟨h1, h2⟩ := hn
    obtain ⟨h3, h4⟩ := ht
    obtain ⟨h5, h6⟩ := hr
    unfold TeamOk
    split
    · omega
    · split
      · omega
      · split
        · omega
        · split <;> omega
  refine ⟨a, ?_, ?_⟩
  · rw [e]
    obtain ⟨h1, h2⟩ := hn
    obtain ⟨h3, h4⟩ := ht
    obtain ⟨h5, h6⟩ := hr
    split
    · omega
    · split
      · omega
      · split
        · omega
        · split <;> omega
  · rw [opp_lin hn a hr, e]
    obtain ⟨h1, h2⟩ := hn
    obtain ⟨h3, h4⟩ := ht
    obtain ⟨h5, h6⟩ := hr
    repeat' split
    all_goals omega
theorem home_lin {n t r : Int} (hn : TeamsOk n) (ht : TeamOk n t) (hr : RoundOk n r) : homeM n t r = if t = n - 1 then decide (r % 2 = 1) else if t = r then decide (r % 2 = 0) else if t - r < 0 then decide ((t - r + (n - 1)) % 2 = 1) else decide ((t - r) % 2 = 1) := by
  obtain ⟨h1, h2⟩ := hn
  obtain ⟨h3, h4⟩ := ht
  obtain ⟨h5, h6⟩ := hr
  unfold homeM
  split
  · rfl
  · split
    · rfl
    · rw [emod3 (x := t - r) (m := n - 1) (by omega) (by omega) (by omega)]
      split
      · rfl
      · rw [if_pos (by omega)]
theorem home_opp {n t r : Int} (hn : TeamsOk n) (ht : TeamOk n t) (hr : RoundOk n r) : homeM n (oppM n t r) r = !homeM n t r := by
  have a := (opp_ok hn ht hr).1
  rw [home_lin hn a hr, home_lin hn ht hr, opp_lin hn ht hr]
  obtain ⟨h1, h2⟩ := hn
  obtain ⟨h3, h4⟩ := ht
  obtain ⟨h5, h6⟩ := hr
  repeat' split
  all_goals first
    | omega
    | (rw [← decide_not]; exact decide_eq_decide.mpr (by omega))
theorem half_mul {m h s r j : Int} (hm : 2 * h = m + 1) (hs : s = 2 * r + m * j) : s * h = r + m * (r + j * h) := by
  subst hs
  have e : m = 2 * h - 1 := by omega
  subst e
  grind
theorem round_opp {n t r : Int} (hn : TeamsOk n) (ht : TeamOk n t) (hr : RoundOk n r) : roundM n t (oppM n t r) = r ∧ roundM n (oppM n t r) t = r := by
  have key : ∀ s : Int, 0 < n - 1 → (∃ j, s = 2 * r + (n - 1) * j) → s * (n / 2) % (n - 1) = r := by
    rintro s h0 ⟨j, hs⟩
    obtain ⟨h1, h2⟩ := hn
    obtain ⟨h5, h6⟩ := hr
    rw [half_mul (m := n - 1) (h := n / 2) (by omega) hs, Int.add_mul_emod_self_left]
    exact Int.emod_eq_of_lt h5 h6
  have e := opp_lin hn ht hr
  have hn' := hn
  have ht' := ht
  have hr' := hr
  obtain ⟨h1, h2⟩ := hn'
  obtain ⟨h3, h4⟩ := ht'
  obtain ⟨h5, h6⟩ := hr'
  unfold roundM
  by_cases c1 : t = n - 1
  · rw [if_pos c1] at e
    rw [e, if_pos (Or.inl c1.symm), if_pos (Or.inr c1.symm)]
    constructor
    · rw [if_pos (by omega)]
    · rw [if_neg (by omega)]
  · rw [if_neg c1] at e
    by_cases c2 : t = r
    · rw [if_pos c2] at e
      rw [e, if_pos (Or.inr rfl), if_pos (Or.inl rfl)]
      constructor
      · rw [if_neg (by omega)]
        exact c2
      · rw [if_pos (by omega)]
        exact c2
    · rw [if_neg c2] at e
      have c3 : ¬ oppM n t r = n - 1 := by
        rw [e]
        repeat' split
        all_goals omega
      rw [if_neg (by omega), if_neg (by omega)]
      have c4 : ∃ j, t + oppM n t r = 2 * r + (n - 1) * j := by
        rw [e]
        split
        · exact ⟨1, by omega⟩
        · split
          · exact ⟨0, by omega⟩
          · exact ⟨-1, by omega⟩
      refine ⟨key _ (by omega) c4, ?_⟩
      rw [Int.add_comm]
      exact key _ (by omega) c4
theorem round_two {n a b : Int} (hn : TeamsOk n) (ha : TeamOk n a) (hb : TeamOk n b) (hab : a ≠ b) : RoundOk n (roundM n a b) ∧ oppM n a (roundM n a b) = b ∧ oppM n b (roundM n a b) = a := by
  have one : RoundOk n (roundM n a b) ∧ oppM n a (roundM n a b) = b := by
    obtain ⟨h1, h2⟩ := hn
    obtain ⟨h3, h4⟩ := ha
    obtain ⟨h5, h6⟩ := hb
    unfold roundM RoundOk oppM
    by_cases c : n - 1 = a ∨ n - 1 = b
    · rw [if_pos c]
      rcases c with c | c
      · rw [if_pos (by omega), if_pos c.symm]
        exact ⟨by omega, rfl⟩
      · rw [if_neg (by omega), if_neg (by omega), if_pos rfl]
        exact ⟨by omega, c⟩
    · rw [if_neg c]
      have m0 : 0 < n - 1 := by omega
      have l1 := Int.emod_nonneg ((a + b) * (n / 2)) (b := n - 1) (by omega)
      have l2 := Int.emod_lt_of_pos ((a + b) * (n / 2)) (b := n - 1) m0
      have hq := Int.emod_add_mul_ediv ((a + b) * (n / 2)) (n - 1)
      generalize ((a + b) * (n / 2)) % (n - 1) = r at hq l1 l2
      generalize ((a + b) * (n / 2)) / (n - 1) = q at hq
      refine ⟨⟨l1, l2⟩, ?_⟩
      have e2 : 2 * r = (a + b) + (n - 1) * ((a + b) - 2 * q) := by
        have e3 : n = 2 * (n / 2) := by omega
        generalize n / 2 = h at e3 hq
        subst e3
        grind
      have e4 : (2 * r - a) % (n - 1) = b := by
        have : 2 * r - a = b + (n - 1) * ((a + b) - 2 * q) := by omega
        rw [this, Int.add_mul_emod_self_left]
        exact Int.emod_eq_of_lt (by omega) (by omega)
      rw [if_neg (by omega)]
      by_cases c2 : a = r
      · exfalso
        subst c2
        rw [show 2 * a - a = a by omega, Int.emod_eq_of_lt (by omega) (by omega)] at e4
        exact hab e4
      · rw [if_neg c2]
        exact e4
  refine ⟨one.1, one.2, ?_⟩
  have z := (opp_ok hn ha one.1).2.2
  rw [one.2] at z
  exact z
end Em

namespace Em
open PySem PySem.Spec PyProof.Rows L2 Evl
/-! ### plans judged: the plain functions -/
def hasT (p : Int × Int) (t : Int) : Bool := decide (t = p.1) || decide (t = p.2)
def cntM (row : List (Int × Int)) (t : Int) : Nat := (row.filter fun p => hasT p t).length
def loneM (row : List (Int × Int)) (t : Int) : Bool := !decide (cntM row t = 1)
def badRow (n : Int) (row : List (Int × Int)) : Bool := (irange n).any fun t => loneM row t
def kp (p : Int × Int) : Int × Int := (if p.2 < p.1 then p.2 else p.1, if p.2 > p.1 then p.2 else p.1)
abbrev Tab := List ((Int × Int) × Int)
def getI (tb : Tab) (k : Int × Int) : Int := ((tb.find? fun x => decide (x.1 = k)).map (·.2)).getD 0
def putI (tb : Tab) (k : Int × Int) (c : Int) : Tab := if (tb.any fun x => decide (x.1 = k)) = true then tb.map (fun x => if x.1 = k then (x.1, c) else x) else tb ++ [(k, c)]
def stepI (tb : Tab) (p : Int × Int) : Tab := putI tb (kp p) (getI tb (kp p) + 1)
def tabM (l : List (Int × Int)) : Tab := l.foldl stepI []
/-- as the model's dict holds it -/
def keyOf (k : Int × Int) : List Key := [.inl k.1, .inl k.2]
def encT (tb : Tab) : List (List Key × V) := tb.map fun x => (keyOf x.1, .int x.2)
theorem keyOf_inj {a b : Int × Int} : keyOf a = keyOf b ↔ a = b := by
  obtain ⟨a1, a2⟩ := a
  obtain ⟨b1, b2⟩ := b
  simp [keyOf]
theorem encT_val (k : Int × Int) : ∀ tb : Tab, (valV (encT tb) (keyOf k)).getD (.int 0) = .int (getI tb k)
  | [] => rfl
  | x :: tb => by
    have ih := encT_val k tb
    unfold encT getI at *
    by_cases h : x.1 = k
    · rw [List.map_cons, valV_pos (by rw [h])]
      simp [h]
    · rw [List.map_cons, valV_neg (fun q => h (keyOf_inj.mp q)), ih]
      simp [h]
theorem encT_any (k : Int × Int) (tb : Tab) : ((encT tb).any fun kv => decide (kv.1 = keyOf k)) = tb.any fun x => decide (x.1 = k) := by
  unfold encT
  rw [List.any_map]
  congr 1
  funext x
  simp [keyOf_inj]
theorem encT_put (k : Int × Int) (c : Int) (tb : Tab) : putK (encT tb) (keyOf k) (.int c) = encT (putI tb k c) := by
  unfold putK putI
  rw [encT_any]
  split
  · unfold encT
    rw [List.map_map, List.map_map]
    apply List.map_congr_left
    intro x _
    by_cases h : x.1 = k
    · simp [h]
    · have : ¬ keyOf x.1 = keyOf k := fun q => h (keyOf_inj.mp q)
      simp [h, this]
  · unfold encT
    simp
theorem putI_len (tb : Tab) (k : Int × Int) (c : Int) : (putI tb k c).length ≤ tb.length + 1 := by
  unfold putI
  split
  · simp
  · simp
theorem tab_len : ∀ (l : List (Int × Int)) (tb : Tab), (l.foldl stepI tb).length ≤ tb.length + l.length
  | [], tb => by simp
  | p :: l, tb => by
    have h1 := tab_len l (stepI tb p)
    have h2 := putI_len tb (kp p) (getI tb (kp p) + 1)
    show (l.foldl stepI (stepI tb p)).length ≤ tb.length + (p :: l).length
    unfold stepI at h1 ⊢
    rw [List.length_cons]
    omega
theorem tabM_len (l : List (Int × Int)) : (tabM l).length ≤ l.length := by
  have := tab_len l []
  unfold tabM
  simpa using this
theorem tabM_snoc (l : List (Int × Int)) (p : Int × Int) : tabM (l ++ [p]) = stepI (tabM l) p := by
  unfold tabM
  rw [List.foldl_append]
  rfl
/-- the greatest -/
def maxI (l : List Int) : Int := l.foldr (fun a b => if a > b then a else b) (l.headD 0)
theorem foldr_max (z : Int) : ∀ l : List Int, (∀ y ∈ l, y ≤ l.foldr (fun a b => if a > b then a else b) z) ∧ (l.foldr (fun a b => if a > b then a else b) z ∈ l ∨ l.foldr (fun a b => if a > b then a else b) z = z)
  | [] => ⟨(fun y h => by cases h), .inr rfl⟩
  | a :: l => by
    obtain ⟨h1, h2⟩ := foldr_max z l
    rw [List.foldr_cons]
    generalize l.foldr (fun a b => if a > b then a else b) z = m at h1 h2
    constructor
    · intro y hy
      rcases List.mem_cons.mp hy with rfl | hy
      · split <;> omega
      · have := h1 y hy
        split <;> omega
    · split
      · exact .inl (List.mem_cons_self)
      · rcases h2 with h2 | h2
        · exact .inl (List.mem_cons_of_mem _ h2)
        · exact .inr h2
theorem maxI_uniq {l : List Int} {m : Int} (h1 : m ∈ l) (h2 : ∀ y ∈ l, y ≤ m) : m = maxI l := by
  obtain ⟨g1, g2⟩ := foldr_max (l.headD 0) l
  have a := g1 m h1
  have b : maxI l ∈ l := by
    rcases g2 with g | g
    · exact g
    · unfold maxI
      rw [g]
      cases l with
      | nil => cases h1
      | cons x l => exact List.mem_cons_self
  have c := h2 _ b
  unfold maxI at c ⊢
  omega
def tabGood (n : Int) (tb : Tab) : Bool := decide ((tb.length : Int) = n * (n - 1) / 2) && decide (maxI (tb.map (·.2)) = 1)
def goodM (n : Int) (plan : List (List (Int × Int))) : Bool := !(plan.any (badRow n)) && tabGood n (tabM plan.flatten)
/-- a plan whose lists the model's line carries -/
def PlanSz (plan : List (List (Int × Int))) : Prop := plan.length ≤ 100 ∧ ∀ row ∈ plan, row.length ≤ 1000
theorem flatten_le {plan : List (List (Int × Int))} {a b : Nat} (h : plan.length ≤ a) (hr : ∀ row ∈ plan, row.length ≤ b) : plan.flatten.length ≤ a * b := by
  induction plan generalizing a with
  | nil => simp
  | cons r l ih =>
    cases a with
    | zero => simp at h
    | succ a =>
      rw [List.flatten_cons, List.length_append]
      have h1 := hr r List.mem_cons_self
      have h2 := ih (a := a) (by simpa using h) fun q hq => hr q (List.mem_cons_of_mem _ hq)
      rw [Nat.add_mul]
      omega
def planM (n : Int) : List (List (Int × Int)) := (irange (n - 1)).map (rowM (homeM n) (oppM n) n)
section
variable {K : PySem.W.Frag} {σ : L2.St} {H H' : Hp} {ta tb te tl tx : TE} {t : TT} {x y z v : V}
theorem atI_ints {l : List Int} {i : Int} (h0 : 0 ≤ i) (h : i < (l.length : Int)) : atI (l.map V.int) i = some (.int (l.getD i.toNat 0)) := by
  have hi : i.toNat < l.length := by omega
  have e : i = ((i.toNat : Nat) : Int) := by omega
  rw [e]
  refine atI_nat ?_
  rw [Int.toNat_natCast, List.getElem?_map, List.getD_eq_getElem?_getD]
  simp [hi]
theorem ea_is {tA : TA} {vs ws : List V} (h : EvA tA σ H vs) (e : vs = ws) : EvA tA σ H ws := by
  rw [← e]
  exact h
theorem rv_p18 : RV (rI CPow fun i j => .int (i ^ j.toNat)) (.int 10) (.int 18) H (.int (10 ^ 18)) := rv_I (C := CPow) (g := fun i j => V.int (i ^ j.toNat)) (i := 10) (j := 18) ⟨by decide, by decide, by decide⟩
theorem rv_p40 : RV (rI CPow fun i j => .int (i ^ j.toNat)) (.int 10) (.int 40) H (.int (10 ^ 40)) := rv_I (C := CPow) (g := fun i j => V.int (i ^ j.toNat)) (i := 10) (j := 40) ⟨by decide, by decide, by decide⟩
/-- an item of a tuple just made -/
theorem ev_ixU {xs : List V} {i : Int} (ha : EvU ta σ H xs) (hb : Ev tb σ H (.int i)) (hi : atI xs i = some v) : Ev (tOp (rIxT K) ta tb) σ H v := fun H1 e Q q =>
  ha H1 e _ fun p H2 _ e2 hp => hb H2 (e.trans e2) _ fun H3 e3 => ⟨p, xs, i, v, rfl, rfl, st_of (e3 p _ hp), hi, q H3 (e2.trans e3)⟩
theorem ev_ixL {p : Addr} {xs : List V} {i : Int} (ha : Ev ta σ H (.ref p)) (hx : SqL K H p xs) (hb : Ev tb σ H (.int i)) (hi : atI xs i = some v) : Ev (tOp (rIxL K) ta tb) σ H v := ev_op ha hb (rv_ixL hx hi)
theorem ev_ixT {p : Addr} {xs : List V} {i : Int} (ha : Ev ta σ H (.ref p)) (hx : SqT K H p xs) (hb : Ev tb σ H (.int i)) (hi : atI xs i = some v) : Ev (tOp (rIxT K) ta tb) σ H v := ev_op ha hb (rv_ixT hx hi)
/-- len, any, all of a list just made -/
theorem ev_lenR {β : Type} {S : Hp → V → β → Prop} {l : List β} (h : EvR te σ H (fun G v => IsL S G v l)) : Ev (tCB (rLenS K) (tCons te tNil)) σ H (.int (l.length : Int)) := fun H1 e Q q =>
  h H1 e _ fun v G H2 c r => by
    obtain ⟨a, vs, rfl, h2, h3⟩ := r
    refine ⟨a, vs, rfl, Or.inl (sq_of (c.part a _ h2)), ?_⟩
    rw [paired_len h3]
    exact q H2 c.up
theorem ev_anyR {l : List Bool} (h : EvR te σ H (fun G v => IsL (IsV V.bl) G v l)) : Ev (tCB (rAny K) (tCons te tNil)) σ H (.bl (l.any id)) := fun H1 e Q q =>
  h H1 e _ fun v G H2 c r => by
    obtain ⟨a, rfl, h2⟩ := isL_V r
    exact ⟨a, l, rfl, sq_of (c.part a _ h2), q H2 c.up⟩
theorem ev_allR {l : List Bool} (h : EvR te σ H (fun G v => IsL (IsV V.bl) G v l)) : Ev (tCB (rAll K) (tCons te tNil)) σ H (.bl (l.all id)) := fun H1 e Q q =>
  h H1 e _ fun v G H2 c r => by
    obtain ⟨a, rfl, h2⟩ := isL_V r
    exact ⟨a, l, rfl, sq_of (c.part a _ h2), q H2 c.up⟩
theorem inV2 {x a b : Int} : inV (.int x) [.int a, .int b] = (decide (x = a) || decide (x = b)) := by
  have e : ∀ p q : Int, (p == q) = decide (p = q) := fun p q => rfl
  simp only [inV, List.any_cons, List.any_nil, Bool.or_false, eqV]
  first
    | rfl
    | (simp [e, eq_comm])
/-- t in a pair -/
theorem ev_inP {t : Int} {p : Int × Int} {v : V} (ha : Ev ta σ H (.int t)) (hb : Ev tb σ H v) (hp : IsPair H v p) : Ev (tOp (rIn K false) ta tb) σ H (.bl (hasT p t)) := by
  obtain ⟨a, rfl, h⟩ := hp
  exact ev_is (ev_op ha hb (rv_isT (st_of h) rfl rfl)) (by rw [inV2]; rfl)
end
/-! dicts with pairs of ints for keys -/
section
variable {K : PySem.W.Frag} {σ : L2.St} {H H' : Hp} {td ty tx tv ta tb te : TE} {x y z v : V} {D : Ends} {tz : TS}
theorem q_asgD {i : Nat} (k : ∀ d, H d = none → tz D (σ.set i (some (.ref d))) (upd H d (.dT []))) : tSeq (tAsg tDNewT (gName i)) tz D σ H := fun d hd => k d hd
theorem ev_dget2 {d t : Addr} {kvs : List (List Key × V)} {k : List Key} (h1 : Ev td σ H (.ref d)) (hd : H d = some (.dT kvs)) (h2 : Ev ty σ H (.ref t)) (ht : H t = some (.tup (k.map kV))) (h3 : Ev tx σ H z) : Ev (tDGet2 td ty tx) σ H ((valV kvs k).getD z) := fun H1 e Q q =>
  h1 H1 e _ fun H2 e2 => ⟨d, rfl, Or.inr ⟨kvs, Or.inl ((e.trans e2) d _ hd)⟩, h2 H2 (e.trans e2) _ fun H3 e3 => h3 H3 ((e.trans e2).trans e3) _ fun H4 e4 =>
    ⟨_, DGet.t ((((e.trans e2).trans e3).trans e4) d _ hd) ((((e.trans e2).trans e3).trans e4) t _ ht), q H4 ((e2.trans e3).trans e4)⟩⟩
theorem s_dput {d t : Addr} {kvs : List (List Key × V)} {k : List Key} (hv : Ev tv σ H v) (h1 : Ev td σ H (.ref d)) (hd : H d = some (.dT kvs)) (h2 : Ev ty σ H (.ref t)) (ht : H t = some (.tup (k.map kV))) (hl : kvs.length < 1000000)
    (q : ∀ H1, Ex H H1 → D.nx σ (upd H1 d (.dT (putK kvs k v)))) : sDPut td ty tv D σ H := hv H (Ex.refl _) _ fun H2 e2 => h1 H2 e2 _ fun H3 e3 => h2 H3 (e2.trans e3) _ fun H4 e4 =>
  ⟨d, _, rfl, DPut.t (((e2.trans e3).trans e4) d _ hd) (((e2.trans e3).trans e4) t _ ht) (Nat.lt_of_lt_of_le hl (by decide)), q H4 ((e2.trans e3).trans e4)⟩
theorem ev_lenT {d : Addr} {kvs : List (List Key × V)} (h : Ev ta σ H (.ref d)) (hd : H d = some (.dT kvs)) : Ev (tCB rLenT (tCons ta tNil)) σ H (.int (kvs.length : Int)) := fun H1 e Q q =>
  h H1 e _ fun H2 e2 => ⟨d, kvs, rfl, (e.trans e2) d _ hd, q H2 e2⟩
theorem ev_maxV {d : Addr} {tb : Tab} (h : Ev ta σ H (.ref d)) (hd : H d = some (.dT (encT tb))) (hne : 0 < tb.length) : Ev (tCB rMaxV (tCons (tBM0 K "dict" rValuesT ta) tNil)) σ H (.int (maxI (tb.map (·.2)))) := fun H1 e Q q =>
  h H1 e _ fun H2 e2 => ⟨Or.inr (Or.inr (Or.inl ⟨rfl, Or.inr ⟨_, (e.trans e2) d _ hd⟩⟩)), d, _, rfl, rfl, (e.trans e2) d _ hd, fun p hp =>
    ⟨p, d, encT tb, tb.map (·.2), rfl, upd_same, by rw [upd_ne (ne_of_none ((e.trans e2) d _ hd) hp)]; exact (e.trans e2) d _ hd, by simp [encT, List.map_map, Function.comp_def], by rw [List.length_map]; exact hne, fun m h1 h2 => by
      rw [maxI_uniq h1 h2]
      exact q _ (e2.trans (Ex.new hp))⟩⟩
/-- a, b = a pair -/
theorem gp_run {i j : Nat} {p : Int × Int} {Q : L2.St → Hp → Prop} (hp : IsPair H x p) (k : Q ((σ.set i (some (.int p.1))).set j (some (.int p.2))) H) : gTup K 2 (gCons (gName i) (gCons (gName j) gNil)) x σ H Q := by
  obtain ⟨t, rfl, ht⟩ := hp
  exact ⟨t, _, rfl, st_of ht, rfl, _, _, rfl, _, _, rfl, rfl, k⟩
end
/-! the rules with the written part named (within a comprehension's block it may not hang on the block) -/
section
variable {X : Cx} {K : PySem.W.Frag} {tg l a b : Expr} {tl ta tb te : TE} {pos : Pos}
theorem k_in (hK : X.K = K := by rfl) : OpR X (compareOp .In) (rIn K false) := hK ▸ op_in_seq
theorem k_notin (hK : X.K = K := by rfl) : OpR X (compareOp .NotIn) (rIn K true) := hK ▸ op_notIn_seq
theorem k_ixL (hK : X.K = K := by rfl) : IxR X (rIxL K) := hK ▸ ix_list
theorem k_ixT (hK : X.K = K := by rfl) : IxR X (rIxT K) := hK ▸ ix_tup
theorem k_len (hK : X.K = K := by rfl) : CallR X (.builtin "len") (rLenS K) := hK ▸ call_len_seq
theorem k_isi (hK : X.K = K := by rfl) : CallR X (.builtin "isinstance") (rIsi K) := hK ▸ call_isi
theorem k_any (hc : X.calm = true) (hK : X.K = K := by rfl) : CallR X (.builtin "any") (rAny K) := hK ▸ cr_any hc
theorem k_all (hc : X.calm = true) (hK : X.K = K := by rfl) : CallR X (.builtin "all") (rAll K) := hK ▸ cr_all hc
theorem k_sum (hc : X.calm = true) (hK : X.K = K := by rfl) : CallR X (.builtin "sum") (rSum K) := hK ▸ cr_sum hc
theorem k_listof (hK : X.K = K := by rfl) : CallR X (.type "list") (rListS K) := hK ▸ call_list_of
theorem k_slL (hK : X.K = K := by rfl) : SlR X (rSlL K) := hK ▸ sl_list
theorem k_eqD (hu : X.A.units + 64 < cLine) (hK : X.K = K := by rfl) : OpR X (compareOp .Eq) (rEqD K) := hK ▸ op_eqD hu
theorem k_neD (hu : X.A.units + 64 < cLine) (hK : X.K = K := by rfl) : OpR X (compareOp .NotEq) (rNeD K) := hK ▸ op_neD hu
theorem k_list (hl : PE X l tl) (hK : X.K = K := by rfl) : PI X tg l (iList K tl) := hK ▸ pi_list hl
theorem k_tup (hl : PE X l tl) (hK : X.K = K := by rfl) : PI X tg l (iTup K tl) := hK ▸ pi_tup hl
theorem k_revL {e : Expr} {k : Nat} {p1 p2 p3 : Pos} (he : PE X e te) (hK : X.K = K := by rfl) : PE X (.Subscript e (.Slice none none (some (.UnaryOp .USub (.Constant (.int 1) k p1) p2)) p3) pos) (tRevL K te) := hK ▸ pe_revL he
theorem k_gtup {es : List Expr} {k : Nat} {t : TGs} {n : Nat} (hc : X.calm = true) (h : PGs X es t) (hn : (assignEach es X.env).length = n := by rfl) (hst : (assignEach es X.env).findIdx? (·.1) = none := by rfl) (hK : X.K = K := by rfl) : PG X (.Tuple es k pos) (gTup K n t) := hK ▸ pg_tup hc h hn hst
end
theorem mul_pow {i j : Int} {a b : Nat} (ha : i.natAbs < 2 ^ a) (hb : j.natAbs < 2 ^ b) (h0 : 0 < a) (h1 : 0 < b) (h : a + b ≤ 1000000) : IntMulOk i j := (wide_mul ha hb h0 h1 h).ok
/-- a number whose bits the script's line carries -/
def BitsOk (c : Int) : Prop := Builtin.Int.intBits c ≤ 1048576
theorem bits_abs {c : Int} {e : Nat} (h : Builtin.Int.intBits c ≤ e) : c.natAbs < 2 ^ e := by
  unfold Builtin.Int.intBits at h
  split at h
  · rename_i q
    have : c = 0 := by simpa using q
    subst this
    exact Nat.two_pow_pos e
  · by_cases hz : c.natAbs = 0
    · rw [hz]
      exact Nat.two_pow_pos e
    · exact Nat.lt_of_lt_of_le ((Nat.log2_lt hz).mp (Nat.lt_succ_self _)) (Nat.pow_le_pow_right (by decide) h)
theorem abs_bits {c : Int} {e : Nat} (h : c.natAbs < 2 ^ e) : Builtin.Int.intBits c ≤ e := by
  unfold Builtin.Int.intBits
  split
  · exact Nat.zero_le _
  · rename_i q
    have hz : c.natAbs ≠ 0 := by
      intro z
      have : c = 0 := by omega
      exact q (by simp [this])
    exact (Nat.log2_lt hz).mpr h
theorem bits_add {c d : Int} {e : Nat} (h : Builtin.Int.intBits c ≤ e) (h2 : d.natAbs < 2 ^ e) : Builtin.Int.intBits (c + d) ≤ e + 1 := by
  refine abs_bits ?_
  have := bits_abs h
  rw [Nat.pow_succ]
  omega
theorem mul_big {i j : Int} {e : Nat} (h1 : Builtin.Int.intBits i ≤ e) (h2 : Builtin.Int.intBits j ≤ e) (he : e ≤ 60000000) : IntMulOk i j := by
  have el : bitsLine = 134217728 := by decide
  unfold IntMulOk
  intro z
  rw [Bool.and_eq_true] at z
  have z2 := z.2
  unfold Builtin.Int.intTooBig at z2
  have z3 := of_decide_eq_true z2
  rw [el] at z3
  omega
theorem mul_cell {c k : Int} (h : BitsOk c) (h0 : 0 ≤ k) (h1 : k ≤ 1000) : IntMulOk (c + 977 * k) (c + 31 * k + 5) := by
  unfold BitsOk at h
  have key : ∀ e : Nat, 30 ≤ e → e ≤ 50000000 → Builtin.Int.intBits c ≤ e → IntMulOk (c + 977 * k) (c + 31 * k + 5) := by
    intro e e1 e2 h
    have p : 2 ^ 30 ≤ 2 ^ e := Nat.pow_le_pow_right (by decide) e1
    have a := bits_add (d := 977 * k) h (by omega)
    have b := bits_add (d := 31 * k + 5) h (by omega)
    rw [show c + 31 * k + 5 = c + (31 * k + 5) by omega]
    exact mul_big a b (by omega)
  exact key 1048576 (by decide) (by decide) h
theorem mul_small_r {i j : Int} (h1 : -(2 ^ 64) < j) (h2 : j < 2 ^ 64) : IntMulOk i j := .of_right (intBits_le_64 h1 h2)
theorem mul_small_l {i j : Int} (h1 : -(2 ^ 64) < i) (h2 : i < 2 ^ 64) : IntMulOk i j := .of_left (intBits_le_64 h1 h2)
end Em

namespace Em
open PySem PySem.Spec PyProof.Rows L2 Evl
/-! ### == of data -/
theorem eqvAll_map {β : Type} [DecidableEq β] {f : β → PyData} (h : ∀ a b, PyData.eqv (f a) (f b) = decide (a = b)) : ∀ l m : List β, PyData.eqvAll (l.map f) (m.map f) = decide (l = m)
  | [], [] => by simp [PyData.eqvAll]
  | [], b :: m => by simp [PyData.eqvAll]
  | a :: l, [] => by simp [PyData.eqvAll]
  | a :: l, b :: m => by
    rw [List.map_cons, List.map_cons, PyData.eqvAll, h, eqvAll_map h l m]
    simp
theorem eqv_list {β : Type} [DecidableEq β] {f : β → PyData} (h : ∀ a b, PyData.eqv (f a) (f b) = decide (a = b)) (l m : List β) : PyData.eqv (.list (l.map f)) (.list (m.map f)) = decide (l = m) := by
  rw [PyData.eqv]
  exact eqvAll_map h l m
theorem eqv_int (a b : Int) : PyData.eqv (.int a) (.int b) = decide (a = b) := by
  rw [PyData.eqv]
  rfl
def dPair (p : Int × Int) : PyData := .tuple [.int p.1, .int p.2]
theorem eqv_pair (p q : Int × Int) : PyData.eqv (dPair p) (dPair q) = decide (p = q) := by
  obtain ⟨a, b⟩ := p
  obtain ⟨c, d⟩ := q
  unfold dPair
  rw [PyData.eqv, PyData.eqvAll, PyData.eqvAll, PyData.eqvAll, eqv_int, eqv_int]
  simp
/-- what the model's == takes: no dict, not too deep -/
def Sh (k : Nat) (d : PyData) : Prop := d.canLay0 = true ∧ d.depth ≤ k
theorem sh_shaped {k : Nat} {d : PyData} (h : Sh k d) (hk : k ≤ 64) : SeqAt.shaped d = true := by
  unfold SeqAt.shaped
  rw [h.1, decide_eq_true (Nat.le_trans h.2 hk)]
  rfl
theorem sh_all {β : Type} {k : Nat} {f : β → PyData} (h : ∀ b, Sh k (f b)) : ∀ l : List β, PyData.canLayAll0 (l.map f) = true ∧ PyData.depthAll (l.map f) ≤ k
  | [] => ⟨by simp [PyData.canLayAll0], by simp [PyData.depthAll]⟩
  | b :: l => by
    obtain ⟨h1, h2⟩ := sh_all h l
    rw [List.map_cons, PyData.canLayAll0, PyData.depthAll, (h b).1, h1]
    exact ⟨rfl, Nat.max_le.mpr ⟨(h b).2, h2⟩⟩
theorem sh_list {β : Type} {k : Nat} {f : β → PyData} (h : ∀ b, Sh k (f b)) (l : List β) : Sh (k + 1) (.list (l.map f)) := by
  obtain ⟨h1, h2⟩ := sh_all h l
  exact ⟨by rw [PyData.canLay0]; exact h1, by rw [PyData.depth]; omega⟩
theorem sh_int (i : Int) : Sh 1 (.int i) := ⟨by rw [PyData.canLay0], by simp [PyData.depth]⟩
theorem sh_pair (p : Int × Int) : Sh 2 (dPair p) := by
  unfold dPair
  refine ⟨?_, ?_⟩
  · simp [PyData.canLay0, PyData.canLayAll0]
  · simp [PyData.depth, PyData.depthAll]
def dRow (l : List (Int × Int)) : PyData := .list (l.map dPair)
def dPlan (l : List (List (Int × Int))) : PyData := .list (l.map dRow)
def dInts (l : List Int) : PyData := .list (l.map PyData.int)
theorem eqv_row (l m : List (Int × Int)) : PyData.eqv (dRow l) (dRow m) = decide (l = m) := eqv_list eqv_pair l m
theorem eqv_plan (l m : List (List (Int × Int))) : PyData.eqv (dPlan l) (dPlan m) = decide (l = m) := eqv_list eqv_row l m
theorem eqv_ints (l m : List Int) : PyData.eqv (dInts l) (dInts m) = decide (l = m) := eqv_list eqv_int l m
theorem sh_row (l : List (Int × Int)) : SeqAt.shaped (dRow l) = true := sh_shaped (sh_list sh_pair l) (by decide)
theorem sh_plan (l : List (List (Int × Int))) : SeqAt.shaped (dPlan l) = true := sh_shaped (sh_list (sh_list sh_pair) l) (by decide)
theorem sh_ints (l : List Int) : SeqAt.shaped (dInts l) = true := sh_shaped (sh_list sh_int l) (by decide)
section
variable {K : PySem.W.Frag} {σ : L2.St} {H H' : Hp} {ta tb te tl tx : TE} {tt : TT} {x y z v : V} {β γ : Type}
theorem dp_all {R : Hp → V → β → Prop} {f : β → PyData} (h : ∀ v b, R H v b → Dp K H v (f b)) : ∀ {vs : List V} {l : List β}, Paired (R H) vs l → DpAll K H vs (l.map f)
  | _, _, .nil => .nil
  | _, _, .cons r t => .cons (h _ _ r) (dp_all h t)
theorem dp_list {R : Hp → V → β → Prop} {f : β → PyData} (h : ∀ v b, R H v b → Dp K H v (f b)) {v : V} {l : List β} (r : IsL R H v l) : Dp K H v (.list (l.map f)) := by
  obtain ⟨a, vs, rfl, ha, hp⟩ := r
  exact .lst (sq_of ha) (dp_all h hp)
theorem dp_pair {p : Int × Int} (r : IsPair H v p) : Dp K H v (dPair p) := by
  obtain ⟨t, rfl, h⟩ := r
  exact .tup (st_of h) (.cons (.int _) (.cons (.int _) .nil))
theorem dp_row {l : List (Int × Int)} (r : IsRow H v l) : Dp K H v (dRow l) := dp_list (fun _ _ q => dp_pair q) r
theorem dp_plan {l : List (List (Int × Int))} (r : IsPlan H v l) : Dp K H v (dPlan l) := dp_list (fun _ _ q => dp_row q) r
theorem dp_ints {l : List Int} (r : IsL (IsV V.int) H v l) : Dp K H v (dInts l) := dp_list (fun v b q => by rw [show v = V.int b from q]; exact .int b) r
theorem mono_ints : Mono (IsL (IsV V.int)) := mono_L mono_V
/-- two things of one kind compared -/
theorem rv_neK {R : Hp → V → β → Prop} (m : Mono R) {f : β → PyData} (dp : ∀ H v b, R H v b → Dp K H v (f b)) (sh : ∀ b, SeqAt.shaped (f b) = true) {b c : β} (h1 : R H x b) (h2 : R H y c) : RV (rNeD K) x y H (.bl (!PyData.eqv (f b) (f c))) := fun H1 e Q q =>
  ⟨_, _, dp _ _ _ (m _ _ _ _ e h1), dp _ _ _ (m _ _ _ _ e h2), sh b, sh c, q H1 (Ex.refl _)⟩
theorem rv_eqK {R : Hp → V → β → Prop} (m : Mono R) {f : β → PyData} (dp : ∀ H v b, R H v b → Dp K H v (f b)) (sh : ∀ b, SeqAt.shaped (f b) = true) {b c : β} (h1 : R H x b) (h2 : R H y c) : RV (rEqD K) x y H (.bl (PyData.eqv (f b) (f c))) := fun H1 e Q q =>
  ⟨_, _, dp _ _ _ (m _ _ _ _ e h1), dp _ _ _ (m _ _ _ _ e h2), sh b, sh c, q H1 (Ex.refl _)⟩
/-- the second operand, both operands told by relations -/
theorem ev_opR {r : R2} {R : Hp → V → Prop} (ha : Ev ta σ H x) (hb : EvR tb σ H R) (hr : ∀ v G, Ex H G → R G v → RV r x v G z) : Ev (tOp r ta tb) σ H z := fun H1 e Q q =>
  ha H1 e _ fun H2 e2 => hb H2 (e.trans e2) _ fun v G H3 c r => hr v G c.old r H3 c.part Q fun H4 e4 => q H4 ((e2.trans c.up).trans e4)
theorem ev_opRR {r : R2} {R S : Hp → V → Prop} (mR : ∀ H H' v, Ex H H' → R H v → R H' v) (ha : EvR ta σ H R) (hb : EvR tb σ H S) (hr : ∀ u v G, Ex H G → R G u → S G v → RV r u v G z) (mS : ∀ H H' v, Ex H H' → S H v → S H' v) : Ev (tOp r ta tb) σ H z := fun H1 e Q q =>
  ha H1 e _ fun u G H2 c r => hb H2 (e.trans c.up) _ fun v G' H3 c' r' => by
    have u1 : Ex G H3 := c.part.trans c'.up
    exact hr u v (join G G') (c.old.trans join_l) (mR _ _ _ join_l r) (mS _ _ _ (join_r u1 c'.part) r') H3 (join_up u1 c'.part) Q fun H4 e4 => q H4 ((c.up.trans c'.up).trans e4)
/-- a call whose second argument is told by a relation -/
theorem ev_callR2 {sp : Sp} {E : XK} {R : Hp → V → Prop} (ha : Ev ta σ H x) (hb : EvR tb σ H R) (hs : ∀ v G, Ex H G → R G v → SpV sp [x, v] G z) : Ev (tCall sp [] E (tCons ta (tCons tb tNil))) σ H z := fun H1 e Q q =>
  ha H1 e _ fun H2 e2 => hb H2 (e.trans e2) _ fun v G H3 c r => hs v G c.old r H3 c.part Q (fun H4 e4 => q H4 ((e2.trans c.up).trans e4)) E
/-- a comprehension over a list, a tuple just made -/
theorem er_lcN {R : Hp → V → β → Prop} {S : Hp → V → γ → Prop} (mS : Mono S) {j : Nat} {vs : List Nat} {l : List β} (p : β → Bool) (f : β → γ) (h : EvR tl σ H (fun G v => IsL R G v l)) (hz : l.length ≤ 40000)
    (hw : ∀ x, wipe ((wipe σ vs).set j (some x)) vs = wipe σ vs)
    (ht : ∀ x b G, b ∈ l → Ex H G → R G x b → EvT tt ((wipe σ vs).set j (some x)) G (p b)) (he : ∀ x b G, b ∈ l → Ex H G → R G x b → p b = true → EvR te ((wipe σ vs).set j (some x)) G (fun G v => S G v (f b))) :
    EvR (tLc (iList K tl) (gName j) tt te vs) σ H (fun G v => IsL S G v ((l.filter p).map f)) := fun H0 e Q q => h H0 e _ fun v G H1 c r => by
  obtain ⟨a, xs, rfl, ha, hr⟩ := r
  refine ⟨a, rfl, ⟨xs, sq_of (c.part a _ ha)⟩, fun D hD => ?_⟩
  refine lc_core2 mS (walk_list (K := K) (a := a) (xs := xs)) l p f (paired_len hr) (by rw [paired_len hr]; exact hz) c.part hD (fun H' u => sq_of (u a _ (c.part a _ ha))) (fun i x b H' H'' hb hH y => ?_) fun v G' H2 c' r' => q v G' H2 (c.trans c') r'
  obtain ⟨rfl, hxi⟩ := y
  obtain ⟨b', hb', rb⟩ := paired_at hr hxi
  rw [hb] at hb'
  cases hb'
  have hm := List.mem_of_getElem? hb
  exact ⟨Ex.refl _, fun Qg k => k _ (hw x) (ht x b G hm c.old rb) (he x b G hm c.old rb)⟩
theorem er_lcU {S : Hp → V → γ → Prop} (mS : Mono S) {j : Nat} {vs : List Nat} {l : List β} {cd : β → V} (p : β → Bool) (f : β → γ) (h : EvU tl σ H (l.map cd)) (hz : l.length ≤ 40000)
    (hw : ∀ x, wipe ((wipe σ vs).set j (some x)) vs = wipe σ vs)
    (ht : ∀ b G, b ∈ l → Ex H G → EvT tt ((wipe σ vs).set j (some (cd b))) G (p b)) (he : ∀ b G, b ∈ l → Ex H G → p b = true → EvR te ((wipe σ vs).set j (some (cd b))) G (fun G v => S G v (f b))) :
    EvR (tLc (iTup K tl) (gName j) tt te vs) σ H (fun G v => IsL S G v ((l.filter p).map f)) := fun H0 e Q q => h H0 e _ fun a H1 hp0 e1 ha => by
  have c : Clean H H0 (upd H a (.tup (l.map cd))) H1 := Clean.new e hp0 e1 ha
  refine ⟨a, rfl, ⟨_, st_of ha⟩, fun D hD => ?_⟩
  refine lc_core2 mS (walk_tup (K := K) (a := a) (xs := l.map cd)) l p f (List.length_map _) (by rw [List.length_map]; exact hz) c.part hD (fun H' u => st_of (u a _ ha)) (fun i x b H' H'' hb hH y => ?_) fun v G' H2 c' r' => q v G' H2 (c.trans c') r'
  obtain ⟨rfl, hxi⟩ := y
  rw [List.getElem?_map, hb] at hxi
  cases hxi
  have hm := List.mem_of_getElem? hb
  exact ⟨Ex.refl _, fun Qg k => k _ (hw _) (ht b _ hm c.old) (he b _ hm c.old)⟩
/-- a for over a tuple just made -/
theorem s_forNT {g : TG} {tu : TS} {D : Ends} {xs : List V} (h : EvU tl σ H xs) (Pv : Nat → L2.St → Hp → Prop) (h0 : ∀ H1, Ex H H1 → Pv 0 σ H1) (hx : ∀ i σ' H', Pv i σ' H' → Ex H H')
    (hs : ∀ p i x σ' H', H' p = some (.tup xs) → xs[i]? = some x → Pv i σ' H' → g x σ' H' fun σ2 H2 => tu { D with nx := fun σ3 H3 => H3 p = some (.tup xs) ∧ Pv (i + 1) σ3 H3, ct := fun σ3 H3 => H3 p = some (.tup xs) ∧ Pv (i + 1) σ3 H3, bk := D.nx } σ2 H2) (hd : ∀ σ' H', Pv xs.length σ' H' → D.nx σ' H') : tFor (iTup K tl) g tu D σ H :=
  h H (Ex.refl H) _ fun p H1 hp e h1 => ⟨p, rfl, ⟨xs, st_of h1⟩, for_tup (fun i σ' H' => H' p = some (.tup xs) ∧ Pv i σ' H') ⟨h1, h0 H1 e⟩ (fun i σ' H' _ q => st_of q.1) (fun i x σ' H' hx' q => hs p i x σ' H' q.1 hx' q.2) fun σ' H' q => hd σ' H' q.2⟩
theorem q_forNT {g : TG} {tu tz : TS} {D : Ends} {xs : List V} (h : EvU tl σ H xs) (Pv : Nat → L2.St → Hp → Prop) (h0 : ∀ H1, Ex H H1 → Pv 0 σ H1) (hx : ∀ i σ' H', Pv i σ' H' → Ex H H')
    (hs : ∀ p i x σ' H', H' p = some (.tup xs) → xs[i]? = some x → Pv i σ' H' → g x σ' H' fun σ2 H2 => tu { D with nx := fun σ3 H3 => H3 p = some (.tup xs) ∧ Pv (i + 1) σ3 H3, ct := fun σ3 H3 => H3 p = some (.tup xs) ∧ Pv (i + 1) σ3 H3, bk := tz D } σ2 H2) (hd : ∀ σ' H', Pv xs.length σ' H' → tz D σ' H') : tSeq (tFor (iTup K tl) g tu) tz D σ H :=
  s_forNT (D := { D with nx := tz D }) h Pv h0 hx hs hd
theorem q_par {tz : TS} {D : Ends} {i j : Nat} {tA : TA} (h : EvA tA σ H [x, y]) (k : ∀ H1, Ex H H1 → tz D ((σ.set i (some x)).set j (some y)) H1) : tSeq (tPar i j tA) tz D σ H := h H (Ex.refl H) _ fun H1 e => ⟨x, y, rfl, k H1 e⟩
end
/-- range(0, m, 1 + m // 8) for few m -/
theorem rg_few : ∀ m : Nat, m < 64 → Builtin.Range.small 0 (m : Int) (1 + (m : Int) / 8) = true ∧ (((m + m / 8) / (1 + m / 8) : Nat) : Int) = Builtin.Range.rangeSize 0 (m : Int) (1 + (m : Int) / 8) := by decide +kernel
end Em

namespace Em
open PySem PySem.Spec PyProof.Rows L2 Evl
/-! the walk of a reading, by the evaluations of its parts -/
local macro_rules | `(tactic| tm_at "leaf") => `(tactic| first
  | ((with_reducible apply ev_var); exact rfl)
  | (with_reducible apply ev_c)
  | (with_reducible apply rv_I0)
  | (with_reducible apply rv_p18)
  | (with_reducible apply rv_p40)
  | ((with_reducible apply rv_I); tm_at "sd")
  | ((with_reducible apply rv_eq); exact rfl)
  | ((with_reducible apply rv_ne); exact rfl)
  | (with_reducible apply ea_nil)
  | (with_reducible apply et_yes)
  | (with_reducible apply isi_int_int)
  | (with_reducible apply isi_int_bool)
  | (with_reducible apply isi_bl_bool)
  | (with_reducible apply rc_min2)
  | (with_reducible apply rc_max2))
local macro_rules | `(tactic| tm_at "node") => `(tactic| first
  | (with_reducible apply ev_op)
  | (with_reducible apply ea_cons)
  | (with_reducible apply et_test)
  | (with_reducible apply et_B)
  | (with_reducible apply et_not)
  | (with_reducible apply et_or)
  | (with_reducible apply et_and)
  | (with_reducible apply et_ch2)
  | (with_reducible apply ev_ch2)
  | (with_reducible apply et_ch3)
  | (with_reducible apply ev_ch3)
  | (with_reducible apply ev_andV)
  | (with_reducible apply ev_orV)
  | (with_reducible apply ev_notV)
  | (with_reducible apply ev_cb)
  | (with_reducible apply ev_call0)
  | (with_reducible intro _)
  | fail "no rule")
local macro_rules | `(tactic| tm_at "sd") => `(tactic| first | (with_reducible assumption) | omega | decide | exact ⟨by omega, by omega⟩ | exact ⟨by decide, by decide⟩ | exact ⟨by decide, by decide, by decide⟩)
local macro_rules | `(tactic| tm_at "sp") => `(tactic| fail "no promise")
local macro_rules | `(tactic| tm_at "ev") => `(tactic| first
  | tm_at "leaf"
  | tm_at "sp"
  | (tm_at "node" <;> tm_at "ev"))

def top (i : Nat) : Stmt := PySem.Challenge.pw_everymeets_k01_whole_plan.main.body.getD i (.Pass ⟨0, 0, 0, 0⟩)
/-- the built-ins' names are free -/
structure Zs (mg : Str → Option Value) : Prop where
  isinstance : mg "isinstance" = none
  int : mg "int" = none
  bool : mg "bool" = none
  len : mg "len" = none
  range : mg "range" = none
  any : mg "any" = none
  all : mg "all" = none
  min : mg "min" = none
  max : mg "max" = none

section
variable {P : Program} {w : World} {K : PySem.W.Frag} {mg : Str → Option Value} {base : Heap}

abbrev s_is_whole : Stmt := top 7
abbrev N_is_whole : List Str := ["thing"]
theorem sc_is_whole : FnScope N_is_whole ["thing"] (defScope s_is_whole) := ⟨rfl, rfl, rfl, by decide +kernel, rfl, by decide +kernel, by decide +kernel⟩
def sp_wholeI : Sp := fun vs H Q _ => ∃ n : Int, vs = [.int n] ∧ RetV (.bl true) H Q
theorem use_wholeI {H : Hp} {n : Int} : SpV sp_wholeI [.int n] H (.bl true) := fun H1 e Q q _ => ⟨n, rfl, q⟩
theorem ok_is_whole (F : DAt K mg "is_whole" s_is_whole ["thing"]) (Z : Zs mg) : DOk P w K mg base 1 "is_whole" ["thing"] sp_wholeI := by
  have nd := sc_is_whole.nd
  refine F.ok sc_is_whole (fun vs H Q E h => ?_) (fun f cdv A outer s H vs Q E hr h => ?_)
  · obtain ⟨n, rfl, _⟩ := h
    rfl
  · obtain ⟨n, rfl, k⟩ := h
    refine ⟨_, (pss_one (ps_ret (pe_and (pe_callB (k_isi (K := K)) (by rfl) Z.isinstance boot_isinstance (pa_cons (pv 0) (pa_cons (pe_bltn (v := .ty "int") (by rfl) Z.int boot_int rfl) pa_nil))) (pe_one (pe_not (pe_callB (k_isi (K := K)) (by rfl) Z.isinstance boot_isinstance (pa_cons (pv 0) (pa_cons (pe_bltn (v := .ty "bool") (by rfl) Z.bool boot_bool rfl) pa_nil)))))))), ?_⟩
    refine s_ret (by tm_at "ev") ?_
    exact k
local macro_rules | `(tactic| tm_at "sp") => `(tactic| (with_reducible apply use_wholeI))

abbrev s_check_teams : Stmt := top 8
abbrev N_check_teams : List Str := ["teams"]
theorem sc_check_teams : FnScope N_check_teams ["teams"] (defScope s_check_teams) := ⟨rfl, rfl, rfl, by decide +kernel, rfl, by decide +kernel, by decide +kernel⟩
def sp_check_teams : Sp := fun vs H Q _ => ∃ n : Int, vs = [.int n] ∧ TeamsOk n ∧ RetV .non H Q
theorem use_check_teams {H : Hp} {n : Int} (h : TeamsOk n) : SpV sp_check_teams [.int n] H .non := fun H1 e Q q _ => ⟨n, rfl, h, q⟩
theorem ok_check_teams (F : DAt K mg "check_teams" s_check_teams ["teams"]) (D_is_whole : DOk P w K mg base 1 "is_whole" ["thing"] sp_wholeI) : DOk P w K mg base 2 "check_teams" ["teams"] sp_check_teams := by
  have nd := sc_check_teams.nd
  refine F.ok sc_check_teams (fun vs H Q E h => ?_) (fun f cdv A outer s H vs Q E hr h => ?_)
  · obtain ⟨n, rfl, _⟩ := h
    rfl
  · obtain ⟨n, rfl, ⟨h1, h2⟩, k⟩ := h
    refine ⟨_, (pss_one (ps_if (PW.pt (pw_or (pt_not (pt_val (pe_callD D_is_whole (hr.mono (by decide)) (pa_cons (pv 0) pa_nil)))) (pw_or (pt_cmpR op_lt (pv 0) pe_int (nomark _)) (pw_or1 (pt_cmpR op_eq (pe_op op_mod (pv 0) pe_int) pe_int (nomark _))))))
        (pss_one ps_never)
        pss_nil)), ?_⟩
    refine s_when (by tm_at "ev") (fun hb => ?_) (fun _ H1 e1 => k H1 e1)
    simp at hb
    omega
local macro_rules | `(tactic| tm_at "sp") => `(tactic| ((with_reducible apply use_check_teams); tm_at "sd"))

abbrev s_check_team : Stmt := top 9
abbrev N_check_team : List Str := ["teams", "team"]
theorem sc_check_team : FnScope N_check_team ["teams", "team"] (defScope s_check_team) := ⟨rfl, rfl, rfl, by decide +kernel, rfl, by decide +kernel, by decide +kernel⟩
def sp_check_team : Sp := fun vs H Q _ => ∃ n t : Int, vs = [.int n, .int t] ∧ TeamOk n t ∧ RetV .non H Q
theorem use_check_team {H : Hp} {n t : Int} (h : TeamOk n t) : SpV sp_check_team [.int n, .int t] H .non := fun H1 e Q q _ => ⟨n, t, rfl, h, q⟩
theorem ok_check_team (F : DAt K mg "check_team" s_check_team ["teams", "team"]) (D_is_whole : DOk P w K mg base 1 "is_whole" ["thing"] sp_wholeI) : DOk P w K mg base 2 "check_team" ["teams", "team"] sp_check_team := by
  have nd := sc_check_team.nd
  refine F.ok sc_check_team (fun vs H Q E h => ?_) (fun f cdv A outer s H vs Q E hr h => ?_)
  · obtain ⟨n, t, rfl, _⟩ := h
    rfl
  · obtain ⟨n, t, rfl, ⟨h1, h2⟩, k⟩ := h
    refine ⟨_, (pss_one (ps_if (PW.pt (pw_or (pt_not (pt_val (pe_callD D_is_whole (hr.mono (by decide)) (pa_cons (pv 1) pa_nil)))) (pw_or1 (pt_not (pt_chain op_le op_lt pe_int (pv 1) (pv 0))))))
        (pss_one ps_never)
        pss_nil)), ?_⟩
    refine s_when (by tm_at "ev") (fun hb => ?_) (fun _ H1 e1 => k H1 e1)
    simp at hb
    omega
local macro_rules | `(tactic| tm_at "sp") => `(tactic| ((with_reducible apply use_check_team); tm_at "sd"))

abbrev s_check_round : Stmt := top 10
abbrev N_check_round : List Str := ["teams", "number"]
theorem sc_check_round : FnScope N_check_round ["teams", "number"] (defScope s_check_round) := ⟨rfl, rfl, rfl, by decide +kernel, rfl, by decide +kernel, by decide +kernel⟩
def sp_check_round : Sp := fun vs H Q _ => ∃ n r : Int, vs = [.int n, .int r] ∧ RoundOk n r ∧ RetV .non H Q
theorem use_check_round {H : Hp} {n r : Int} (h : RoundOk n r) : SpV sp_check_round [.int n, .int r] H .non := fun H1 e Q q _ => ⟨n, r, rfl, h, q⟩
theorem ok_check_round (F : DAt K mg "check_round" s_check_round ["teams", "number"]) (D_is_whole : DOk P w K mg base 1 "is_whole" ["thing"] sp_wholeI) : DOk P w K mg base 2 "check_round" ["teams", "number"] sp_check_round := by
  have nd := sc_check_round.nd
  refine F.ok sc_check_round (fun vs H Q E h => ?_) (fun f cdv A outer s H vs Q E hr h => ?_)
  · obtain ⟨n, r, rfl, _⟩ := h
    rfl
  · obtain ⟨n, r, rfl, ⟨h1, h2⟩, k⟩ := h
    refine ⟨_, (pss_one (ps_if (PW.pt (pw_or (pt_not (pt_val (pe_callD D_is_whole (hr.mono (by decide)) (pa_cons (pv 1) pa_nil)))) (pw_or1 (pt_not (pt_chain op_le op_lt pe_int (pv 1) (pe_op op_sub (pv 0) pe_int))))))
        (pss_one ps_never)
        pss_nil)), ?_⟩
    refine s_when (by tm_at "ev") (fun hb => ?_) (fun _ H1 e1 => k H1 e1)
    simp at hb
    omega
local macro_rules | `(tactic| tm_at "sp") => `(tactic| ((with_reducible apply use_check_round); tm_at "sd"))

abbrev s_check_three : Stmt := top 11
abbrev N_check_three : List Str := ["teams", "team", "number"]
theorem sc_check_three : FnScope N_check_three ["teams", "team", "number"] (defScope s_check_three) := ⟨rfl, rfl, rfl, by decide +kernel, rfl, by decide +kernel, by decide +kernel⟩
def sp_check_three : Sp := fun vs H Q _ => ∃ n t r : Int, vs = [.int n, .int t, .int r] ∧ TeamsOk n ∧ TeamOk n t ∧ RoundOk n r ∧ RetV .non H Q
theorem use_check_three {H : Hp} {n t r : Int} (h1 : TeamsOk n) (h2 : TeamOk n t) (h3 : RoundOk n r) : SpV sp_check_three [.int n, .int t, .int r] H .non := fun H1 e Q q _ => ⟨n, t, r, rfl, h1, h2, h3, q⟩
theorem ok_check_three (F : DAt K mg "check_three" s_check_three ["teams", "team", "number"]) (D_check_teams : DOk P w K mg base 2 "check_teams" ["teams"] sp_check_teams) (D_check_team : DOk P w K mg base 2 "check_team" ["teams", "team"] sp_check_team)
    (D_check_round : DOk P w K mg base 2 "check_round" ["teams", "number"] sp_check_round) : DOk P w K mg base 3 "check_three" ["teams", "team", "number"] sp_check_three := by
  have nd := sc_check_three.nd
  refine F.ok sc_check_three (fun vs H Q E h => ?_) (fun f cdv A outer s H vs Q E hr h => ?_)
  · obtain ⟨n, t, r, rfl, _⟩ := h
    rfl
  · obtain ⟨n, t, r, rfl, h1, h2, h3, k⟩ := h
    refine ⟨_, (pss_cons (ps_expr (pe_callD D_check_teams (hr.mono (by decide)) (pa_cons (pv 0) pa_nil)))
      (pss_cons (ps_expr (pe_callD D_check_team (hr.mono (by decide)) (pa_cons (pv 0) (pa_cons (pv 1) pa_nil))))
      (pss_one (ps_expr (pe_callD D_check_round (hr.mono (by decide)) (pa_cons (pv 0) (pa_cons (pv 2) pa_nil))))))), ?_⟩
    refine q_drop (by tm_at "ev") fun H1 e1 => ?_
    refine q_drop (by tm_at "ev") fun H2 e2 => ?_
    refine s_drop (by tm_at "ev") fun H3 e3 => ?_
    exact k H3 ((e1.trans e2).trans e3)
local macro_rules | `(tactic| tm_at "sp") => `(tactic| ((with_reducible apply use_check_three) <;> tm_at "sd"))

abbrev s_opponent : Stmt := top 12
abbrev N_opponent : List Str := ["teams", "team", "number"]
theorem sc_opponent : FnScope N_opponent ["teams", "team", "number"] (defScope s_opponent) := ⟨rfl, rfl, rfl, by decide +kernel, rfl, by decide +kernel, by decide +kernel⟩
def sp_opponent : Sp := fun vs H Q _ => ∃ n t r : Int, vs = [.int n, .int t, .int r] ∧ TeamsOk n ∧ TeamOk n t ∧ RoundOk n r ∧ RetV (.int (oppM n t r)) H Q
theorem use_opponent {H : Hp} {n t r : Int} (h1 : TeamsOk n) (h2 : TeamOk n t) (h3 : RoundOk n r) : SpV sp_opponent [.int n, .int t, .int r] H (.int (oppM n t r)) := fun H1 e Q q _ => ⟨n, t, r, rfl, h1, h2, h3, q⟩
theorem mul2 {j : Int} : IntMulOk 2 j := .of_left (intBits_le_64 (by decide) (by decide))
theorem ok_opponent (F : DAt K mg "opponent" s_opponent ["teams", "team", "number"]) (D_check_three : DOk P w K mg base 3 "check_three" ["teams", "team", "number"] sp_check_three) : DOk P w K mg base 4 "opponent" ["teams", "team", "number"] sp_opponent := by
  have nd := sc_opponent.nd
  refine F.ok sc_opponent (fun vs H Q E h => ?_) (fun f cdv A outer s H vs Q E hr h => ?_)
  · obtain ⟨n, t, r, rfl, _⟩ := h
    rfl
  · obtain ⟨n, t, r, rfl, h1, h2, h3, k⟩ := h
    have m2 : IntMulOk 2 r := mul2
    have n1 : 0 < n - 1 := by have := h1.1; omega
    refine ⟨_, (pss_cons (ps_expr (pe_callD D_check_three (hr.mono (by decide)) (pa_cons (pv 0) (pa_cons (pv 1) (pa_cons (pv 2) pa_nil)))))
      (pss_cons (ps_if (pt_cmpR op_eq (pv 1) (pe_op op_sub (pv 0) pe_int) (nomark _))
        (pss_one (ps_ret (pv 2)))
        pss_nil)
      (pss_cons (ps_if (pt_cmpR op_eq (pv 1) (pv 2) (nomark _))
        (pss_one (ps_ret (pe_op op_sub (pv 0) pe_int)))
        pss_nil)
      (pss_one (ps_ret (pe_op op_mod (pe_op op_sub (pe_op op_mulB pe_int (pv 2)) (pv 1)) (pe_op op_sub (pv 0) pe_int))))))), ?_⟩
    unfold oppM at k
    refine q_drop (by tm_at "ev") fun H1 e1 => ?_
    refine q_when (by tm_at "ev") (fun hb H2 e2 => s_ret (by tm_at "ev") fun H3 e3 => ?_) fun hb H2 e2 => ?_
    · simp at hb
      rw [if_pos hb] at k
      exact k H3 ((e1.trans e2).trans e3)
    · simp at hb
      rw [if_neg hb] at k
      refine q_when (by tm_at "ev") (fun hb H3 e3 => s_ret (by tm_at "ev") fun H4 e4 => ?_) fun hb H3 e3 => s_ret (by tm_at "ev") fun H4 e4 => ?_
      · simp at hb
        rw [if_pos hb] at k
        exact k H4 (((e1.trans e2).trans e3).trans e4)
      · simp at hb
        rw [if_neg hb] at k
        exact k H4 (((e1.trans e2).trans e3).trans e4)
local macro_rules | `(tactic| tm_at "sp") => `(tactic| ((with_reducible apply use_opponent) <;> tm_at "sd"))

abbrev s_home_of : Stmt := top 13
abbrev N_home_of : List Str := ["teams", "team", "number"]
theorem sc_home_of : FnScope N_home_of ["teams", "team", "number"] (defScope s_home_of) := ⟨rfl, rfl, rfl, by decide +kernel, rfl, by decide +kernel, by decide +kernel⟩
def sp_home_of : Sp := fun vs H Q _ => ∃ n t r : Int, vs = [.int n, .int t, .int r] ∧ TeamsOk n ∧ RetV (.bl (homeM n t r)) H Q
theorem use_home_of {H : Hp} {n t r : Int} (h1 : TeamsOk n) : SpV sp_home_of [.int n, .int t, .int r] H (.bl (homeM n t r)) := fun H1 e Q q _ => ⟨n, t, r, rfl, h1, q⟩
theorem ok_home_of (F : DAt K mg "home_of" s_home_of ["teams", "team", "number"]) : DOk P w K mg base 1 "home_of" ["teams", "team", "number"] sp_home_of := by
  have nd := sc_home_of.nd
  refine F.ok sc_home_of (fun vs H Q E h => ?_) (fun f cdv A outer s H vs Q E hr h => ?_)
  · obtain ⟨n, t, r, rfl, _⟩ := h
    rfl
  · obtain ⟨n, t, r, rfl, h1, k⟩ := h
    have n1 : 0 < n - 1 := by have := h1.1; omega
    refine ⟨_, (pss_cons (ps_if (pt_cmpR op_eq (pv 1) (pe_op op_sub (pv 0) pe_int) (nomark _))
        (pss_one (ps_ret (pe_cmpR op_eq (pe_op op_mod (pv 2) pe_int) pe_int (nomark _))))
        pss_nil)
      (pss_cons (ps_if (pt_cmpR op_eq (pv 1) (pv 2) (nomark _))
        (pss_one (ps_ret (pe_cmpR op_eq (pe_op op_mod (pv 2) pe_int) pe_int (nomark _))))
        pss_nil)
      (pss_one (ps_ret (pe_cmpR op_eq (pe_op op_mod (pe_op op_mod (pe_op op_sub (pv 1) (pv 2)) (pe_op op_sub (pv 0) pe_int)) pe_int) pe_int (nomark _)))))), ?_⟩
    unfold homeM at k
    refine q_when (by tm_at "ev") (fun hb H2 e2 => s_ret (by tm_at "ev") fun H3 e3 => ?_) fun hb H2 e2 => ?_
    · simp at hb
      rw [if_pos hb] at k
      simp only [V.int.injEq]
      exact k H3 (e2.trans e3)
    · simp at hb
      rw [if_neg hb] at k
      refine q_when (by tm_at "ev") (fun hb H3 e3 => s_ret (by tm_at "ev") fun H4 e4 => ?_) fun hb H3 e3 => s_ret (by tm_at "ev") fun H4 e4 => ?_
      · simp at hb
        rw [if_pos hb] at k
        simp only [V.int.injEq]
        exact k H4 ((e2.trans e3).trans e4)
      · simp at hb
        rw [if_neg hb] at k
        simp only [V.int.injEq]
        exact k H4 ((e2.trans e3).trans e4)
local macro_rules | `(tactic| tm_at "sp") => `(tactic| ((with_reducible apply use_home_of) <;> tm_at "sd"))

abbrev s_at_home : Stmt := top 14
abbrev N_at_home : List Str := ["teams", "team", "number"]
theorem sc_at_home : FnScope N_at_home ["teams", "team", "number"] (defScope s_at_home) := ⟨rfl, rfl, rfl, by decide +kernel, rfl, by decide +kernel, by decide +kernel⟩
def sp_at_home : Sp := fun vs H Q _ => ∃ n t r : Int, vs = [.int n, .int t, .int r] ∧ TeamsOk n ∧ TeamOk n t ∧ RoundOk n r ∧ RetV (.bl (homeM n t r)) H Q
theorem use_at_home {H : Hp} {n t r : Int} (h1 : TeamsOk n) (h2 : TeamOk n t) (h3 : RoundOk n r) : SpV sp_at_home [.int n, .int t, .int r] H (.bl (homeM n t r)) := fun H1 e Q q _ => ⟨n, t, r, rfl, h1, h2, h3, q⟩
theorem ok_at_home (F : DAt K mg "at_home" s_at_home ["teams", "team", "number"]) (D_check_three : DOk P w K mg base 3 "check_three" ["teams", "team", "number"] sp_check_three) (D_home_of : DOk P w K mg base 1 "home_of" ["teams", "team", "number"] sp_home_of) :
    DOk P w K mg base 4 "at_home" ["teams", "team", "number"] sp_at_home := by
  have nd := sc_at_home.nd
  refine F.ok sc_at_home (fun vs H Q E h => ?_) (fun f cdv A outer s H vs Q E hr h => ?_)
  · obtain ⟨n, t, r, rfl, _⟩ := h
    rfl
  · obtain ⟨n, t, r, rfl, h1, h2, h3, k⟩ := h
    refine ⟨_, (pss_cons (ps_expr (pe_callD D_check_three (hr.mono (by decide)) (pa_cons (pv 0) (pa_cons (pv 1) (pa_cons (pv 2) pa_nil)))))
      (pss_one (ps_ret (pe_callD D_home_of (hr.mono (by decide)) (pa_cons (pv 0) (pa_cons (pv 1) (pa_cons (pv 2) pa_nil))))))), ?_⟩
    refine q_drop (by tm_at "ev") fun H1 e1 => ?_
    refine s_ret (by tm_at "ev") fun H2 e2 => ?_
    exact k H2 (e1.trans e2)
local macro_rules | `(tactic| tm_at "sp") => `(tactic| ((with_reducible apply use_at_home) <;> tm_at "sd"))

abbrev s_round_of : Stmt := top 15
abbrev N_round_of : List Str := ["teams", "one", "other"]
theorem sc_round_of : FnScope N_round_of ["teams", "one", "other"] (defScope s_round_of) := ⟨rfl, rfl, rfl, by decide +kernel, rfl, by decide +kernel, by decide +kernel⟩
def sp_round_of : Sp := fun vs H Q _ => ∃ n a b : Int, vs = [.int n, .int a, .int b] ∧ TeamsOk n ∧ n < 2 ^ 200 ∧ TeamOk n a ∧ TeamOk n b ∧ a ≠ b ∧ RetV (.int (roundM n a b)) H Q
theorem use_round_of {H : Hp} {n a b : Int} (h1 : TeamsOk n) (h2 : n < 2 ^ 200) (h3 : TeamOk n a) (h4 : TeamOk n b) (h5 : a ≠ b) : SpV sp_round_of [.int n, .int a, .int b] H (.int (roundM n a b)) := fun H1 e Q q _ => ⟨n, a, b, rfl, h1, h2, h3, h4, h5, q⟩
theorem ok_round_of (F : DAt K mg "round_of" s_round_of ["teams", "one", "other"]) (D_check_teams : DOk P w K mg base 2 "check_teams" ["teams"] sp_check_teams) (D_check_team : DOk P w K mg base 2 "check_team" ["teams", "team"] sp_check_team) (Z : Zs mg) :
    DOk P w K mg base 3 "round_of" ["teams", "one", "other"] sp_round_of := by
  have nd := sc_round_of.nd
  refine F.ok sc_round_of (fun vs H Q E h => ?_) (fun f cdv A outer s H vs Q E hr h => ?_)
  · obtain ⟨n, a, b, rfl, _⟩ := h
    rfl
  · obtain ⟨n, a, b, rfl, h1, hbig, h2, h3, h5, k⟩ := h
    have n1 : 0 < n - 1 := by have := h1.1; omega
    have m1 : IntMulOk (a + b) (n / 2) := by
      obtain ⟨_, _⟩ := h1
      obtain ⟨_, _⟩ := h2
      obtain ⟨_, _⟩ := h3
      exact mul_pow (a := 201) (b := 201) (by omega) (by omega) (by decide) (by decide) (by decide)
    refine ⟨_, (pss_cons (ps_expr (pe_callD D_check_teams (hr.mono (by decide)) (pa_cons (pv 0) pa_nil)))
      (pss_cons (ps_expr (pe_callD D_check_team (hr.mono (by decide)) (pa_cons (pv 0) (pa_cons (pv 1) pa_nil))))
      (pss_cons (ps_expr (pe_callD D_check_team (hr.mono (by decide)) (pa_cons (pv 0) (pa_cons (pv 2) pa_nil))))
      (pss_cons (ps_if (pt_cmpR op_eq (pv 1) (pv 2) (nomark _))
        (pss_one ps_never)
        pss_nil)
      (pss_cons (ps_if (pt_cmpR (k_in (K := K)) (pe_op op_sub (pv 0) pe_int) (pe_tup (pa_cons (pv 1) (pa_cons (pv 2) pa_nil))) (by rfl))
        (pss_one (ps_ret (pe_callB (call_min2 rfl) (by rfl) Z.min boot_min (pa_cons (pv 1) (pa_cons (pv 2) pa_nil)))))
        pss_nil)
      (pss_one (ps_ret (pe_op op_mod (pe_op op_mulB (pe_op op_add (pv 1) (pv 2)) (pe_op op_fdiv (pv 0) pe_int)) (pe_op op_sub (pv 0) pe_int))))))))), ?_⟩
    unfold roundM at k
    refine q_drop (by tm_at "ev") fun H1 e1 => ?_
    refine q_drop (by tm_at "ev") fun H2 e2 => ?_
    refine q_drop (by tm_at "ev") fun H3 e3 => ?_
    refine q_when (by tm_at "ev") (fun hb H4 e4 => ?_) fun hb H4 e4 => ?_
    · simp at hb
      exact h5 hb
    · have e : Ex H H4 := ((e1.trans e2).trans e3).trans e4
      refine q_when (b := inV (.int (n - 1)) [.int a, .int b]) (et_test (ev_inU (by tm_at "ev") (eu_tup (by tm_at "ev") (by show 2 ≤ 100000; decide)) rfl rfl)) (fun hb H5 e5 => s_ret (by tm_at "ev") fun H6 e6 => ?_) fun hb H5 e5 => s_ret (by tm_at "ev") fun H6 e6 => ?_
      · rw [inV2] at hb
        simp at hb
        rw [if_pos hb] at k
        exact k H6 ((e.trans e5).trans e6)
      · rw [inV2] at hb
        simp at hb
        rw [if_neg (by omega)] at k
        exact k H6 ((e.trans e5).trans e6)
local macro_rules | `(tactic| tm_at "sp") => `(tactic| ((with_reducible apply use_round_of) <;> tm_at "sd"))
end

local macro_rules | `(tactic| tm_at "sp") => `(tactic| (with_reducible apply use_wholeI))
local macro_rules | `(tactic| tm_at "sp") => `(tactic| ((with_reducible apply use_check_teams); tm_at "sd"))
local macro_rules | `(tactic| tm_at "sp") => `(tactic| ((with_reducible apply use_check_team); tm_at "sd"))
local macro_rules | `(tactic| tm_at "sp") => `(tactic| ((with_reducible apply use_check_round); tm_at "sd"))
local macro_rules | `(tactic| tm_at "sp") => `(tactic| ((with_reducible apply use_check_three) <;> tm_at "sd"))
local macro_rules | `(tactic| tm_at "sp") => `(tactic| ((with_reducible apply use_opponent) <;> tm_at "sd"))
local macro_rules | `(tactic| tm_at "sp") => `(tactic| ((with_reducible apply use_home_of) <;> tm_at "sd"))
local macro_rules | `(tactic| tm_at "sp") => `(tactic| ((with_reducible apply use_at_home) <;> tm_at "sd"))
local macro_rules | `(tactic| tm_at "sp") => `(tactic| ((with_reducible apply use_round_of) <;> tm_at "sd"))
section
variable {P : Program} {w : World} {K : PySem.W.Frag} {mg : Str → Option Value} {base : Heap}
/-! ### the law's own readers and draws -/
def cellM (ns : List Int) (k : Int) : Int := ns.getD k.toNat 0
def primesM : List Int := [1000003, 1000033, 1000037, 1000039, 1000081, 1000099, 1000117, 1000121, 1000133, 1000151, 1000159, 1000171, 1000183, 1000187, 1000193, 1000199]
def primeM (k : Int) : Int := primesM.getD (k % 16).toNat 0
theorem primeM_pos (k : Int) : 0 < primeM k := by
  have h : ∀ i : Nat, i < 16 → 0 < primesM.getD i 0 := by decide
  exact h _ (by omega)
def drawM (c k m : Int) : Int := (c * 48271 + k * 69621) % primeM k % m
theorem drawM_ok {c k m : Int} (h : 0 < m) : 0 ≤ drawM c k m ∧ drawM c k m < m := ⟨Int.emod_nonneg _ (by omega), Int.emod_lt_of_pos _ h⟩
def tab4M (k : Int) : Int := [1, 7, 49, 343].getD (k % 4).toNat 0
theorem tab4M_ok (k : Int) : 0 < tab4M k ∧ tab4M k < 1000 := by
  have h : ∀ i : Nat, i < 4 → 0 < ([1, 7, 49, 343] : List Int).getD i 0 ∧ ([1, 7, 49, 343] : List Int).getD i 0 < 1000 := by decide
  exact h _ (by omega)
def valueM (c k lim : Int) : Int := if c ≥ 10 ^ 18 then (c - 10 ^ 18) / tab4M k % 10 ^ 40 else drawM ((c + 977 * k) * (c + 31 * k + 5)) (k % 9 + 1) lim
theorem valueM_ok {c k lim : Int} (h : 0 < lim) (h2 : lim ≤ 10 ^ 40) : 0 ≤ valueM c k lim ∧ valueM c k lim < 10 ^ 40 := by
  unfold valueM
  split
  · exact ⟨Int.emod_nonneg _ (by decide), Int.emod_lt_of_pos _ (by decide)⟩
  · have := drawM_ok (c := (c + 977 * k) * (c + 31 * k + 5)) (k := k % 9 + 1) h
    omega
theorem ten40 : (0 : Int) < 10 ^ 40 := by decide
theorem ten18 : (0 : Int) < 10 ^ 18 := by decide
def tabTM (j : Int) : Int := [4, 15, 900, 10 ^ 40].getD j.toNat 0
theorem tabTM_ok {j : Int} (h : 0 ≤ j) (h2 : j < 4) : 0 < tabTM j ∧ tabTM j ≤ 10 ^ 40 := by
  have h : ∀ i : Nat, i < 4 → 0 < ([4, 15, 900, 10 ^ 40] : List Int).getD i 0 ∧ ([4, 15, 900, 10 ^ 40] : List Int).getD i 0 ≤ 10 ^ 40 := by decide
  exact h _ (by omega)
def teamsM (ns : List Int) (k : Int) : Int := 2 + 2 * (valueM (cellM ns k) (k + 2) 900000 % tabTM (drawM (cellM ns k % 10 ^ 18 + 31 * k) 6 4))
theorem teamsM_ok (ns : List Int) (k : Int) : TeamsOk (teamsM ns k) ∧ teamsM ns k < 2 ^ 200 := by
  have h1 := drawM_ok (c := cellM ns k % 10 ^ 18 + 31 * k) (k := 6) (m := 4) (by decide)
  have h2 := tabTM_ok h1.1 h1.2
  have h3 := Int.emod_nonneg (valueM (cellM ns k) (k + 2) 900000) (b := tabTM (drawM (cellM ns k % 10 ^ 18 + 31 * k) 6 4)) (by omega)
  have h4 := Int.emod_lt_of_pos (valueM (cellM ns k) (k + 2) 900000) h2.1
  have e : (10 : Int) ^ 40 < 2 ^ 190 := by decide
  have e2 : (2 : Int) + 2 * 2 ^ 190 < 2 ^ 200 := by decide
  unfold TeamsOk teamsM
  generalize valueM (cellM ns k) (k + 2) 900000 % tabTM (drawM (cellM ns k % 10 ^ 18 + 31 * k) 6 4) = z at *
  generalize tabTM (drawM (cellM ns k % 10 ^ 18 + 31 * k) 6 4) = y at *
  generalize (10 : Int) ^ 40 = a at *
  generalize (2 : Int) ^ 190 = b at *
  generalize (2 : Int) ^ 200 = c at *
  omega

abbrev s__law_cell_at : Stmt := top 17
abbrev N__law_cell_at : List Str := ["_law_script", "_law_k"]
theorem sc__law_cell_at : FnScope N__law_cell_at ["_law_script", "_law_k"] (defScope s__law_cell_at) := ⟨rfl, rfl, rfl, by decide +kernel, rfl, by decide +kernel, by decide +kernel⟩
def sp_cell (K : PySem.W.Frag) : Sp := fun vs H Q _ => ∃ (a : Addr) (ns : List Int) (k : Int), vs = [.ref a, .int k] ∧ SqL K H a (ns.map V.int) ∧ 0 ≤ k ∧ RetV (.int (cellM ns k)) H Q
theorem use_cell {H : Hp} {a : Addr} {ns : List Int} {k : Int} (h : SqL K H a (ns.map V.int)) (h0 : 0 ≤ k) : SpV (sp_cell K) [.ref a, .int k] H (.int (cellM ns k)) := fun H1 e Q q _ => ⟨a, ns, k, rfl, ex_l e h, h0, q⟩
theorem ok_cell (F : DAt K mg "_law_cell_at" s__law_cell_at ["_law_script", "_law_k"]) (Z : Zs mg) : DOk P w K mg base 1 "_law_cell_at" ["_law_script", "_law_k"] (sp_cell K) := by
  have nd := sc__law_cell_at.nd
  refine F.ok sc__law_cell_at (fun vs H Q E h => ?_) (fun f cdv A outer s H vs Q E hr h => ?_)
  · obtain ⟨a, ns, k, rfl, _⟩ := h
    rfl
  · obtain ⟨a, ns, k, rfl, hs, h0, q⟩ := h
    refine ⟨_, (pss_cons (ps_if (pt_cmpR op_lt (pv 1) (pe_callB (k_len (K := K)) (by rfl) Z.len boot_len (pa_cons (pv 0) pa_nil)) (nomark _))
        (pss_one (ps_ret (pe_ix (k_ixL (K := K)) (pv 0) (pv 1) (fun _ _ => rfl))))
        pss_nil)
      (pss_one (ps_ret pe_int))), ?_⟩
    refine q_when (et_test (ev_op (by tm_at "ev") (ev_len (by tm_at "ev") hs) (by tm_at "ev"))) (fun hb H2 e2 => ?_) fun hb H2 e2 => s_ret (by tm_at "ev") fun H3 e3 => ?_
    · simp at hb
      refine s_ret (ev_ixL (by tm_at "ev") (ex_l e2 hs) (by tm_at "ev") (atI_ints (l := ns) h0 hb)) fun H3 e3 => ?_
      exact q H3 (e2.trans e3)
    · simp at hb
      have e : cellM ns k = 0 := by
        unfold cellM
        rw [List.getD_eq_getElem?_getD, List.getElem?_eq_none (by omega)]
        rfl
      rw [e] at q
      exact q H3 (e2.trans e3)

abbrev s__law_draw : Stmt := top 18
abbrev N__law_draw : List Str := ["_law_cell", "_law_k", "_law_many", "_law_primes"]
theorem sc__law_draw : FnScope N__law_draw ["_law_cell", "_law_k", "_law_many"] (defScope s__law_draw) := ⟨rfl, rfl, rfl, by decide +kernel, rfl, by decide +kernel, by decide +kernel⟩
def sp_draw : Sp := fun vs H Q _ => ∃ c k m : Int, vs = [.int c, .int k, .int m] ∧ 0 < m ∧ RetV (.int (drawM c k m)) H Q
theorem use_draw {H : Hp} {c k m : Int} (h : 0 < m) : SpV sp_draw [.int c, .int k, .int m] H (.int (drawM c k m)) := fun H1 e Q q _ => ⟨c, k, m, rfl, h, q⟩
theorem ok_draw (F : DAt K mg "_law_draw" s__law_draw ["_law_cell", "_law_k", "_law_many"]) : DOk P w K mg base 1 "_law_draw" ["_law_cell", "_law_k", "_law_many"] sp_draw := by
  have nd := sc__law_draw.nd
  refine F.ok sc__law_draw (fun vs H Q E h => ?_) (fun f cdv A outer s H vs Q E hr h => ?_)
  · obtain ⟨c, k, m, rfl, _⟩ := h
    rfl
  · obtain ⟨c, k, m, rfl, h0, q⟩ := h
    have m1 : IntMulOk c 48271 := mul_small_r (by decide) (by decide)
    have m2 : IntMulOk k 69621 := mul_small_r (by decide) (by decide)
    have p0 := primeM_pos k
    have i0 : 0 ≤ k % 16 := by omega
    have i1 : k % 16 < ((primesM.length : Nat) : Int) := by show k % 16 < 16; omega
    refine ⟨_, (pss_cons (ps_set (i := 3) nd rfl (Or.inl rfl) (pe_tup (pa_cons pe_int (pa_cons pe_int (pa_cons pe_int (pa_cons pe_int (pa_cons pe_int (pa_cons pe_int (pa_cons pe_int (pa_cons pe_int (pa_cons pe_int (pa_cons pe_int (pa_cons pe_int (pa_cons pe_int (pa_cons pe_int (pa_cons pe_int (pa_cons pe_int (pa_cons pe_int pa_nil))))))))))))))))))
      (pss_one (ps_ret (pe_op op_mod (pe_op op_mod (pe_op op_add (pe_op op_mulB (pv 0) pe_int) (pe_op op_mulB (pv 1) pe_int)) (pe_ix (k_ixT (K := K)) (pv 3) (pe_op op_mod (pv 1) pe_int) (fun _ _ => rfl))) (pv 2))))), ?_⟩
    refine q_asgU (xs := primesM.map V.int) (eu_tup (ea_is (by tm_at "ev") (by rfl)) (by show 16 ≤ 100000; decide)) fun p H1 hp e1 h1 => ?_
    have ix : Ev (tOp (rIxT K) (tVar 3) (tOp (rI (fun _ j => 0 < j) fun i j => .int (i % j)) (tVar 1) (tC (.int 16)))) ([some (.int c), some (.int k), some (.int m), some (.ref p)] : L2.St) H1 (.int (primeM k)) := ev_ixT (by tm_at "ev") (st_of h1) (by tm_at "ev") (atI_ints i0 i1)
    refine s_ret (v := .int (drawM c k m)) ?_ fun H2 e2 => q H2 (e1.trans e2)
    exact ev_op (ev_op (by tm_at "ev") ix (rv_I p0)) (by tm_at "ev") (rv_I h0)
local macro_rules | `(tactic| tm_at "sp") => `(tactic| ((with_reducible apply use_draw) <;> tm_at "sd"))

abbrev s__law_value : Stmt := top 19
abbrev N__law_value : List Str := ["_law_cell", "_law_k", "_law_limit"]
theorem sc__law_value : FnScope N__law_value ["_law_cell", "_law_k", "_law_limit"] (defScope s__law_value) := ⟨rfl, rfl, rfl, by decide +kernel, rfl, by decide +kernel, by decide +kernel⟩
def sp_value : Sp := fun vs H Q _ => ∃ c k m : Int, vs = [.int c, .int k, .int m] ∧ BitsOk c ∧ 0 ≤ k ∧ k ≤ 1000 ∧ 0 < m ∧ RetV (.int (valueM c k m)) H Q
theorem use_value {H : Hp} {c k m : Int} (h1 : BitsOk c) (h2 : 0 ≤ k) (h3 : k ≤ 1000) (h4 : 0 < m) : SpV sp_value [.int c, .int k, .int m] H (.int (valueM c k m)) := fun H1 e Q q _ => ⟨c, k, m, rfl, h1, h2, h3, h4, q⟩
theorem ok_value (F : DAt K mg "_law_value" s__law_value ["_law_cell", "_law_k", "_law_limit"]) (D__law_draw : DOk P w K mg base 1 "_law_draw" ["_law_cell", "_law_k", "_law_many"] sp_draw) : DOk P w K mg base 2 "_law_value" ["_law_cell", "_law_k", "_law_limit"] sp_value := by
  have nd := sc__law_value.nd
  refine F.ok sc__law_value (fun vs H Q E h => ?_) (fun f cdv A outer s H vs Q E hr h => ?_)
  · obtain ⟨c, k, m, rfl, _⟩ := h
    rfl
  · obtain ⟨c, k, m, rfl, h1, h2, h3, h4, q⟩ := h
    have m0 : IntMulOk (c + 977 * k) (c + 31 * k + 5) := mul_cell h1 h2 h3
    have m1 : IntMulOk 977 k := mul_small_l (by decide) (by decide)
    have m2 : IntMulOk 31 k := mul_small_l (by decide) (by decide)
    have t4 := tab4M_ok k
    have i0 : 0 ≤ k % 4 := by omega
    have i1 : k % 4 < ((([1, 7, 49, 343] : List Int).length : Nat) : Int) := by show k % 4 < 4; omega
    refine ⟨_, (pss_cons (ps_if (pt_cmpR op_ge (pv 0) (pe_op op_pow pe_int pe_int) (nomark _))
        (pss_one (ps_ret (pe_op op_mod (pe_op op_fdiv (pe_op op_sub (pv 0) (pe_op op_pow pe_int pe_int)) (pe_ix (k_ixT (K := K)) (pe_tup (pa_cons pe_int (pa_cons pe_int (pa_cons pe_int (pa_cons pe_int pa_nil))))) (pe_op op_mod (pv 1) pe_int) (fun _ _ => rfl))) (pe_op op_pow pe_int pe_int))))
        pss_nil)
      (pss_one (ps_ret (pe_callD D__law_draw (hr.mono (by decide)) (pa_cons (pe_op op_mulB (pe_op op_add (pv 0) (pe_op op_mulB pe_int (pv 1))) (pe_op op_add (pe_op op_add (pv 0) (pe_op op_mulB pe_int (pv 1))) pe_int)) (pa_cons (pe_op op_add (pe_op op_mod (pv 1) pe_int) pe_int) (pa_cons (pv 2) pa_nil))))))), ?_⟩
    unfold valueM at q
    refine q_when (b := decide (10 ^ 18 ≤ c)) (by tm_at "ev") (fun hb H2 e2 => ?_) fun hb H2 e2 => s_ret (by tm_at "ev") fun H3 e3 => ?_
    · rw [decide_eq_true_eq] at hb
      rw [if_pos hb] at q
      have ix : ∀ H', Ev (tOp (rIxT K) (tTup (tCons (tC (.int 1)) (tCons (tC (.int 7)) (tCons (tC (.int 49)) (tCons (tC (.int 343)) tNil))))) (tOp (rI (fun _ j => 0 < j) fun i j => .int (i % j)) (tVar 1) (tC (.int 4)))) ([some (.int c), some (.int k), some (.int m)] : L2.St) H' (.int (tab4M k)) := fun H' =>
        ev_ixU (xs := ([1, 7, 49, 343] : List Int).map V.int) (eu_tup (ea_is (by tm_at "ev") (by rfl)) (by show 4 ≤ 100000; decide)) (by tm_at "ev") (atI_ints i0 i1)
      refine s_ret (v := .int ((c - 10 ^ 18) / tab4M k % 10 ^ 40)) ?_ fun H3 e3 => q H3 (e2.trans e3)
      exact ev_op (ev_op (by tm_at "ev") (ix _) (rv_I ⟨t4.1, by omega⟩)) (by tm_at "ev") (rv_I ten40)
    · rw [decide_eq_false_iff_not] at hb
      rw [if_neg hb] at q
      exact q H3 (e2.trans e3)

abbrev s__law_teams : Stmt := top 20
abbrev N__law_teams : List Str := ["_law_script", "_law_k", "_law_drawn"]
theorem sc__law_teams : FnScope N__law_teams ["_law_script", "_law_k"] (defScope s__law_teams) := ⟨rfl, rfl, rfl, by decide +kernel, rfl, by decide +kernel, by decide +kernel⟩
def sp_teams (K : PySem.W.Frag) : Sp := fun vs H Q _ => ∃ (a : Addr) (ns : List Int) (k : Int), vs = [.ref a, .int k] ∧ SqL K H a (ns.map V.int) ∧ (∀ z ∈ ns, BitsOk z) ∧ 0 ≤ k ∧ k ≤ 100 ∧ RetV (.int (teamsM ns k)) H Q
theorem cellM_bits {ns : List Int} (h : ∀ z ∈ ns, BitsOk z) (k : Int) : BitsOk (cellM ns k) := by
  unfold cellM
  rw [List.getD_eq_getElem?_getD]
  cases e : ns[k.toNat]? with
  | none => exact (by unfold BitsOk; decide : BitsOk 0)
  | some z => exact h z (List.mem_of_getElem? e)
theorem use_teams {H : Hp} {a : Addr} {ns : List Int} {k : Int} (h : SqL K H a (ns.map V.int)) (hb : ∀ z ∈ ns, BitsOk z) (h0 : 0 ≤ k) (h1 : k ≤ 100) : SpV (sp_teams K) [.ref a, .int k] H (.int (teamsM ns k)) := fun H1 e Q q _ => ⟨a, ns, k, rfl, ex_l e h, hb, h0, h1, q⟩
theorem ok_teams (F : DAt K mg "_law_teams" s__law_teams ["_law_script", "_law_k"]) (D__law_cell_at : DOk P w K mg base 1 "_law_cell_at" ["_law_script", "_law_k"] (sp_cell K)) (D__law_draw : DOk P w K mg base 1 "_law_draw" ["_law_cell", "_law_k", "_law_many"] sp_draw)
    (D__law_value : DOk P w K mg base 2 "_law_value" ["_law_cell", "_law_k", "_law_limit"] sp_value) : DOk P w K mg base 3 "_law_teams" ["_law_script", "_law_k"] (sp_teams K) := by
  have nd := sc__law_teams.nd
  refine F.ok sc__law_teams (fun vs H Q E h => ?_) (fun f cdv A outer s H vs Q E hr h => ?_)
  · obtain ⟨a, ns, k, rfl, _⟩ := h
    rfl
  · obtain ⟨a, ns, k, rfl, hs, hbits, h0, h1, q⟩ := h
    have cb := cellM_bits hbits k
    have m2 : IntMulOk 31 k := mul_small_l (by decide) (by decide)
    have d1 := drawM_ok (c := cellM ns k % 10 ^ 18 + 31 * k) (k := 6) (m := 4) (by decide)
    have t4 := tabTM_ok d1.1 d1.2
    have mz : ∀ z, IntMulOk 2 z := fun z => mul_small_l (by decide) (by decide)
    refine ⟨_, (pss_cons (ps_set (i := 2) nd rfl (Or.inl rfl) (pe_callD D__law_value (hr.mono (by decide)) (pa_cons (pe_callD D__law_cell_at (hr.mono (by decide)) (pa_cons (pv 0) (pa_cons (pv 1) pa_nil))) (pa_cons (pe_op op_add (pv 1) pe_int) (pa_cons pe_int pa_nil)))))
      (pss_one (ps_ret (pe_op op_add pe_int (pe_op op_mulB pe_int (pe_op op_mod (pv 2) (pe_ix (k_ixT (K := K)) (pe_tup (pa_cons pe_int (pa_cons pe_int (pa_cons pe_int (pa_cons (pe_op op_pow pe_int pe_int) pa_nil))))) (pe_callD D__law_draw (hr.mono (by decide)) (pa_cons (pe_op op_add (pe_op op_mod (pe_callD D__law_cell_at (hr.mono (by decide)) (pa_cons (pv 0) (pa_cons (pv 1) pa_nil))) (pe_op op_pow pe_int pe_int)) (pe_op op_mulB pe_int (pv 1))) (pa_cons pe_int (pa_cons pe_int pa_nil)))) (fun _ _ => rfl)))))))), ?_⟩
    have cell : ∀ H' σ, SqL K H' a (ns.map V.int) → σ[0]? = some (some (.ref a)) → σ[1]? = some (some (.int k)) → Ev (tCall (sp_cell K) [] E0 (tCons (tVar 0) (tCons (tVar 1) tNil))) σ H' (.int (cellM ns k)) := fun H' σ hs a0 a1 =>
      ev_call0 (ea_cons (ev_var a0) (ea_cons (ev_var a1) ea_nil)) (use_cell hs h0)
    refine q_asg (v := .int (valueM (cellM ns k) (k + 2) 900000)) (ev_call0 (ea_cons (cell H _ hs rfl rfl) (by tm_at "ev")) (use_value cb (by omega) (by omega) (by decide))) fun H1 e1 => ?_
    have hs1 := ex_l e1 hs
    refine s_ret (v := .int (teamsM ns k)) ?_ fun H2 e2 => q H2 (e1.trans e2)
    have dr : Ev (tCall sp_draw [] E0 (tCons (tOp (rI0 fun i j => .int (i + j)) (tOp (rI (fun _ j => 0 < j) fun i j => .int (i % j)) (tCall (sp_cell K) [] E0 (tCons (tVar 0) (tCons (tVar 1) tNil))) (tOp (rI CPow fun i j => .int (i ^ j.toNat)) (tC (.int 10)) (tC (.int 18)))) (tOp (rI IntMulOk fun i j => .int (i * j)) (tC (.int 31)) (tVar 1))) (tCons (tC (.int 6)) (tCons (tC (.int 4)) tNil))))
        ([some (.ref a), some (.int k), some (.int (valueM (cellM ns k) (k + 2) 900000))] : L2.St) H1 (.int (drawM (cellM ns k % 10 ^ 18 + 31 * k) 6 4)) := by
      refine ev_call0 (ea_cons (ev_op (x := .int (cellM ns k % 10 ^ 18)) (y := .int (31 * k)) (ev_op (cell H1 _ hs1 rfl rfl) (by tm_at "ev") (rv_I ten18)) (by tm_at "ev") rv_I0) (by tm_at "ev")) (use_draw (by decide))
    refine ev_op ev_c (ev_op ev_c (ev_op (by tm_at "ev") (y := .int (tabTM (drawM (cellM ns k % 10 ^ 18 + 31 * k) 6 4))) (ev_ixU (xs := ([4, 15, 900, 10 ^ 40] : List Int).map V.int) (eu_tup ?_ (by show 4 ≤ 100000; decide)) dr (atI_ints d1.1 (by show _ < (4 : Int); omega))) (rv_I t4.1)) (rv_I (mz _))) rv_I0
    exact ea_cons ev_c (ea_cons ev_c (ea_cons ev_c (ea_cons (by tm_at "ev") ea_nil)))

abbrev s__law_whole : Stmt := top 21
abbrev N__law_whole : List Str := ["_law_number"]
theorem sc__law_whole : FnScope N__law_whole ["_law_number"] (defScope s__law_whole) := ⟨rfl, rfl, rfl, by decide +kernel, rfl, by decide +kernel, by decide +kernel⟩
theorem ok_whole (F : DAt K mg "_law_whole" s__law_whole ["_law_number"]) (Z : Zs mg) : DOk P w K mg base 1 "_law_whole" ["_law_number"] sp_wholeI := by
  have nd := sc__law_whole.nd
  refine F.ok sc__law_whole (fun vs H Q E h => ?_) (fun f cdv A outer s H vs Q E hr h => ?_)
  · obtain ⟨n, rfl, _⟩ := h
    rfl
  · obtain ⟨n, rfl, k⟩ := h
    refine ⟨_, (pss_one (ps_ret (pe_and (pe_callB (k_isi (K := K)) (by rfl) Z.isinstance boot_isinstance (pa_cons (pv 0) (pa_cons (pe_bltn (v := .ty "int") (by rfl) Z.int boot_int rfl) pa_nil))) (pe_one (pe_not (pe_callB (k_isi (K := K)) (by rfl) Z.isinstance boot_isinstance (pa_cons (pv 0) (pa_cons (pe_bltn (v := .ty "bool") (by rfl) Z.bool boot_bool rfl) pa_nil)))))))), ?_⟩
    refine s_ret (by tm_at "ev") ?_
    exact k

abbrev s__law_says : Stmt := top 25
abbrev N__law_says : List Str := ["_law_said", "_law_due"]
theorem sc__law_says : FnScope N__law_says ["_law_said", "_law_due"] (defScope s__law_says) := ⟨rfl, rfl, rfl, by decide +kernel, rfl, by decide +kernel, by decide +kernel⟩
def sp_says : Sp := fun vs H Q _ => ∃ a b : Bool, vs = [.bl a, .bl b] ∧ RetV (.bl (decide (a = b))) H Q
theorem use_says {H : Hp} {a b : Bool} : SpV sp_says [.bl a, .bl b] H (.bl (decide (a = b))) := fun H1 e Q q _ => ⟨a, b, rfl, q⟩
theorem ok_says (F : DAt K mg "_law_says" s__law_says ["_law_said", "_law_due"]) (Z : Zs mg) : DOk P w K mg base 1 "_law_says" ["_law_said", "_law_due"] sp_says := by
  have nd := sc__law_says.nd
  refine F.ok sc__law_says (fun vs H Q E h => ?_) (fun f cdv A outer s H vs Q E hr h => ?_)
  · obtain ⟨a, b, rfl, _⟩ := h
    rfl
  · obtain ⟨a, b, rfl, k⟩ := h
    refine ⟨_, (pss_one (ps_ret (pe_and (pe_callB (k_isi (K := K)) (by rfl) Z.isinstance boot_isinstance (pa_cons (pv 0) (pa_cons (pe_bltn (v := .ty "bool") (by rfl) Z.bool boot_bool rfl) pa_nil))) (pe_one (pe_cmpR op_eq (pv 0) (pv 1) (nomark _)))))), ?_⟩
    refine s_ret (by tm_at "ev") ?_
    have e : (true && decide (V.bl a = V.bl b)) = decide (a = b) := by simp
    rw [e]
    exact k
local macro_rules | `(tactic| tm_at "sp") => `(tactic| (with_reducible apply use_says))
end

local macro_rules | `(tactic| tm_at "sp") => `(tactic| ((with_reducible apply use_draw) <;> tm_at "sd"))
local macro_rules | `(tactic| tm_at "sp") => `(tactic| (with_reducible apply use_says))
section
variable {P : Program} {w : World} {K : PySem.W.Frag} {mg : Str → Option Value} {base : Heap}
abbrev s__law_plan : Stmt := top 22
abbrev N__law_plan : List Str := ["_law_teams_here", "_law_found", "_law_number", "_law_pairs", "_law_team"]
theorem sc__law_plan : FnScope N__law_plan ["_law_teams_here"] (defScope s__law_plan) := ⟨rfl, rfl, rfl, by decide +kernel, rfl, by decide +kernel, by decide +kernel⟩
def sp_plan : Sp := fun vs H Q _ => ∃ n : Int, vs = [.int n] ∧ TeamsOk n ∧ n ≤ 100 ∧ RetN IsPlan (planM n) H Q
theorem use_plan {H : Hp} {n : Int} (h1 : TeamsOk n) (h2 : n ≤ 100) : SpN sp_plan [.int n] H IsPlan (planM n) := fun H1 e Q q _ => ⟨n, rfl, h1, h2, q⟩
theorem ok_plan (F : DAt K mg "_law_plan" s__law_plan ["_law_teams_here"]) (D_at_home : DOk P w K mg base 4 "at_home" ["teams", "team", "number"] sp_at_home) (D_opponent : DOk P w K mg base 4 "opponent" ["teams", "team", "number"] sp_opponent) (Z : Zs mg) :
    DOk P w K mg base 5 "_law_plan" ["_law_teams_here"] sp_plan := by
  have nd := sc__law_plan.nd
  refine F.ok sc__law_plan (fun vs H Q E h => ?_) (fun f cdv A outer s H vs Q E hr h => ?_)
  · obtain ⟨n, rfl, _⟩ := h
    rfl
  · obtain ⟨n, rfl, h1, h2, q⟩ := h
    have hu := hu_of hr
    have n2 := h1.1
    refine ⟨_, (pss_cons (ps_set (i := 1) nd rfl (Or.inl rfl) (pe_lst pa_nil))
      (pss_cons (ps_for PassesOwn.never rfl (pi_range1 rfl Z.range (pa_cons (pe_op op_sub (pv 0) pe_int) pa_nil)) (pg_name (i := 2) nd rfl (Or.inl rfl))
        (pss_cons (ps_set (i := 3) nd rfl (Or.inl rfl) (pe_lst pa_nil))
        (pss_cons (ps_for PassesOwn.never rfl (pi_range1 rfl Z.range (pa_cons (pv 0) pa_nil)) (pg_name (i := 4) nd rfl (Or.inl rfl))
          (pss_one (ps_if (pt_val (pe_callD D_at_home (hr.mono (by decide)) (pa_cons (pv 0) (pa_cons (pv 4) (pa_cons (pv 2) pa_nil)))))
            (pss_one (ps_expr (pe_bm PySem.F.plainAttrs_list PySem.F.slot_list_append PySem.F.type_list_append mt_append (pv 3) (pa_cons (pe_tup (pa_cons (pv 4) (pa_cons (pe_callD D_opponent (hr.mono (by decide)) (pa_cons (pv 0) (pa_cons (pv 4) (pa_cons (pv 2) pa_nil)))) pa_nil))) pa_nil))))
            pss_nil)))
        (pss_one (ps_expr (pe_bm PySem.F.plainAttrs_list PySem.F.slot_list_append PySem.F.type_list_append mt_append (pv 1) (pa_cons (pv 3) pa_nil)))))))
      (pss_one (ps_ret (pv 1))))), ?_⟩
    refine q_asgL (el_lst ea_nil (by show 0 ≤ 100000; decide)) fun F H0 hF e0 h0 => ?_
    refine q_forR1 (n := n - 1) (by tm_at "ev") ⟨by omega, by omega⟩ (fun i σ' H' => ∃ o2 o3 o4, σ' = [some (.int n), some (.ref F), o2, o3, o4] ∧ Grown IsRow Void H F (((irange (n - 1)).take i).map (rowM (homeM n) (oppM n) n)) H')
      (fun H1 e1 => ⟨none, none, none, rfl, grown_up (grown_new void_ex hF e0 h0) e1⟩) ?_ ?_
    · rintro i σ' H' hi ⟨o2, o3, o4, rfl, g⟩
      have hr0 : RoundOk n (i : Int) := ⟨by omega, hi⟩
      refine q_asgL (el_lst ea_nil (by show 0 ≤ 100000; decide)) fun D H1 hD e1 h1' => ?_
      refine q_forR1 (n := n) (by tm_at "ev") ⟨by omega, by omega⟩ (fun j σ'' H'' => ∃ o4, σ'' = [some (.int n), some (.ref F), some (.int (i : Int)), some (.ref D), o4] ∧ Grown IsPair Void H' D ((((irange n).take j).filter fun t => homeM n t (i : Int)).map fun t => (t, oppM n t (i : Int))) H'')
        (fun H2 e2 => ⟨o4, rfl, grown_up (grown_new void_ex hD e1 h1') e2⟩) ?_ ?_
      · rintro j σ'' H'' hj ⟨o4, rfl, g2⟩
        have ht : TeamOk n (j : Int) := ⟨by omega, hj⟩
        have len : ((((irange n).take j).filter fun t => homeM n t (i : Int)).map fun t => (t, oppM n t (i : Int))).length < 50000 := by
          have l1 := List.length_filter_le (fun t => homeM n t (i : Int)) ((irange n).take j)
          have l2 := List.length_take_le' j (irange n)
          rw [irange_len] at l2
          rw [List.length_map]
          omega
        rw [irange_take hj, List.filter_append, List.map_append, List.filter_cons]
        refine s_when (by tm_at "ev") (fun hb H3 e3 => ?_) fun hb H3 e3 => ?_
        · refine s_appG mono_pair (grown_up g2 e3) void_ex (by tm_at "ev") (er_pair (by tm_at "ev") (by tm_at "ev")) len fun H4 _ g4 => ?_
          rw [if_pos hb]
          exact ⟨_, rfl, g4⟩
        · rw [if_neg (by rw [hb]; simp)]
          exact ⟨_, rfl, by simpa using grown_up g2 e3⟩
      · rintro σ'' H'' ⟨o4, rfl, g2⟩
        rw [irange_all] at g2
        obtain ⟨G, c, r, _⟩ := grown_end mono_pair hD g2
        rw [irange_take hi, List.map_append]
        refine s_appW mono_row g void_ex (fun H' => by tm_at "ev") c r (fun H' => by tm_at "ev") (by rw [List.length_map, List.length_take, irange_len]; omega) fun H3 _ g3 => ?_
        exact ⟨_, _, _, rfl, g3⟩
    · rintro σ' H' ⟨o2, o3, o4, rfl, g⟩
      have e : (irange (n - 1)).take (n - 1).toNat = irange (n - 1) := irange_all _
      rw [e] at g
      obtain ⟨G, c, r, _⟩ := grown_end mono_row hF g
      refine s_ret (by tm_at "ev") fun H3 e3 => ?_
      exact q _ G H3 (c.up.trans e3) (c.part.trans e3) (fun a h => c.apart a rfl h) r

abbrev s__law_lone : Stmt := top 23
abbrev N__law_lone : List Str := ["_law_plan_here", "_law_number", "_law_team", "_law_pair"]
theorem sc__law_lone : FnScope N__law_lone ["_law_plan_here", "_law_number", "_law_team"] (defScope s__law_lone) := ⟨rfl, rfl, rfl, by decide +kernel, rfl, by decide +kernel, by decide +kernel⟩
def sp_lone : Sp := fun vs H Q _ => ∃ (v : V) (plan : List (List (Int × Int))) (r t : Int), vs = [v, .int r, .int t] ∧ IsPlan H v plan ∧ PlanSz plan ∧ 0 ≤ r ∧ r < (plan.length : Int) ∧ RetV (.bl (loneM (plan.getD r.toNat []) t)) H Q
theorem use_lone {H : Hp} {v : V} {plan : List (List (Int × Int))} {r t : Int} (h1 : IsPlan H v plan) (h2 : PlanSz plan) (h3 : 0 ≤ r) (h4 : r < (plan.length : Int)) : SpV sp_lone [v, .int r, .int t] H (.bl (loneM (plan.getD r.toNat []) t)) := fun H1 e Q q _ => ⟨v, plan, r, t, rfl, mono_plan _ _ _ _ e h1, h2, h3, h4, q⟩
/-- an item of a list of data -/
theorem isL_at {β : Type} {R : Hp → V → β → Prop} {H : Hp} {vs : List V} {l : List β} {i : Int} (h : Paired (R H) vs l) (h0 : 0 ≤ i) (h1 : i < (l.length : Int)) (d : β) : ∃ x, atI vs i = some x ∧ R H x (l.getD i.toNat d) := by
  have hl := paired_len h
  have hi : i.toNat < vs.length := by omega
  obtain ⟨b, hb, r⟩ := paired_at (i := i.toNat) (a := vs[i.toNat]) h (by simp [hi])
  refine ⟨vs[i.toNat], ?_, ?_⟩
  · have e := atI_nat (xs := vs) (j := i.toNat) (v := vs[i.toNat]) (by simp [hi])
    rwa [show ((i.toNat : Nat) : Int) = i by omega] at e
  · rw [List.getD_eq_getElem?_getD, hb]
    exact r
theorem getD_mem' {α : Type} {l : List α} {i : Nat} {d : α} (h : i < l.length) : l.getD i d ∈ l := by
  rw [List.getD_eq_getElem?_getD, List.getElem?_eq_getElem h]
  exact List.getElem_mem h
theorem ok_lone (F : DAt K mg "_law_lone" s__law_lone ["_law_plan_here", "_law_number", "_law_team"]) (Z : Zs mg) : DOk P w K mg base 1 "_law_lone" ["_law_plan_here", "_law_number", "_law_team"] sp_lone := by
  have nd := sc__law_lone.nd
  refine F.ok sc__law_lone (fun vs H Q E h => ?_) (fun f cdv A outer s H vs Q E hr h => ?_)
  · obtain ⟨v, plan, r, t, rfl, _⟩ := h
    rfl
  · obtain ⟨v, plan, r, t, rfl, ⟨a, rs, rfl, ha, hrs⟩, hz, h0, h1, q⟩ := h
    obtain ⟨x, hx, ra, ts, rfl, hra, hts⟩ := isL_at hrs h0 h1 []
    have hm : plan.getD r.toNat [] ∈ plan := getD_mem' (by omega)
    have hsz := hz.2 _ hm
    generalize plan.getD r.toNat [] = row at *
    refine ⟨_, (pss_one (ps_ret (pe_cmpR op_ne (pe_callB (k_len (K := K)) (by rfl) Z.len boot_len (pa_cons (pe_lc (own := [("_law_pair", 3)]) (g := gName 3) rfl nd (k_list (K := K) (pe_ix (k_ixL (K := K)) (pv 0) (pv 1) (fun _ _ => rfl))) (blkOk_by (N := N__law_lone) (sc := defScope s__law_lone) (by decide +kernel)) (fun _ _ _ _ _ => pg_name (i := 3) nd rfl (Or.inl rfl)) (fun _ _ _ _ _ => pts_one (pt_cmpR (k_in (K := K)) (pv 2) (pv 3) (by rfl))) (fun _ _ _ _ _ => (pv 3))) pa_nil)) pe_int (nomark _)))), ?_⟩
    refine s_ret (ev_op (ev_lenR (er_lcL mono_pair (fun p => hasT p t) id (ev_ixL (by tm_at "ev") (sq_of ha) (by tm_at "ev") hx) (sq_of hra) hts (by omega) (fun x => rfl) (fun x p _ hp => ?_) (fun x p _ hp _ => ?_))) (by tm_at "ev") (rv_ne rfl)) fun H2 e2 => ?_
    · exact et_test (ev_inP (by tm_at "ev") (by tm_at "ev") hp)
    · exact r_ev (by tm_at "ev") hp
    · have e : (!decide (V.int ((List.map id (List.filter (fun p => hasT p t) row)).length : Int) = V.int 1)) = loneM row t := by
        unfold loneM cntM
        rw [List.map_id]
        congr 1
        simp
        omega
      rw [e]
      exact q H2 e2
local macro_rules | `(tactic| tm_at "sp") => `(tactic| ((with_reducible apply use_lone) <;> tm_at "sd"))

abbrev s__law_good : Stmt := top 24
abbrev N__law_good : List Str := ["_law_teams_here", "_law_plan_here", "_law_number", "_law_team", "_law_table", "_law_pairs", "_law_one", "_law_other", "_law_two"]
theorem sc__law_good : FnScope N__law_good ["_law_teams_here", "_law_plan_here"] (defScope s__law_good) := ⟨rfl, rfl, rfl, by decide +kernel, rfl, by decide +kernel, by decide +kernel⟩
def sp_good : Sp := fun vs H Q _ => ∃ (n : Int) (v : V) (plan : List (List (Int × Int))), vs = [.int n, v] ∧ TeamsOk n ∧ n ≤ 100 ∧ IsPlan H v plan ∧ PlanSz plan ∧ RetV (.bl (goodM n plan)) H Q
theorem use_good {H : Hp} {n : Int} {v : V} {plan : List (List (Int × Int))} (h1 : TeamsOk n) (h2 : n ≤ 100) (h3 : IsPlan H v plan) (h4 : PlanSz plan) : SpV sp_good [.int n, v] H (.bl (goodM n plan)) := fun H1 e Q q _ => ⟨n, v, plan, rfl, h1, h2, mono_plan _ _ _ _ e h3, h4, q⟩
theorem kp_key (p : Int × Int) : [V.int (if p.2 < p.1 then p.2 else p.1), V.int (if p.2 > p.1 then p.2 else p.1)] = (keyOf (kp p)).map kV := rfl
theorem take_snoc {α : Type} {l : List α} {i : Nat} {x : α} (h : l[i]? = some x) : l.take (i + 1) = l.take i ++ [x] := by
  obtain ⟨h1, h2⟩ := List.getElem?_eq_some_iff.mp h
  rw [← h2]
  exact (List.take_append_getElem h1).symm
theorem ok_good (F : DAt K mg "_law_good" s__law_good ["_law_teams_here", "_law_plan_here"]) (D__law_lone : DOk P w K mg base 1 "_law_lone" ["_law_plan_here", "_law_number", "_law_team"] sp_lone) (Z : Zs mg) : DOk P w K mg base 2 "_law_good" ["_law_teams_here", "_law_plan_here"] sp_good := by
  have nd := sc__law_good.nd
  refine F.ok sc__law_good (fun vs H Q E h => ?_) (fun f cdv A outer s H vs Q E hr h => ?_)
  · obtain ⟨n, v, plan, rfl, _⟩ := h
    rfl
  · obtain ⟨n, v, plan, rfl, hn, hn2, hp, hz, q⟩ := h
    have hp0 := hp
    obtain ⟨a, rs, rfl, ha, hrs⟩ := hp
    have hl := paired_len hrs
    have hu := hu_of hr
    have n2 := hn.1
    have mn : IntMulOk n (n - 1) := mul_small_l (by omega) (by omega)
    have hz1 := hz.1
    refine ⟨_, (pss_cons (ps_for PassesOwn.never rfl (pi_range1 rfl Z.range (pa_cons (pe_callB (k_len (K := K)) (by rfl) Z.len boot_len (pa_cons (pv 1) pa_nil)) pa_nil)) (pg_name (i := 2) nd rfl (Or.inr rfl))
        (pss_one (ps_if (pt_val (pe_callB (k_any (K := K) rfl) (by rfl) Z.any boot_any (pa_cons (pe_lc (own := [("_law_team", 3)]) (g := gName 3) rfl nd (pi_range1 rfl Z.range (pa_cons (pv 0) pa_nil)) (blkOk_by (N := N__law_good) (sc := defScope s__law_good) (by decide +kernel)) (fun _ _ _ _ _ => pg_name (i := 3) nd rfl (Or.inl rfl)) (fun _ _ _ _ _ => pts_nil) (fun _ _ _ _ _ => (pe_callD D__law_lone (hr.mono (by decide)) (pa_cons (pv 1) (pa_cons (pv 2) (pa_cons (pv 3) pa_nil)))))) pa_nil)))
          (pss_one (ps_ret pe_bl))
          pss_nil)))
      (pss_cons (ps_set (i := 4) nd rfl (Or.inl rfl) pe_dnewT)
      (pss_cons (ps_for PassesOwn.never rfl (k_list (K := K) (pv 1)) (pg_name (i := 5) nd rfl (Or.inl rfl))
        (pss_one (ps_for PassesOwn.never rfl (k_list (K := K) (pv 5)) (k_gtup (K := K) rfl (pgs_cons (pg_name (i := 6) nd rfl (Or.inl rfl)) (pgs_cons (pg_name (i := 7) nd rfl (Or.inl rfl)) pgs_nil)))
          (pss_cons (ps_set (i := 8) nd rfl (Or.inl rfl) (pe_tup (pa_cons (pe_callB (call_min2 rfl) (by rfl) Z.min boot_min (pa_cons (pv 6) (pa_cons (pv 7) pa_nil))) (pa_cons (pe_callB (call_max2 rfl) (by rfl) Z.max boot_max (pa_cons (pv 6) (pa_cons (pv 7) pa_nil))) pa_nil))))
          (pss_one (ps_dput hu (pv 4) (pv 8) (pe_op op_add (pe_dget2 hu (pv 4) (pv 8) pe_int ⟨by rfl, by rfl, by rfl, by rfl⟩) pe_int) rfl))))))
      (pss_one (ps_ret (pe_and (pe_cmpR op_eq (pe_callB call_len_dT (by rfl) Z.len boot_len (pa_cons (pv 4) pa_nil)) (pe_op op_fdiv (pe_op op_mulB (pv 0) (pe_op op_sub (pv 0) pe_int)) pe_int) (nomark _)) (pe_one (pe_cmpR op_eq (pe_callB (cr_maxV rfl) (by rfl) Z.max boot_max (pa_cons (pe_bm0 PySem.F.plainAttrs_dict PySem.F.slot_dict_values PySem.F.type_dict_values mt_valuesT (pv 4)) pa_nil)) pe_int (nomark _))))))))), ?_⟩
    refine q_forR1 (n := (plan.length : Int)) (ea_cons (ev_is (ev_len (by tm_at "ev") (sq_of ha)) (by rw [hl])) ea_nil) ⟨by omega, by omega⟩
      (fun i σ' H' => Ex H H' ∧ (∃ o2, σ' = [some (.int n), some (.ref a), o2, none, none, none, none, none, none]) ∧ ∀ row ∈ plan.take i, badRow n row = false)
      (fun H1 e1 => ⟨e1, ⟨none, rfl⟩, fun row h => by simp at h⟩) ?_ ?_
    · rintro i σ' H' hi ⟨e1, ⟨o2, rfl⟩, hb⟩
      have hil : i < plan.length := by omega
      have hrow : plan[i]? = some plan[i] := by simp [hil]
      have hpl := mono_plan _ _ _ _ e1 hp0
      have hg : plan.getD ((i : Nat) : Int).toNat [] = plan[i] := by rw [Int.toNat_natCast, List.getD_eq_getElem?_getD, hrow]; rfl
      refine s_when (b := badRow n plan[i]) (et_B (ev_is (ev_anyR (er_lcR mono_V (fun _ => true) (fun t => loneM plan[i] t) (by tm_at "ev") (by omega) (fun x => rfl) (fun t _ _ => by tm_at "ev") fun t _ _ _ => ?_)) ?_)) (fun hbad H2 e2 => s_ret (by tm_at "ev") fun H3 e3 => ?_) fun hbad H2 e2 => ?_
      · refine r_ev (v := .bl (loneM plan[i] t)) ?_ rfl
        rw [← hg]
        exact ev_call0 (by tm_at "ev") (use_lone hpl hz (by omega) (by omega))
      · unfold badRow
        simp [List.any_map, Function.comp_def]
      · have e : goodM n plan = false := by
          unfold goodM
          rw [List.any_eq_true.mpr ⟨plan[i], List.getElem_mem hil, hbad⟩]
          rfl
        rw [e] at q
        exact q H3 ((e1.trans e2).trans e3)
      · refine ⟨e1.trans e2, ⟨_, rfl⟩, fun row h => ?_⟩
        rw [take_snoc hrow, List.mem_append] at h
        rcases h with h | h
        · exact hb row h
        · rw [List.mem_singleton.mp h]
          exact hbad
    · rintro σ' H' ⟨e1, ⟨o2, rfl⟩, hb⟩
      have hall : plan.any (badRow n) = false := by
        rw [List.any_eq_false]
        intro row hrow
        have := hb row (by rw [show ((plan.length : Nat) : Int).toNat = plan.length by simp, List.take_length]; exact hrow)
        rw [this]
        simp
      refine q_asgD fun d hd => ?_
      have hd0 : H d = none := fresh_back e1 hd
      have flat : ∀ i, ((plan.take i).flatten).length ≤ 100000 := fun i => by
        have h1 := flatten_le (plan := plan.take i) (a := 100) (b := 1000) (by rw [List.length_take]; omega) fun row h => hz.2 row (List.mem_of_mem_take h)
        omega
      refine q_forLn (by tm_at "ev") (sq_of (Ex.new hd a _ (e1 a _ ha)))
        (fun i σ' H' => (∃ o2 o5 o6 o7 o8, σ' = [some (.int n), some (.ref a), o2, none, some (.ref d), o5, o6, o7, o8]) ∧ Ex H H' ∧ H' d = some (.dT (encT (tabM (plan.take i).flatten))))
        (fun H1 u1 => ⟨⟨_, _, _, _, _, rfl⟩, (e1.trans (Ex.new hd)).trans u1, u1 d _ upd_same⟩) (fun i σ' H' _ h => sq_of (h.2.1 a _ ha)) ?_ ?_
      · rintro i x σ' H' hx ⟨⟨o2, o5, o6, o7, o8, rfl⟩, e2, ht⟩
        obtain ⟨row, hrow, ra, ts, rfl, hra, hts⟩ := paired_at hrs hx
        have hrl := hz.2 row (List.mem_of_getElem? hrow)
        refine s_forL (by tm_at "ev") (sq_of (e2 ra _ hra))
          (fun j σ' H' => (∃ o2 o6 o7 o8, σ' = [some (.int n), some (.ref a), o2, none, some (.ref d), some (.ref ra), o6, o7, o8]) ∧ Ex H H' ∧ H' d = some (.dT (encT (tabM ((plan.take i).flatten ++ row.take j)))))
          (fun H1 u1 => ⟨⟨_, _, _, _, rfl⟩, e2.trans u1, by rw [List.take_zero, List.append_nil]; exact u1 d _ ht⟩) (fun j σ' H' _ h => sq_of (h.2.1 ra _ hra)) ?_ ?_
        · rintro j y σ' H' hy ⟨⟨o2, o6, o7, o8, rfl⟩, e3, ht⟩
          obtain ⟨p, hpj, hpair⟩ := paired_at hts hy
          refine gp_run (mono_pair _ _ _ _ e3 hpair) ?_
          refine q_asgU (eu_pair (by tm_at "ev") (by tm_at "ev")) fun t H4 _ e4 h4 => ?_
          rw [kp_key] at h4
          have flatj : ((plan.take i).flatten ++ row.take j).length ≤ 200000 := by
            rw [List.length_append, List.length_take]
            have := flat i
            omega
          refine s_dput (ev_op (ev_is (ev_dget2 (by tm_at "ev") (e4 d _ ht) (by tm_at "ev") h4 (by tm_at "ev")) (encT_val _ _)) (by tm_at "ev") rv_I0) (by tm_at "ev") (e4 d _ ht) (by tm_at "ev") h4 (by
            unfold encT
            rw [List.length_map]
            have := tabM_len ((plan.take i).flatten ++ row.take j)
            omega) fun H5 e5 => ?_
          refine ⟨⟨_, _, _, _, rfl⟩, Ex.mut ((e3.trans e4).trans e5) hd0, ?_⟩
          rw [upd_same, encT_put, take_snoc hpj, ← List.append_assoc, tabM_snoc]
          rfl
        · rintro σ' H' ⟨⟨o2, o6, o7, o8, rfl⟩, e3, ht⟩
          refine ⟨⟨_, _, _, _, _, rfl⟩, e3, ?_⟩
          rw [ht, take_snoc hrow, List.flatten_append, List.take_of_length_le (Nat.le_of_eq (paired_len hts).symm)]
          simp
      · rintro σ' H' ⟨⟨o2, o5, o6, o7, o8, rfl⟩, e2, ht⟩
        rw [List.take_of_length_le (Nat.le_of_eq hl.symm)] at ht
        have e : goodM n plan = tabGood n (tabM plan.flatten) := by
          unfold goodM
          rw [hall]
          rfl
        rw [e] at q
        generalize tabM plan.flatten = tb at *
        have hlt : ((encT tb).length : Int) = (tb.length : Int) := by unfold encT; rw [List.length_map]
        refine s_ret (v := .bl (decide ((tb.length : Int) = n * (n - 1) / 2) && decide (maxI (tb.map (·.2)) = 1))) (ev_andV (ev_is (ev_op (ev_lenT (by tm_at "ev") ht) (by tm_at "ev") (rv_eq rfl)) ?_) fun hb => ev_is (ev_op (ev_maxV (by tm_at "ev") ht ?_) (by tm_at "ev") (rv_eq rfl)) ?_) fun H3 e3 => q H3 (e2.trans e3)
        · rw [hlt]
          simp
        · rw [decide_eq_true_eq] at hb
          have : 2 * 1 ≤ n * (n - 1) := Int.mul_le_mul (by omega) (by omega) (by omega) (by omega)
          omega
        · simp
end

local macro_rules | `(tactic| tm_at "sp") => `(tactic| ((with_reducible apply use_lone) <;> tm_at "sd"))
section
variable {P : Program} {w : World} {K : PySem.W.Frag} {mg : Str → Option Value} {base : Heap}
abbrev s__law_right : Stmt := top 26
abbrev N__law_right : List Str := ["_law_teams_here", "_law_team", "_law_number", "_law_again", "_law_found", "_law_met", "_law_one", "_law_home"]
theorem sc__law_right : FnScope N__law_right ["_law_teams_here", "_law_team", "_law_number"] (defScope s__law_right) := ⟨rfl, rfl, rfl, by decide +kernel, rfl, by decide +kernel, by decide +kernel⟩
def sp_right : Sp := fun vs H Q _ => ∃ n t r : Int, vs = [.int n, .int t, .int r] ∧ TeamsOk n ∧ n < 2 ^ 200 ∧ TeamOk n t ∧ RoundOk n r ∧ RetV (.bl true) H Q
theorem use_right {H : Hp} {n t r : Int} (h1 : TeamsOk n) (h2 : n < 2 ^ 200) (h3 : TeamOk n t) (h4 : RoundOk n r) : SpV sp_right [.int n, .int t, .int r] H (.bl true) := fun H1 e Q q _ => ⟨n, t, r, rfl, h1, h2, h3, h4, q⟩
theorem ok_right (F : DAt K mg "_law_right" s__law_right ["_law_teams_here", "_law_team", "_law_number"]) (D_opponent : DOk P w K mg base 4 "opponent" ["teams", "team", "number"] sp_opponent) (D_at_home : DOk P w K mg base 4 "at_home" ["teams", "team", "number"] sp_at_home)
    (D_round_of : DOk P w K mg base 3 "round_of" ["teams", "one", "other"] sp_round_of) (D__law_whole : DOk P w K mg base 1 "_law_whole" ["_law_number"] sp_wholeI) (D__law_says : DOk P w K mg base 1 "_law_says" ["_law_said", "_law_due"] sp_says) (Z : Zs mg) :
    DOk P w K mg base 5 "_law_right" ["_law_teams_here", "_law_team", "_law_number"] sp_right := by
  have nd := sc__law_right.nd
  refine F.ok sc__law_right (fun vs H Q E h => ?_) (fun f cdv A outer s H vs Q E hr h => ?_)
  · obtain ⟨n, t, r, rfl, _⟩ := h
    rfl
  · obtain ⟨n, t, r, rfl, hn, hbig, ht, hr0, q⟩ := h
    obtain ⟨o1, o2, o3⟩ := opp_ok hn ht hr0
    obtain ⟨r1, r2⟩ := round_opp hn ht hr0
    have hh := home_opp hn ht hr0
    have o2' := o2.symm
    obtain ⟨o4, o5⟩ := id o1
    refine ⟨_, (pss_cons (ps_for PassesOwn.never rfl (pi_range1 rfl Z.range (pa_cons pe_int pa_nil)) (pg_name (i := 3) nd rfl (Or.inl rfl))
        (pss_cons (ps_set (i := 4) nd rfl (Or.inl rfl) (pe_callD D_opponent (hr.mono (by decide)) (pa_cons (pv 0) (pa_cons (pv 1) (pa_cons (pv 2) pa_nil)))))
        (pss_cons (ps_if (PW.pt (pw_or (pt_not (pt_val (pe_callD D__law_whole (hr.mono (by decide)) (pa_cons (pv 4) pa_nil)))) (pw_or (pt_not (pt_chain op_le op_lt pe_int (pv 4) (pv 0))) (pw_or (pt_cmpR op_eq (pv 4) (pv 1) (nomark _)) (pw_or1 (pt_cmpR op_ne (pe_callD D_opponent (hr.mono (by decide)) (pa_cons (pv 0) (pa_cons (pv 4) (pa_cons (pv 2) pa_nil)))) (pv 1) (nomark _)))))))
          (pss_one (ps_ret pe_bl))
          pss_nil)
        (pss_cons (ps_set (i := 5) nd rfl (Or.inl rfl) (pe_lst (pa_cons (pe_callD D_round_of (hr.mono (by decide)) (pa_cons (pv 0) (pa_cons (pv 1) (pa_cons (pv 4) pa_nil)))) (pa_cons (pe_callD D_round_of (hr.mono (by decide)) (pa_cons (pv 0) (pa_cons (pv 4) (pa_cons (pv 1) pa_nil)))) pa_nil))))
        (pss_cons (ps_if (PW.pt (pw_or (pt_not (pt_val (pe_callB (k_all (K := K) rfl) (by rfl) Z.all boot_all (pa_cons (pe_lc (own := [("_law_one", 6)]) (g := gName 6) rfl nd (k_list (K := K) (pv 5)) (blkOk_by (N := N__law_right) (sc := defScope s__law_right) (by decide +kernel)) (fun _ _ _ _ _ => pg_name (i := 6) nd rfl (Or.inl rfl)) (fun _ _ _ _ _ => pts_nil) (fun _ _ _ _ _ => (pe_callD D__law_whole (hr.mono (by decide)) (pa_cons (pv 6) pa_nil)))) pa_nil)))) (pw_or1 (pt_cmpR (k_neD (K := K) hr.units) (pv 5) (pe_lst (pa_cons (pv 2) (pa_cons (pv 2) pa_nil))) (nomark _)))))
          (pss_one (ps_ret pe_bl))
          pss_nil)
        (pss_cons (ps_set (i := 7) nd rfl (Or.inl rfl) (pe_callD D_at_home (hr.mono (by decide)) (pa_cons (pv 0) (pa_cons (pv 1) (pa_cons (pv 2) pa_nil)))))
        (pss_one (ps_if (PW.pt (pw_or (pt_not (pt_val (pe_callB (k_isi (K := K)) (by rfl) Z.isinstance boot_isinstance (pa_cons (pv 7) (pa_cons (pe_bltn (v := .ty "bool") (by rfl) Z.bool boot_bool rfl) pa_nil))))) (pw_or1 (pt_not (pt_val (pe_callD D__law_says (hr.mono (by decide)) (pa_cons (pe_callD D_at_home (hr.mono (by decide)) (pa_cons (pv 0) (pa_cons (pv 4) (pa_cons (pv 2) pa_nil)))) (pa_cons (pe_not (pv 7)) pa_nil))))))))
          (pss_one (ps_ret pe_bl))
          pss_nil))))))))
      (pss_one (ps_ret pe_bl))), ?_⟩
    refine q_forR1 (n := 2) (by tm_at "ev") ⟨by decide, by decide⟩ (fun i σ' H' => Ex H H' ∧ ∃ a3 a4 a5 a7, σ' = [some (.int n), some (.int t), some (.int r), a3, a4, a5, none, a7])
      (fun H1 e1 => ⟨e1, none, none, none, none, rfl⟩) ?_ ?_
    · rintro i σ' H' _ ⟨e0, a3, a4, a5, a7, rfl⟩
      refine q_asg (by tm_at "ev") fun H1 e1 => ?_
      refine q_when (by tm_at "ev") (fun hb => ?_) fun _ H2 e2 => ?_
      · simp at hb
        omega
      refine q_asgL (el_lst (by tm_at "ev") (by show 2 ≤ 100000; decide)) fun p H3 hp e3 h3 => ?_
      rw [r1, r2] at h3
      refine q_when (b := !(true) || !(PyData.eqv (dInts [r, r]) (dInts [r, r]))) (et_or (et_not (et_B (ev_is (ev_allR (er_lcL mono_V (R := IsV V.int) (l := [r, r]) (fun _ => true) (fun _ => true) (by tm_at "ev") (sq_of h3) (map_paired (F := IsV V.int H3) (f := V.int) (fun b => rfl) [r, r]) (by show 2 ≤ 40000; decide) (fun x => rfl) (fun x b _ _ => by tm_at "ev") fun x b _ hx _ => ?_)) rfl))) fun _ => ?_) (fun hb => ?_) fun _ H4 e4 => ?_
      · cases hx
        exact r_ev (v := .bl true) (by tm_at "ev") rfl
      · refine et_test (ev_opR (x := .ref p) (R := fun G v => IsL (IsV V.int) G v [r, r]) (by tm_at "ev") (er_lst mono_V (.cons (r_ev (v := .int r) (by tm_at "ev") rfl) (.cons (r_ev (v := .int r) (by tm_at "ev") rfl) .nil)) (by show 2 ≤ 100000; decide)) fun v G e r => ?_)
        exact rv_neK mono_ints (fun _ _ _ => dp_ints) sh_ints ⟨p, _, rfl, e p _ h3, map_paired (F := IsV V.int G) (f := V.int) (fun b => rfl) [_, _]⟩ r
      · rw [eqv_ints] at hb
        simp at hb
      refine q_asg (by tm_at "ev") fun H5 e5 => ?_
      refine s_when (by tm_at "ev") (fun hb => ?_) fun _ H6 e6 => ⟨((((e0.trans e1).trans e2).trans e3).trans e4).trans (e5.trans e6), _, _, _, _, rfl⟩
      rw [hh] at hb
      simp at hb
    · rintro σ' H' ⟨e0, a3, a4, a5, a7, rfl⟩
      exact s_ret (by tm_at "ev") fun H1 e1 => q H1 (e0.trans e1)
local macro_rules | `(tactic| tm_at "sp") => `(tactic| ((with_reducible apply use_right) <;> tm_at "sd"))

abbrev s__law_two_right : Stmt := top 27
abbrev N__law_two_right : List Str := ["_law_teams_here", "_law_one", "_law_other", "_law_number"]
theorem sc__law_two_right : FnScope N__law_two_right ["_law_teams_here", "_law_one", "_law_other"] (defScope s__law_two_right) := ⟨rfl, rfl, rfl, by decide +kernel, rfl, by decide +kernel, by decide +kernel⟩
def sp_two : Sp := fun vs H Q _ => ∃ n a b : Int, vs = [.int n, .int a, .int b] ∧ TeamsOk n ∧ n < 2 ^ 200 ∧ TeamOk n a ∧ TeamOk n b ∧ a ≠ b ∧ RetV (.bl true) H Q
theorem use_two {H : Hp} {n a b : Int} (h1 : TeamsOk n) (h2 : n < 2 ^ 200) (h3 : TeamOk n a) (h4 : TeamOk n b) (h5 : a ≠ b) : SpV sp_two [.int n, .int a, .int b] H (.bl true) := fun H1 e Q q _ => ⟨n, a, b, rfl, h1, h2, h3, h4, h5, q⟩
theorem ok_two (F : DAt K mg "_law_two_right" s__law_two_right ["_law_teams_here", "_law_one", "_law_other"]) (D_opponent : DOk P w K mg base 4 "opponent" ["teams", "team", "number"] sp_opponent)
    (D_round_of : DOk P w K mg base 3 "round_of" ["teams", "one", "other"] sp_round_of) (D__law_whole : DOk P w K mg base 1 "_law_whole" ["_law_number"] sp_wholeI) :
    DOk P w K mg base 5 "_law_two_right" ["_law_teams_here", "_law_one", "_law_other"] sp_two := by
  have nd := sc__law_two_right.nd
  refine F.ok sc__law_two_right (fun vs H Q E h => ?_) (fun f cdv A outer s H vs Q E hr h => ?_)
  · obtain ⟨n, a, b, rfl, _⟩ := h
    rfl
  · obtain ⟨n, a, b, rfl, hn, hbig, ha, hb, hab, q⟩ := h
    obtain ⟨o1, o2, o3⟩ := round_two hn ha hb hab
    obtain ⟨o4, o5⟩ := id o1
    refine ⟨_, (pss_cons (ps_set (i := 3) nd rfl (Or.inl rfl) (pe_callD D_round_of (hr.mono (by decide)) (pa_cons (pv 0) (pa_cons (pv 1) (pa_cons (pv 2) pa_nil)))))
      (pss_cons (ps_if (PW.pt (pw_or (pt_not (pt_val (pe_callD D__law_whole (hr.mono (by decide)) (pa_cons (pv 3) pa_nil)))) (pw_or1 (pt_not (pt_chain op_le op_lt pe_int (pv 3) (pe_op op_sub (pv 0) pe_int))))))
        (pss_one (ps_ret pe_bl))
        pss_nil)
      (pss_one (ps_ret (pe_and (pe_cmpR op_eq (pe_callD D_opponent (hr.mono (by decide)) (pa_cons (pv 0) (pa_cons (pv 1) (pa_cons (pv 3) pa_nil)))) (pv 2) (nomark _)) (pe_one (pe_cmpR op_eq (pe_callD D_opponent (hr.mono (by decide)) (pa_cons (pv 0) (pa_cons (pv 2) (pa_cons (pv 3) pa_nil)))) (pv 1) (nomark _)))))))), ?_⟩
    refine q_asg (by tm_at "ev") fun H1 e1 => ?_
    refine q_when (by tm_at "ev") (fun hb => ?_) fun _ H2 e2 => ?_
    · simp at hb
      omega
    refine s_ret (by tm_at "ev") fun H3 e3 => ?_
    have e : (decide (V.int (oppM n a (roundM n a b)) = V.int b) && decide (V.int (oppM n b (roundM n a b)) = V.int a)) = true := by
      rw [o2, o3]
      simp
    rw [e]
    exact q H3 ((e1.trans e2).trans e3)
local macro_rules | `(tactic| tm_at "sp") => `(tactic| ((with_reducible apply use_two) <;> tm_at "sd"))

abbrev s_law : Stmt := top 28
abbrev N_law : List Str := ["_law_script", "_law_k", "_law_teams_here", "_law_drawn", "_law_team", "_law_number", "_law_other", "_law_few", "_law_some"]
theorem sc_law : FnScope N_law ["_law_script"] (defScope s_law) := ⟨rfl, rfl, rfl, by decide +kernel, rfl, by decide +kernel, by decide +kernel⟩
theorem good_small : ∀ h ∈ [1, 2, 3, 4, 5, 6, 7, 8, 9, 10, 11, 12], goodM (2 * h) (planM (2 * h)) = true := by decide +kernel
theorem good_few {n : Int} (h1 : 2 ≤ n) (h2 : n ≤ 24) (h3 : n % 2 = 0) : goodM n (planM n) = true := by
  obtain ⟨k, rfl⟩ : ∃ k, n = 2 * k := ⟨n / 2, by omega⟩
  refine good_small k ?_
  have : k = 1 ∨ k = 2 ∨ k = 3 ∨ k = 4 ∨ k = 5 ∨ k = 6 ∨ k = 7 ∨ k = 8 ∨ k = 9 ∨ k = 10 ∨ k = 11 ∨ k = 12 := by omega
  simpa using this
theorem planM_sz {n : Int} (h1 : 2 ≤ n) (h2 : n ≤ 100) : PlanSz (planM n) := by
  refine ⟨by unfold planM; rw [List.length_map, irange_len]; omega, fun row h => ?_⟩
  unfold planM at h
  obtain ⟨r, _, rfl⟩ := List.mem_map.mp h
  unfold rowM
  rw [List.length_map]
  have := List.length_filter_le (fun t => homeM n t r) (irange n)
  rw [irange_len] at this
  omega
def spLaw (K : PySem.W.Frag) : Sp := fun vs H Q _ => ∃ (a : Addr) (ns : List Int), vs = [.ref a] ∧ SqL K H a (ns.map V.int) ∧ ns.length ≤ 63 ∧ (∀ z ∈ ns, BitsOk z) ∧ RetV (.bl true) H Q
theorem cut63 {ns : List Int} (h : ns.length ≤ 63) : cutV (ns.map V.int) none (some 63) = ns.map V.int := by
  unfold cutV
  rw [HT.sIx_none, show (63 : Int) = ((63 : Nat) : Int) from rfl, HT.sIx_nat, List.drop_zero, List.length_map]
  exact List.take_of_length_le (by rw [List.length_map]; omega)
theorem other_ne {n t d : Int} (ht : TeamOk n t) (h0 : 0 ≤ d) (h1 : d < n - 1) : t ≠ (t + 1 + d) % n := by
  obtain ⟨h2, h3⟩ := ht
  intro e
  by_cases c : t + 1 + d < n
  · rw [Int.emod_eq_of_lt (by omega) c] at e
    omega
  · have e2 := Int.emod_eq_of_lt (a := t + 1 + d - n) (b := n) (by omega) (by omega)
    rw [Int.sub_emod_right] at e2
    omega
theorem teamOk_mod {n z : Int} (h : 0 < n) : TeamOk n (z % n) := ⟨Int.emod_nonneg _ (by omega), Int.emod_lt_of_pos _ h⟩
theorem roundOk_mod {n z : Int} (h : 0 < n - 1) : RoundOk n (z % (n - 1)) := ⟨Int.emod_nonneg _ (by omega), Int.emod_lt_of_pos _ h⟩
theorem few_k {m i : Nat} (h : m < 64) (hi : i < (m + m / 8) / (1 + m / 8)) : (0 : Int) ≤ 0 + (i : Int) * (1 + (m : Int) / 8) ∧ 0 + (i : Int) * (1 + (m : Int) / 8) ≤ 99 := by
  have c : m / 8 = 0 ∨ m / 8 = 1 ∨ m / 8 = 2 ∨ m / 8 = 3 ∨ m / 8 = 4 ∨ m / 8 = 5 ∨ m / 8 = 6 ∨ m / 8 = 7 := by omega
  have e : ((m : Int) / 8) = ((m / 8 : Nat) : Int) := by omega
  rw [e]
  generalize m / 8 = z at *
  rcases c with rfl | rfl | rfl | rfl | rfl | rfl | rfl | rfl <;> omega
theorem s_forRC {K : PySem.W.Frag} {σ : L2.St} {H : Hp} {D : Ends} {tu : TS} {ta : TA} {j : Nat} {lo hi c : Int} {n : Nat} (h : EvA ta σ H [.int lo, .int hi, .int c]) (hn : RgC lo hi c n) (Pv : Nat → L2.St → Hp → Prop) (h0 : ∀ H1, Ex H H1 → Pv 0 σ H1)
    (hs : ∀ (i : Nat) σ' H', i < n → Pv i σ' H' → tu { D with nx := Pv (i + 1), ct := Pv (i + 1), bk := D.nx } (σ'.set j (some (.int (lo + (i : Nat) * c)))) H') (hd : ∀ σ' H', Pv n σ' H' → D.nx σ' H') : tFor (iRng3 ta) (gName j) tu D σ H :=
  h H (Ex.refl H) _ fun H1 e => ⟨lo, hi, c, n, rfl, hn, for_rangeC Pv (h0 H1 e) hs hd⟩
theorem q_forRC {K : PySem.W.Frag} {σ : L2.St} {H : Hp} {D : Ends} {tu tz : TS} {ta : TA} {j : Nat} {lo hi c : Int} {n : Nat} (h : EvA ta σ H [.int lo, .int hi, .int c]) (hn : RgC lo hi c n) (Pv : Nat → L2.St → Hp → Prop) (h0 : ∀ H1, Ex H H1 → Pv 0 σ H1)
    (hs : ∀ (i : Nat) σ' H', i < n → Pv i σ' H' → tu { D with nx := Pv (i + 1), ct := Pv (i + 1), bk := tz D } (σ'.set j (some (.int (lo + (i : Nat) * c)))) H') (hd : ∀ σ' H', Pv n σ' H' → tz D σ' H') : tSeq (tFor (iRng3 ta) (gName j) tu) tz D σ H :=
  s_forRC (K := K) (D := { D with nx := tz D }) h hn Pv h0 hs hd
theorem ok_law {f : Addr} {fd : FuncData} (F : Fun K "law" "law" s_law f fd) (D_opponent : DOk P w K mg base 4 "opponent" ["teams", "team", "number"] sp_opponent) (D_round_of : DOk P w K mg base 3 "round_of" ["teams", "one", "other"] sp_round_of)
    (D__law_cell_at : DOk P w K mg base 1 "_law_cell_at" ["_law_script", "_law_k"] (sp_cell K)) (D__law_draw : DOk P w K mg base 1 "_law_draw" ["_law_cell", "_law_k", "_law_many"] sp_draw) (D__law_value : DOk P w K mg base 2 "_law_value" ["_law_cell", "_law_k", "_law_limit"] sp_value)
    (D__law_teams : DOk P w K mg base 3 "_law_teams" ["_law_script", "_law_k"] (sp_teams K)) (D__law_plan : DOk P w K mg base 5 "_law_plan" ["_law_teams_here"] sp_plan) (D__law_good : DOk P w K mg base 2 "_law_good" ["_law_teams_here", "_law_plan_here"] sp_good)
    (D__law_right : DOk P w K mg base 5 "_law_right" ["_law_teams_here", "_law_team", "_law_number"] sp_right) (D__law_two_right : DOk P w K mg base 5 "_law_two_right" ["_law_teams_here", "_law_one", "_law_other"] sp_two) (Z : Zs mg) : FnOk P w K mg base CX0 6 f fd ["_law_script"] (spLaw K) := by
  have nd := sc_law.nd
  refine F.ok sc_law (fun vs H Q E h => ?_) (fun cdv A outer s H vs Q E hr h => ?_)
  · obtain ⟨a, ns, rfl, _⟩ := h
    rfl
  · obtain ⟨a0, ns, rfl, hs0, hlen, hbits, q⟩ := h
    have ml : ns.length < 64 := by omega
    obtain ⟨g1, g2⟩ := rg_few ns.length ml
    have dr := drawM_ok (c := cellM ns 0 % 10 ^ 18) (k := 5) (m := 12) (by decide)
    have mz : ∀ z, IntMulOk 2 z := fun z => mul_small_l (by decide) (by decide)
    have m0 := mz (drawM (cellM ns 0 % 10 ^ 18) 5 12)
    refine ⟨_, (pss_cons (ps_set (i := 0) nd rfl (Or.inl rfl) (pe_slice (k_slL (K := K)) (pv 0) po_none (po_some pe_int)))
      (pss_cons (ps_for PassesOwn.never rfl (pi_range3 rfl Z.range (pa_cons pe_int (pa_cons (pe_callB (k_len (K := K)) (by rfl) Z.len boot_len (pa_cons (pv 0) pa_nil)) (pa_cons (pe_op op_add pe_int (pe_op op_fdiv (pe_callB (k_len (K := K)) (by rfl) Z.len boot_len (pa_cons (pv 0) pa_nil)) pe_int)) pa_nil)))) (pg_name (i := 1) nd rfl (Or.inl rfl))
        (pss_cons (ps_par (i := 2) (j := 3) (by rfl) nd rfl rfl (by decide) rfl rfl (pa_cons (pe_callD D__law_teams (hr.mono (by decide)) (pa_cons (pv 0) (pa_cons (pv 1) pa_nil))) (pa_cons (pe_callD D__law_value (hr.mono (by decide)) (pa_cons (pe_callD D__law_cell_at (hr.mono (by decide)) (pa_cons (pv 0) (pa_cons (pe_op op_add (pv 1) pe_int) pa_nil))) (pa_cons (pv 1) (pa_cons pe_int pa_nil)))) pa_nil)) (by rfl))
        (pss_one (ps_for PassesOwn.never rfl (k_tup (K := K) (pe_tup (pa_cons pe_int (pa_cons pe_int (pa_cons (pe_op op_sub (pv 2) pe_int) (pa_cons (pe_op op_sub (pv 2) pe_int) (pa_cons (pe_op op_mod (pv 3) (pv 2)) (pa_cons (pe_op op_mod (pe_op op_fdiv (pv 3) pe_int) (pv 2)) pa_nil)))))))) (pg_name (i := 4) nd rfl (Or.inr rfl))
          (pss_cons (ps_for PassesOwn.never rfl (k_tup (K := K) (pe_tup (pa_cons pe_int (pa_cons (pe_op op_sub (pv 2) pe_int) (pa_cons (pe_op op_mod (pe_op op_fdiv (pv 3) pe_int) (pe_op op_sub (pv 2) pe_int)) (pa_cons (pe_op op_mod (pe_op op_mod (pv 3) (pv 2)) (pe_op op_sub (pv 2) pe_int)) pa_nil)))))) (pg_name (i := 5) nd rfl (Or.inl rfl))
            (pss_one (ps_if (pt_not (pt_val (pe_callD D__law_right (hr.mono (by decide)) (pa_cons (pv 2) (pa_cons (pv 4) (pa_cons (pv 5) pa_nil))))))
              (pss_one (ps_ret pe_bl))
              pss_nil)))
          (pss_cons (ps_set (i := 6) nd rfl (Or.inl rfl) (pe_op op_mod (pe_op op_add (pe_op op_add (pv 4) pe_int) (pe_op op_mod (pe_op op_fdiv (pv 3) pe_int) (pe_op op_sub (pv 2) pe_int))) (pv 2)))
          (pss_one (ps_if (PW.pt (pw_or (pt_not (pt_val (pe_callD D__law_two_right (hr.mono (by decide)) (pa_cons (pv 2) (pa_cons (pv 4) (pa_cons (pv 6) pa_nil)))))) (pw_or1 (pt_not (pt_val (pe_callD D__law_two_right (hr.mono (by decide)) (pa_cons (pv 2) (pa_cons (pv 6) (pa_cons (pv 4) pa_nil)))))))))
            (pss_one (ps_ret pe_bl))
            pss_nil))))))))
      (pss_cons (ps_set (i := 7) nd rfl (Or.inr rfl) (pe_op op_add pe_int (pe_op op_mulB pe_int (pe_callD D__law_draw (hr.mono (by decide)) (pa_cons (pe_op op_mod (pe_callD D__law_cell_at (hr.mono (by decide)) (pa_cons (pv 0) (pa_cons pe_int pa_nil))) (pe_op op_pow pe_int pe_int)) (pa_cons pe_int (pa_cons pe_int pa_nil)))))))
      (pss_cons (ps_if (pt_not (pt_val (pe_callB (k_all (K := K) rfl) (by rfl) Z.all boot_all (pa_cons (pe_lc (own := [("_law_some", 8)]) (g := gName 8) rfl nd (k_tup (K := K) (pe_tup (pa_cons pe_int (pa_cons pe_int (pa_cons (pv 7) pa_nil))))) (blkOk_by (N := N_law) (sc := defScope s_law) (by decide +kernel)) (fun _ _ _ _ _ => pg_name (i := 8) nd rfl (Or.inl rfl)) (fun _ _ _ _ _ => pts_nil) (fun _ _ _ _ _ => (pe_callD D__law_good (hr.mono (by decide)) (pa_cons (pv 8) (pa_cons (pe_callD D__law_plan (hr.mono (by decide)) (pa_cons (pv 8) pa_nil)) pa_nil))))) pa_nil))))
        (pss_one (ps_ret pe_bl))
        pss_nil)
      (pss_cons (ps_for PassesOwn.never rfl (pi_range1 rfl Z.range (pa_cons (pv 7) pa_nil)) (pg_name (i := 4) nd rfl (Or.inr rfl))
        (pss_one (ps_if (pt_not (pt_val (pe_callB (k_all (K := K) rfl) (by rfl) Z.all boot_all (pa_cons (pe_lc (own := [("_law_number", 5)]) (g := gName 5) rfl nd (pi_range1 rfl Z.range (pa_cons (pe_op op_sub (pv 7) pe_int) pa_nil)) (blkOk_by (N := N_law) (sc := defScope s_law) (by decide +kernel)) (fun _ _ _ _ _ => pg_name (i := 5) nd rfl (Or.inl rfl)) (fun _ _ _ _ _ => pts_nil) (fun _ _ _ _ _ => (pe_callD D__law_right (hr.mono (by decide)) (pa_cons (pv 7) (pa_cons (pv 4) (pa_cons (pv 5) pa_nil)))))) pa_nil))))
          (pss_one (ps_ret pe_bl))
          pss_nil)))
      (pss_one (ps_ret (pe_and (pe_cmpR op_eq (pe_callD D_opponent (hr.mono (by decide)) (pa_cons pe_int (pa_cons pe_int (pa_cons pe_int pa_nil)))) pe_int (nomark _)) (pe_one (pe_cmpR op_eq (pe_callD D_round_of (hr.mono (by decide)) (pa_cons pe_int (pa_cons pe_int (pa_cons pe_int pa_nil)))) pe_int (nomark _))))))))))), ?_⟩
    -- the script, cut
    refine q_asgL (el_sl (lo := none) (hi := some 63) (by tm_at "ev") eo_none (eo_some (by tm_at "ev")) hs0) fun a H1 ha e1 h1 => ?_
    rw [cut63 hlen] at h1
    have hs : SqL K H1 a (ns.map V.int) := sq_of h1
    -- the first loop
    refine q_forRC (K := K) (lo := 0) (hi := (ns.length : Int)) (c := 1 + (ns.length : Int) / 8) (n := (ns.length + ns.length / 8) / (1 + ns.length / 8))
      (ea_cons (by tm_at "ev") (ea_cons (ev_is (ev_len (by tm_at "ev") hs) (by rw [List.length_map])) (ea_cons (ev_op (by tm_at "ev") (ev_op (ev_is (ev_len (by tm_at "ev") hs) (by rw [List.length_map])) (by tm_at "ev") (rv_I ⟨by decide, by decide⟩)) rv_I0) ea_nil)))
      ⟨by omega, by omega, g1, g2.symm⟩ (fun i σ' H' => Ex H1 H' ∧ ∃ o1 o2 o3 o4 o5 o6, σ' = [some (.ref a), o1, o2, o3, o4, o5, o6, none, none]) (fun H2 e2 => ⟨e2, none, none, none, none, none, none, rfl⟩) ?_ ?_
    · rintro i σ' H' hi ⟨e2, o1, o2, o3, o4, o5, o6, rfl⟩
      have hk : (0 : Int) ≤ 0 + (i : Int) * (1 + (ns.length : Int) / 8) ∧ 0 + (i : Int) * (1 + (ns.length : Int) / 8) ≤ 99 := by
        exact few_k ml hi
      generalize 0 + (i : Int) * (1 + (ns.length : Int) / 8) = k at hk
      obtain ⟨k0, k1⟩ := hk
      have tk := teamsM_ok ns k
      have vk := valueM_ok (c := cellM ns (k + 1)) (k := k) (lim := 900000) (by decide) (by decide)
      have cb := cellM_bits hbits (k + 1)
      have hs' := ex_l e2 hs
      generalize hn : teamsM ns k = n at tk
      generalize hd : valueM (cellM ns (k + 1)) k 900000 = d at vk
      have b1 := use_teams hs' hbits k0 (by omega : k ≤ 100)
      rw [hn] at b1
      have ev1 : ∀ σ : L2.St, σ[0]? = some (some (.ref a)) → σ[1]? = some (some (.int k)) → Ev (tCall (sp_teams K) [] E0 (tCons (tVar 0) (tCons (tVar 1) tNil))) σ H' (.int n) := fun σ z0 z1 => ev_call0 (ea_cons (ev_var z0) (ea_cons (ev_var z1) ea_nil)) b1
      have b2 := use_value (H := H') cb k0 (by omega : k ≤ 1000) (by decide : (0 : Int) < 900000)
      rw [hd] at b2
      obtain ⟨hn2, hbig⟩ := tk
      obtain ⟨h2n, hev⟩ := id hn2
      have n0 : 0 < n := by omega
      have n1 : 0 < n - 1 := by omega
      refine q_par (x := .int n) (y := .int d) (ea_cons (ev1 _ rfl rfl) (ea_cons (ev_call0 (ea_cons (ev_call0 (by tm_at "ev") (use_cell hs' (by omega))) (by tm_at "ev")) b2) ea_nil)) fun H3 e3 => ?_
      have l1 : ∀ t ∈ ([0, 1, n - 1, n - 2, d % n, d / 3 % n] : List Int), TeamOk n t := by
        intro t ht
        simp only [List.mem_cons, List.mem_nil_iff, or_false] at ht
        rcases ht with rfl | rfl | rfl | rfl | rfl | rfl
        · exact ⟨by omega, by omega⟩
        · exact ⟨by omega, by omega⟩
        · exact ⟨by omega, by omega⟩
        · exact ⟨by omega, by omega⟩
        · exact teamOk_mod n0
        · exact teamOk_mod n0
      refine s_forNT (xs := ([0, 1, n - 1, n - 2, d % n, d / 3 % n] : List Int).map V.int) (eu_tup (ea_is (by tm_at "ev") (by rfl)) (by show 6 ≤ 100000; decide)) (fun j σ' H' => Ex H3 H' ∧ ∃ o4 o5 o6, σ' = [some (.ref a), some (.int k), some (.int n), some (.int d), o4, o5, o6, none, none])
        (fun H4 e4 => ⟨e4, _, _, _, rfl⟩) (fun j σ' H' h => h.1) ?_ ?_
      · rintro p1 j x σ' H4 hp1 hx ⟨e4, o4, o5, o6, rfl⟩
        rw [List.getElem?_map] at hx
        obtain ⟨t, ht, rfl⟩ := Option.map_eq_some_iff.mp hx
        have htm := l1 t (List.mem_of_getElem? ht)
        have l2 : ∀ r ∈ ([0, n - 2, d / 5 % (n - 1), d % n % (n - 1)] : List Int), RoundOk n r := by
          intro r hr
          simp only [List.mem_cons, List.mem_nil_iff, or_false] at hr
          rcases hr with rfl | rfl | rfl | rfl
          · exact ⟨by omega, by omega⟩
          · exact ⟨by omega, by omega⟩
          · exact roundOk_mod n1
          · exact roundOk_mod n1
        refine q_forNT (xs := ([0, n - 2, d / 5 % (n - 1), d % n % (n - 1)] : List Int).map V.int) (eu_tup (ea_is (by tm_at "ev") (by rfl)) (by show 4 ≤ 100000; decide)) (fun j σ' H' => Ex H4 H' ∧ ∃ o5, σ' = [some (.ref a), some (.int k), some (.int n), some (.int d), some (.int t), o5, o6, none, none])
          (fun H5 e5 => ⟨e5, _, rfl⟩) (fun j σ' H' h => h.1) ?_ ?_
        · rintro p2 j2 x2 σ' H5 hp2 hx2 ⟨e5, o5, rfl⟩
          rw [List.getElem?_map] at hx2
          obtain ⟨r, hr, rfl⟩ := Option.map_eq_some_iff.mp hx2
          have hrm := l2 r (List.mem_of_getElem? hr)
          refine s_when (by tm_at "ev") (fun hb => ?_) fun _ H6 e6 => ⟨e6 p2 _ hp2, e5.trans e6, _, rfl⟩
          simp at hb
        · rintro σ' H5 ⟨e5, o5, rfl⟩
          refine q_asg (by tm_at "ev") fun H6 e6 => ?_
          have d7 := Int.emod_nonneg (d / 7) (b := n - 1) (by omega)
          have d8 := Int.emod_lt_of_pos (d / 7) n1
          have ho : TeamOk n ((t + 1 + d / 7 % (n - 1)) % n) := teamOk_mod n0
          have ne1 := other_ne htm d7 d8
          have ne2 := ne1.symm
          refine s_when (by tm_at "ev") (fun hb => ?_) fun _ H7 e7 => ?_
          · simp at hb
          · have e := (e5.trans e6).trans e7
            exact ⟨e p1 _ hp1, e4.trans e, _, _, _, rfl⟩
      · rintro σ' H4 ⟨e4, o4, o5, o6, rfl⟩
        exact ⟨(e2.trans e3).trans e4, _, _, _, _, _, _, rfl⟩
    · rintro σ' H' ⟨e2, o1, o2, o3, o4, o5, o6, rfl⟩
      have hs' := ex_l e2 hs
      generalize hd : drawM (cellM ns 0 % 10 ^ 18) 5 12 = d at dr m0
      have b1 := use_draw (H := H') (c := cellM ns 0 % 10 ^ 18) (k := 5) (m := 12) (by decide)
      rw [hd] at b1
      refine q_asg (v := .int (2 + 2 * d)) ?_ fun H3 e3 => ?_
      · refine ev_op ev_c (ev_op ev_c ?_ (rv_I m0)) rv_I0
        refine ev_call0 (ea_cons ?_ (by tm_at "ev")) b1
        exact ev_op (ev_call0 (by tm_at "ev") (use_cell hs' (Int.le_refl 0))) (by tm_at "ev") (rv_I ten18)
      generalize hf : 2 + 2 * d = n
      have h2n : 2 ≤ n := by omega
      have hn24 : n ≤ 24 := by omega
      have hev : n % 2 = 0 := by omega
      have hbig : n < 2 ^ 200 := by omega
      have hn2 : TeamsOk n := ⟨h2n, hev⟩
      have l3 : ∀ m ∈ ([2, 4, n] : List Int), 2 ≤ m ∧ m ≤ 24 ∧ m % 2 = 0 := by
        intro m hm
        simp only [List.mem_cons, List.mem_nil_iff, or_false] at hm
        rcases hm with rfl | rfl | rfl <;> omega
      refine q_when (b := !true) (et_not (et_B (ev_is (ev_allR (er_lcU mono_V (l := ([2, 4, n] : List Int)) (cd := V.int) (fun _ => true) (fun _ => true) (eu_tup (ea_is (by tm_at "ev") (by rfl)) (by show 3 ≤ 100000; decide)) (by show 3 ≤ 40000; decide) (fun x => rfl) (fun b G _ _ => by tm_at "ev") fun m G hm eG _ => ?_)) rfl))) (fun hb => by simp at hb) fun _ H4 e4 => ?_
      · obtain ⟨m1, m2, m3⟩ := l3 m hm
        have mt : TeamsOk m := ⟨m1, m3⟩
        refine r_ev (v := .bl (goodM m (planM m))) ?_ (by rw [good_few m1 m2 m3]; rfl)
        exact ev_callR2 (by tm_at "ev") (er_call mono_plan (by tm_at "ev") (use_plan mt (by omega))) fun v G e r => use_good mt (by omega) r (planM_sz m1 (by omega))
      refine q_forR1 (n := n) (by tm_at "ev") ⟨by omega, by omega⟩ (fun i σ' H' => Ex H H' ∧ ∃ o4, σ' = [some (.ref a), o1, o2, o3, o4, o5, o6, some (.int n), none]) (fun H5 e5 => ⟨(((e1.trans e2).trans e3).trans e4).trans e5, _, rfl⟩) ?_ ?_
      · rintro i σ' H5 hi ⟨e5, o4, rfl⟩
        have ht : TeamOk n (i : Int) := ⟨by omega, hi⟩
        refine s_when (b := !true) (et_not (et_B (ev_is (ev_allR (er_lcR mono_V (fun _ => true) (fun _ => true) (by tm_at "ev") (by omega) (fun x => rfl) (fun r _ _ => by tm_at "ev") fun r r0 r1 _ => ?_)) ?_))) (fun hb => by simp at hb) fun _ H6 e6 => ⟨e5.trans e6, _, rfl⟩
        · have hr : RoundOk n r := ⟨r0, r1⟩
          exact r_ev (v := .bl true) (by tm_at "ev") rfl
        · simp
      · rintro σ' H5 ⟨e5, o4, rfl⟩
        refine s_ret (v := .bl true) (ev_is (by tm_at "ev") (by decide)) fun H6 e6 => q H6 (e5.trans e6)
/-! ### the end: what the top has left -/
theorem finish {h : Heap} {f fa : Addr} {od an : Option Addr} {oc kV dc pm cd ct : Value} {sl : Array (Option Value)} (X : K.In h) (G : h.Ns mainGlobals mg) (hfa : mg "law" = some (.ref fa)) (d1 : DAt K mg "is_whole" s_is_whole ["thing"]) (d2 : DAt K mg "check_teams" s_check_teams ["teams"]) (d3 : DAt K mg "check_team" s_check_team ["teams", "team"]) (d4 : DAt K mg "check_round" s_check_round ["teams", "number"])
    (d5 : DAt K mg "check_three" s_check_three ["teams", "team", "number"]) (d6 : DAt K mg "opponent" s_opponent ["teams", "team", "number"]) (d7 : DAt K mg "home_of" s_home_of ["teams", "team", "number"]) (d8 : DAt K mg "at_home" s_at_home ["teams", "team", "number"]) (d9 : DAt K mg "round_of" s_round_of ["teams", "one", "other"])
    (d10 : DAt K mg "_law_cell_at" s__law_cell_at ["_law_script", "_law_k"]) (d11 : DAt K mg "_law_draw" s__law_draw ["_law_cell", "_law_k", "_law_many"]) (d12 : DAt K mg "_law_value" s__law_value ["_law_cell", "_law_k", "_law_limit"]) (d13 : DAt K mg "_law_teams" s__law_teams ["_law_script", "_law_k"])
    (d14 : DAt K mg "_law_whole" s__law_whole ["_law_number"]) (d15 : DAt K mg "_law_says" s__law_says ["_law_said", "_law_due"]) (d16 : DAt K mg "_law_plan" s__law_plan ["_law_teams_here"]) (d17 : DAt K mg "_law_lone" s__law_lone ["_law_plan_here", "_law_number", "_law_team"]) (d18 : DAt K mg "_law_good" s__law_good ["_law_teams_here", "_law_plan_here"])
    (d19 : DAt K mg "_law_right" s__law_right ["_law_teams_here", "_law_team", "_law_number"]) (d20 : DAt K mg "_law_two_right" s__law_two_right ["_law_teams_here", "_law_one", "_law_other"])
    (la : PySem.W.nsIn K mainGlobals "law" = some (some (.ref f))) (l : K.lookup f = some ⟨oc, od, .func (PySem.W.fnOf "law" "law" (defArgs s_law) (defBody s_law) (defScope s_law) .none kV dc pm an cd ct), sl⟩) (c : PySem.W.codeIn K cd "law" = true) (k : PySem.W.keepIn K (.ref f) = true) (Z : Zs mg) :
    ∃ fd : FuncData, (∀ (s : Shared) (v : Value), BindsTo s fd ⟨[v], []⟩ [("_law_script", v)]) ∧ ∀ base : Heap, K.In base → base.Ns mainGlobals mg → FnOk P w K mg base CX0 6 fa fd ["_law_script"] (spLaw K) := by
  have e := hfa.symm.trans (PySem.W.mg_of X G la)
  cases e
  refine ⟨PySem.W.fnOf "law" "law" (defArgs s_law) (defBody s_law) (defScope s_law) .none kV dc pm an cd ct, fun s v => .of_eq rfl, fun base _ _ => ?_⟩
  have o1 := ok_is_whole (P := P) (w := w) (base := base) d1 Z
  have o2 := ok_check_teams d2 o1
  have o3 := ok_check_team d3 o1
  have o4 := ok_check_round d4 o1
  have o5 := ok_check_three d5 o2 o3 o4
  have o6 := ok_opponent d6 o5
  have o7 := ok_home_of (P := P) (w := w) (base := base) d7
  have o8 := ok_at_home d8 o5 o7
  have o9 := ok_round_of d9 o2 o3 Z
  have o10 := ok_cell (P := P) (w := w) (base := base) d10 Z
  have o11 := ok_draw (P := P) (w := w) (base := base) d11
  have o12 := ok_value d12 o11
  have o13 := ok_teams d13 o10 o11 o12
  have o14 := ok_whole (P := P) (w := w) (base := base) d14 Z
  have o15 := ok_says (P := P) (w := w) (base := base) d15 Z
  have o16 := ok_plan d16 o8 o6 Z
  have o17 := ok_lone (P := P) (w := w) (base := base) d17 Z
  have o18 := ok_good d18 o17 Z
  have o19 := ok_right d19 o6 o8 o9 o14 o15 Z
  have o20 := ok_two d20 o6 o9 o14
  exact ok_law (fun_mk l c k) o6 o9 o10 o11 o12 o13 o16 o18 o19 o20 Z
end
theorem dat_mk {K : PySem.W.Frag} {mg : Str → Option Value} {h : Heap} {x : Str} {st : Stmt} {ps : List Str} {f : Addr} {od an : Option Addr} {oc kV dc pm cd ct : Value} {sl : Array (Option Value)} (X : K.In h) (G : h.Ns mainGlobals mg)
    (a : PySem.W.nsIn K mainGlobals x = some (some (.ref f))) (l : K.lookup f = some ⟨oc, od, .func (PySem.W.fnOf x x (defArgs st) (defBody st) (defScope st) .none kV dc pm an cd ct), sl⟩) (c : PySem.W.codeIn K cd x = true) (k : PySem.W.keepIn K (.ref f) = true)
    (hb : ∀ (kV doc pm : Value) (an : Option Addr) (cdv ct : Value) (us : List Value), us.length = ps.length → bindArgs (PySem.W.fnOf x x (defArgs st) (defBody st) (defScope st) .none kV doc pm an cdv ct) ⟨us, []⟩ = pure (ps.zip us)) : DAt K mg x st ps :=
  ⟨f, _, fun_mk l c k, PySem.W.mg_of X G a, (fun_mk l c k).binds hb⟩
theorem walk {l : PySem.W.OpenLaw} {q : Program} {loose : List Str} {XP : (Str → Option Value) → Heap → Prop} {YP : World → Heap → Prop} {d : DefRec} {K : Params → PySem.W.Frag} (hn : l.most = some 63) (hdf : d.params.defaults = [])
    (hY : ∀ (w : World) (h : Heap), YP w h → (K w.params).In h)
    (F : ∀ (w : World) (mg : Str → Option Value) (fa : Addr) (h : Heap), (K w.params).In h → h.Ns mainGlobals mg → mg d.name = some (.ref fa) →
      ∃ fd : FuncData, (∀ (s : Shared) (u : Value), BindsTo s fd ⟨[u], []⟩ [("_law_script", u)]) ∧ ∀ base : Heap, (K w.params).In base → base.Ns mainGlobals mg → FnOk l.prog w (K w.params) mg base CX0 6 fa fd ["_law_script"] (spLaw (K w.params))) :
    PySem.W.WalkO q loose XP YP l.row.toRowW d [] (fun f vs => PySem.call f vs) :=
  L2.walk_ofB (n := 63) (k := 6) (x := "_law_script") (CX := fun _ => CX0) (sp := fun w => spLaw (K w.params)) hn (by decide) hdf ⟨rfl, by decide, by decide⟩ hY F (fun _ _ a ns hl hb _ hS => ⟨a, ns, rfl, hS, hl, hb, fun _ _ => rfl⟩) fun _ _ _ _ _ z => z
end Em
open PySem PySem.W PyProof.Rows
set_option maxRecDepth 100000 in
set_option maxHeartbeats 0 in
theorem PySem.Challenge.cw_everymeets_k01_whole_plan_holds : PySem.Challenge.rw_everymeets_k01_whole_plan.Holds := by
  w_on; o_law; k_head; (case hw => w_witness2)
  k_fill
  refine Em.walk (l := PySem.Challenge.rw_everymeets_k01_whole_plan) rfl rfl (fun w h Y => PySem.W.kIn_of Y) ?F
  case F =>
    intro w mg fa h KX G hmg
    refine' Em.finish (P := (PySem.Challenge.rw_everymeets_k01_whole_plan).prog) (w := w) KX G hmg
      (Em.dat_mk KX G ?a0 ?l0 ?c0 ?k0 (fun _ _ _ _ _ _ us hl => match us, hl with | [_], _ => rfl))
      (Em.dat_mk KX G ?a1 ?l1 ?c1 ?k1 (fun _ _ _ _ _ _ us hl => match us, hl with | [_], _ => rfl))
      (Em.dat_mk KX G ?a2 ?l2 ?c2 ?k2 (fun _ _ _ _ _ _ us hl => match us, hl with | [_, _], _ => rfl))
      (Em.dat_mk KX G ?a3 ?l3 ?c3 ?k3 (fun _ _ _ _ _ _ us hl => match us, hl with | [_, _], _ => rfl))
      (Em.dat_mk KX G ?a4 ?l4 ?c4 ?k4 (fun _ _ _ _ _ _ us hl => match us, hl with | [_, _, _], _ => rfl))
      (Em.dat_mk KX G ?a5 ?l5 ?c5 ?k5 (fun _ _ _ _ _ _ us hl => match us, hl with | [_, _, _], _ => rfl))
      (Em.dat_mk KX G ?a6 ?l6 ?c6 ?k6 (fun _ _ _ _ _ _ us hl => match us, hl with | [_, _, _], _ => rfl))
      (Em.dat_mk KX G ?a7 ?l7 ?c7 ?k7 (fun _ _ _ _ _ _ us hl => match us, hl with | [_, _, _], _ => rfl))
      (Em.dat_mk KX G ?a8 ?l8 ?c8 ?k8 (fun _ _ _ _ _ _ us hl => match us, hl with | [_, _, _], _ => rfl))
      (Em.dat_mk KX G ?a9 ?l9 ?c9 ?k9 (fun _ _ _ _ _ _ us hl => match us, hl with | [_, _], _ => rfl))
      (Em.dat_mk KX G ?a10 ?l10 ?c10 ?k10 (fun _ _ _ _ _ _ us hl => match us, hl with | [_, _, _], _ => rfl))
      (Em.dat_mk KX G ?a11 ?l11 ?c11 ?k11 (fun _ _ _ _ _ _ us hl => match us, hl with | [_, _, _], _ => rfl))
      (Em.dat_mk KX G ?a12 ?l12 ?c12 ?k12 (fun _ _ _ _ _ _ us hl => match us, hl with | [_, _], _ => rfl))
      (Em.dat_mk KX G ?a13 ?l13 ?c13 ?k13 (fun _ _ _ _ _ _ us hl => match us, hl with | [_], _ => rfl))
      (Em.dat_mk KX G ?a14 ?l14 ?c14 ?k14 (fun _ _ _ _ _ _ us hl => match us, hl with | [_, _], _ => rfl))
      (Em.dat_mk KX G ?a15 ?l15 ?c15 ?k15 (fun _ _ _ _ _ _ us hl => match us, hl with | [_], _ => rfl))
      (Em.dat_mk KX G ?a16 ?l16 ?c16 ?k16 (fun _ _ _ _ _ _ us hl => match us, hl with | [_, _, _], _ => rfl))
      (Em.dat_mk KX G ?a17 ?l17 ?c17 ?k17 (fun _ _ _ _ _ _ us hl => match us, hl with | [_, _], _ => rfl))
      (Em.dat_mk KX G ?a18 ?l18 ?c18 ?k18 (fun _ _ _ _ _ _ us hl => match us, hl with | [_, _, _], _ => rfl))
      (Em.dat_mk KX G ?a19 ?l19 ?c19 ?k19 (fun _ _ _ _ _ _ us hl => match us, hl with | [_, _, _], _ => rfl))
      ?la ?ll ?lc ?lk ⟨PySem.W.mg_none_of KX G ?z1, PySem.W.mg_none_of KX G ?z2, PySem.W.mg_none_of KX G ?z3, PySem.W.mg_none_of KX G ?z4, PySem.W.mg_none_of KX G ?z5, PySem.W.mg_none_of KX G ?z6, PySem.W.mg_none_of KX G ?z7, PySem.W.mg_none_of KX G ?z8, PySem.W.mg_none_of KX G ?z9⟩
    (case a0 => k_is); (case l0 => k_is); (case c0 => k_is); (case k0 => k_is)
    (case a1 => k_is); (case l1 => k_is); (case c1 => k_is); (case k1 => k_is)
    (case a2 => k_is); (case l2 => k_is); (case c2 => k_is); (case k2 => k_is)
    (case a3 => k_is); (case l3 => k_is); (case c3 => k_is); (case k3 => k_is)
    (case a4 => k_is); (case l4 => k_is); (case c4 => k_is); (case k4 => k_is)
    (case a5 => k_is); (case l5 => k_is); (case c5 => k_is); (case k5 => k_is)
    (case a6 => k_is); (case l6 => k_is); (case c6 => k_is); (case k6 => k_is)
    (case a7 => k_is); (case l7 => k_is); (case c7 => k_is); (case k7 => k_is)
    (case a8 => k_is); (case l8 => k_is); (case c8 => k_is); (case k8 => k_is)
    (case a9 => k_is); (case l9 => k_is); (case c9 => k_is); (case k9 => k_is)
    (case a10 => k_is); (case l10 => k_is); (case c10 => k_is); (case k10 => k_is)
    (case a11 => k_is); (case l11 => k_is); (case c11 => k_is); (case k11 => k_is)
    (case a12 => k_is); (case l12 => k_is); (case c12 => k_is); (case k12 => k_is)
    (case a13 => k_is); (case l13 => k_is); (case c13 => k_is); (case k13 => k_is)
    (case a14 => k_is); (case l14 => k_is); (case c14 => k_is); (case k14 => k_is)
    (case a15 => k_is); (case l15 => k_is); (case c15 => k_is); (case k15 => k_is)
    (case a16 => k_is); (case l16 => k_is); (case c16 => k_is); (case k16 => k_is)
    (case a17 => k_is); (case l17 => k_is); (case c17 => k_is); (case k17 => k_is)
    (case a18 => k_is); (case l18 => k_is); (case c18 => k_is); (case k18 => k_is)
    (case a19 => k_is); (case l19 => k_is); (case c19 => k_is); (case k19 => k_is)
    (case la => k_is); (case ll => k_is); (case lc => k_is); (case lk => k_is)
    (case z1 => k_is); (case z2 => k_is); (case z3 => k_is); (case z4 => k_is); (case z5 => k_is); (case z6 => k_is); (case z7 => k_is); (case z8 => k_is); (case z9 => k_is)
#print axioms PySem.Challenge.cw_everymeets_k01_whole_plan_holds


