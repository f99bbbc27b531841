import PyProof.Rows.All
import Wide.All
import OpenK.AllK
import Wide.FinOn
import HandS.ForMost
import HandS.IsInst
import HandS.Wide
import HandS.Style
import HandS.TupLen
import HandS.EndBits
import HandS.Evl
import HandS.DictTup
import KE.KDictWalk
import HandS.Walk
import HandS.CallRecv
import KE.DataMinMax
import HandS.SetFor
import HandS.WordsExc
import HandS.HotCalls
import HandS.ExcIs
import HandS.Lambda
import HandS.EndOwn
import PySem.Challenge.RW_everymeets_k05_refused
set_option Elab.async false
set_option linter.all false
set_option maxRecDepth 100000
set_option maxHeartbeats 4000000
namespace Em
open PySem PySem.Spec PyProof.Rows L2 Evl

/-- a def of the top as it stands: its function object, its name, how its arguments bind -/
def DAt (K : PySem.W.Frag) (mg : Str → Option Value) (x : Str) (st : Stmt) (ps : List Str) : Prop :=
  ∃ (f : Addr) (fd : FuncData), Fun K x x st f fd ∧ mg x = some (.ref f) ∧ Binds K fd ps []
/-- a def that keeps its promise -/
def DOk (P : Program) (w : World) (K : PySem.W.Frag) (mg : Str → Option Value) (base : Heap) (k : Nat) (x : Str) (ps : List Str) (sp : Sp) : Prop :=
  ∃ (f : Addr) (fd : FuncData), FnOk P w K mg base CX0 k f fd ps sp ∧ mg x = some (.ref f) ∧ PySem.W.keepIn K (.ref f) = true ∧ Binds K fd ps []
section
variable {P : Program} {w : World} {K : PySem.W.Frag} {mg : Str → Option Value} {base : Heap} {X : Cx}
theorem DAt.ok {x : Str} {st : Stmt} {N ps : List Str} {k : Nat} {sp : Sp} (F : DAt K mg x st ps) (S : FnScope N ps (defScope st)) (len : ∀ vs H Q E, sp vs H Q E → vs.length = ps.length)
    (hbody : ∀ (f : Addr) (cdv : Value) (A : Around) (outer : List Env) (s : Shared) (H : Hp) (vs : List V) (Q : VK) (E : XK), Room k (A.deeper (envOfC x (defScope st) s.heap.objs.size f cdv)) → sp vs H Q E →
      ∃ t, PSs (cxOf CX0 P w K mg base N x (defScope st) f cdv A outer s H E).nox (defBody st) t ∧ t { nx := fun _ H' => Q .non H', rt := Q } (start N vs) H) : DOk P w K mg base (k + 1) x ps sp := by
  obtain ⟨f, fd, F, g, b⟩ := F
  exact ⟨f, fd, F.ok S len (hbody f), g, F.kp, b⟩
theorem pe_callD {x : Str} {k : Nat} {ps : List Str} {sp : Sp} {p pos : Pos} {e : Expr} {es : List Expr} {t : TA} (D : DOk X.prog X.w X.K X.mg X.base k x ps sp) (hr : Room k X.A) (ha : PA X (e :: es) t) (hg : Gl X x := by rfl)
    (hdb : (x == ("__debug__" : Str)) = false := by decide) (he : starEach (e :: es) X.env = (false, eval e X.env) :: starEach es X.env := by rfl) (hpl : (backTo pos (starEach es X.env)).any (·.1) = false := by rfl) :
    PE X (.Call (.Name x p) (e :: es) [] pos) (tCall sp [] E0 t) := by
  obtain ⟨f, fd, F, g, kp, b⟩ := D
  exact pe_call F hr hg g kp b .nil pass0 ha hdb he hpl
/-- any two ints whose product the model still makes -/
theorem op_mulB : OpR X (binaryOp .Mult) (rI IntMulOk fun i j => .int (i * j)) := opI fun _ _ _ _ _ _ _ hc q => mul_int q hc
/-- four in a chain -/
def tChain3 (r r' r'' : R2) (ta tb tc td : TE) : TE := fun σ H Q => ta σ H fun x H1 => tb σ H1 fun y H2 => r x y H2 fun z H3 => ∃ k, z = .bl k ∧
  (if k = true then tc σ H3 fun w' H4 => r' y w' H4 fun z' H5 => ∃ k', z' = .bl k' ∧ (if k' = true then td σ H5 fun w2 H6 => r'' w' w2 H6 Q else Q (.bl false) H5) else Q (.bl false) H3)
theorem pe_chain3 {a b c d : Expr} {ta tb tc td : TE} {pos : Pos} {op op' op'' : CmpOp} {r r' r'' : R2} (ho : OpR X (compareOp op) r) (ho' : OpR X (compareOp op') r') (ho'' : OpR X (compareOp op'') r'') (ha : PE X a ta) (hb : PE X b tb) (hc : PE X c tc) (hd : PE X d td)
    (hm : lastMarks [op, op', op''] [b, c, d] = false := by with_unfolding_all rfl) : PE X (.Compare a [op, op', op''] [b, c, d] pos) (tChain3 r r' r'' ta tb tc td) := by
  refine ⟨fun pins s σ H Q I h => ?_⟩
  refine Compare_chain (thn (ha.run pins s σ H _ I h) fun v s1 ⟨x, H1, I1, r1, q1⟩ => chain_link (thn (hb.run pins s1 σ H1 _ I1 q1) fun u s2 ⟨y, H2, I2, r2, q2⟩ =>
    thn (ho pins s2 σ H2 x y v u _ I2 r1 r2 q2) fun d' s3 ⟨z, H3, I3, r3, k, e, q3⟩ => ?_)) hm
  subst e
  cases r3
  refine wpAny_truthy_bool ?_
  cases k with
  | false => exact ite_ff ⟨.bl false, H3, I3, rfl, q3⟩
  | true =>
    refine ite_tt (chain_link (thn (hc.run pins s3 σ H3 _ I3 q3) fun w' s4 ⟨z', H4, I4, r4, q4⟩ => thn (ho' pins s4 σ H4 y z' u w' _ I4 r2 r4 q4) fun d2 s5 ⟨z2, H5, I5, r5, k2, e2, q5⟩ => ?_))
    subst e2
    cases r5
    refine wpAny_truthy_bool ?_
    cases k2 with
    | false => exact ite_ff ⟨.bl false, H5, I5, rfl, q5⟩
    | true => exact ite_tt (chain_last (thn (hd.run pins s5 σ H5 _ I5 q5) fun w2 s6 ⟨z3, H6, I6, r6, q6⟩ => ho'' pins s6 σ H6 z' z3 w' w2 Q I6 r4 r6 q6))
end
section
variable {K : PySem.W.Frag} {σ : L2.St} {H H' : Hp} {ta tb tc td te : TE} {t u : TT} {x y z v : V} {r r' r'' : R2}
theorem ev_chain {c d : Bool} (ha : Ev ta σ H x) (hb : Ev tb σ H y) (hr : RV r x y H (.bl c)) (hc : c = true → ∃ z, Ev tc σ H z ∧ RV r' y z H (.bl d)) : Ev (tChain r r' ta tb tc) σ H (.bl (c && d)) := fun H1 e Q q =>
  ha H1 e _ fun H2 e2 => hb H2 (e.trans e2) _ fun H3 e3 => hr H3 ((e.trans e2).trans e3) _ fun H4 e4 => ⟨c, rfl, by
    cases c with
    | true =>
      obtain ⟨z, h1, h2⟩ := hc rfl
      show tc σ H4 fun w' H4 => r' y w' H4 Q
      refine h1 H4 (((e.trans e2).trans e3).trans e4) _ fun H5 e5 => ?_
      exact h2 H5 ((((e.trans e2).trans e3).trans e4).trans e5) Q fun H6 e6 => q H6 ((((e2.trans e3).trans e4).trans e5).trans e6)
    | false => exact q H4 ((e2.trans e3).trans e4)⟩
/-- three ints in a row -/
theorem ev_ch2 {g g' : Int → Int → Bool} {i j k : Int} (ha : Ev ta σ H (.int i)) (hb : Ev tb σ H (.int j)) (hc : Ev tc σ H (.int k)) :
    Ev (tChain (rI0 fun i j => .bl (g i j)) (rI0 fun i j => .bl (g' i j)) ta tb tc) σ H (.bl (g i j && g' j k)) := ev_chain ha hb (rv_I0 (g := fun i j => .bl (g i j))) fun _ => ⟨_, hc, rv_I0 (g := fun i j => .bl (g' i j))⟩
theorem ev_ch3 {g g' g'' : Int → Int → Bool} {i j k l : Int} (ha : Ev ta σ H (.int i)) (hb : Ev tb σ H (.int j)) (hc : Ev tc σ H (.int k)) (hd : Ev td σ H (.int l)) :
    Ev (tChain3 (rI0 fun i j => .bl (g i j)) (rI0 fun i j => .bl (g' i j)) (rI0 fun i j => .bl (g'' i j)) ta tb tc td) σ H (.bl (g i j && (g' j k && g'' k l))) := fun H1 e Q q =>
  ha H1 e _ fun H2 e2 => hb H2 (e.trans e2) _ fun H3 e3 => ⟨i, j, rfl, rfl, g i j, rfl, by
    cases hg : g i j with
    | false =>
      rw [hg] at q
      exact q H3 (e2.trans e3)
    | true =>
      show tc σ H3 _
      refine hc H3 ((e.trans e2).trans e3) _ fun H4 e4 => ⟨j, k, rfl, rfl, g' j k, rfl, ?_⟩
      cases hg' : g' j k with
      | false =>
        rw [hg, hg'] at q
        exact q H4 ((e2.trans e3).trans e4)
      | true =>
        show td σ H4 _
        refine hd H4 (((e.trans e2).trans e3).trans e4) _ fun H5 e5 => ⟨k, l, rfl, rfl, ?_⟩
        rw [hg, hg'] at q
        exact q H5 (((e2.trans e3).trans e4).trans e5)⟩
theorem et_ch2 {g g' : Int → Int → Bool} {i j k : Int} (ha : Ev ta σ H (.int i)) (hb : Ev tb σ H (.int j)) (hc : Ev tc σ H (.int k)) :
    EvT (tTest (tChain (rI0 fun i j => .bl (g i j)) (rI0 fun i j => .bl (g' i j)) ta tb tc)) σ H (g i j && g' j k) := et_test (ev_ch2 ha hb hc)
theorem et_ch3 {g g' g'' : Int → Int → Bool} {i j k l : Int} (ha : Ev ta σ H (.int i)) (hb : Ev tb σ H (.int j)) (hc : Ev tc σ H (.int k)) (hd : Ev td σ H (.int l)) :
    EvT (tTest (tChain3 (rI0 fun i j => .bl (g i j)) (rI0 fun i j => .bl (g' i j)) (rI0 fun i j => .bl (g'' i j)) ta tb tc td)) σ H (g i j && (g' j k && g'' k l)) := et_test (ev_ch3 ha hb hc hd)
theorem ev_call0 {sp : Sp} {vs : List V} {E : XK} {tA : TA} (h : EvA tA σ H vs) (hs : SpV sp vs H z) : Ev (tCall sp [] E tA) σ H z := ev_call h (by rw [List.append_nil]; exact hs)
theorem el_call0 {sp : Sp} {vs xs : List V} {E : XK} {tA : TA} (h : EvA tA σ H vs) (hs : SpL sp vs H xs) : EvL (tCall sp [] E tA) σ H xs := el_call h (by rw [List.append_nil]; exact hs)
/-- a promise by what is handed in, what must hold of it, what comes out; new objects may be laid -/
def spV {α : Type} (args : α → List V) (pre : α → Hp → Prop) (val : α → V) : Sp := fun vs H Q _ => ∃ a, vs = args a ∧ pre a H ∧ ∀ H2, Ex H H2 → Q (val a) H2
theorem spv_use {α : Type} {args : α → List V} {pre : α → Hp → Prop} {val : α → V} (a : α) (h : ∀ H1, Ex H H1 → pre a H1) : SpV (spV args pre val) (args a) H (val a) := fun H1 e Q q _ => ⟨a, rfl, h H1 e, q⟩
end
end Em

namespace Em
open PySem PySem.Spec PyProof.Rows L2 Evl
/-- the view d.values() at p -/
def valuesO (p d : Addr) : HO := .ext fun h => h.IsValuesView p d
theorem valuesO_ok {P : Program} {w : World} {H : Hp} {h : Heap} {p d : Addr} (e : h.get? p = some { cls := .type "dict_values", data := .fields #[.ref d] }) : ObjOk P w H h p (valuesO p d) :=
  ⟨⟨_, e, rfl, rfl⟩, ⟨_, e⟩, fun h1 h2 x k => let ⟨o, ho, r⟩ := x; ⟨o, k o ho, r⟩⟩
section
variable {X : Cx}
def rValuesT : V → List V → Hp → VK → Prop := fun x xs H Q => ∃ (a : Addr) (kvs : List (List L2.Key × V)), x = .ref a ∧ xs = [] ∧ H a = some (.dT kvs) ∧ ∀ p, H p = none → Q (.ref p) (upd H p (valuesO p a))
theorem mt_valuesT : MtR X "dict.values" rValuesT := by
  intro pins s σ H x xs v us Q I rx rxs h
  obtain ⟨a, kvs, rfl, rfl, ha, q⟩ := h
  cases rx
  cases rxs
  obtain ⟨z, hd, xs', rel, o, es, ep, ho, hx, hdat, _⟩ := (show ObjOk X.prog X.w H s.heap a (.dT kvs) from I.hok a _ ha)
  refine call_meetsIn PySem.F.slot_dict_values (s := s) ⟨o, ho, hx.1⟩ PySem.F.entry_dict_values (PySem.F.args_dict_values_1 _) (PySem.meets_dict_values_raw a hd) ⟨⟨es, ep, o, ho, hx, hdat⟩, ?_⟩
  have hf : H s.heap.objs.size = none := I.hok.fresh (Nat.le_refl _)
  exact ⟨.ref s.heap.objs.size, upd H s.heap.objs.size (valuesO s.heap.objs.size a), I.laid (t' := s.toks) (fun b u e => Heap.get?_push_of_some _ e) (Nat.le_refl _) (valuesO_ok (Heap.get?_push_size _ rfl)), rfl, q _ hf⟩
/-- max(d.values()), the values ints -/
def rMaxV : List V → Hp → VK → Prop := fun xs H Q => ∃ (p d : Addr) (kvs : List (List L2.Key × V)) (ns : List Int), xs = [.ref p] ∧ H p = some (valuesO p d) ∧ H d = some (.dT kvs) ∧ kvs.map (·.2) = ns.map V.int ∧ 0 < ns.length ∧
  ∀ m, m ∈ ns → (∀ y, y ∈ ns → y ≤ m) → Q (.int m) H
theorem paired_get {α β : Type} {F : α → β → Prop} : ∀ {xs : List α} {ys : List β} {i : Nat} {y : β}, Paired F xs ys → ys[i]? = some y → ∃ x, xs[i]? = some x ∧ F x y
  | _, _, _, _, .nil, e => by simp at e
  | _, _, 0, _, .cons r _, e => by simp at e; subst e; exact ⟨_, rfl, r⟩
  | _, _, i + 1, y, .cons _ t, e => by
    obtain ⟨x, h1, h2⟩ := paired_get (i := i) t (by simpa using e)
    exact ⟨x, by simpa using h1, h2⟩
theorem cr_maxV (hc : X.calm = true) : CallR X (.builtin "max") rMaxV := by
  intro pins s σ H vs us Q I r h
  obtain ⟨p, d, kvs, ns, rfl, hp, hd, hm, hne, q⟩ := h
  rw [Vals.ref1 r]
  obtain ⟨hv, _, _⟩ := (show ObjOk X.prog X.w H s.heap p (valuesO p d) from I.hok p _ hp)
  obtain ⟨z, hdm, xs', rel, o, es, ep, ho, hx, hdat, hes, hnd⟩ := (show ObjOk X.prog X.w H s.heap d (.dT kvs) from I.hok d _ hd)
  have hraw : s.heap.DictRaw d es ep := ⟨o, ho, hx, hdat⟩
  have hdlt : d < s.heap.objs.size := Heap.lt_size ho
  have hlen : es.size = ns.length := by
    have h1 := congrArg List.length hes
    have h2 := Paired.length rel
    have h3 := congrArg List.length hm
    simp only [Array.length_toList, List.length_map] at h1 h3
    omega
  have hval : ∀ (i : Nat) (v : Value), (∃ hi : i < es.size, v = es[i].val) → ∃ t, v = .int (ns.getD i 0) t := by
    rintro i v ⟨hi, rfl⟩
    have e1 : es.toList[i]? = some es[i] := by simp [hi]
    rw [hes, List.getElem?_map] at e1
    obtain ⟨y, hy, ey⟩ := Option.map_eq_some_iff.mp e1
    obtain ⟨kv, hkv, r1, r2, r3⟩ := paired_get rel hy
    have e2 : (kvs.map (·.2))[i]? = some kv.2 := by rw [List.getElem?_map, hkv]; rfl
    rw [hm, List.getElem?_map] at e2
    obtain ⟨k, hk, ek⟩ := Option.map_eq_some_iff.mp e2
    rw [← ek] at r3
    obtain ⟨t, et⟩ := r3
    refine ⟨t, ?_⟩
    rw [← ey]
    rw [List.getD_eq_getElem?_getD, hk]
    exact et
  refine PySem.call_max_walk (PySem.wpAny_pyIter_values_raw hv hraw ?_)
  refine ⟨_, _, _, _, _, _, _, rfl, PySem.Walks.rawValues (A := X.A.in1) (I.ok.hd hc) s.heap.objs.size d (Nat.ne_of_lt hdlt) es ep, ⟨⟨_, Heap.get?_push_size _ rfl, rfl, rfl⟩, hraw.at fun u e => Heap.get?_push_of_some _ e⟩, ?_, by omega, PySem.CmpOf.ints_gt (fun i => ns.getD i 0) hval, fun v h' tk hP hk => ?_⟩
  · intro b hb
    show b < (s.heap.push _).objs.size
    rw [Heap.size_push]
    rcases List.mem_cons.mp hb with rfl | hb
    · exact Nat.lt_succ_self _
    · rcases List.mem_cons.mp hb with rfl | hb
      · exact Nat.lt_succ_of_lt hdlt
      · cases hb
  · obtain ⟨t, rfl⟩ := hval _ _ hP
    obtain ⟨h1, h2⟩ := argBest_gt (fun i => ns.getD i 0) (es.size - 1)
    refine ⟨.int _, H, I.kept (t' := tk) fun b u e => hk b u (fun hm => ?_) (Heap.get?_push_of_some _ e), ⟨t, rfl⟩, q _ (PySem.getD_mem (by omega)) fun y hy => ?_⟩
    · rcases List.mem_cons.mp hm with e1 | hm
      · exact absurd (e1 ▸ Heap.lt_size e) (Nat.lt_irrefl _)
      · cases hm
    · obtain ⟨j, hj, rfl⟩ := mem_getD hy
      exact h2 j (by omega)
end
end Em

namespace Em
open PySem PySem.Spec PyProof.Rows L2 Evl
/-! ### data in the heap, by relations -/
def Mono {β : Type} (R : Hp → V → β → Prop) : Prop := ∀ H H' v b, Ex H H' → R H v b → R H' v b
/-- a pair of ints -/
def IsPair (H : Hp) (v : V) (p : Int × Int) : Prop := ∃ t, v = .ref t ∧ H t = some (.tup [.int p.1, .int p.2])
/-- a list of such -/
def IsL {β : Type} (R : Hp → V → β → Prop) (H : Hp) (v : V) (l : List β) : Prop := ∃ a vs, v = .ref a ∧ H a = some (.lst vs) ∧ Paired (R H) vs l
abbrev IsRow := IsL IsPair
abbrev IsPlan := IsL IsRow
abbrev IsPlans := IsL IsPlan
/-- a plain value by its code -/
def IsV {β : Type} (f : β → V) (_ : Hp) (v : V) (b : β) : Prop := v = f b
theorem mono_pair : Mono IsPair := fun H H' v p e ⟨t, h1, h2⟩ => ⟨t, h1, e t _ h2⟩
theorem mono_V {β : Type} {f : β → V} : Mono (IsV f) := fun _ _ _ _ _ h => h
theorem paired_mono {α β : Type} {F G : α → β → Prop} (h : ∀ a b, F a b → G a b) {l : List α} {m : List β} (p : Paired F l m) : Paired G l m := L2.Paired.mapP p h
theorem mono_L {β : Type} {R : Hp → V → β → Prop} (m : Mono R) : Mono (IsL R) := fun H H' v l e ⟨a, vs, h1, h2, h3⟩ => ⟨a, vs, h1, e a _ h2, paired_mono (fun x b => m H H' x b e) h3⟩
theorem mono_row : Mono IsRow := mono_L mono_pair
theorem mono_plan : Mono IsPlan := mono_L mono_row
theorem mono_plans : Mono IsPlans := mono_L mono_plan
theorem paired_snoc {α β : Type} {F : α → β → Prop} {a : α} {b : β} {l : List α} {m : List β} (p : Paired F l m) (h : F a b) : Paired F (l ++ [a]) (m ++ [b]) := Paired.snoc p h
theorem paired_len {α β : Type} {F : α → β → Prop} {l : List α} {m : List β} (p : Paired F l m) : l.length = m.length := Paired.length p
theorem paired_at {α β : Type} {F : α → β → Prop} : ∀ {l : List α} {m : List β} {i : Nat} {a : α}, Paired F l m → l[i]? = some a → ∃ b, m[i]? = some b ∧ F a b
  | _, _, _, _, .nil, e => by simp at e
  | _, _, 0, _, .cons r _, e => by simp at e; subst e; exact ⟨_, rfl, r⟩
  | _, _, i + 1, a, .cons _ t, e => by
    obtain ⟨b, h1, h2⟩ := paired_at (i := i) t (by simpa using e)
    exact ⟨b, by simpa using h1, h2⟩
theorem paired_map {α β : Type} {f : β → α} : ∀ {l : List α} {m : List β}, Paired (fun a b => a = f b) l m → l = m.map f
  | _, _, .nil => rfl
  | _, _, .cons r t => by rw [r, List.map_cons, paired_map t]
theorem map_paired {α β : Type} {F : α → β → Prop} {f : β → α} (h : ∀ b, F (f b) b) : ∀ l : List β, Paired F (l.map f) l
  | [] => .nil
  | b :: l => .cons (h b) (map_paired h l)
theorem isL_V {β : Type} {f : β → V} {H : Hp} {v : V} {l : List β} (h : IsL (IsV f) H v l) : ∃ a, v = .ref a ∧ H a = some (.lst (l.map f)) := by
  obtain ⟨a, vs, h1, h2, h3⟩ := h
  refine ⟨a, h1, ?_⟩
  rw [h2, paired_map (f := f) h3]

/-- Clean H H1 G H2: G is a part of H2 that holds H and of what was laid between H and H1 nothing -/
structure Clean (H H1 G H2 : Hp) : Prop where
  up : Ex H1 H2
  old : Ex H G
  part : Ex G H2
  apart : ∀ a, H a = none → H1 a ≠ none → G a = none
/-- what comes out is told by R, of a clean part of the heap -/
def EvR (te : TE) (σ : L2.St) (H : Hp) (R : Hp → V → Prop) : Prop := ∀ H1, Ex H H1 → ∀ Q : VK, (∀ v G H2, Clean H H1 G H2 → R G v → Q v H2) → te σ H1 Q
theorem Clean.refl {H H1 : Hp} (e : Ex H H1) : Clean H H1 H H1 := ⟨Ex.refl _, Ex.refl _, e, fun a h _ => h⟩
/-- two parts of a heap together -/
def join (G G' : Hp) : Hp := fun a => if (G a).isSome = true then G a else G' a
theorem join_l {G G' : Hp} : Ex G (join G G') := fun a o h => by
  unfold join
  rw [if_pos (by rw [h]; rfl)]
  exact h
theorem join_r {G G' H : Hp} (h : Ex G H) (h' : Ex G' H) : Ex G' (join G G') := fun a o e => by
  unfold join
  split
  · rename_i q
    obtain ⟨o', e'⟩ := Option.isSome_iff_exists.mp q
    have e1 := h a o' e'
    rw [h' a o e] at e1
    rw [e', ← e1]
  · exact e
theorem join_up {G G' H : Hp} (h : Ex G H) (h' : Ex G' H) : Ex (join G G') H := fun a o e => by
  unfold join at e
  split at e
  · exact h a o e
  · exact h' a o e
theorem join_none {G G' : Hp} {a : Addr} (h : G a = none) (h' : G' a = none) : join G G' a = none := by
  unfold join
  rw [if_neg (by rw [h]; simp)]
  exact h'
/-- the base grown -/
theorem Clean.grow {H H' H1 G H2 : Hp} (e : Ex H H') (e1 : Ex H' H1) (c : Clean H H1 G H2) : Clean H' H1 (join H' G) H2 ∧ Ex G (join H' G) := by
  have u : Ex H' H2 := e1.trans c.up
  refine ⟨⟨c.up, join_l, join_up u c.part, fun a h h1 => join_none h (c.apart a ?_ h1)⟩, join_r u c.part⟩
  cases q : H a with
  | none => rfl
  | some o => rw [e a o q] at h; cases h
theorem Clean.trans {H H1 G H2 G' H3 : Hp} (c : Clean H H1 G H2) (d : Clean G H2 G' H3) : Clean H H1 G' H3 :=
  ⟨c.up.trans d.up, c.old.trans d.old, d.part, fun a h h1 => by
    refine d.apart a (c.apart a h h1) ?_
    cases q : H1 a with
    | none => exact absurd q h1
    | some o => rw [c.up a o q]; simp⟩
/-- a new object -/
theorem Clean.new {H H1 H2 : Hp} {p : Addr} {o : HO} (e : Ex H H1) (hp : H1 p = none) (u : Ex H1 H2) (h : H2 p = some o) : Clean H H1 (upd H p o) H2 := by
  refine ⟨u, Ex.new (fresh_back e hp), fun a o' q => ?_, fun a h1 h2 => ?_⟩
  · by_cases ha : a = p
    · subst ha
      rw [upd_same] at q
      rw [h, ← q]
    · rw [upd_ne ha] at q
      exact u a o' (e a o' q)
  · by_cases ha : a = p
    · subst ha
      exact absurd hp h2
    · rw [upd_ne ha]
      exact h1
section
variable {K : PySem.W.Frag} {σ : L2.St} {H H' : Hp} {ta tb te tl tx : TE} {t : TT} {x y z v : V}
theorem EvR.mono {R : Hp → V → Prop} (m : ∀ H H' v, Ex H H' → R H v → R H' v) (e : Ex H H') (h : EvR te σ H R) : EvR te σ H' R := fun H1 a Q q => h H1 (e.trans a) Q fun v G H2 c r => q v _ H2 (c.grow e a).1 (m _ _ v (c.grow e a).2 r)
theorem EvR.imp {R S : Hp → V → Prop} (h : EvR te σ H R) (f : ∀ G v, Ex H G → R G v → S G v) : EvR te σ H S := fun H1 a Q q => h H1 a Q fun v G H2 c r => q v G H2 c (f G v c.old r)
theorem r_ev {R : Hp → V → Prop} (h : Ev te σ H v) (r : R H v) : EvR te σ H R := fun H1 a Q q => h H1 a Q fun H2 e => q v H H2 ⟨e, Ex.refl _, a.trans e, fun _ h _ => h⟩ r
theorem r_list {xs : List V} {R : Hp → V → Prop} (h : EvL te σ H xs) (r : ∀ p G, H p = none → Ex H G → G p = some (.lst xs) → R G (.ref p)) : EvR te σ H R := fun H1 a Q q => h H1 a Q fun p H2 hp e h2 => q _ _ H2 (Clean.new a hp e h2) (r p _ (fresh_back a hp) (Ex.new (fresh_back a hp)) upd_same)
theorem r_tup {xs : List V} {R : Hp → V → Prop} (h : EvU te σ H xs) (r : ∀ p G, H p = none → Ex H G → G p = some (.tup xs) → R G (.ref p)) : EvR te σ H R := fun H1 a Q q => h H1 a Q fun p H2 hp e h2 => q _ _ H2 (Clean.new a hp e h2) (r p _ (fresh_back a hp) (Ex.new (fresh_back a hp)) upd_same)
theorem eu_pair {i j : Int} (ha : Ev ta σ H (.int i)) (hb : Ev tb σ H (.int j)) : EvU (tTup (tCons ta (tCons tb tNil))) σ H [.int i, .int j] := eu_tup (ea_cons ha (ea_cons hb ea_nil)) (by show 2 ≤ 100000; decide)
theorem er_pair {i j : Int} (ha : Ev ta σ H (.int i)) (hb : Ev tb σ H (.int j)) : EvR (tTup (tCons ta (tCons tb tNil))) σ H (fun G v => IsPair G v (i, j)) := r_tup (eu_pair ha hb) fun p G _ _ h => ⟨p, rfl, h⟩
theorem et_yes : EvT tYes σ H true := fun H1 _ _ q => q H1 (Ex.refl H1)
/-- a list displayed -/
inductive EvRs {β : Type} (R : Hp → V → β → Prop) (σ : L2.St) (H : Hp) : TA → List β → Prop
  | nil : EvRs R σ H tNil []
  | cons {te : TE} {tr : TA} {b : β} {l : List β} : EvR te σ H (fun G v => R G v b) → EvRs R σ H tr l → EvRs R σ H (tCons te tr) (b :: l)
theorem evRs_run {β : Type} {R : Hp → V → β → Prop} (m : Mono R) {ta : TA} {l : List β} (h : EvRs R σ H ta l) : ∀ H1, Ex H H1 → ∀ Q : List V → Hp → Prop, (∀ vs G H2, Clean H H1 G H2 → Paired (R G) vs l → Q vs H2) → ta σ H1 Q := by
  induction h with
  | nil => exact fun H1 e Q q => q [] H H1 (Clean.refl e) .nil
  | cons h1 h2 ih =>
    intro H1 e Q q
    refine h1 H1 e _ fun v G H2 c r => ?_
    refine ih H2 (e.trans c.up) _ fun vs G' H3 c' r' => ?_
    have u1 : Ex G H3 := c.part.trans c'.up
    refine q (v :: vs) (join G G') H3 ⟨c.up.trans c'.up, c.old.trans join_l, join_up u1 c'.part, fun a h h1 => join_none (c.apart a h h1) (c'.apart a h ?_)⟩
      (.cons (m _ _ _ _ join_l r) (paired_mono (fun x b => m _ _ x b (join_r u1 c'.part)) r'))
    cases q : H1 a with
    | none => exact absurd q h1
    | some o => rw [c.up a o q]; simp
theorem er_lst {β : Type} {R : Hp → V → β → Prop} (m : Mono R) {ta : TA} {l : List β} (h : EvRs R σ H ta l) (hl : l.length ≤ 100000) : EvR (tLst ta) σ H (fun G v => IsL R G v l) := fun H1 e Q q =>
  evRs_run m h H1 e _ fun vs G H2 c r => ⟨by rw [paired_len r]; exact sz_of hl, fun p hp => by
    have hg : G p = none := fresh_back c.part hp
    refine q (.ref p) (upd G p (.lst vs)) _ ⟨c.up.trans (Ex.new hp), c.old.trans (Ex.new hg), fun a o z => ?_, fun a h h1 => ?_⟩ ⟨p, vs, rfl, upd_same, paired_mono (fun x b => m _ _ x b (Ex.new hg)) r⟩
    · by_cases ha : a = p
      · subst ha
        rw [upd_same] at z ⊢
        exact z
      · rw [upd_ne ha] at z ⊢
        exact c.part a o z
    · by_cases ha : a = p
      · subst ha
        cases w : H1 a with
        | none => exact absurd w h1
        | some o =>
          rw [c.up a o w] at hp
          cases hp
      · rw [upd_ne ha]
        exact c.apart a h h1⟩

/-- what holds while a comprehension's list grows at D: Hs the heap at its start -/
def Grown {γ : Type} (S : Hp → V → γ → Prop) (H Hs : Hp) (D : Addr) (l : List γ) (H' : Hp) : Prop :=
  ∃ G ys, Ex Hs (fun a => if a = D then none else H' a) ∧ Ex H G ∧ Ex G H' ∧ G D = none ∧ (∀ a, H a = none → Hs a ≠ none → G a = none) ∧ H' D = some (.lst ys) ∧ Paired (S G) ys l
theorem grown_ex {γ : Type} {S : Hp → V → γ → Prop} {Hs : Hp} {D : Addr} {l : List γ} (g : Grown S H Hs D l H') : Ex Hs H' := fun a o h => by
  obtain ⟨G, ys, h1, _⟩ := g
  have q := h1 a o h
  by_cases ha : a = D
  · simp [ha] at q
  · simpa [ha] using q
theorem grown_start {γ : Type} {S : Hp → V → γ → Prop} {Hs : Hp} {D : Addr} (e : Ex H Hs) (hD : Hs D = none) : Grown S H Hs D [] (upd Hs D (.lst [])) := by
  refine ⟨H, [], fun a o h => ?_, Ex.refl _, e.trans (Ex.new hD), fresh_back e hD, fun _ h _ => h, upd_same, .nil⟩
  have : a ≠ D := ne_of_none h hD
  simp only [this, if_false]
  rw [upd_ne this]
  exact h
theorem grown_up {γ : Type} {S : Hp → V → γ → Prop} {Hs H2 : Hp} {D : Addr} {l : List γ} (g : Grown S H Hs D l H') (u : Ex H' H2) : Grown S H Hs D l H2 := by
  obtain ⟨G, ys, h1, h2, h3, h4, h5, h6, h7⟩ := g
  refine ⟨G, ys, fun a o h => ?_, h2, h3.trans u, h4, h5, u D _ h6, h7⟩
  have q := h1 a o h
  by_cases ha : a = D
  · simp [ha] at q
  · simp only [ha, if_false] at q ⊢
    exact u a o q
theorem grown_snoc {γ : Type} {S : Hp → V → γ → Prop} (mS : Mono S) {Hs G' H2 : Hp} {D : Addr} {l : List γ} {c : γ} {v : V} (g : Grown S H Hs D l H') (hH : Ex H H') (cl : Clean H H' G' H2) (r : S G' v c) (hz : l.length < 60000) :
    ∃ acc, H2 D = some (.lst acc) ∧ acc.length < sizeLine ∧ Grown S H Hs D (l ++ [c]) (upd H2 D (.lst (acc ++ [v]))) := by
  obtain ⟨G, ys, h1, h2, h3, h4, h5, h6, h7⟩ := g
  have u : Ex G H2 := h3.trans cl.up
  have hHD : H D = none := fresh_back h2 h4
  have g'D : G' D = none := cl.apart D hHD (by rw [h6]; simp)
  refine ⟨ys, cl.up D _ h6, by rw [paired_len h7]; exact sz_lt (by omega), join G G', ys ++ [v], fun a o h => ?_, h2.trans join_l, Ex.mut (join_up u cl.part) (join_none h4 g'D), join_none h4 g'D, fun a ha hs => join_none (h5 a ha hs) (cl.apart a ha ?_), upd_same,
    paired_snoc (paired_mono (fun x b => mS _ _ x b join_l) h7) (mS _ _ _ _ (join_r u cl.part) r)⟩
  · have q := h1 a o h
    by_cases ha : a = D
    · simp [ha] at q
    · simp only [ha, if_false] at q ⊢
      rw [upd_ne ha]
      exact cl.up a o q
  · cases q : Hs a with
    | none => exact absurd q hs
    | some o =>
      have q1 := h1 a o q
      by_cases haD : a = D
      · simp [haD] at q1
      · simp only [haD, if_false] at q1
        rw [q1]
        simp
theorem grown_end {γ : Type} {S : Hp → V → γ → Prop} (mS : Mono S) {Hs : Hp} {D : Addr} {l : List γ} (hD : Hs D = none) (g : Grown S H Hs D l H') : ∃ G, Clean H Hs G H' ∧ IsL S G (.ref D) l ∧ Ex H G := by
  have gx := grown_ex g
  obtain ⟨G, ys, h1, h2, h3, h4, h5, h6, h7⟩ := g
  refine ⟨upd G D (.lst ys), ⟨gx, h2.trans (Ex.new h4), fun a o q => ?_, fun a h hs => ?_⟩, ⟨D, ys, rfl, upd_same, paired_mono (fun x b => mS _ _ x b (Ex.new h4)) h7⟩, h2.trans (Ex.new h4)⟩
  · by_cases ha : a = D
    · subst ha
      rw [upd_same] at q
      rw [h6, ← q]
    · rw [upd_ne ha] at q
      exact h3 a o q
  · by_cases ha : a = D
    · subst ha
      exact absurd hD hs
    · rw [upd_ne ha]
      exact h5 a h hs

/-- a comprehension over a walk of items that mean the items of l -/
theorem lc_core2 {β γ : Type} {S : Hp → V → γ → Prop} (mS : Mono S) {J : It} {n : Nat} {Gd : Hp → Prop} {Y : Nat → Hp → V → Hp → Prop} (w : Walk J n Gd Y) {g : TG} {tt : TT} {te : TE} {vs : List Nat} {Hs : Hp} {D : Addr} {Q : VK}
    (l : List β) (p : β → Bool) (f : β → γ) (hn : n = l.length) (hz : n ≤ 40000) (e : Ex H Hs) (hD : Hs D = none) (hG : ∀ H', Ex Hs H' → Gd H')
    (hi : ∀ i x b H' H'', l[i]? = some b → Ex H H' → Y i H' x H'' → Ex H' H'' ∧ ∀ Qg : L2.St → Hp → Prop, (∀ σ2, wipe σ2 vs = wipe σ vs → EvT tt σ2 H (p b) → (p b = true → EvR te σ2 H (fun G v => S G v (f b))) → Qg σ2 H'') → g x (wipe σ vs) H'' Qg)
    (q : ∀ v G H2, Clean H Hs G H2 → IsL S G v ((l.filter p).map f) → Q v H2) :
    ∃ W : Nat → Nat → Hp → Prop, (∃ m, W 0 m (upd Hs D (.lst []))) ∧ ∀ i m H, W i m H →
      (J.stop i H ∧ Q (.ref D) H) ∨ (J.go i H ∧ ∃ Nx : Hp → Prop, (∀ H', Nx H' → ∃ m', m' < m ∧ W (i + 1) m' H') ∧ ∀ x H', J.yld i H x H' → g x (wipe σ vs) H' fun σ2 H2 => wipe σ2 vs = wipe σ vs ∧ tt σ2 H2 fun b H3 =>
        if b = true then te σ2 H3 fun y H4 => ∃ acc, H4 D = some (.lst acc) ∧ acc.length < sizeLine ∧ Nx (upd H4 D (.lst (acc ++ [y]))) else Nx H3) := by
  refine lc_it w (Qd := fun H => Q (.ref D) H) (fun i H' => Grown S H Hs D (((l.take i).filter p).map f) H') (grown_start e hD) (fun i H' _ g => hG H' (grown_ex g)) ?_ ?_
  · intro i x H' H'' hin g y
    have hil : i < l.length := by omega
    have hb : l[i]? = some l[i] := by simp [hil]
    have hH : Ex H H' := e.trans (grown_ex g)
    obtain ⟨u, hq⟩ := hi i x l[i] H' H'' hb hH y
    refine hq _ fun σ2 hw ht he => ⟨hw, ?_⟩
    have g2 := grown_up g u
    have hH2 : Ex H H'' := hH.trans u
    have et : (l.take (i + 1)) = l.take i ++ [l[i]] := (List.take_append_getElem hil).symm
    refine ht H'' hH2 _ fun H3 u3 => ?_
    have g3 := grown_up g2 u3
    have hH3 : Ex H H3 := hH2.trans u3
    cases hp : p l[i] with
    | true =>
      show te σ2 H3 _
      refine he hp H3 hH3 _ fun v G' H4 cl r => ?_
      rw [et, List.filter_append, List.map_append, List.filter_cons, if_pos hp]
      exact grown_snoc mS g3 hH3 cl r (by
        have h1 := List.length_filter_le p (l.take i)
        have h2 := List.length_take_le i l
        rw [List.length_map]
        omega)
    | false =>
      show Grown S H Hs D _ H3
      rw [et, List.filter_append, List.map_append, List.filter_cons, if_neg (by rw [hp]; simp)]
      simpa using g3
  · intro H' g
    have et : l.take n = l := by rw [hn]; exact List.take_length
    rw [et] at g
    obtain ⟨G, c, r, _⟩ := grown_end mS hD g
    exact q _ G H' c r
/-- over a list known to the base -/
theorem er_lcL {β γ : Type} {R : Hp → V → β → Prop} {S : Hp → V → γ → Prop} (mS : Mono S) {a : Addr} {xs : List V} {j : Nat} {vs : List Nat} {tt : TT} {l : List β} (p : β → Bool) (f : β → γ) (h : Ev tl σ H (.ref a)) (hx : SqL K H a xs) (hr : Paired (R H) xs l) (hz : l.length ≤ 40000)
    (hw : ∀ x, wipe ((wipe σ vs).set j (some x)) vs = wipe σ vs)
    (ht : ∀ x b, b ∈ l → R H x b → EvT tt ((wipe σ vs).set j (some x)) H (p b)) (he : ∀ x b, b ∈ l → R H x b → p b = true → EvR te ((wipe σ vs).set j (some x)) H (fun G v => S G v (f b))) :
    EvR (tLc (iList K tl) (gName j) tt te vs) σ H (fun G v => IsL S G v ((l.filter p).map f)) := fun H0 e Q q => h H0 e _ fun H1 e1 => ⟨a, rfl, ⟨xs, ex_l (e.trans e1) hx⟩, fun D hD =>
  lc_core2 mS (walk_list (K := K) (a := a) (xs := xs)) l p f (paired_len hr) (by rw [paired_len hr]; exact hz) (e.trans e1) hD (fun H' u => ex_l ((e.trans e1).trans u) hx) (fun i x b H' H'' hb hH y => by
    obtain ⟨rfl, hxi⟩ := y
    obtain ⟨b', hb', rb⟩ := paired_at hr hxi
    rw [hb] at hb'
    cases hb'
    have hm := List.mem_of_getElem? hb
    exact ⟨Ex.refl _, fun Qg k => k _ (hw x) (ht x b hm rb) (he x b hm rb)⟩)
    fun v G H2 c r => q v G H2 ⟨e1.trans c.up, c.old, c.part, fun b hb h1 => c.apart b hb (by
      cases w : H0 b with
      | none => exact absurd w h1
      | some o => rw [e1 b o w]; simp)⟩ r⟩
/-- over range(n) -/
def irange (n : Int) : List Int := (List.range n.toNat).map fun i : Nat => (i : Int)
theorem mem_irange {n i : Int} : i ∈ irange n ↔ 0 ≤ i ∧ i < n := by
  unfold irange
  rw [List.mem_map]
  constructor
  · rintro ⟨k, hk, rfl⟩
    rw [List.mem_range] at hk
    omega
  · rintro ⟨h1, h2⟩
    exact ⟨i.toNat, by rw [List.mem_range]; omega, by omega⟩
theorem irange_len (n : Int) : (irange n).length = n.toNat := by
  unfold irange
  rw [List.length_map, List.length_range]
theorem irange_at {n : Int} {i : Nat} {b : Int} (h : (irange n)[i]? = some b) : b = (i : Int) ∧ (i : Int) < n := by
  unfold irange at h
  rw [List.getElem?_map] at h
  obtain ⟨k, hk, rfl⟩ := Option.map_eq_some_iff.mp h
  obtain ⟨h1, h2⟩ := List.getElem?_eq_some_iff.mp hk
  rw [List.length_range] at h1
  rw [List.getElem_range] at h2
  omega
theorem er_lcR {γ : Type} {S : Hp → V → γ → Prop} (mS : Mono S) {ta : TA} {n : Int} {j : Nat} {vs : List Nat} {tt : TT} (p : Int → Bool) (f : Int → γ) (h : EvA ta σ H [.int n]) (hn : n ≤ 40000)
    (hw : ∀ x, wipe ((wipe σ vs).set j (some x)) vs = wipe σ vs)
    (ht : ∀ i, 0 ≤ i → i < n → EvT tt ((wipe σ vs).set j (some (.int i))) H (p i)) (he : ∀ i, 0 ≤ i → i < n → p i = true → EvR te ((wipe σ vs).set j (some (.int i))) H (fun G v => S G v (f i))) (h0 : -40000 ≤ n := by omega) :
    EvR (tLc (iRng1 ta) (gName j) tt te vs) σ H (fun G v => IsL S G v (((irange n).filter p).map f)) := fun H0 e Q q => h H0 e _ fun H1 e1 => ⟨n, rfl, by omega, by omega, fun D hD =>
  lc_core2 mS (walk_range (lo := 0) (n := n.toNat)) (irange n) p f (irange_len n).symm (by omega) (e.trans e1) hD (fun H' u => trivial) (fun i x b H' H'' hb hH y => by
    obtain ⟨rfl, rfl⟩ := y
    obtain ⟨rfl, hlt⟩ := irange_at hb
    have e0 : (0 : Int) + (i : Int) = (i : Int) := Int.zero_add _
    refine ⟨Ex.refl _, fun Qg k => ?_⟩
    show Qg ((wipe σ vs).set j (some (.int ((0 : Int) + (i : Int))))) H''
    rw [e0]
    exact k _ (hw _) (ht i (by omega) hlt) (he i (by omega) hlt))
    fun v G H2 c r => q v G H2 ⟨e1.trans c.up, c.old, c.part, fun b hb h1 => c.apart b hb (by
      cases w : H0 b with
      | none => exact absurd w h1
      | some o => rw [e1 b o w]; simp)⟩ r⟩
end
end Em

namespace Em
open PySem PySem.Spec PyProof.Rows L2 Evl
/-- nothing known -/
def Void : Hp := fun _ => none
theorem void_ex {H : Hp} : Ex Void H := fun _ _ h => by cases h
/-- all that comes out is new -/
def RetN {β : Type} (R : Hp → V → β → Prop) (b : β) (H : Hp) (Q : VK) : Prop := ∀ v G H2, Ex H H2 → Ex G H2 → (∀ a, H a ≠ none → G a = none) → R G v b → Q v H2
def SpN {β : Type} (sp : Sp) (vs : List V) (H : Hp) (R : Hp → V → β → Prop) (b : β) : Prop := ∀ H1, Ex H H1 → ∀ Q, RetN R b H1 Q → ∀ E, sp vs H1 Q E
theorem retn_clean {β : Type} {R : Hp → V → β → Prop} {b : β} {H H1 G : Hp} {Q : VK} {v : V} (k : RetN R b H Q) (e : Ex H H1) (c : Clean Void H G H1) (r : R G v b) : Q v H1 := k v G H1 e c.part (fun a h => c.apart a rfl h) r
section
variable {K : PySem.W.Frag} {σ : L2.St} {H H' : Hp} {ta tb te tl tx : TE} {t : TT} {x y z v : V}
theorem er_call {β : Type} {R : Hp → V → β → Prop} (m : Mono R) {sp : Sp} {vs : List V} {E : XK} {tA : TA} {b : β} (h : EvA tA σ H vs) (hs : SpN sp vs H R b) : EvR (tCall sp [] E tA) σ H (fun G v => R G v b) := fun H1 e Q q =>
  h H1 e _ fun H2 e2 => by
    rw [List.append_nil]
    refine hs H2 (e.trans e2) Q (fun v G H3 u g a r => q v (join H G) H3 ⟨e2.trans u, join_l, join_up ((e.trans e2).trans u) g, fun a0 h0 h1 => join_none h0 (a a0 ?_)⟩ (m _ _ _ _ (join_r ((e.trans e2).trans u) g) r)) E
    cases w : H1 a0 with
    | none => exact absurd w h1
    | some o => rw [e2 a0 o w]; simp
variable {D : Ends} {tu tw tz : TS}
theorem s_asgR {i : Nat} {B : Hp} {R : Hp → V → Prop} (h : EvR te σ B R) (e : Ex B H) (k : ∀ v G H1, Clean B H G H1 → R G v → D.nx (σ.set i (some v)) H1) : tAsg te (gName i) D σ H := h H e _ fun v G H1 c r => k v G H1 c r
theorem q_asgR {i : Nat} {B : Hp} {R : Hp → V → Prop} (h : EvR te σ B R) (e : Ex B H) (k : ∀ v G H1, Clean B H G H1 → R G v → tz D (σ.set i (some v)) H1) : tSeq (tAsg te (gName i)) tz D σ H := s_asgR (D := { D with nx := tz D }) h e k
theorem s_retR {B : Hp} {R : Hp → V → Prop} (h : EvR te σ B R) (e : Ex B H) (k : ∀ v G H1, Clean B H G H1 → R G v → D.rt v H1) : tRet te D σ H := h H e _ fun v G H1 c r => k v G H1 c r
/-- an append to a list that grows -/
theorem s_appG {γ : Type} {S : Hp → V → γ → Prop} (mS : Mono S) {B Hs : Hp} {F : Addr} {l : List γ} {c : γ} (g : Grown S B Hs F l H) (hB : Ex B H) (ha : Ev ta σ B (.ref F)) (h : EvR te σ B (fun G v => S G v c)) (hz : l.length < 50000)
    (k : ∀ H1, Ex Hs H1 → Grown S B Hs F (l ++ [c]) H1 → D.nx σ H1) : tDrop (tBM K "list" rAppend ta (tCons te tNil)) D σ H := ha H hB _ fun H1 e1 => by
  have g1 := grown_up g e1
  obtain ⟨G, ys, h1, h2, h3, h4, h5, h6, h7⟩ := id g1
  refine ⟨Or.inl ⟨rfl, ys, sq_of h6⟩, h H1 (hB.trans e1) _ fun v G' H2 cl r => ?_⟩
  obtain ⟨acc, a1, a2, a3⟩ := grown_snoc mS g1 (hB.trans e1) cl r (by omega)
  exact ⟨F, acc, v, rfl, rfl, a1, a2, k _ (grown_ex a3) a3⟩
/-- .. of what has been made since -/
theorem s_appW {γ : Type} {S : Hp → V → γ → Prop} (mS : Mono S) {B Hs G' H0 : Hp} {F : Addr} {l : List γ} {c : γ} (g : Grown S B Hs F l H0) (hB : Ex B H0) (ha : ∀ H', Ev ta σ H' (.ref F)) (cl : Clean B H0 G' H) (r : S G' v c) (h : ∀ H', Ev te σ H' v) (hz : l.length < 50000)
    (k : ∀ H1, Ex Hs H1 → Grown S B Hs F (l ++ [c]) H1 → D.nx σ H1) : tDrop (tBM K "list" rAppend ta (tCons te tNil)) D σ H := ha H H (Ex.refl _) _ fun H1 e1 => by
  have g1 := grown_up g (cl.up.trans e1)
  obtain ⟨G, ys, h1, h2, h3, h4, h5, h6, h7⟩ := id g1
  refine ⟨Or.inl ⟨rfl, ys, sq_of h6⟩, h H1 H1 (Ex.refl _) _ fun H2 e2 => ?_⟩
  obtain ⟨acc, a1, a2, a3⟩ := grown_snoc mS g hB (H2 := H2) ⟨(cl.up.trans e1).trans e2, cl.old, (cl.part.trans e1).trans e2, cl.apart⟩ r (by omega)
  exact ⟨F, acc, v, rfl, rfl, a1, a2, k _ (grown_ex a3) a3⟩
end
section
variable {K : PySem.W.Frag} {σ : L2.St} {H H' : Hp} {x y z v : V}
theorem isi_int_int {i : Int} : RC (rIsi K) [.int i, .ty "int"] H (.bl true) := fun H1 _ Q q => ⟨_, _, _, _, true, rfl, .ty "int", .base (.int i), kit_ty (by decide +kernel), q H1 (Ex.refl H1)⟩
theorem isi_int_bool {i : Int} : RC (rIsi K) [.int i, .ty "bool"] H (.bl false) := fun H1 _ Q q => ⟨_, _, _, _, false, rfl, .ty "bool", .base (.int i), kit_ty (by decide +kernel), q H1 (Ex.refl H1)⟩
theorem isi_bl_bool {b : Bool} : RC (rIsi K) [.bl b, .ty "bool"] H (.bl true) := fun H1 _ Q q => ⟨_, _, _, _, true, rfl, .ty "bool", .base (.bl b), kit_ty (by decide +kernel), q H1 (Ex.refl H1)⟩
theorem rc_min2 {i j : Int} : RC (fun xs H Q => ∃ i j, xs = [.int i, .int j] ∧ Q (.int (if j < i then j else i)) H) [.int i, .int j] H (.int (if j < i then j else i)) := fun H1 _ Q q => ⟨i, j, rfl, q H1 (Ex.refl H1)⟩
theorem rc_max2 {i j : Int} : RC (fun xs H Q => ∃ i j, xs = [.int i, .int j] ∧ Q (.int (if j > i then j else i)) H) [.int i, .int j] H (.int (if j > i then j else i)) := fun H1 _ Q q => ⟨i, j, rfl, q H1 (Ex.refl H1)⟩
end

theorem grown_new {γ : Type} {S : Hp → V → γ → Prop} {B Hs H0 : Hp} {D : Addr} (e : Ex B Hs) (hD : Hs D = none) (u : Ex Hs H0) (h : H0 D = some (.lst [])) : Grown S B Hs D [] H0 := by
  refine ⟨B, [], fun a o q => ?_, Ex.refl _, e.trans u, fresh_back e hD, fun _ h _ => h, h, .nil⟩
  have : a ≠ D := ne_of_none q hD
  simp only [this, if_false]
  exact u a o q
/-! ### the plan -/
def rowM (home : Int → Int → Bool) (opp : Int → Int → Int) (n r : Int) : List (Int × Int) := ((irange n).filter fun t => home t r).map fun t => (t, opp t r)
theorem irange_take {n : Int} {i : Nat} (h : (i : Int) < n) : (irange n).take (i + 1) = (irange n).take i ++ [(i : Int)] := by
  have hl : i < (irange n).length := by rw [irange_len]; omega
  rw [← List.take_append_getElem hl]
  congr 2
  have := irange_at (n := n) (i := i) (b := (irange n)[i]) (by simp [hl])
  rw [this.1]
theorem irange_all (n : Int) : (irange n).take n.toNat = irange n := by
  rw [← irange_len]
  exact List.take_length
end Em

namespace Em
/-! ### the mathematics of the told plan: no program here -/
/-- whom a team meets; whether it is at home; the round in which two meet -/
def oppM (n t r : Int) : Int := if t = n - 1 then r else if t = r then n - 1 else (2 * r - t) % (n - 1)
def homeM (n t r : Int) : Bool := if t = n - 1 then decide (r % 2 = 1) else if t = r then decide (r % 2 = 0) else decide ((t - r) % (n - 1) % 2 = 1)
def roundM (n a b : Int) : Int := if n - 1 = a ∨ n - 1 = b then (if b < a then b else a) else (a + b) * (n / 2) % (n - 1)

theorem emod3 {x m : Int} (h : 0 < m) (h1 : -m ≤ x) (h2 : x < 2 * m) : x % m = if x < 0 then x + m else if x < m then x else x - m := by
  split
  · have e : x % m = (x + m) % m := by rw [Int.add_emod_right]
    rw [e]
    exact Int.emod_eq_of_lt (by omega) (by omega)
  · split
    · exact Int.emod_eq_of_lt (by omega) (by omega)
    · have e : x % m = (x - m) % m := by rw [Int.sub_emod_right]
      rw [e]
      exact Int.emod_eq_of_lt (by omega) (by omega)

/-- a count of teams; a team; a round -/
def TeamsOk (n : Int) : Prop := 2 ≤ n ∧ n % 2 = 0
def TeamOk (n t : Int) : Prop := 0 ≤ t ∧ t < n
def RoundOk (n r : Int) : Prop := 0 ≤ r ∧ r < n - 1

theorem opp_lin {n t r : Int} (hn : TeamsOk n) (ht : TeamOk n t) (hr : RoundOk n r) : oppM n t r = if t = n - 1 then r else if t = r then n - 1 else if 2 * r - t < 0 then 2 * r - t + (n - 1) else if 2 * r - t < n - 1 then 2 * r - t else 2 * r - t - (n - 1) := by
  obtain ⟨h1, h2⟩ := hn
  obtain ⟨h3, h4⟩ := ht
  obtain ⟨h5, h6⟩ := hr
  unfold oppM
  split
  · rfl
  · split
    · rfl
    · exact emod3 (by omega) (by omega) (by omega)
theorem opp_ok {n t r : Int} (hn : TeamsOk n) (ht : TeamOk n t) (hr : RoundOk n r) : TeamOk n (oppM n t r) ∧ oppM n t r ≠ t ∧ oppM n (oppM n t r) r = t := by
  have e := opp_lin hn ht hr
  have a : TeamOk n (oppM n t r) := by
    rw [e]
    obtain ⟨h1, h2⟩ := hn
    obtain ⟨h3, h4⟩ := ht
    obtain ⟨h5, h6⟩ := hr
    unfold TeamOk
    split
    · omega
    · split
      · omega
      · split
        · omega
        · split <;> omega
  refine ⟨a, ?_, ?_⟩
  · rw [e]
    obtain ⟨h1, h2⟩ := hn
    obtain ⟨h3, h4⟩ := ht
    obtain ⟨h5, h6⟩ := hr
    split
    · omega
    · split
      · omega
      · split
        · omega
        · split <;> omega
  · rw [opp_lin hn a hr, e]
    obtain ⟨h1, h2⟩ := hn
    obtain ⟨h3, h4⟩ := ht
    obtain ⟨h5, h6⟩ := hr
    repeat' split
    all_goals omega
theorem home_lin {n t r : Int} (hn : TeamsOk n) (ht : TeamOk n t) (hr : RoundOk n r) : homeM n t r = if t = n - 1 then decide (r % 2 = 1) else if t = r then decide (r % 2 = 0) else if t - r < 0 then decide ((t - r + (n - 1)) % 2 = 1) else decide ((t - r) % 2 = 1) := by
  obtain ⟨h1, h2⟩ := hn
  obtain ⟨h3, h4⟩ := ht
  obtain ⟨h5, h6⟩ := hr
  unfold homeM
  split
  · rfl
  · split
    · rfl
    · rw [emod3 (x := t - r) (m := n - 1) (by omega) (by omega) (by omega)]
      split
      · rfl
      · rw [if_pos (by omega)]
theorem home_opp {n t r : Int} (hn : TeamsOk n) (ht : TeamOk n t) (hr : RoundOk n r) : homeM n (oppM n t r) r = !homeM n t r := by
  have a := (opp_ok hn ht hr).1
  rw [home_lin hn a hr, home_lin hn ht hr, opp_lin hn ht hr]
  obtain ⟨h1, h2⟩ := hn
  obtain ⟨h3, h4⟩ := ht
  obtain ⟨h5, h6⟩ := hr
  repeat' split
  all_goals first
    | omega
    | (rw [← decide_not]; exact decide_eq_decide.mpr (by omega))
theorem half_mul {m h s r j : Int} (hm : 2 * h = m + 1) (hs : s = 2 * r + m * j) : s * h = r + m * (r + j * h) := by
  subst hs
  have e : m = 2 * h - 1 := by omega
  subst e
  grind
theorem round_opp {n t r : Int} (hn : TeamsOk n) (ht : TeamOk n t) (hr : RoundOk n r) : roundM n t (oppM n t r) = r ∧ roundM n (oppM n t r) t = r := by
  have key : ∀ s : Int, 0 < n - 1 → (∃ j, s = 2 * r + (n - 1) * j) → s * (n / 2) % (n - 1) = r := by
    rintro s h0 ⟨j, hs⟩
    obtain ⟨h1, h2⟩ := hn
    obtain ⟨h5, h6⟩ := hr
    rw [half_mul (m := n - 1) (h := n / 2) (by omega) hs, Int.add_mul_emod_self_left]
    exact Int.emod_eq_of_lt h5 h6
  have e := opp_lin hn ht hr
  have hn' := hn
  have ht' := ht
  have hr' := hr
  obtain ⟨h1, h2⟩ := hn'
  obtain ⟨h3, h4⟩ := ht'
  obtain ⟨h5, h6⟩ := hr'
  unfold roundM
  by_cases c1 : t = n - 1
  · rw [if_pos c1] at e
    rw [e, if_pos (Or.inl c1.symm), if_pos (Or.inr c1.symm)]
    constructor
    · rw [if_pos (by omega)]
    · rw [if_neg (by omega)]
  · rw [if_neg c1] at e
    by_cases c2 : t = r
    · rw [if_pos c2] at e
      rw [e, if_pos (Or.inr rfl), if_pos (Or.inl rfl)]
      constructor
      · rw [if_neg (by omega)]
        exact c2
      · rw [if_pos (by omega)]
        exact c2
    · rw [if_neg c2] at e
      have c3 : ¬ oppM n t r = n - 1 := by
        rw [e]
        repeat' split
        all_goals omega
      rw [if_neg (by omega), if_neg (by omega)]
      have c4 : ∃ j, t + oppM n t r = 2 * r + (n - 1) * j := by
        rw [e]
        split
        · exact ⟨1, by omega⟩
        · split
          · exact ⟨0, by omega⟩
          · exact ⟨-1, by omega⟩
      refine ⟨key _ (by omega) c4, ?_⟩
      rw [Int.add_comm]
      exact key _ (by omega) c4
theorem round_two {n a b : Int} (hn : TeamsOk n) (ha : TeamOk n a) (hb : TeamOk n b) (hab : a ≠ b) : RoundOk n (roundM n a b) ∧ oppM n a (roundM n a b) = b ∧ oppM n b (roundM n a b) = a := by
  have one : RoundOk n (roundM n a b) ∧ oppM n a (roundM n a b) = b := by
    obtain ⟨h1, h2⟩ := hn
    obtain ⟨h3, h4⟩ := ha
    obtain ⟨h5, h6⟩ := hb
    unfold roundM RoundOk oppM
    by_cases c : n - 1 = a ∨ n - 1 = b
    · rw [if_pos c]
      rcases c with c | c
      · rw [if_pos (by omega), if_pos c.symm]
        exact ⟨by omega, rfl⟩
      · rw [if_neg (by omega), if_neg (by omega), if_pos rfl]
        exact ⟨by omega, c⟩
    · rw [if_neg c]
      have m0 : 0 < n - 1 := by omega
      have l1 := Int.emod_nonneg ((a + b) * (n / 2)) (b := n - 1) (by omega)
      have l2 := Int.emod_lt_of_pos ((a + b) * (n / 2)) (b := n - 1) m0
      have hq := Int.emod_add_mul_ediv ((a + b) * (n / 2)) (n - 1)
      generalize ((a + b) * (n / 2)) % (n - 1) = r at hq l1 l2
      generalize ((a + b) * (n / 2)) / (n - 1) = q at hq
      refine ⟨⟨l1, l2⟩, ?_⟩
      have e2 : 2 * r = (a + b) + (n - 1) * ((a + b) - 2 * q) := by
        have e3 : n = 2 * (n / 2) := by omega
        generalize n / 2 = h at e3 hq
        subst e3
        grind
      have e4 : (2 * r - a) % (n - 1) = b := by
        have : 2 * r - a = b + (n - 1) * ((a + b) - 2 * q) := by omega
        rw [this, Int.add_mul_emod_self_left]
        exact Int.emod_eq_of_lt (by omega) (by omega)
      rw [if_neg (by omega)]
      by_cases c2 : a = r
      · exfalso
        subst c2
        rw [show 2 * a - a = a by omega, Int.emod_eq_of_lt (by omega) (by omega)] at e4
        exact hab e4
      · rw [if_neg c2]
        exact e4
  refine ⟨one.1, one.2, ?_⟩
  have z := (opp_ok hn ha one.1).2.2
  rw [one.2] at z
  exact z
end Em

namespace Em
open PySem PySem.Spec PyProof.Rows L2 Evl
/-! ### plans judged: the plain functions -/
def hasT (p : Int × Int) (t : Int) : Bool := decide (t = p.1) || decide (t = p.2)
def cntM (row : List (Int × Int)) (t : Int) : Nat := (row.filter fun p => hasT p t).length
def loneM (row : List (Int × Int)) (t : Int) : Bool := !decide (cntM row t = 1)
def badRow (n : Int) (row : List (Int × Int)) : Bool := (irange n).any fun t => loneM row t
def kp (p : Int × Int) : Int × Int := (if p.2 < p.1 then p.2 else p.1, if p.2 > p.1 then p.2 else p.1)
abbrev Tab := List ((Int × Int) × Int)
def getI (tb : Tab) (k : Int × Int) : Int := ((tb.find? fun x => decide (x.1 = k)).map (·.2)).getD 0
def putI (tb : Tab) (k : Int × Int) (c : Int) : Tab := if (tb.any fun x => decide (x.1 = k)) = true then tb.map (fun x => if x.1 = k then (x.1, c) else x) else tb ++ [(k, c)]
def stepI (tb : Tab) (p : Int × Int) : Tab := putI tb (kp p) (getI tb (kp p) + 1)
def tabM (l : List (Int × Int)) : Tab := l.foldl stepI []
/-- as the model's dict holds it -/
def keyOf (k : Int × Int) : List Key := [.inl k.1, .inl k.2]
def encT (tb : Tab) : List (List Key × V) := tb.map fun x => (keyOf x.1, .int x.2)
theorem keyOf_inj {a b : Int × Int} : keyOf a = keyOf b ↔ a = b := by
  obtain ⟨a1, a2⟩ := a
  obtain ⟨b1, b2⟩ := b
  simp [keyOf]
theorem encT_val (k : Int × Int) : ∀ tb : Tab, (valV (encT tb) (keyOf k)).getD (.int 0) = .int (getI tb k)
  | [] => rfl
  | x :: tb => by
    have ih := encT_val k tb
    unfold encT getI at *
    by_cases h : x.1 = k
    · rw [List.map_cons, valV_pos (by rw [h])]
      simp [h]
    · rw [List.map_cons, valV_neg (fun q => h (keyOf_inj.mp q)), ih]
      simp [h]
theorem encT_any (k : Int × Int) (tb : Tab) : ((encT tb).any fun kv => decide (kv.1 = keyOf k)) = tb.any fun x => decide (x.1 = k) := by
  unfold encT
  rw [List.any_map]
  congr 1
  funext x
  simp [keyOf_inj]
theorem encT_put (k : Int × Int) (c : Int) (tb : Tab) : putK (encT tb) (keyOf k) (.int c) = encT (putI tb k c) := by
  unfold putK putI
  rw [encT_any]
  split
  · unfold encT
    rw [List.map_map, List.map_map]
    apply List.map_congr_left
    intro x _
    by_cases h : x.1 = k
    · simp [h]
    · have : ¬ keyOf x.1 = keyOf k := fun q => h (keyOf_inj.mp q)
      simp [h, this]
  · unfold encT
    simp
theorem putI_len (tb : Tab) (k : Int × Int) (c : Int) : (putI tb k c).length ≤ tb.length + 1 := by
  unfold putI
  split
  · simp
  · simp
theorem tab_len : ∀ (l : List (Int × Int)) (tb : Tab), (l.foldl stepI tb).length ≤ tb.length + l.length
  | [], tb => by simp
  | p :: l, tb => by
    have h1 := tab_len l (stepI tb p)
    have h2 := putI_len tb (kp p) (getI tb (kp p) + 1)
    show (l.foldl stepI (stepI tb p)).length ≤ tb.length + (p :: l).length
    unfold stepI at h1 ⊢
    rw [List.length_cons]
    omega
theorem tabM_len (l : List (Int × Int)) : (tabM l).length ≤ l.length := by
  have := tab_len l []
  unfold tabM
  simpa using this
theorem tabM_snoc (l : List (Int × Int)) (p : Int × Int) : tabM (l ++ [p]) = stepI (tabM l) p := by
  unfold tabM
  rw [List.foldl_append]
  rfl
/-- the greatest -/
def maxI (l : List Int) : Int := l.foldr (fun a b => if a > b then a else b) (l.headD 0)
theorem foldr_max (z : Int) : ∀ l : List Int, (∀ y ∈ l, y ≤ l.foldr (fun a b => if a > b then a else b) z) ∧ (l.foldr (fun a b => if a > b then a else b) z ∈ l ∨ l.foldr (fun a b => if a > b then a else b) z = z)
  | [] => ⟨(fun y h => by cases h), .inr rfl⟩
  | a :: l => by
    obtain ⟨h1, h2⟩ := foldr_max z l
    rw [List.foldr_cons]
    generalize l.foldr (fun a b => if a > b then a else b) z = m at h1 h2
    constructor
    · intro y hy
      rcases List.mem_cons.mp hy with rfl | hy
      · split <;> omega
      · have := h1 y hy
        split <;> omega
    · split
      · exact .inl (List.mem_cons_self)
      · rcases h2 with h2 | h2
        · exact .inl (List.mem_cons_of_mem _ h2)
        · exact .inr h2
theorem maxI_uniq {l : List Int} {m : Int} (h1 : m ∈ l) (h2 : ∀ y ∈ l, y ≤ m) : m = maxI l := by
  obtain ⟨g1, g2⟩ := foldr_max (l.headD 0) l
  have a := g1 m h1
  have b : maxI l ∈ l := by
    rcases g2 with g | g
    · exact g
    · unfold maxI
      rw [g]
      cases l with
      | nil => cases h1
      | cons x l => exact List.mem_cons_self
  have c := h2 _ b
  unfold maxI at c ⊢
  omega
def tabGood (n : Int) (tb : Tab) : Bool := decide ((tb.length : Int) = n * (n - 1) / 2) && decide (maxI (tb.map (·.2)) = 1)
def goodM (n : Int) (plan : List (List (Int × Int))) : Bool := !(plan.any (badRow n)) && tabGood n (tabM plan.flatten)
/-- a plan whose lists the model's line carries -/
def PlanSz (plan : List (List (Int × Int))) : Prop := plan.length ≤ 100 ∧ ∀ row ∈ plan, row.length ≤ 1000
theorem flatten_le {plan : List (List (Int × Int))} {a b : Nat} (h : plan.length ≤ a) (hr : ∀ row ∈ plan, row.length ≤ b) : plan.flatten.length ≤ a * b := by
  induction plan generalizing a with
  | nil => simp
  | cons r l ih =>
    cases a with
    | zero => simp at h
    | succ a =>
      rw [List.flatten_cons, List.length_append]
      have h1 := hr r List.mem_cons_self
      have h2 := ih (a := a) (by simpa using h) fun q hq => hr q (List.mem_cons_of_mem _ hq)
      rw [Nat.add_mul]
      omega
def planM (n : Int) : List (List (Int × Int)) := (irange (n - 1)).map (rowM (homeM n) (oppM n) n)
section
variable {K : PySem.W.Frag} {σ : L2.St} {H H' : Hp} {ta tb te tl tx : TE} {t : TT} {x y z v : V}
theorem atI_ints {l : List Int} {i : Int} (h0 : 0 ≤ i) (h : i < (l.length : Int)) : atI (l.map V.int) i = some (.int (l.getD i.toNat 0)) := by
  have hi : i.toNat < l.length := by omega
  have e : i = ((i.toNat : Nat) : Int) := by omega
  rw [e]
  refine atI_nat ?_
  rw [Int.toNat_natCast, List.getElem?_map, List.getD_eq_getElem?_getD]
  simp [hi]
theorem ea_is {tA : TA} {vs ws : List V} (h : EvA tA σ H vs) (e : vs = ws) : EvA tA σ H ws := by
  rw [← e]
  exact h
theorem rv_p18 : RV (rI CPow fun i j => .int (i ^ j.toNat)) (.int 10) (.int 18) H (.int (10 ^ 18)) := rv_I (C := CPow) (g := fun i j => V.int (i ^ j.toNat)) (i := 10) (j := 18) ⟨by decide, by decide, by decide⟩
theorem rv_p40 : RV (rI CPow fun i j => .int (i ^ j.toNat)) (.int 10) (.int 40) H (.int (10 ^ 40)) := rv_I (C := CPow) (g := fun i j => V.int (i ^ j.toNat)) (i := 10) (j := 40) ⟨by decide, by decide, by decide⟩
/-- an item of a tuple just made -/
theorem ev_ixU {xs : List V} {i : Int} (ha : EvU ta σ H xs) (hb : Ev tb σ H (.int i)) (hi : atI xs i = some v) : Ev (tOp (rIxT K) ta tb) σ H v := fun H1 e Q q =>
  ha H1 e _ fun p H2 _ e2 hp => hb H2 (e.trans e2) _ fun H3 e3 => ⟨p, xs, i, v, rfl, rfl, st_of (e3 p _ hp), hi, q H3 (e2.trans e3)⟩
theorem ev_ixL {p : Addr} {xs : List V} {i : Int} (ha : Ev ta σ H (.ref p)) (hx : SqL K H p xs) (hb : Ev tb σ H (.int i)) (hi : atI xs i = some v) : Ev (tOp (rIxL K) ta tb) σ H v := ev_op ha hb (rv_ixL hx hi)
theorem ev_ixT {p : Addr} {xs : List V} {i : Int} (ha : Ev ta σ H (.ref p)) (hx : SqT K H p xs) (hb : Ev tb σ H (.int i)) (hi : atI xs i = some v) : Ev (tOp (rIxT K) ta tb) σ H v := ev_op ha hb (rv_ixT hx hi)
/-- len, any, all of a list just made -/
theorem ev_lenR {β : Type} {S : Hp → V → β → Prop} {l : List β} (h : EvR te σ H (fun G v => IsL S G v l)) : Ev (tCB (rLenS K) (tCons te tNil)) σ H (.int (l.length : Int)) := fun H1 e Q q =>
  h H1 e _ fun v G H2 c r => by
    obtain ⟨a, vs, rfl, h2, h3⟩ := r
    refine ⟨a, vs, rfl, Or.inl (sq_of (c.part a _ h2)), ?_⟩
    rw [paired_len h3]
    exact q H2 c.up
theorem ev_anyR {l : List Bool} (h : EvR te σ H (fun G v => IsL (IsV V.bl) G v l)) : Ev (tCB (rAny K) (tCons te tNil)) σ H (.bl (l.any id)) := fun H1 e Q q =>
  h H1 e _ fun v G H2 c r => by
    obtain ⟨a, rfl, h2⟩ := isL_V r
    exact ⟨a, l, rfl, sq_of (c.part a _ h2), q H2 c.up⟩
theorem ev_allR {l : List Bool} (h : EvR te σ H (fun G v => IsL (IsV V.bl) G v l)) : Ev (tCB (rAll K) (tCons te tNil)) σ H (.bl (l.all id)) := fun H1 e Q q =>
  h H1 e _ fun v G H2 c r => by
    obtain ⟨a, rfl, h2⟩ := isL_V r
    exact ⟨a, l, rfl, sq_of (c.part a _ h2), q H2 c.up⟩
theorem inV2 {x a b : Int} : inV (.int x) [.int a, .int b] = (decide (x = a) || decide (x = b)) := by
  have e : ∀ p q : Int, (p == q) = decide (p = q) := fun p q => rfl
  simp only [inV, List.any_cons, List.any_nil, Bool.or_false, eqV]
  first
    | rfl
    | (simp [e, eq_comm])
/-- t in a pair -/
theorem ev_inP {t : Int} {p : Int × Int} {v : V} (ha : Ev ta σ H (.int t)) (hb : Ev tb σ H v) (hp : IsPair H v p) : Ev (tOp (rIn K false) ta tb) σ H (.bl (hasT p t)) := by
  obtain ⟨a, rfl, h⟩ := hp
  exact ev_is (ev_op ha hb (rv_isT (st_of h) rfl rfl)) (by rw [inV2]; rfl)
end
/-! dicts with pairs of ints for keys -/
section
variable {K : PySem.W.Frag} {σ : L2.St} {H H' : Hp} {td ty tx tv ta tb te : TE} {x y z v : V} {D : Ends} {tz : TS}
theorem q_asgD {i : Nat} (k : ∀ d, H d = none → tz D (σ.set i (some (.ref d))) (upd H d (.dT []))) : tSeq (tAsg tDNewT (gName i)) tz D σ H := fun d hd => k d hd
theorem ev_dget2 {d t : Addr} {kvs : List (List Key × V)} {k : List Key} (h1 : Ev td σ H (.ref d)) (hd : H d = some (.dT kvs)) (h2 : Ev ty σ H (.ref t)) (ht : H t = some (.tup (k.map kV))) (h3 : Ev tx σ H z) : Ev (tDGet2 td ty tx) σ H ((valV kvs k).getD z) := fun H1 e Q q =>
  h1 H1 e _ fun H2 e2 => ⟨d, rfl, Or.inr ⟨kvs, Or.inl ((e.trans e2) d _ hd)⟩, h2 H2 (e.trans e2) _ fun H3 e3 => h3 H3 ((e.trans e2).trans e3) _ fun H4 e4 =>
    ⟨_, DGet.t ((((e.trans e2).trans e3).trans e4) d _ hd) ((((e.trans e2).trans e3).trans e4) t _ ht), q H4 ((e2.trans e3).trans e4)⟩⟩
theorem s_dput {d t : Addr} {kvs : List (List Key × V)} {k : List Key} (hv : Ev tv σ H v) (h1 : Ev td σ H (.ref d)) (hd : H d = some (.dT kvs)) (h2 : Ev ty σ H (.ref t)) (ht : H t = some (.tup (k.map kV))) (hl : kvs.length < 1000000)
    (q : ∀ H1, Ex H H1 → D.nx σ (upd H1 d (.dT (putK kvs k v)))) : sDPut td ty tv D σ H := hv H (Ex.refl _) _ fun H2 e2 => h1 H2 e2 _ fun H3 e3 => h2 H3 (e2.trans e3) _ fun H4 e4 =>
  ⟨d, _, rfl, DPut.t (((e2.trans e3).trans e4) d _ hd) (((e2.trans e3).trans e4) t _ ht) (Nat.lt_of_lt_of_le hl (by decide)), q H4 ((e2.trans e3).trans e4)⟩
theorem ev_lenT {d : Addr} {kvs : List (List Key × V)} (h : Ev ta σ H (.ref d)) (hd : H d = some (.dT kvs)) : Ev (tCB rLenT (tCons ta tNil)) σ H (.int (kvs.length : Int)) := fun H1 e Q q =>
  h H1 e _ fun H2 e2 => ⟨d, kvs, rfl, (e.trans e2) d _ hd, q H2 e2⟩
theorem ev_maxV {d : Addr} {tb : Tab} (h : Ev ta σ H (.ref d)) (hd : H d = some (.dT (encT tb))) (hne : 0 < tb.length) : Ev (tCB rMaxV (tCons (tBM0 K "dict" rValuesT ta) tNil)) σ H (.int (maxI (tb.map (·.2)))) := fun H1 e Q q =>
  h H1 e _ fun H2 e2 => ⟨Or.inr (Or.inr (Or.inl ⟨rfl, Or.inr ⟨_, (e.trans e2) d _ hd⟩⟩)), d, _, rfl, rfl, (e.trans e2) d _ hd, fun p hp =>
    ⟨p, d, encT tb, tb.map (·.2), rfl, upd_same, by rw [upd_ne (ne_of_none ((e.trans e2) d _ hd) hp)]; exact (e.trans e2) d _ hd, by simp [encT, List.map_map, Function.comp_def], by rw [List.length_map]; exact hne, fun m h1 h2 => by
      rw [maxI_uniq h1 h2]
      exact q _ (e2.trans (Ex.new hp))⟩⟩
/-- a, b = a pair -/
theorem gp_run {i j : Nat} {p : Int × Int} {Q : L2.St → Hp → Prop} (hp : IsPair H x p) (k : Q ((σ.set i (some (.int p.1))).set j (some (.int p.2))) H) : gTup K 2 (gCons (gName i) (gCons (gName j) gNil)) x σ H Q := by
  obtain ⟨t, rfl, ht⟩ := hp
  exact ⟨t, _, rfl, st_of ht, rfl, _, _, rfl, _, _, rfl, rfl, k⟩
end
/-! the rules with the written part named (within a comprehension's block it may not hang on the block) -/
section
variable {X : Cx} {K : PySem.W.Frag} {tg l a b : Expr} {tl ta tb te : TE} {pos : Pos}
theorem k_in (hK : X.K = K := by rfl) : OpR X (compareOp .In) (rIn K false) := hK ▸ op_in_seq
theorem k_notin (hK : X.K = K := by rfl) : OpR X (compareOp .NotIn) (rIn K true) := hK ▸ op_notIn_seq
theorem k_ixL (hK : X.K = K := by rfl) : IxR X (rIxL K) := hK ▸ ix_list
theorem k_ixT (hK : X.K = K := by rfl) : IxR X (rIxT K) := hK ▸ ix_tup
theorem k_len (hK : X.K = K := by rfl) : CallR X (.builtin "len") (rLenS K) := hK ▸ call_len_seq
theorem k_isi (hK : X.K = K := by rfl) : CallR X (.builtin "isinstance") (rIsi K) := hK ▸ call_isi
theorem k_any (hc : X.calm = true) (hK : X.K = K := by rfl) : CallR X (.builtin "any") (rAny K) := hK ▸ cr_any hc
theorem k_all (hc : X.calm = true) (hK : X.K = K := by rfl) : CallR X (.builtin "all") (rAll K) := hK ▸ cr_all hc
theorem k_sum (hc : X.calm = true) (hK : X.K = K := by rfl) : CallR X (.builtin "sum") (rSum K) := hK ▸ cr_sum hc
theorem k_listof (hK : X.K = K := by rfl) : CallR X (.type "list") (rListS K) := hK ▸ call_list_of
theorem k_slL (hK : X.K = K := by rfl) : SlR X (rSlL K) := hK ▸ sl_list
theorem k_eqD (hu : X.A.units + 64 < cLine) (hK : X.K = K := by rfl) : OpR X (compareOp .Eq) (rEqD K) := hK ▸ op_eqD hu
theorem k_neD (hu : X.A.units + 64 < cLine) (hK : X.K = K := by rfl) : OpR X (compareOp .NotEq) (rNeD K) := hK ▸ op_neD hu
theorem k_list (hl : PE X l tl) (hK : X.K = K := by rfl) : PI X tg l (iList K tl) := hK ▸ pi_list hl
theorem k_tup (hl : PE X l tl) (hK : X.K = K := by rfl) : PI X tg l (iTup K tl) := hK ▸ pi_tup hl
theorem k_revL {e : Expr} {k : Nat} {p1 p2 p3 : Pos} (he : PE X e te) (hK : X.K = K := by rfl) : PE X (.Subscript e (.Slice none none (some (.UnaryOp .USub (.Constant (.int 1) k p1) p2)) p3) pos) (tRevL K te) := hK ▸ pe_revL he
theorem k_gtup {es : List Expr} {k : Nat} {t : TGs} {n : Nat} (hc : X.calm = true) (h : PGs X es t) (hn : (assignEach es X.env).length = n := by rfl) (hst : (assignEach es X.env).findIdx? (·.1) = none := by rfl) (hK : X.K = K := by rfl) : PG X (.Tuple es k pos) (gTup K n t) := hK ▸ pg_tup hc h hn hst
end
theorem mul_pow {i j : Int} {a b : Nat} (ha : i.natAbs < 2 ^ a) (hb : j.natAbs < 2 ^ b) (h0 : 0 < a) (h1 : 0 < b) (h : a + b ≤ 1000000) : IntMulOk i j := (wide_mul ha hb h0 h1 h).ok
/-- a number whose bits the script's line carries -/
def BitsOk (c : Int) : Prop := Builtin.Int.intBits c ≤ 1048576
theorem bits_abs {c : Int} {e : Nat} (h : Builtin.Int.intBits c ≤ e) : c.natAbs < 2 ^ e := by
  unfold Builtin.Int.intBits at h
  split at h
  · rename_i q
    have : c = 0 := by simpa using q
    subst this
    exact Nat.two_pow_pos e
  · by_cases hz : c.natAbs = 0
    · rw [hz]
      exact Nat.two_pow_pos e
    · exact Nat.lt_of_lt_of_le ((Nat.log2_lt hz).mp (Nat.lt_succ_self _)) (Nat.pow_le_pow_right (by decide) h)
theorem abs_bits {c : Int} {e : Nat} (h : c.natAbs < 2 ^ e) : Builtin.Int.intBits c ≤ e := by
  unfold Builtin.Int.intBits
  split
  · exact Nat.zero_le _
  · rename_i q
    have hz : c.natAbs ≠ 0 := by
      intro z
      have : c = 0 := by omega
      exact q (by simp [this])
    exact (Nat.log2_lt hz).mpr h
theorem bits_add {c d : Int} {e : Nat} (h : Builtin.Int.intBits c ≤ e) (h2 : d.natAbs < 2 ^ e) : Builtin.Int.intBits (c + d) ≤ e + 1 := by
  refine abs_bits ?_
  have := bits_abs h
  rw [Nat.pow_succ]
  omega
theorem mul_big {i j : Int} {e : Nat} (h1 : Builtin.Int.intBits i ≤ e) (h2 : Builtin.Int.intBits j ≤ e) (he : e ≤ 60000000) : IntMulOk i j := by
  have el : bitsLine = 134217728 := by decide
  unfold IntMulOk
  intro z
  rw [Bool.and_eq_true] at z
  have z2 := z.2
  unfold Builtin.Int.intTooBig at z2
  have z3 := of_decide_eq_true z2
  rw [el] at z3
  omega
theorem mul_cell {c k : Int} (h : BitsOk c) (h0 : 0 ≤ k) (h1 : k ≤ 1000) : IntMulOk (c + 977 * k) (c + 31 * k + 5) := by
  unfold BitsOk at h
  have key : ∀ e : Nat, 30 ≤ e → e ≤ 50000000 → Builtin.Int.intBits c ≤ e → IntMulOk (c + 977 * k) (c + 31 * k + 5) := by
    intro e e1 e2 h
    have p : 2 ^ 30 ≤ 2 ^ e := Nat.pow_le_pow_right (by decide) e1
    have a := bits_add (d := 977 * k) h (by omega)
    have b := bits_add (d := 31 * k + 5) h (by omega)
    rw [show c + 31 * k + 5 = c + (31 * k + 5) by omega]
    exact mul_big a b (by omega)
  exact key 1048576 (by decide) (by decide) h
theorem mul_small_r {i j : Int} (h1 : -(2 ^ 64) < j) (h2 : j < 2 ^ 64) : IntMulOk i j := .of_right (intBits_le_64 h1 h2)
theorem mul_small_l {i j : Int} (h1 : -(2 ^ 64) < i) (h2 : i < 2 ^ 64) : IntMulOk i j := .of_left (intBits_le_64 h1 h2)
end Em

namespace Em
open PySem PySem.Spec PyProof.Rows L2 Evl
/-! ### == of data -/
theorem eqvAll_map {β : Type} [DecidableEq β] {f : β → PyData} (h : ∀ a b, PyData.eqv (f a) (f b) = decide (a = b)) : ∀ l m : List β, PyData.eqvAll (l.map f) (m.map f) = decide (l = m)
  | [], [] => by simp [PyData.eqvAll]
  | [], b :: m => by simp [PyData.eqvAll]
  | a :: l, [] => by simp [PyData.eqvAll]
  | a :: l, b :: m => by
    rw [List.map_cons, List.map_cons, PyData.eqvAll, h, eqvAll_map h l m]
    simp
theorem eqv_list {β : Type} [DecidableEq β] {f : β → PyData} (h : ∀ a b, PyData.eqv (f a) (f b) = decide (a = b)) (l m : List β) : PyData.eqv (.list (l.map f)) (.list (m.map f)) = decide (l = m) := by
  rw [PyData.eqv]
  exact eqvAll_map h l m
theorem eqv_int (a b : Int) : PyData.eqv (.int a) (.int b) = decide (a = b) := by
  rw [PyData.eqv]
  rfl
def dPair (p : Int × Int) : PyData := .tuple [.int p.1, .int p.2]
theorem eqv_pair (p q : Int × Int) : PyData.eqv (dPair p) (dPair q) = decide (p = q) := by
  obtain ⟨a, b⟩ := p
  obtain ⟨c, d⟩ := q
  unfold dPair
  rw [PyData.eqv, PyData.eqvAll, PyData.eqvAll, PyData.eqvAll, eqv_int, eqv_int]
  simp
/-- what the model's == takes: no dict, not too deep -/
def Sh (k : Nat) (d : PyData) : Prop := d.canLay0 = true ∧ d.depth ≤ k
theorem sh_shaped {k : Nat} {d : PyData} (h : Sh k d) (hk : k ≤ 64) : SeqAt.shaped d = true := by
  unfold SeqAt.shaped
  rw [h.1, decide_eq_true (Nat.le_trans h.2 hk)]
  rfl
theorem sh_all {β : Type} {k : Nat} {f : β → PyData} (h : ∀ b, Sh k (f b)) : ∀ l : List β, PyData.canLayAll0 (l.map f) = true ∧ PyData.depthAll (l.map f) ≤ k
  | [] => ⟨by simp [PyData.canLayAll0], by simp [PyData.depthAll]⟩
  | b :: l => by
    obtain ⟨h1, h2⟩ := sh_all h l
    rw [List.map_cons, PyData.canLayAll0, PyData.depthAll, (h b).1, h1]
    exact ⟨rfl, Nat.max_le.mpr ⟨(h b).2, h2⟩⟩
theorem sh_list {β : Type} {k : Nat} {f : β → PyData} (h : ∀ b, Sh k (f b)) (l : List β) : Sh (k + 1) (.list (l.map f)) := by
  obtain ⟨h1, h2⟩ := sh_all h l
  exact ⟨by rw [PyData.canLay0]; exact h1, by rw [PyData.depth]; omega⟩
theorem sh_int (i : Int) : Sh 1 (.int i) := ⟨by rw [PyData.canLay0], by simp [PyData.depth]⟩
theorem sh_pair (p : Int × Int) : Sh 2 (dPair p) := by
  unfold dPair
  refine ⟨?_, ?_⟩
  · simp [PyData.canLay0, PyData.canLayAll0]
  · simp [PyData.depth, PyData.depthAll]
def dRow (l : List (Int × Int)) : PyData := .list (l.map dPair)
def dPlan (l : List (List (Int × Int))) : PyData := .list (l.map dRow)
def dInts (l : List Int) : PyData := .list (l.map PyData.int)
theorem eqv_row (l m : List (Int × Int)) : PyData.eqv (dRow l) (dRow m) = decide (l = m) := eqv_list eqv_pair l m
theorem eqv_plan (l m : List (List (Int × Int))) : PyData.eqv (dPlan l) (dPlan m) = decide (l = m) := eqv_list eqv_row l m
theorem eqv_ints (l m : List Int) : PyData.eqv (dInts l) (dInts m) = decide (l = m) := eqv_list eqv_int l m
theorem sh_row (l : List (Int × Int)) : SeqAt.shaped (dRow l) = true := sh_shaped (sh_list sh_pair l) (by decide)
theorem sh_plan (l : List (List (Int × Int))) : SeqAt.shaped (dPlan l) = true := sh_shaped (sh_list (sh_list sh_pair) l) (by decide)
theorem sh_ints (l : List Int) : SeqAt.shaped (dInts l) = true := sh_shaped (sh_list sh_int l) (by decide)
section
variable {K : PySem.W.Frag} {σ : L2.St} {H H' : Hp} {ta tb te tl tx : TE} {tt : TT} {x y z v : V} {β γ : Type}
theorem dp_all {R : Hp → V → β → Prop} {f : β → PyData} (h : ∀ v b, R H v b → Dp K H v (f b)) : ∀ {vs : List V} {l : List β}, Paired (R H) vs l → DpAll K H vs (l.map f)
  | _, _, .nil => .nil
  | _, _, .cons r t => .cons (h _ _ r) (dp_all h t)
theorem dp_list {R : Hp → V → β → Prop} {f : β → PyData} (h : ∀ v b, R H v b → Dp K H v (f b)) {v : V} {l : List β} (r : IsL R H v l) : Dp K H v (.list (l.map f)) := by
  obtain ⟨a, vs, rfl, ha, hp⟩ := r
  exact .lst (sq_of ha) (dp_all h hp)
theorem dp_pair {p : Int × Int} (r : IsPair H v p) : Dp K H v (dPair p) := by
  obtain ⟨t, rfl, h⟩ := r
  exact .tup (st_of h) (.cons (.int _) (.cons (.int _) .nil))
theorem dp_row {l : List (Int × Int)} (r : IsRow H v l) : Dp K H v (dRow l) := dp_list (fun _ _ q => dp_pair q) r
theorem dp_plan {l : List (List (Int × Int))} (r : IsPlan H v l) : Dp K H v (dPlan l) := dp_list (fun _ _ q => dp_row q) r
theorem dp_ints {l : List Int} (r : IsL (IsV V.int) H v l) : Dp K H v (dInts l) := dp_list (fun v b q => by rw [show v = V.int b from q]; exact .int b) r
theorem mono_ints : Mono (IsL (IsV V.int)) := mono_L mono_V
/-- two things of one kind compared -/
theorem rv_neK {R : Hp → V → β → Prop} (m : Mono R) {f : β → PyData} (dp : ∀ H v b, R H v b → Dp K H v (f b)) (sh : ∀ b, SeqAt.shaped (f b) = true) {b c : β} (h1 : R H x b) (h2 : R H y c) : RV (rNeD K) x y H (.bl (!PyData.eqv (f b) (f c))) := fun H1 e Q q =>
  ⟨_, _, dp _ _ _ (m _ _ _ _ e h1), dp _ _ _ (m _ _ _ _ e h2), sh b, sh c, q H1 (Ex.refl _)⟩
theorem rv_eqK {R : Hp → V → β → Prop} (m : Mono R) {f : β → PyData} (dp : ∀ H v b, R H v b → Dp K H v (f b)) (sh : ∀ b, SeqAt.shaped (f b) = true) {b c : β} (h1 : R H x b) (h2 : R H y c) : RV (rEqD K) x y H (.bl (PyData.eqv (f b) (f c))) := fun H1 e Q q =>
  ⟨_, _, dp _ _ _ (m _ _ _ _ e h1), dp _ _ _ (m _ _ _ _ e h2), sh b, sh c, q H1 (Ex.refl _)⟩
/-- the second operand, both operands told by relations -/
theorem ev_opR {r : R2} {R : Hp → V → Prop} (ha : Ev ta σ H x) (hb : EvR tb σ H R) (hr : ∀ v G, Ex H G → R G v → RV r x v G z) : Ev (tOp r ta tb) σ H z := fun H1 e Q q =>
  ha H1 e _ fun H2 e2 => hb H2 (e.trans e2) _ fun v G H3 c r => hr v G c.old r H3 c.part Q fun H4 e4 => q H4 ((e2.trans c.up).trans e4)
theorem ev_opRR {r : R2} {R S : Hp → V → Prop} (mR : ∀ H H' v, Ex H H' → R H v → R H' v) (ha : EvR ta σ H R) (hb : EvR tb σ H S) (hr : ∀ u v G, Ex H G → R G u → S G v → RV r u v G z) (mS : ∀ H H' v, Ex H H' → S H v → S H' v) : Ev (tOp r ta tb) σ H z := fun H1 e Q q =>
  ha H1 e _ fun u G H2 c r => hb H2 (e.trans c.up) _ fun v G' H3 c' r' => by
    have u1 : Ex G H3 := c.part.trans c'.up
    exact hr u v (join G G') (c.old.trans join_l) (mR _ _ _ join_l r) (mS _ _ _ (join_r u1 c'.part) r') H3 (join_up u1 c'.part) Q fun H4 e4 => q H4 ((c.up.trans c'.up).trans e4)
/-- a call whose second argument is told by a relation -/
theorem ev_callR2 {sp : Sp} {E : XK} {R : Hp → V → Prop} (ha : Ev ta σ H x) (hb : EvR tb σ H R) (hs : ∀ v G, Ex H G → R G v → SpV sp [x, v] G z) : Ev (tCall sp [] E (tCons ta (tCons tb tNil))) σ H z := fun H1 e Q q =>
  ha H1 e _ fun H2 e2 => hb H2 (e.trans e2) _ fun v G H3 c r => hs v G c.old r H3 c.part Q (fun H4 e4 => q H4 ((e2.trans c.up).trans e4)) E
/-- a comprehension over a list, a tuple just made -/
theorem er_lcN {R : Hp → V → β → Prop} {S : Hp → V → γ → Prop} (mS : Mono S) {j : Nat} {vs : List Nat} {l : List β} (p : β → Bool) (f : β → γ) (h : EvR tl σ H (fun G v => IsL R G v l)) (hz : l.length ≤ 40000)
    (hw : ∀ x, wipe ((wipe σ vs).set j (some x)) vs = wipe σ vs)
    (ht : ∀ x b G, b ∈ l → Ex H G → R G x b → EvT tt ((wipe σ vs).set j (some x)) G (p b)) (he : ∀ x b G, b ∈ l → Ex H G → R G x b → p b = true → EvR te ((wipe σ vs).set j (some x)) G (fun G v => S G v (f b))) :
    EvR (tLc (iList K tl) (gName j) tt te vs) σ H (fun G v => IsL S G v ((l.filter p).map f)) := fun H0 e Q q => h H0 e _ fun v G H1 c r => by
  obtain ⟨a, xs, rfl, ha, hr⟩ := r
  refine ⟨a, rfl, ⟨xs, sq_of (c.part a _ ha)⟩, fun D hD => ?_⟩
  refine lc_core2 mS (walk_list (K := K) (a := a) (xs := xs)) l p f (paired_len hr) (by rw [paired_len hr]; exact hz) c.part hD (fun H' u => sq_of (u a _ (c.part a _ ha))) (fun i x b H' H'' hb hH y => ?_) fun v G' H2 c' r' => q v G' H2 (c.trans c') r'
  obtain ⟨rfl, hxi⟩ := y
  obtain ⟨b', hb', rb⟩ := paired_at hr hxi
  rw [hb] at hb'
  cases hb'
  have hm := List.mem_of_getElem? hb
  exact ⟨Ex.refl _, fun Qg k => k _ (hw x) (ht x b G hm c.old rb) (he x b G hm c.old rb)⟩
theorem er_lcU {S : Hp → V → γ → Prop} (mS : Mono S) {j : Nat} {vs : List Nat} {l : List β} {cd : β → V} (p : β → Bool) (f : β → γ) (h : EvU tl σ H (l.map cd)) (hz : l.length ≤ 40000)
    (hw : ∀ x, wipe ((wipe σ vs).set j (some x)) vs = wipe σ vs)
    (ht : ∀ b G, b ∈ l → Ex H G → EvT tt ((wipe σ vs).set j (some (cd b))) G (p b)) (he : ∀ b G, b ∈ l → Ex H G → p b = true → EvR te ((wipe σ vs).set j (some (cd b))) G (fun G v => S G v (f b))) :
    EvR (tLc (iTup K tl) (gName j) tt te vs) σ H (fun G v => IsL S G v ((l.filter p).map f)) := fun H0 e Q q => h H0 e _ fun a H1 hp0 e1 ha => by
  have c : Clean H H0 (upd H a (.tup (l.map cd))) H1 := Clean.new e hp0 e1 ha
  refine ⟨a, rfl, ⟨_, st_of ha⟩, fun D hD => ?_⟩
  refine lc_core2 mS (walk_tup (K := K) (a := a) (xs := l.map cd)) l p f (List.length_map _) (by rw [List.length_map]; exact hz) c.part hD (fun H' u => st_of (u a _ ha)) (fun i x b H' H'' hb hH y => ?_) fun v G' H2 c' r' => q v G' H2 (c.trans c') r'
  obtain ⟨rfl, hxi⟩ := y
  rw [List.getElem?_map, hb] at hxi
  cases hxi
  have hm := List.mem_of_getElem? hb
  exact ⟨Ex.refl _, fun Qg k => k _ (hw _) (ht b _ hm c.old) (he b _ hm c.old)⟩
/-- a for over a tuple just made -/
theorem s_forNT {g : TG} {tu : TS} {D : Ends} {xs : List V} (h : EvU tl σ H xs) (Pv : Nat → L2.St → Hp → Prop) (h0 : ∀ H1, Ex H H1 → Pv 0 σ H1) (hx : ∀ i σ' H', Pv i σ' H' → Ex H H')
    (hs : ∀ p i x σ' H', H' p = some (.tup xs) → xs[i]? = some x → Pv i σ' H' → g x σ' H' fun σ2 H2 => tu { D with nx := fun σ3 H3 => H3 p = some (.tup xs) ∧ Pv (i + 1) σ3 H3, ct := fun σ3 H3 => H3 p = some (.tup xs) ∧ Pv (i + 1) σ3 H3, bk := D.nx } σ2 H2) (hd : ∀ σ' H', Pv xs.length σ' H' → D.nx σ' H') : tFor (iTup K tl) g tu D σ H :=
  h H (Ex.refl H) _ fun p H1 hp e h1 => ⟨p, rfl, ⟨xs, st_of h1⟩, for_tup (fun i σ' H' => H' p = some (.tup xs) ∧ Pv i σ' H') ⟨h1, h0 H1 e⟩ (fun i σ' H' _ q => st_of q.1) (fun i x σ' H' hx' q => hs p i x σ' H' q.1 hx' q.2) fun σ' H' q => hd σ' H' q.2⟩
theorem q_forNT {g : TG} {tu tz : TS} {D : Ends} {xs : List V} (h : EvU tl σ H xs) (Pv : Nat → L2.St → Hp → Prop) (h0 : ∀ H1, Ex H H1 → Pv 0 σ H1) (hx : ∀ i σ' H', Pv i σ' H' → Ex H H')
    (hs : ∀ p i x σ' H', H' p = some (.tup xs) → xs[i]? = some x → Pv i σ' H' → g x σ' H' fun σ2 H2 => tu { D with nx := fun σ3 H3 => H3 p = some (.tup xs) ∧ Pv (i + 1) σ3 H3, ct := fun σ3 H3 => H3 p = some (.tup xs) ∧ Pv (i + 1) σ3 H3, bk := tz D } σ2 H2) (hd : ∀ σ' H', Pv xs.length σ' H' → tz D σ' H') : tSeq (tFor (iTup K tl) g tu) tz D σ H :=
  s_forNT (D := { D with nx := tz D }) h Pv h0 hx hs hd
theorem q_par {tz : TS} {D : Ends} {i j : Nat} {tA : TA} (h : EvA tA σ H [x, y]) (k : ∀ H1, Ex H H1 → tz D ((σ.set i (some x)).set j (some y)) H1) : tSeq (tPar i j tA) tz D σ H := h H (Ex.refl H) _ fun H1 e => ⟨x, y, rfl, k H1 e⟩
end
/-- range(0, m, 1 + m // 8) for few m -/
theorem rg_few : ∀ m : Nat, m < 64 → Builtin.Range.small 0 (m : Int) (1 + (m : Int) / 8) = true ∧ (((m + m / 8) / (1 + m / 8) : Nat) : Int) = Builtin.Range.rangeSize 0 (m : Int) (1 + (m : Int) / 8) := by decide +kernel
end Em

namespace Em
open PySem PySem.Spec PyProof.Rows L2 Evl
/-! ### the table of a plan, counted -/
theorem nodup_sub_len {α : Type} [DecidableEq α] : ∀ {l m : List α}, l.Nodup → (∀ x ∈ l, x ∈ m) → l.length ≤ m.length
  | [], m, _, _ => Nat.zero_le _
  | x :: l, m, h, hs => by
    obtain ⟨h1, h2⟩ := List.nodup_cons.mp h
    have hx := hs x List.mem_cons_self
    have ih := nodup_sub_len (m := m.erase x) h2 fun y hy => (List.mem_erase_of_ne (fun e => h1 (by rw [← e]; exact hy))).mpr (hs y (List.mem_cons_of_mem _ hy))
    rw [List.length_erase_of_mem hx] at ih
    have : 0 < m.length := List.length_pos_of_mem hx
    rw [List.length_cons]
    omega
def keysT (tb : Tab) : List (Int × Int) := tb.map (·.1)
theorem getI_none {k : Int × Int} : ∀ {tb : Tab}, k ∉ keysT tb → getI tb k = 0
  | [], _ => rfl
  | x :: tb, h => by
    have h1 : ¬ x.1 = k := fun e => h (by unfold keysT; rw [List.map_cons, e]; exact List.mem_cons_self)
    have h2 := getI_none (k := k) (tb := tb) fun m => h (by unfold keysT at *; rw [List.map_cons]; exact List.mem_cons_of_mem _ m)
    unfold getI at *
    rw [List.find?_cons_of_neg (by simpa using h1)]
    exact h2
theorem getI_mem {x : (Int × Int) × Int} : ∀ {tb : Tab}, (keysT tb).Nodup → x ∈ tb → getI tb x.1 = x.2
  | [], _, h => by cases h
  | y :: tb, hn, h => by
    have hn : (y.1 :: keysT tb).Nodup := hn
    obtain ⟨h1, h2⟩ := List.nodup_cons.mp hn
    rcases List.mem_cons.mp h with rfl | h
    · unfold getI
      rw [List.find?_cons_of_pos (by simp)]
      rfl
    · have hne : ¬ y.1 = x.1 := fun e => h1 (by rw [e]; exact List.mem_map_of_mem h)
      have := getI_mem h2 h
      unfold getI at *
      rw [List.find?_cons_of_neg (by simpa using hne)]
      exact this
theorem any_keys {tb : Tab} {k : Int × Int} : (tb.any fun x => decide (x.1 = k)) = true ↔ k ∈ keysT tb := by
  unfold keysT
  rw [List.any_eq_true, List.mem_map]
  constructor
  · rintro ⟨x, h1, h2⟩
    exact ⟨x, h1, of_decide_eq_true h2⟩
  · rintro ⟨x, h1, h2⟩
    exact ⟨x, h1, decide_eq_true h2⟩
theorem keys_put {tb : Tab} {k : Int × Int} {c : Int} : keysT (putI tb k c) = if k ∈ keysT tb then keysT tb else keysT tb ++ [k] := by
  unfold putI
  by_cases h : k ∈ keysT tb
  · rw [if_pos (any_keys.mpr h), if_pos h]
    unfold keysT
    rw [List.map_map]
    apply List.map_congr_left
    intro x _
    show (if x.1 = k then (x.1, c) else x).1 = x.1
    split <;> rfl
  · rw [if_neg (fun q => h (any_keys.mp q)), if_neg h]
    unfold keysT
    rw [List.map_append]
    rfl
theorem nodup_put {tb : Tab} {k : Int × Int} {c : Int} (h : (keysT tb).Nodup) : (keysT (putI tb k c)).Nodup := by
  rw [keys_put]
  split
  · exact h
  · rename_i hk
    rw [List.nodup_append]
    exact ⟨h, by simp, fun a ha b hb e => by
      rw [List.mem_singleton] at hb
      subst hb
      subst e
      exact hk ha⟩
theorem get_put {tb : Tab} {k j : Int × Int} {c : Int} (h : (keysT tb).Nodup) : getI (putI tb k c) j = if j = k then c else getI tb j := by
  have hn := nodup_put (k := k) (c := c) h
  by_cases hj : j ∈ keysT (putI tb k c)
  · obtain ⟨x, hx, rfl⟩ := List.mem_map.mp hj
    rw [getI_mem hn hx]
    unfold putI at hx
    split at hx
    · obtain ⟨y, hy, e⟩ := List.mem_map.mp hx
      by_cases hyk : y.1 = k
      · rw [if_pos hyk] at e
        rw [← e]
        rw [if_pos hyk]
      · rw [if_neg hyk] at e
        rw [← e, if_neg hyk, getI_mem h hy]
    · rename_i hk
      rcases List.mem_append.mp hx with hx | hx
      · have : ¬ x.1 = k := fun e => hk (any_keys.mpr (by rw [← e]; exact List.mem_map_of_mem hx))
        rw [if_neg this, getI_mem h hx]
      · rw [List.mem_singleton] at hx
        subst hx
        rw [if_pos rfl]
  · have e1 := getI_none hj
    rw [e1]
    rw [keys_put] at hj
    split at hj
    · rename_i hk
      have : ¬ j = k := fun e => hj (by rw [e]; exact hk)
      rw [if_neg this, getI_none hj]
    · have h1 : ¬ j = k := fun e => hj (by rw [e]; simp)
      have h2 : j ∉ keysT tb := fun m => hj (List.mem_append.mpr (Or.inl m))
      rw [if_neg h1, getI_none h2]
def countK (l : List (Int × Int)) (k : Int × Int) : Nat := (l.filter fun p => decide (kp p = k)).length
theorem tab_facts : ∀ (l : List (Int × Int)) (tb : Tab), (keysT tb).Nodup → (keysT (l.foldl stepI tb)).Nodup ∧ (∀ k, getI (l.foldl stepI tb) k = getI tb k + (countK l k : Int)) ∧ (∀ k, k ∈ keysT (l.foldl stepI tb) ↔ k ∈ keysT tb ∨ ∃ p ∈ l, kp p = k)
  | [], tb, h => ⟨h, fun k => by simp [countK], fun k => by simp⟩
  | p :: l, tb, h => by
    obtain ⟨h1, h2, h3⟩ := tab_facts l (stepI tb p) (nodup_put h)
    refine ⟨h1, fun k => ?_, fun k => ?_⟩
    · show getI (l.foldl stepI (stepI tb p)) k = _
      rw [h2]
      unfold stepI countK
      rw [get_put h, List.filter_cons]
      by_cases e : k = kp p
      · subst e
        rw [if_pos rfl, if_pos (by simp)]
        rw [List.length_cons]
        omega
      · have : ¬ kp p = k := fun q => e q.symm
        rw [if_neg e, if_neg (by simpa using this)]
    · show k ∈ keysT (l.foldl stepI (stepI tb p)) ↔ _
      rw [h3]
      unfold stepI
      rw [keys_put]
      by_cases hk : kp p ∈ keysT tb
      · rw [if_pos hk]
        constructor
        · rintro (m | ⟨q, m, e⟩)
          · exact Or.inl m
          · exact Or.inr ⟨q, List.mem_cons_of_mem _ m, e⟩
        · rintro (m | ⟨q, m, e⟩)
          · exact Or.inl m
          · rcases List.mem_cons.mp m with rfl | m
            · exact Or.inl (by rw [← e]; exact hk)
            · exact Or.inr ⟨q, m, e⟩
      · rw [if_neg hk]
        constructor
        · rintro (m | ⟨q, m, e⟩)
          · rcases List.mem_append.mp m with m | m
            · exact Or.inl m
            · exact Or.inr ⟨p, List.mem_cons_self, (List.mem_singleton.mp m).symm⟩
          · exact Or.inr ⟨q, List.mem_cons_of_mem _ m, e⟩
        · rintro (m | ⟨q, m, e⟩)
          · exact Or.inl (List.mem_append.mpr (Or.inl m))
          · rcases List.mem_cons.mp m with rfl | m
            · exact Or.inl (List.mem_append.mpr (Or.inr (by simp [e])))
            · exact Or.inr ⟨q, m, e⟩
theorem tabM_get (l : List (Int × Int)) (k : Int × Int) : getI (tabM l) k = (countK l k : Int) := by
  have := (tab_facts l [] (by simp [keysT])).2.1 k
  unfold tabM
  rw [this]
  show (0 : Int) + _ = _
  omega
theorem tabM_nodup (l : List (Int × Int)) : (keysT (tabM l)).Nodup := (tab_facts l [] (by simp [keysT])).1
theorem tabM_keys (l : List (Int × Int)) (k : Int × Int) : k ∈ keysT (tabM l) ↔ ∃ p ∈ l, kp p = k := by
  have := (tab_facts l [] (by simp [keysT])).2.2 k
  unfold tabM
  rw [this]
  simp [keysT]
theorem count_pos {l : List (Int × Int)} {k : Int × Int} : 0 < countK l k ↔ ∃ p ∈ l, kp p = k := by
  unfold countK
  rw [List.length_pos_iff_exists_mem]
  constructor
  · rintro ⟨p, h⟩
    obtain ⟨h1, h2⟩ := List.mem_filter.mp h
    exact ⟨p, h1, of_decide_eq_true h2⟩
  · rintro ⟨p, h1, h2⟩
    exact ⟨p, List.mem_filter.mpr ⟨h1, decide_eq_true h2⟩⟩

/-- all pairs a < b < k -/
def apN : Nat → List (Int × Int)
  | 0 => []
  | k + 1 => apN k ++ (irange k).map fun a => (a, (k : Int))
theorem mem_apN {a b : Int} : ∀ {k : Nat}, (a, b) ∈ apN k ↔ 0 ≤ a ∧ a < b ∧ b < (k : Int)
  | 0 => by
    show (a, b) ∈ [] ↔ _
    constructor
    · intro h
      cases h
    · intro h
      omega
  | k + 1 => by
    show (a, b) ∈ apN k ++ (irange k).map (fun a => (a, (k : Int))) ↔ _
    rw [List.mem_append, mem_apN, List.mem_map]
    constructor
    · rintro (h | ⟨x, hx, e⟩)
      · omega
      · rw [mem_irange] at hx
        cases e
        omega
    · rintro ⟨h1, h2, h3⟩
      by_cases c : b < (k : Int)
      · exact Or.inl ⟨h1, h2, c⟩
      · have : b = (k : Int) := by omega
        subst this
        exact Or.inr ⟨a, mem_irange.mpr ⟨h1, h2⟩, rfl⟩
theorem irange_nodup (n : Int) : (irange n).Nodup := by
  unfold irange
  have h : ∀ l : List Nat, l.Nodup → (l.map fun i : Nat => (i : Int)).Nodup := by
    intro l hl
    unfold List.Nodup at *
    rw [List.pairwise_map]
    exact hl.imp fun {a b} h e => h (by omega)
  exact h _ List.nodup_range
theorem apN_nodup : ∀ k : Nat, (apN k).Nodup
  | 0 => by simp [apN]
  | k + 1 => by
    show (apN k ++ (irange k).map (fun a => (a, (k : Int)))).Nodup
    rw [List.nodup_append]
    refine ⟨apN_nodup k, ?_, ?_⟩
    · have h := irange_nodup (k : Int)
      unfold List.Nodup at *
      rw [List.pairwise_map]
      exact h.imp fun {a b} h e => h (by cases e; rfl)
    · rintro ⟨a, b⟩ h1 p h2 e
      obtain ⟨x, _, rfl⟩ := List.mem_map.mp h2
      cases e
      have := (mem_apN.mp h1).2.2
      omega
theorem apN_len : ∀ k : Nat, 2 * (apN k).length + k = k * k
  | 0 => rfl
  | k + 1 => by
    have ih := apN_len k
    show 2 * (apN k ++ (irange k).map (fun a => (a, (k : Int)))).length + (k + 1) = (k + 1) * (k + 1)
    rw [List.length_append, List.length_map, irange_len, show (k + 1) * (k + 1) = k * k + 2 * k + 1 by grind]
    simp only [Int.toNat_natCast]
    omega

/-! ### what a plan is; when it is good -/
def PairOk (n : Int) (p : Int × Int) : Prop := TeamOk n p.1 ∧ TeamOk n p.2 ∧ p.1 ≠ p.2
def PlanOk (n : Int) (plan : List (List (Int × Int))) : Prop := ∀ row ∈ plan, ∀ p ∈ row, PairOk n p
structure GoodP (n : Int) (plan : List (List (Int × Int))) : Prop where
  rows : ∀ row ∈ plan, ∀ t, TeamOk n t → cntM row t = 1
  meets : ∀ a b, 0 ≤ a → a < b → b < n → countK plan.flatten (a, b) = 1
theorem kp_ok {n : Int} {p : Int × Int} (h : PairOk n p) : 0 ≤ (kp p).1 ∧ (kp p).1 < (kp p).2 ∧ (kp p).2 < n := by
  obtain ⟨⟨h1, h2⟩, ⟨h3, h4⟩, h5⟩ := h
  unfold kp
  dsimp only
  split <;> split <;> omega
theorem flat_ok {n : Int} {plan : List (List (Int × Int))} (h : PlanOk n plan) : ∀ p ∈ plan.flatten, PairOk n p := fun p hp => by
  obtain ⟨row, h1, h2⟩ := List.mem_flatten.mp hp
  exact h row h1 p h2
theorem tabGood_iff {n : Int} (hn : TeamsOk n) {l : List (Int × Int)} (h : ∀ p ∈ l, PairOk n p) : tabGood n (tabM l) = true ↔ ∀ a b, 0 ≤ a → a < b → b < n → countK l (a, b) = 1 := by
  have nd := tabM_nodup l
  have hk := tabM_keys l
  have sub : ∀ k ∈ keysT (tabM l), k ∈ apN n.toNat := by
    rintro ⟨a, b⟩ hm
    obtain ⟨p, hp, e⟩ := (hk _).mp hm
    have := kp_ok (h p hp)
    rw [e] at this
    rw [mem_apN]
    have := hn.1
    omega
  have le := nodup_sub_len nd sub
  have lenK : (keysT (tabM l)).length = (tabM l).length := List.length_map _
  have apl := apN_len n.toNat
  have n2 := hn.1
  have nn : ((n.toNat : Nat) : Int) = n := by omega
  have half : n * (n - 1) / 2 = ((apN n.toNat).length : Int) := by
    have e : ((2 * (apN n.toNat).length + n.toNat : Nat) : Int) = ((n.toNat * n.toNat : Nat) : Int) := by rw [apl]
    simp only [Int.natCast_add, Int.natCast_mul, nn] at e
    have e2 : n * (n - 1) = n * n - n := by rw [Int.mul_sub, Int.mul_one]
    rw [e2]
    generalize n * n = z at *
    omega
  have vals : ∀ x ∈ tabM l, x.2 = (countK l x.1 : Int) := fun x hx => by rw [← tabM_get, getI_mem nd hx]
  unfold tabGood
  rw [Bool.and_eq_true, decide_eq_true_eq, decide_eq_true_eq, half]
  constructor
  · rintro ⟨h1, h2⟩ a b ha hab hb
    have hm : (a, b) ∈ apN n.toNat := by rw [mem_apN]; omega
    have hin : (a, b) ∈ keysT (tabM l) := by
      apply Classical.byContradiction
      intro hnot
      have := nodup_sub_len (l := (a, b) :: keysT (tabM l)) (m := apN n.toNat) (List.nodup_cons.mpr ⟨hnot, nd⟩) (by
        intro x hx
        rcases List.mem_cons.mp hx with rfl | hx
        · exact hm
        · exact sub x hx)
      rw [List.length_cons, lenK] at this
      omega
    obtain ⟨x, hx, e⟩ := List.mem_map.mp hin
    have v := vals x hx
    rw [e] at v
    have pos : 0 < countK l (a, b) := count_pos.mpr ((hk _).mp hin)
    have g := (foldr_max ((tabM l).map (·.2)).head?.get! ((tabM l).map (·.2))).1
    have le1 : x.2 ≤ 1 := by
      have hm2 : x.2 ∈ (tabM l).map (·.2) := List.mem_map_of_mem hx
      have := (foldr_max (((tabM l).map (·.2)).headD 0) ((tabM l).map (·.2))).1 _ hm2
      unfold maxI at h2
      omega
    omega
  · intro hall
    have sub2 : ∀ k ∈ apN n.toNat, k ∈ keysT (tabM l) := by
      rintro ⟨a, b⟩ hm
      obtain ⟨h1, h2, h3⟩ := mem_apN.mp hm
      rw [hk]
      exact count_pos.mp (by rw [hall a b h1 h2 (by omega)]; decide)
    have ge := nodup_sub_len (apN_nodup n.toNat) sub2
    refine ⟨by omega, ?_⟩
    have h01 : (0, 1) ∈ keysT (tabM l) := sub2 _ (by rw [mem_apN]; omega)
    obtain ⟨x, hx, e⟩ := List.mem_map.mp h01
    have all1 : ∀ x ∈ tabM l, x.2 = 1 := fun x hx => by
      rw [vals x hx]
      have hm := sub x.1 (List.mem_map_of_mem hx)
      obtain ⟨⟨a, b⟩, c⟩ := x
      obtain ⟨h1, h2, h3⟩ := mem_apN.mp hm
      rw [hall a b h1 h2 (by omega)]
      rfl
    refine (maxI_uniq (m := 1) ?_ ?_).symm
    · rw [← all1 x hx]
      exact List.mem_map_of_mem hx
    · intro y hy
      obtain ⟨z, hz, rfl⟩ := List.mem_map.mp hy
      rw [all1 z hz]
      exact Int.le_refl _
theorem badRow_iff {n : Int} {row : List (Int × Int)} : badRow n row = false ↔ ∀ t, TeamOk n t → cntM row t = 1 := by
  unfold badRow
  rw [List.any_eq_false]
  constructor
  · intro h t ht
    have := h t (mem_irange.mpr ht)
    unfold loneM at this
    simpa using this
  · intro h t ht
    unfold loneM
    simpa using h t (mem_irange.mp ht)
theorem goodM_iff {n : Int} (hn : TeamsOk n) {plan : List (List (Int × Int))} (h : PlanOk n plan) : goodM n plan = true ↔ GoodP n plan := by
  unfold goodM
  rw [Bool.and_eq_true, tabGood_iff hn (flat_ok h), Bool.not_eq_true', List.any_eq_false]
  constructor
  · rintro ⟨h1, h2⟩
    exact ⟨fun row hr => badRow_iff.mp (by simpa using h1 row hr), h2⟩
  · rintro ⟨h1, h2⟩
    exact ⟨fun row hr => by rw [badRow_iff.mpr (h1 row hr)]; simp, h2⟩
end Em

namespace Em
open PySem PySem.Spec PyProof.Rows L2 Evl
/-! ### classes: C() without an own __init__, methods -/
def tMakeO (C : Addr) : TE := fun _ H Q => ∀ x dx, H x = none → H dx = none → dx ≠ x → Q (.ref x) (upd (upd H dx (.own x)) x (.ins C dx []))
structure ClO (K : PySem.W.Frag) (mg : Str → Option Value) (x : Str) (C : Addr) : Prop where
  makes : PySem.W.makesIn K C = true
  kp : PySem.W.keepIn K (.ref C) = true
  g : mg x = some (.ref C)
  cls : Cls K C
def Ini0 (K : PySem.W.Frag) (C : Addr) : Prop := PySem.W.findIn K (.ref C) "__init__" = some (some (.builtin "object.__init__"))
/-- a method that keeps its promise -/
def MOk (P : Program) (w : World) (K : PySem.W.Frag) (mg : Str → Option Value) (base : Heap) (k : Nat) (C : Addr) (m : Str) (ps : List Str) (sp : Sp) : Prop :=
  ∃ (f : Addr) (fd : FuncData), FnOk P w K mg base CX0 k f fd ps sp ∧ Meth K C m f ∧ Binds K fd ps []
/-- a method as it stands -/
def MAt (K : PySem.W.Frag) (C : Addr) (m qual : Str) (st : Stmt) (ps : List Str) : Prop := ∃ (f : Addr) (fd : FuncData), Fun K m qual st f fd ∧ Meth K C m f ∧ Binds K fd ps []
section
variable {P : Program} {w : World} {K : PySem.W.Frag} {mg : Str → Option Value} {base : Heap} {X : Cx}
theorem MAt.ok {C : Addr} {m qual : Str} {st : Stmt} {N ps : List Str} {k : Nat} {sp : Sp} (F : MAt K C m qual st ps) (S : FnScope N ps (defScope st)) (len : ∀ vs H Q E, sp vs H Q E → vs.length = ps.length)
    (hbody : ∀ (f : Addr) (cdv : Value) (A : Around) (outer : List Env) (s : Shared) (H : Hp) (vs : List V) (Q : VK) (E : XK), Room k (A.deeper (envOfC qual (defScope st) s.heap.objs.size f cdv)) → sp vs H Q E →
      ∃ t, PSs (cxOf CX0 P w K mg base N qual (defScope st) f cdv A outer s H E).nox (defBody st) t ∧ t { nx := fun _ H' => Q .non H', rt := Q } (start N vs) H) : MOk P w K mg base (k + 1) C m ps sp := by
  obtain ⟨f, fd, F, g, b⟩ := F
  exact ⟨f, fd, F.ok S len (hbody f), g, b⟩
theorem pe_makeO {C : Addr} {x : Str} {p pos : Pos} (M : ClO X.K X.mg x C) (hi : Ini0 X.K C) (hg : Gl X x := by rfl) (hdb : (x == ("__debug__" : Str)) = false := by decide) : PE X (.Call (.Name x p) [] [] pos) (tMakeO C) := by
  refine ⟨fun pins s σ H Q I h => ?_⟩
  refine wpAny_Call_Name_kw (ld_glob I hg M.g ?_ hdb)
  refine PySem.W.callWith_K0 I.kIn M.kp (wpAny_call (make_map0 I.kIn M.makes hi (fun self => PySem.W.Looks.of_pure (PySem.W.oi_bind self)) ?_))
  have I2 := Inv.made (C := C) I
  have hq := h (s.heap.objs.size + 1) s.heap.objs.size (I.hok.fresh (Nat.le_succ _)) (I.hok.fresh (Nat.le_refl _)) (Nat.ne_of_lt (Nat.lt_succ_self _))
  have Y := PySem.W.makes_of (M := model X.prog X.w) I.kIn M.makes
  have e2 : ((s.heap.push PySem.W.emptyDict).push (PySem.W.instObj C s.heap.objs.size)).get? (s.heap.objs.size + 1) = some (PySem.W.instObj C s.heap.objs.size) := by
    have := Heap.get?_push_size (s.heap.push PySem.W.emptyDict) (o := PySem.W.instObj C s.heap.objs.size) rfl
    rwa [Heap.size_push] at this
  have t1 : PySem.W.Looks (model X.prog X.w) ((s.heap.push PySem.W.emptyDict).push (PySem.W.instObj C s.heap.objs.size)) (typeOf (.ref (s.heap.objs.size + 1))) (.ref C) := (PySem.W.Looks.ld e2).andThen .now
  have t2 : PySem.W.Looks (model X.prog X.w) ((s.heap.push PySem.W.emptyDict).push (PySem.W.instObj C s.heap.objs.size)) (isInstance (.ref (s.heap.objs.size + 1)) (.type "object")) true := t1.andThen (Y.top.keeps fun b o e => Heap.get?_push_of_some _ (Heap.get?_push_of_some _ e))
  refine codeAny_call_builtin PySem.W.oi_plain PySem.W.entry_oi (@PySem.W.check_slot (model X.prog X.w) _ _ _ "object.__init__" "object" "__init__" (.ref (s.heap.objs.size + 1)) [] [] _ PySem.W.oi_kind PySem.W.oi_split t2 (PySem.W.oi_args (.ref (s.heap.objs.size + 1))) ?_)
  rw [PySem.W.oi_run]
  exact wpAny_pure (And.intro rfl ⟨.ref (s.heap.objs.size + 1), _, I2, rfl, hq⟩)
theorem pe_methD {C : Addr} {m : Str} {k : Nat} {ps : List Str} {sp : Sp} {apos pos : Pos} {o e : Expr} {es : List Expr} {ta : TE} {t : TA} {pl : Sem Bool} (he : PE X o ta) (c : Cls X.K C) (D : MOk X.prog X.w X.K X.mg X.base k C m ps sp) (hr : Room k X.A) (ha : PA X (e :: es) t)
    (hst : starEach (e :: es) X.env = (false, eval e X.env) :: starEach es X.env := by rfl) (hpl : (backTo pos (starEach es X.env)).any (·.1) = false := by rfl)
    (ht : eval (.Call (.Attribute o m apos) (e :: es) [] pos) X.env = (do
      let ov ← eval o X.env
      standAt apos.atName
      let (f, first) ← holding [ov] (getMethod ov m pl)
      callWith pos f first (backTo pos (starEach (e :: es) X.env)) (backToKw pos (keywordEach [] X.env))) := by rfl) :
    PE X (.Call (.Attribute o m apos) (e :: es) [] pos) (tMeth C m sp [] E0 ta t) := by
  obtain ⟨f, fd, F, M, b⟩ := D
  exact pe_meth he c M F hr b .nil pass0 ha hst hpl ht
end
/-! ### tuples that come out new; tables -/
/-- a tuple of ints -/
def IsTupI (H : Hp) (v : V) (l : List Int) : Prop := ∃ t, v = .ref t ∧ H t = some (.tup (l.map V.int))
theorem mono_tupI : Mono IsTupI := fun H H' v p e ⟨t, h1, h2⟩ => ⟨t, h1, e t _ h2⟩
def IsTab (H : Hp) (v : V) (tb : Tab) : Prop := ∃ d, v = .ref d ∧ H d = some (.dT (encT tb))
theorem mono_tab : Mono IsTab := fun H H' v p e ⟨t, h1, h2⟩ => ⟨t, h1, e t _ h2⟩
/-- two or none -/
def optL : Option (Int × Int) → List Int
  | none => []
  | some p => [p.1, p.2]
theorem optL_nil {o : Option (Int × Int)} : (optL o = []) ↔ o = none := by
  cases o <;> simp [optL]
section
variable {K : PySem.W.Frag} {σ : L2.St} {H H' : Hp} {ta tb te tl tx : TE} {tt : TT} {x y z v : V} {β γ : Type}
theorem dp_tupI {l : List Int} (r : IsTupI H v l) : Dp K H v (.tuple (l.map PyData.int)) := by
  obtain ⟨t, rfl, h⟩ := r
  refine .tup (st_of h) ?_
  exact dp_all (R := IsV V.int) (H := H) (fun v b q => by rw [show v = V.int b from q]; exact .int b) (map_paired (F := IsV V.int H) (f := V.int) (fun b => rfl) l)
theorem sh_tupI (l : List Int) : SeqAt.shaped (.tuple (l.map PyData.int)) = true := by
  obtain ⟨h1, h2⟩ := sh_all (f := PyData.int) (k := 1) sh_int l
  unfold SeqAt.shaped
  have d : PyData.depth (.tuple (l.map PyData.int)) ≤ 64 := by rw [PyData.depth]; omega
  rw [decide_eq_true d, PyData.canLay0, h1]
  rfl
theorem eqv_tupI (l m : List Int) : PyData.eqv (.tuple (l.map PyData.int)) (.tuple (m.map PyData.int)) = decide (l = m) := by
  rw [PyData.eqv]
  exact eqvAll_map eqv_int l m
theorem eu_nil : EvU (tTup tNil) σ H [] := eu_tup ea_nil (by show 0 ≤ 100000; decide)
/-- x == (), x != () -/
theorem ev_neU {l : List Int} (ha : EvR ta σ H (fun G v => IsTupI G v l)) : Ev (tOp (rNeD K) ta (tTup tNil)) σ H (.bl (!decide (l = []))) :=
  ev_opRR (R := fun G v => IsTupI G v l) (S := fun G v => IsTupI G v []) (fun H1 H2 v e r => mono_tupI _ _ _ _ e r) ha (r_tup eu_nil fun p G _ _ h => ⟨p, rfl, h⟩) (fun u v G _ r1 r2 => by
    have := rv_neK (K := K) (x := u) (b := l) (c := []) mono_tupI (f := fun l => .tuple (l.map PyData.int)) (fun _ _ _ => dp_tupI) sh_tupI r1 r2
    rwa [eqv_tupI] at this) (fun H1 H2 v e r => mono_tupI _ _ _ _ e r)
theorem ev_eqU {l : List Int} (ha : EvR ta σ H (fun G v => IsTupI G v l)) : Ev (tOp (rEqD K) ta (tTup tNil)) σ H (.bl (decide (l = []))) :=
  ev_opRR (R := fun G v => IsTupI G v l) (S := fun G v => IsTupI G v []) (fun H1 H2 v e r => mono_tupI _ _ _ _ e r) ha (r_tup eu_nil fun p G _ _ h => ⟨p, rfl, h⟩) (fun u v G _ r1 r2 => by
    have := rv_eqK (K := K) (x := u) (b := l) (c := []) mono_tupI (f := fun l => .tuple (l.map PyData.int)) (fun _ _ _ => dp_tupI) sh_tupI r1 r2
    rwa [eqv_tupI] at this) (fun H1 H2 v e r => mono_tupI _ _ _ _ e r)
theorem r_at {R : Hp → V → Prop} (ha : Ev te σ H v) (r : R H v) : EvR te σ H R := r_ev ha r
/-- a new tuple asked of a dict -/
theorem ev_dgetU {td : TE} {d : Addr} {tb : Tab} {k : Int × Int} (h1 : Ev td σ H (.ref d)) (hd : H d = some (.dT (encT tb))) (h2 : EvU ta σ H [.int k.1, .int k.2]) (h3 : Ev tx σ H (.int 0)) : Ev (tDGet2 td ta tx) σ H (.int (getI tb k)) := fun H1 e Q q =>
  h1 H1 e _ fun H2 e2 => ⟨d, rfl, Or.inr ⟨encT tb, Or.inl ((e.trans e2) d _ hd)⟩, h2 H2 (e.trans e2) _ fun t H3 hn e3 ht => h3 H3 ((e.trans e2).trans e3) _ fun H4 e4 =>
    ⟨_, DGet.t (k := keyOf k) ((((e.trans e2).trans e3).trans e4) d _ hd) (e4 t _ ht), by
      rw [encT_val]
      exact q _ ((e2.trans e3).trans e4)⟩⟩
/-- for i, x in enumerate(list) -/
theorem for_enum {a : Addr} {xs : List V} {g : TG} {tb : TS} {D : Ends} (Pv : Nat → L2.St → Hp → Prop) (h0 : Pv 0 σ H) (hl : ∀ i σ H, i ≤ xs.length → Pv i σ H → SqL K H a xs)
    (hs : ∀ i x T σ H, xs[i]? = some x → H T = none → Pv i σ H → g (.ref T) σ (upd H T (.tup [.int (i : Int), x])) fun σ2 H2 => tb { D with nx := Pv (i + 1), ct := Pv (i + 1), bk := D.nx } σ2 H2) (hd : ∀ σ H, Pv xs.length σ H → D.nx σ H) :
    ∃ W : Nat → Nat → L2.St → Hp → Prop, (∃ m, W 0 m σ H) ∧ ∀ i m σ H, W i m σ H →
      ((Ite K a).stop i H ∧ D.nx σ H) ∨ ((Ite K a).go i H ∧ ∃ N : L2.St → Hp → Prop, (∀ σ' H', N σ' H' → ∃ m', m' < m ∧ W (i + 1) m' σ' H') ∧ ∀ x H', (Ite K a).yld i H x H' → g x σ H' fun σ2 H2 => tb { D with nx := N, ct := N, bk := D.nx } σ2 H2) := by
  refine ⟨fun i m σ H => m = xs.length - i ∧ i ≤ xs.length ∧ Pv i σ H, ⟨xs.length, by simp, Nat.zero_le _, h0⟩, ?_⟩
  rintro i m σ H ⟨rfl, hi, p⟩
  have q := hl i σ H hi p
  by_cases hlt : i < xs.length
  · refine .inr ⟨⟨xs, xs[i], q, by simp [hlt]⟩, Pv (i + 1), fun σ' H' p' => ⟨xs.length - (i + 1), by omega, rfl, hlt, p'⟩, fun x H' y => ?_⟩
    obtain ⟨T, x', rfl, hT, rfl, y⟩ := y
    exact hs i x' T σ H (y xs q) hT p
  · have e : i = xs.length := by omega
    subst e
    exact .inl ⟨⟨xs, q, Nat.le_refl _⟩, hd σ H p⟩
theorem s_forE {a : Addr} {xs : List V} {g : TG} {tu : TS} {D : Ends} {tA : TA} (h : EvA tA σ H [.ref a]) (hx : SqL K H a xs) (Pv : Nat → L2.St → Hp → Prop) (h0 : ∀ H1, Ex H H1 → Pv 0 σ H1) (hl : ∀ i σ' H', i ≤ xs.length → Pv i σ' H' → SqL K H' a xs)
    (hs : ∀ i x T σ' H', xs[i]? = some x → H' T = none → Pv i σ' H' → g (.ref T) σ' (upd H' T (.tup [.int (i : Int), x])) fun σ2 H2 => tu { D with nx := Pv (i + 1), ct := Pv (i + 1), bk := D.nx } σ2 H2) (hd : ∀ σ' H', Pv xs.length σ' H' → D.nx σ' H') : tFor (iEnum K tA) g tu D σ H :=
  h H (Ex.refl H) _ fun H1 e => ⟨a, xs, rfl, ex_l e hx, for_enum Pv (h0 H1 e) hl hs hd⟩
theorem q_forE {a : Addr} {xs : List V} {g : TG} {tu tz : TS} {D : Ends} {tA : TA} (h : EvA tA σ H [.ref a]) (hx : SqL K H a xs) (Pv : Nat → L2.St → Hp → Prop) (h0 : ∀ H1, Ex H H1 → Pv 0 σ H1) (hl : ∀ i σ' H', i ≤ xs.length → Pv i σ' H' → SqL K H' a xs)
    (hs : ∀ i x T σ' H', xs[i]? = some x → H' T = none → Pv i σ' H' → g (.ref T) σ' (upd H' T (.tup [.int (i : Int), x])) fun σ2 H2 => tu { D with nx := Pv (i + 1), ct := Pv (i + 1), bk := tz D } σ2 H2) (hd : ∀ σ' H', Pv xs.length σ' H' → tz D σ' H') : tSeq (tFor (iEnum K tA) g tu) tz D σ H :=
  s_forE (D := { D with nx := tz D }) h hx Pv h0 hl hs hd
theorem k_enum {X : Cx} {e : Expr} {tA : TA} {p pos tpos : Pos} {elts : List Expr} {kk : Nat} (hg : Gl X "enumerate") (hm : X.mg "enumerate" = none) (ha : PA X [e] tA) (hs : starEach [e] X.env = [(false, eval e X.env)] := by rfl) (hK : X.K = K := by rfl) :
    PI X (.Tuple elts kk tpos) (.Call (.Name "enumerate" p) [e] [] pos) (iEnum K tA) := hK ▸ pi_enum hg hm ha hs
/-! min, max of a pair of ints -/
def rMinP : List V → Hp → VK → Prop := fun xs H Q => ∃ (t : Addr) (i j : Int), xs = [.ref t] ∧ H t = some (.tup [.int i, .int j]) ∧ Q (.int (if j < i then j else i)) H
def rMaxP : List V → Hp → VK → Prop := fun xs H Q => ∃ (t : Addr) (i j : Int), xs = [.ref t] ∧ H t = some (.tup [.int i, .int j]) ∧ Q (.int (if j > i then j else i)) H
end
section
variable {X : Cx}
theorem pair_val {a b : Value} {i j : Int} {r : Vals [V.int i, V.int j] [a, b]} : ∀ (k : Nat) (v : Value), #[a, b][k]? = some v → ∃ t, v = .int ([i, j].getD k 0) t := by
  intro k v h
  cases r with
  | cons r1 r =>
    cases r with
    | cons r2 r =>
      match k with
      | 0 => simp at h; subst h; exact r1
      | 1 => simp at h; subst h; exact r2
      | k + 2 => simp at h
theorem cr_minP (hc : X.calm = true) : CallR X (.builtin "min") rMinP := by
  intro pins s σ H vs us Q I r h
  obtain ⟨p, i, j, rfl, hp, q⟩ := h
  rw [Vals.ref1 r]
  obtain ⟨its, rv, ht, _⟩ := I.tuple (st_of (K := X.K) hp)
  obtain ⟨a, b, rfl⟩ : ∃ a b, its = [a, b] := by
    cases rv with
    | cons r1 r =>
      cases r with
      | cons r2 r =>
        cases r
        exact ⟨_, _, rfl⟩
  have hT : s.heap.IsTuple p #[a, b] := ht
  have hlt : p < s.heap.objs.size := by obtain ⟨_, e, _⟩ := hT; exact Heap.lt_size e
  have hval := pair_val (r := rv)
  refine PySem.call_min_walk (PySem.wpAny_pyIter_tuple hT ?_)
  refine ⟨_, _, _, _, _, _, _, rfl, PySem.Walks.tuple (A := X.A.in1) (I.ok.hd hc) s.heap.objs.size p (Nat.ne_of_lt hlt) #[a, b], ⟨⟨_, Heap.get?_push_size _ rfl, rfl, rfl⟩, hT.at fun o e => Heap.get?_push_of_some _ e⟩, ?_, by simp, PySem.CmpOf.ints_lt (fun k => [i, j].getD k 0) hval, fun v h' tk hP hk => ?_⟩
  · intro b hb
    show b < (s.heap.push _).objs.size
    rw [Heap.size_push]
    rcases List.mem_cons.mp hb with rfl | hb
    · exact Nat.lt_succ_self _
    · rcases List.mem_cons.mp hb with rfl | hb
      · exact Nat.lt_succ_of_lt hlt
      · cases hb
  · obtain ⟨t, rfl⟩ := hval _ _ hP
    refine ⟨.int _, H, I.kept (t' := tk) fun b u e => hk b u (fun hm => ?_) (Heap.get?_push_of_some _ e), ⟨t, rfl⟩, ?_⟩
    · rcases List.mem_cons.mp hm with e1 | hm
      · exact absurd (e1 ▸ Heap.lt_size e) (Nat.lt_irrefl _)
      · cases hm
    · have e : [i, j].getD (argBest (fun k l => decide ([i, j].getD k 0 < [i, j].getD l 0)) (#[a, b].size - 1)) 0 = if j < i then j else i := by
        show [i, j].getD (argBest (fun k l => decide ([i, j].getD k 0 < [i, j].getD l 0)) 1) 0 = _
        simp only [argBest]
        by_cases h : j < i <;> simp [h]
      rw [e]
      exact q
theorem cr_maxP (hc : X.calm = true) : CallR X (.builtin "max") rMaxP := by
  intro pins s σ H vs us Q I r h
  obtain ⟨p, i, j, rfl, hp, q⟩ := h
  rw [Vals.ref1 r]
  obtain ⟨its, rv, ht, _⟩ := I.tuple (st_of (K := X.K) hp)
  obtain ⟨a, b, rfl⟩ : ∃ a b, its = [a, b] := by
    cases rv with
    | cons r1 r =>
      cases r with
      | cons r2 r =>
        cases r
        exact ⟨_, _, rfl⟩
  have hT : s.heap.IsTuple p #[a, b] := ht
  have hlt : p < s.heap.objs.size := by obtain ⟨_, e, _⟩ := hT; exact Heap.lt_size e
  have hval := pair_val (r := rv)
  refine PySem.call_max_walk (PySem.wpAny_pyIter_tuple hT ?_)
  refine ⟨_, _, _, _, _, _, _, rfl, PySem.Walks.tuple (A := X.A.in1) (I.ok.hd hc) s.heap.objs.size p (Nat.ne_of_lt hlt) #[a, b], ⟨⟨_, Heap.get?_push_size _ rfl, rfl, rfl⟩, hT.at fun o e => Heap.get?_push_of_some _ e⟩, ?_, by simp, PySem.CmpOf.ints_gt (fun k => [i, j].getD k 0) hval, fun v h' tk hP hk => ?_⟩
  · intro b hb
    show b < (s.heap.push _).objs.size
    rw [Heap.size_push]
    rcases List.mem_cons.mp hb with rfl | hb
    · exact Nat.lt_succ_self _
    · rcases List.mem_cons.mp hb with rfl | hb
      · exact Nat.lt_succ_of_lt hlt
      · cases hb
  · obtain ⟨t, rfl⟩ := hval _ _ hP
    refine ⟨.int _, H, I.kept (t' := tk) fun b u e => hk b u (fun hm => ?_) (Heap.get?_push_of_some _ e), ⟨t, rfl⟩, ?_⟩
    · rcases List.mem_cons.mp hm with e1 | hm
      · exact absurd (e1 ▸ Heap.lt_size e) (Nat.lt_irrefl _)
      · cases hm
    · have e : [i, j].getD (argBest (fun k l => decide ([i, j].getD k 0 > [i, j].getD l 0)) (#[a, b].size - 1)) 0 = if j > i then j else i := by
        show [i, j].getD (argBest (fun k l => decide ([i, j].getD k 0 > [i, j].getD l 0)) 1) 0 = _
        simp only [argBest]
        by_cases h : j > i <;> simp [h]
      rw [e]
      exact q
end
section
variable {K : PySem.W.Frag} {σ : L2.St} {H H' : Hp} {x y z v : V}
theorem rc_minP {t : Addr} {i j : Int} (h : H t = some (.tup [.int i, .int j])) : RC rMinP [.ref t] H (.int (if j < i then j else i)) := fun H1 e Q q => ⟨t, i, j, rfl, e t _ h, q H1 (Ex.refl H1)⟩
theorem rc_maxP {t : Addr} {i j : Int} (h : H t = some (.tup [.int i, .int j])) : RC rMaxP [.ref t] H (.int (if j > i then j else i)) := fun H1 e Q q => ⟨t, i, j, rfl, e t _ h, q H1 (Ex.refl H1)⟩
theorem isi_lst {a : Addr} {xs : List V} (h : H a = some (.lst xs)) : RC (rIsi K) [.ref a, .ty "list"] H (.bl true) := fun H1 e Q q => ⟨_, _, _, _, true, rfl, .ty "list", .base (.lst (e a _ h)), kit_ty (by decide +kernel), q H1 (Ex.refl H1)⟩
theorem isi_tup {a : Addr} {xs : List V} (h : H a = some (.tup xs)) : RC (rIsi K) [.ref a, .ty "tuple"] H (.bl true) := fun H1 e Q q => ⟨_, _, _, _, true, rfl, .ty "tuple", .base (.tup (e a _ h)), kit_ty (by decide +kernel), q H1 (Ex.refl H1)⟩
end
end Em

namespace Em
open PySem PySem.Spec PyProof.Rows L2 Evl
section
variable {P : Program} {w : World} {K : PySem.W.Frag} {mg : Str → Option Value} {base : Heap}
/-- an item of a list of data -/
theorem isL_at {β : Type} {R : Hp → V → β → Prop} {H : Hp} {vs : List V} {l : List β} {i : Int} (h : Paired (R H) vs l) (h0 : 0 ≤ i) (h1 : i < (l.length : Int)) (d : β) : ∃ x, atI vs i = some x ∧ R H x (l.getD i.toNat d) := by
  have hl := paired_len h
  have hi : i.toNat < vs.length := by omega
  obtain ⟨b, hb, r⟩ := paired_at (i := i.toNat) (a := vs[i.toNat]) h (by simp [hi])
  refine ⟨vs[i.toNat], ?_, ?_⟩
  · have e := atI_nat (xs := vs) (j := i.toNat) (v := vs[i.toNat]) (by simp [hi])
    rwa [show ((i.toNat : Nat) : Int) = i by omega] at e
  · rw [List.getD_eq_getElem?_getD, hb]
    exact r
theorem getD_mem' {α : Type} {l : List α} {i : Nat} {d : α} (h : i < l.length) : l.getD i d ∈ l := by
  rw [List.getD_eq_getElem?_getD, List.getElem?_eq_getElem h]
  exact List.getElem_mem h
theorem kp_key (p : Int × Int) : [V.int (if p.2 < p.1 then p.2 else p.1), V.int (if p.2 > p.1 then p.2 else p.1)] = (keyOf (kp p)).map kV := rfl
theorem take_snoc {α : Type} {l : List α} {i : Nat} {x : α} (h : l[i]? = some x) : l.take (i + 1) = l.take i ++ [x] := by
  obtain ⟨h1, h2⟩ := List.getElem?_eq_some_iff.mp h
  rw [← h2]
  exact (List.take_append_getElem h1).symm
theorem planM_sz {n : Int} (h1 : 2 ≤ n) (h2 : n ≤ 100) : PlanSz (planM n) := by
  refine ⟨by unfold planM; rw [List.length_map, irange_len]; omega, fun row h => ?_⟩
  unfold planM at h
  obtain ⟨r, _, rfl⟩ := List.mem_map.mp h
  unfold rowM
  rw [List.length_map]
  have := List.length_filter_le (fun t => homeM n t r) (irange n)
  rw [irange_len] at this
  omega
def spLaw (K : PySem.W.Frag) : Sp := fun vs H Q _ => ∃ (a : Addr) (ns : List Int), vs = [.ref a] ∧ SqL K H a (ns.map V.int) ∧ ns.length ≤ 63 ∧ (∀ z ∈ ns, BitsOk z) ∧ RetV (.bl true) H Q
theorem cut63 {ns : List Int} (h : ns.length ≤ 63) : cutV (ns.map V.int) none (some 63) = ns.map V.int := by
  unfold cutV
  rw [HT.sIx_none, show (63 : Int) = ((63 : Nat) : Int) from rfl, HT.sIx_nat, List.drop_zero, List.length_map]
  exact List.take_of_length_le (by rw [List.length_map]; omega)
theorem other_ne {n t d : Int} (ht : TeamOk n t) (h0 : 0 ≤ d) (h1 : d < n - 1) : t ≠ (t + 1 + d) % n := by
  obtain ⟨h2, h3⟩ := ht
  intro e
  by_cases c : t + 1 + d < n
  · rw [Int.emod_eq_of_lt (by omega) c] at e
    omega
  · have e2 := Int.emod_eq_of_lt (a := t + 1 + d - n) (b := n) (by omega) (by omega)
    rw [Int.sub_emod_right] at e2
    omega
theorem teamOk_mod {n z : Int} (h : 0 < n) : TeamOk n (z % n) := ⟨Int.emod_nonneg _ (by omega), Int.emod_lt_of_pos _ h⟩
theorem roundOk_mod {n z : Int} (h : 0 < n - 1) : RoundOk n (z % (n - 1)) := ⟨Int.emod_nonneg _ (by omega), Int.emod_lt_of_pos _ h⟩
theorem few_k {m i : Nat} (h : m < 64) (hi : i < (m + m / 8) / (1 + m / 8)) : (0 : Int) ≤ 0 + (i : Int) * (1 + (m : Int) / 8) ∧ 0 + (i : Int) * (1 + (m : Int) / 8) ≤ 99 := by
  have c : m / 8 = 0 ∨ m / 8 = 1 ∨ m / 8 = 2 ∨ m / 8 = 3 ∨ m / 8 = 4 ∨ m / 8 = 5 ∨ m / 8 = 6 ∨ m / 8 = 7 := by omega
  have e : ((m : Int) / 8) = ((m / 8 : Nat) : Int) := by omega
  rw [e]
  generalize m / 8 = z at *
  rcases c with rfl | rfl | rfl | rfl | rfl | rfl | rfl | rfl <;> omega
theorem s_forRC {K : PySem.W.Frag} {σ : L2.St} {H : Hp} {D : Ends} {tu : TS} {ta : TA} {j : Nat} {lo hi c : Int} {n : Nat} (h : EvA ta σ H [.int lo, .int hi, .int c]) (hn : RgC lo hi c n) (Pv : Nat → L2.St → Hp → Prop) (h0 : ∀ H1, Ex H H1 → Pv 0 σ H1)
    (hs : ∀ (i : Nat) σ' H', i < n → Pv i σ' H' → tu { D with nx := Pv (i + 1), ct := Pv (i + 1), bk := D.nx } (σ'.set j (some (.int (lo + (i : Nat) * c)))) H') (hd : ∀ σ' H', Pv n σ' H' → D.nx σ' H') : tFor (iRng3 ta) (gName j) tu D σ H :=
  h H (Ex.refl H) _ fun H1 e => ⟨lo, hi, c, n, rfl, hn, for_rangeC Pv (h0 H1 e) hs hd⟩
theorem q_forRC {K : PySem.W.Frag} {σ : L2.St} {H : Hp} {D : Ends} {tu tz : TS} {ta : TA} {j : Nat} {lo hi c : Int} {n : Nat} (h : EvA ta σ H [.int lo, .int hi, .int c]) (hn : RgC lo hi c n) (Pv : Nat → L2.St → Hp → Prop) (h0 : ∀ H1, Ex H H1 → Pv 0 σ H1)
    (hs : ∀ (i : Nat) σ' H', i < n → Pv i σ' H' → tu { D with nx := Pv (i + 1), ct := Pv (i + 1), bk := tz D } (σ'.set j (some (.int (lo + (i : Nat) * c)))) H') (hd : ∀ σ' H', Pv n σ' H' → tz D σ' H') : tSeq (tFor (iRng3 ta) (gName j) tu) tz D σ H :=
  s_forRC (K := K) (D := { D with nx := tz D }) h hn Pv h0 hs hd
theorem dat_mk {K : PySem.W.Frag} {mg : Str → Option Value} {h : Heap} {x : Str} {st : Stmt} {ps : List Str} {f : Addr} {od an : Option Addr} {oc kV dc pm cd ct : Value} {sl : Array (Option Value)} (X : K.In h) (G : h.Ns mainGlobals mg)
    (a : PySem.W.nsIn K mainGlobals x = some (some (.ref f))) (l : K.lookup f = some ⟨oc, od, .func (PySem.W.fnOf x x (defArgs st) (defBody st) (defScope st) .none kV dc pm an cd ct), sl⟩) (c : PySem.W.codeIn K cd x = true) (k : PySem.W.keepIn K (.ref f) = true)
    (hb : ∀ (kV doc pm : Value) (an : Option Addr) (cdv ct : Value) (us : List Value), us.length = ps.length → bindArgs (PySem.W.fnOf x x (defArgs st) (defBody st) (defScope st) .none kV doc pm an cdv ct) ⟨us, []⟩ = pure (ps.zip us)) : DAt K mg x st ps :=
  ⟨f, _, fun_mk l c k, PySem.W.mg_of X G a, (fun_mk l c k).binds hb⟩
theorem walk {l : PySem.W.OpenLaw} {q : Program} {loose : List Str} {XP : (Str → Option Value) → Heap → Prop} {YP : World → Heap → Prop} {d : DefRec} {K : Params → PySem.W.Frag} (hn : l.most = some 63) (hdf : d.params.defaults = [])
    (hY : ∀ (w : World) (h : Heap), YP w h → (K w.params).In h)
    (F : ∀ (w : World) (mg : Str → Option Value) (fa : Addr) (h : Heap), (K w.params).In h → h.Ns mainGlobals mg → mg d.name = some (.ref fa) →
      ∃ fd : FuncData, (∀ (s : Shared) (u : Value), BindsTo s fd ⟨[u], []⟩ [("_law_script", u)]) ∧ ∀ base : Heap, (K w.params).In base → base.Ns mainGlobals mg → FnOk l.prog w (K w.params) mg base CX0 12 fa fd ["_law_script"] (spLaw (K w.params))) :
    PySem.W.WalkO q loose XP YP l.row.toRowW d [] (fun f vs => PySem.call f vs) :=
  L2.walk_ofB (n := 63) (k := 12) (x := "_law_script") (CX := fun _ => CX0) (sp := fun w => spLaw (K w.params)) hn (by decide) hdf ⟨rfl, by decide, by decide⟩ hY F (fun _ _ a ns hl hb _ hS => ⟨a, ns, rfl, hS, hl, hb, fun _ _ => rfl⟩) fun _ _ _ _ _ z => z
end
end Em

namespace Em
open PySem PySem.Spec PyProof.Rows L2 Evl
/-! ### the first two of a search -/
theorem irange_split {m : Int} {b : Nat} (h : (b : Int) < m) : ∃ r, irange m = irange (b : Int) ++ (b : Int) :: r := by
  refine ⟨(irange m).drop (b + 1), ?_⟩
  have e := (List.take_append_drop (b + 1) (irange m)).symm
  rw [irange_take h] at e
  have e2 : (irange m).take b = irange (b : Int) := by
    unfold irange
    rw [← List.map_take, List.take_range, Int.toNat_natCast, Nat.min_eq_left (by omega)]
  rw [e2, List.append_assoc] at e
  exact e
def find2 (m : Int) (g : Int → Int) (hit : Int → Int → Bool) : Option (Int × Int) := (irange m).findSome? fun b => ((irange (g b)).find? (hit b)).map fun a => (b, a)
theorem find2_none {m : Int} {g : Int → Int} {hit : Int → Int → Bool} : find2 m g hit = none ↔ ∀ b a, 0 ≤ b → b < m → 0 ≤ a → a < g b → hit b a = false := by
  unfold find2
  rw [List.findSome?_eq_none_iff]
  simp only [Option.map_eq_none_iff, List.find?_eq_none, mem_irange]
  constructor
  · intro h b a h1 h2 h3 h4
    have := h b ⟨h1, h2⟩ a ⟨h3, h4⟩
    simpa using this
  · intro h b hb a ha
    simp [h b a hb.1 hb.2 ha.1 ha.2]
theorem find2_mem {m : Int} {g : Int → Int} {hit : Int → Int → Bool} {b a : Int} (h : find2 m g hit = some (b, a)) : 0 ≤ b ∧ b < m ∧ 0 ≤ a ∧ a < g b ∧ hit b a = true := by
  unfold find2 at h
  obtain ⟨x, hx, e⟩ := List.exists_of_findSome?_eq_some h
  obtain ⟨a', ha, e⟩ := Option.map_eq_some_iff.mp e
  cases e
  have h1 := mem_irange.mp hx
  have h2 := mem_irange.mp (List.mem_of_find?_eq_some ha)
  exact ⟨h1.1, h1.2, h2.1, h2.2, List.find?_some ha⟩
theorem find2_some {m : Int} {g : Int → Int} {hit : Int → Int → Bool} {b a : Nat} (hb : (b : Int) < m) (ha : (a : Int) < g b) (h : hit b a = true) (h1 : ∀ b' : Int, 0 ≤ b' → b' < b → ∀ a', 0 ≤ a' → a' < g b' → hit b' a' = false)
    (h2 : ∀ a' : Int, 0 ≤ a' → a' < a → hit b a' = false) : find2 m g hit = some ((b : Int), (a : Int)) := by
  obtain ⟨r, e⟩ := irange_split hb
  obtain ⟨r2, e2⟩ := irange_split ha
  have f0 : (irange (b : Int)).findSome? (fun b => ((irange (g b)).find? (hit b)).map fun a => (b, a)) = none := find2_none.mpr fun b' a' p1 p2 p3 p4 => h1 b' p1 p2 a' p3 p4
  have f1 : (irange (g b)).find? (hit b) = some (a : Int) := by
    rw [e2, List.find?_append]
    have : (irange (a : Int)).find? (hit b) = none := by
      rw [List.find?_eq_none]
      intro x hx
      have := mem_irange.mp hx
      rw [h2 x this.1 this.2]
      simp
    rw [this, List.find?_cons_of_pos h]
    rfl
  unfold find2
  rw [e, List.findSome?_append, f0, List.findSome?_cons, f1]
  rfl
/-- the first lone one; the first two that are too few, too often together -/
def loneAt (plan : List (List (Int × Int))) (r t : Int) : Bool := loneM (plan.getD r.toNat []) t
def loneFind (n : Int) (plan : List (List (Int × Int))) : Option (Int × Int) := find2 (plan.length : Int) (fun _ => n) (loneAt plan)
def hitM (tb : Tab) (few : Bool) (b a : Int) : Bool := decide (getI tb (a, b) = 0) && few || decide (getI tb (a, b) > 1) && !few
def twoFind (n : Int) (plan : List (List (Int × Int))) (few : Bool) : Option (Int × Int) := (find2 n id (hitM (tabM plan.flatten) few)).map fun x => (x.2, x.1)
def showsGood (n : Int) (plan : List (List (Int × Int))) : Bool := decide (loneFind n plan = none) && (decide (twoFind n plan true = none) && decide (twoFind n plan false = none))
theorem loneFind_none {n : Int} {plan : List (List (Int × Int))} : loneFind n plan = none ↔ ∀ row ∈ plan, ∀ t, TeamOk n t → cntM row t = 1 := by
  unfold loneFind
  rw [find2_none]
  constructor
  · intro h row hr t ht
    obtain ⟨i, hi, rfl⟩ := List.mem_iff_getElem.mp hr
    have := h (i : Int) t (by omega) (by omega) ht.1 ht.2
    unfold loneAt loneM at this
    rw [Int.toNat_natCast, List.getD_eq_getElem?_getD, List.getElem?_eq_getElem hi] at this
    simpa using this
  · intro h b a h1 h2 h3 h4
    unfold loneAt loneM
    rw [h _ (getD_mem' (by omega)) a ⟨h3, h4⟩]
    rfl
theorem loneFind_some {n r t : Int} {plan : List (List (Int × Int))} (h : loneFind n plan = some (r, t)) : 0 ≤ r ∧ r < (plan.length : Int) ∧ TeamOk n t ∧ loneAt plan r t = true := by
  obtain ⟨h1, h2, h3, h4, h5⟩ := find2_mem h
  exact ⟨h1, h2, ⟨h3, h4⟩, h5⟩
theorem twoFind_none {n : Int} {plan : List (List (Int × Int))} {few : Bool} : twoFind n plan few = none ↔ ∀ a b, 0 ≤ a → a < b → b < n → hitM (tabM plan.flatten) few b a = false := by
  unfold twoFind
  rw [Option.map_eq_none_iff, find2_none]
  constructor
  · intro h a b h1 h2 h3
    exact h b a (by omega) h3 h1 h2
  · intro h b a h1 h2 h3 h4
    exact h a b h3 h4 h2
theorem twoFind_some {n a b : Int} {plan : List (List (Int × Int))} {few : Bool} (h : twoFind n plan few = some (a, b)) : 0 ≤ a ∧ a < b ∧ b < n ∧ hitM (tabM plan.flatten) few b a = true := by
  unfold twoFind at h
  obtain ⟨x, hx, e⟩ := Option.map_eq_some_iff.mp h
  obtain ⟨b', a'⟩ := x
  cases e
  obtain ⟨h1, h2, h3, h4, h5⟩ := find2_mem hx
  exact ⟨h3, h4, h2, h5⟩
theorem hit_few {l : List (Int × Int)} {a b : Int} : hitM (tabM l) true b a = decide (countK l (a, b) = 0) := by
  unfold hitM
  rw [tabM_get]
  simp
theorem hit_many {l : List (Int × Int)} {a b : Int} : hitM (tabM l) false b a = decide (countK l (a, b) > 1) := by
  unfold hitM
  rw [tabM_get]
  simp
  omega
theorem showsGood_iff {n : Int} {plan : List (List (Int × Int))} : showsGood n plan = true ↔ GoodP n plan := by
  unfold showsGood
  rw [Bool.and_eq_true, Bool.and_eq_true, decide_eq_true_eq, decide_eq_true_eq, decide_eq_true_eq, loneFind_none, twoFind_none, twoFind_none]
  simp only [hit_few, hit_many, decide_eq_false_iff_not]
  constructor
  · rintro ⟨h1, h2, h3⟩
    exact ⟨h1, fun a b p1 p2 p3 => by have := h2 a b p1 p2 p3; have := h3 a b p1 p2 p3; omega⟩
  · rintro ⟨h1, h2⟩
    exact ⟨h1, fun a b p1 p2 p3 => by have := h2 a b p1 p2 p3; omega, fun a b p1 p2 p3 => by have := h2 a b p1 p2 p3; omega⟩
theorem good_shows {n : Int} (hn : TeamsOk n) {plan : List (List (Int × Int))} (h : PlanOk n plan) : showsGood n plan = goodM n plan := by
  have a := showsGood_iff (n := n) (plan := plan)
  have b := goodM_iff hn h
  cases x : showsGood n plan <;> cases y : goodM n plan <;> simp_all
/-- the breaks of a plan -/
def homeIn (row : List (Int × Int)) (t : Int) : Bool := (row.map (·.1)).any fun x => decide (t = x)
def brkAt (plan : List (List (Int × Int))) (r t : Int) : Bool := decide (homeIn (plan.getD (r - 1).toNat []) t = homeIn (plan.getD r.toNat []) t)
def brkRow (n : Int) (plan : List (List (Int × Int))) (r : Int) : List (Int × Int) := ((irange n).filter fun t => brkAt plan r t).map fun t => (r, t)
def breaksM (n : Int) (plan : List (List (Int × Int))) : List (Int × Int) := (irange ((plan.length : Int) - 1)).flatMap fun i => brkRow n plan (1 + i)
theorem brkRow_len (n : Int) (plan : List (List (Int × Int))) (r : Int) : (brkRow n plan r).length ≤ n.toNat := by
  unfold brkRow
  rw [List.length_map]
  have := List.length_filter_le (fun t => brkAt plan r t) (irange n)
  rwa [irange_len] at this
theorem flatMap_len {α β : Type} {f : α → List β} {k : Nat} (h : ∀ x, (f x).length ≤ k) : ∀ l : List α, (l.flatMap f).length ≤ l.length * k
  | [] => by simp
  | x :: l => by
    have := flatMap_len h l
    have := h x
    rw [List.flatMap_cons, List.length_append, List.length_cons, Nat.add_mul]
    omega
theorem inV_ints {t : Int} (l : List Int) : inV (.int t) (l.map V.int) = l.any fun x => decide (t = x) := by
  have e : ∀ p q : Int, (p == q) = decide (p = q) := fun p q => rfl
  induction l with
  | nil => rfl
  | cons a l ih =>
    rw [List.any_cons, ← ih]
    simp only [inV, List.map_cons, List.any_cons, eqV, e]
    congr 1
    simp [eq_comm]
section
variable {K : PySem.W.Frag} {σ : L2.St} {H H' : Hp} {ta tb te tl tx : TE} {tt : TT} {x y z v : V} {β γ : Type}
theorem filt1 (l : List β) : l.filter (fun _ => true) = l := by simp
theorem getD_map' {f : β → γ} (l : List β) (i : Nat) (d : β) : (l.map f).getD i (f d) = f (l.getD i d) := by
  rw [List.getD_eq_getElem?_getD, List.getD_eq_getElem?_getD, List.getElem?_map]
  cases l[i]? <;> rfl
/-- a comprehension without a test -/
theorem er_lcL1 {R : Hp → V → β → Prop} {S : Hp → V → γ → Prop} (mS : Mono S) {a : Addr} {xs : List V} {j : Nat} {vs : List Nat} {l : List β} (f : β → γ) (h : Ev tl σ H (.ref a)) (hx : SqL K H a xs) (hr : Paired (R H) xs l) (hz : l.length ≤ 40000)
    (hw : ∀ x, wipe ((wipe σ vs).set j (some x)) vs = wipe σ vs)
    (he : ∀ x b, b ∈ l → R H x b → EvR te ((wipe σ vs).set j (some x)) H (fun G v => S G v (f b))) :
    EvR (tLc (iList K tl) (gName j) tYes te vs) σ H (fun G v => IsL S G v (l.map f)) := by
  have := er_lcL mS (tt := tYes) (fun _ => true) f h hx hr hz hw (fun x b _ _ => et_yes) fun x b hb hx _ => he x b hb hx
  rwa [filt1] at this
theorem ev_lenU {p : Addr} {xs : List V} (ha : Ev ta σ H (.ref p)) (h : SqT K H p xs) : Ev (tCB (rLenS K) (tCons ta tNil)) σ H (.int (xs.length : Int)) := fun H1 e Q q => ha H1 e _ fun H2 e2 => ⟨p, xs, rfl, Or.inr (ex_t (e.trans e2) h), q H2 e2⟩
/-- over a tuple known to the base -/
theorem er_lcT {S : Hp → V → γ → Prop} (mS : Mono S) {a : Addr} {j : Nat} {vs : List Nat} {l : List β} {cd : β → V} (p : β → Bool) (f : β → γ) (h : Ev tl σ H (.ref a)) (hx : SqT K H a (l.map cd)) (hz : l.length ≤ 40000)
    (hw : ∀ x, wipe ((wipe σ vs).set j (some x)) vs = wipe σ vs)
    (ht : ∀ b, b ∈ l → EvT tt ((wipe σ vs).set j (some (cd b))) H (p b)) (he : ∀ b, b ∈ l → p b = true → EvR te ((wipe σ vs).set j (some (cd b))) H (fun G v => S G v (f b))) :
    EvR (tLc (iTup K tl) (gName j) tt te vs) σ H (fun G v => IsL S G v ((l.filter p).map f)) := fun H0 e Q q => h H0 e _ fun H1 e1 => ⟨a, rfl, ⟨_, ex_t (e.trans e1) hx⟩, fun D hD =>
  lc_core2 mS (walk_tup (K := K) (a := a) (xs := l.map cd)) l p f (List.length_map _) (by rw [List.length_map]; exact hz) (e.trans e1) hD (fun H' u => ex_t ((e.trans e1).trans u) hx) (fun i x b H' H'' hb hH y => by
    obtain ⟨rfl, hxi⟩ := y
    rw [List.getElem?_map, hb] at hxi
    cases hxi
    have hm := List.mem_of_getElem? hb
    exact ⟨Ex.refl _, fun Qg k => k _ (hw _) (ht b hm) (he b hm)⟩)
    fun v G H2 c r => q v G H2 ⟨e1.trans c.up, c.old, c.part, fun b hb h1 => c.apart b hb (by
      cases w : H0 b with
      | none => exact absurd w h1
      | some o => rw [e1 b o w]; simp)⟩ r⟩
/-- C().m(..) -/
theorem ev_methO {C : Addr} {m : Str} {sp : Sp} {E : XK} {tA : TA} {vs : List V} (h : EvA tA σ H vs) (hs : ∀ u, SpV sp (u :: vs) H z) : Ev (tMeth C m sp [] E (tMakeO C) tA) σ H z := fun H1 e Q q => fun x dx hx hdx hne => by
  have e2 : Ex H1 (upd (upd H1 dx (.own x)) x (.ins C dx [])) := (Ex.new hdx).trans (Ex.new (by rw [upd_ne (Ne.symm hne)]; exact hx))
  refine ⟨x, dx, [], rfl, upd_same, rfl, h _ (e.trans e2) _ fun H3 e3 => ?_⟩
  rw [List.append_nil]
  exact hs (.ref x) H3 ((e.trans e2).trans e3) Q (fun H4 e4 => q H4 ((e2.trans e3).trans e4)) E
end
end Em

namespace Em
open PySem PySem.Spec PyProof.Rows L2 Evl
/-! ### lists cut, turned, joined -/
theorem paired_app {α β : Type} {F : α → β → Prop} {l l' : List α} {m m' : List β} (p : Paired F l m) (q : Paired F l' m') : Paired F (l ++ l') (m ++ m') := by
  induction p with
  | nil => exact q
  | cons r _ ih => exact .cons r ih
theorem paired_take {α β : Type} {F : α → β → Prop} {l : List α} {m : List β} (p : Paired F l m) : ∀ k, Paired F (l.take k) (m.take k) := by
  induction p with
  | nil => intro k; simp; exact .nil
  | cons r _ ih =>
    intro k
    cases k with
    | zero => exact .nil
    | succ k => exact .cons r (ih k)
theorem paired_drop {α β : Type} {F : α → β → Prop} {l : List α} {m : List β} (p : Paired F l m) : ∀ k, Paired F (l.drop k) (m.drop k) := by
  induction p with
  | nil => intro k; simp; exact .nil
  | cons r t ih =>
    intro k
    cases k with
    | zero => exact .cons r t
    | succ k => exact ih k
theorem paired_rev {α β : Type} {F : α → β → Prop} {l : List α} {m : List β} (p : Paired F l m) : Paired F l.reverse m.reverse := by
  induction p with
  | nil => exact .nil
  | cons r _ ih =>
    rw [List.reverse_cons, List.reverse_cons]
    exact paired_app ih (.cons r .nil)
theorem cut_from {xs : List V} {k : Int} (h : 0 ≤ k) : cutV xs (some k) none = xs.drop k.toNat := by
  obtain ⟨j, rfl⟩ : ∃ j : Nat, k = (j : Int) := ⟨k.toNat, by omega⟩
  unfold cutV
  rw [HT.sIx_none, HT.sIx_nat, Int.toNat_natCast]
  by_cases c : j ≤ xs.length
  · rw [Nat.min_eq_left c]
    exact List.take_of_length_le (by rw [List.length_drop]; omega)
  · rw [Nat.min_eq_right (by omega), List.drop_of_length_le (Nat.le_refl _), List.drop_of_length_le (by omega), List.take_nil]
theorem cut_to {xs : List V} {k : Int} (h : 0 ≤ k) : cutV xs none (some k) = xs.take k.toNat := by
  obtain ⟨j, rfl⟩ : ∃ j : Nat, k = (j : Int) := ⟨k.toNat, by omega⟩
  unfold cutV
  rw [HT.sIx_none, HT.sIx_nat, Int.toNat_natCast, List.drop_zero, Nat.sub_zero]
  by_cases c : j ≤ xs.length
  · rw [Nat.min_eq_left c]
  · rw [Nat.min_eq_right (by omega), List.take_of_length_le (Nat.le_refl _), List.take_of_length_le (by omega)]
/-- a list as it stands or just made -/
def EvX (te : TE) (σ : L2.St) (H : Hp) (xs : List V) : Prop := ∀ H1, Ex H H1 → ∀ Q : VK, (∀ p H2, Ex H1 H2 → H2 p = some (.lst xs) → Q (.ref p) H2) → te σ H1 Q
section
variable {K : PySem.W.Frag} {σ : L2.St} {H H' : Hp} {ta tb te tl tx : TE} {tt : TT} {x y z v : V} {β γ : Type} {D : Ends} {tz : TS}
theorem ex_new {xs : List V} (h : EvL te σ H xs) : EvX te σ H xs := fun H1 e Q q => h H1 e Q fun p H2 _ e2 h2 => q p H2 e2 h2
theorem ex_old {p : Addr} {xs : List V} (h : Ev te σ H (.ref p)) (hp : H p = some (.lst xs)) : EvX te σ H xs := fun H1 e Q q => h H1 e Q fun H2 e2 => q p H2 e2 (e2 p _ (e p _ hp))
theorem el_cat {xs ys : List V} (h1 : EvX ta σ H xs) (h2 : EvX tb σ H ys) (hz : xs.length + ys.length ≤ 100000) : EvL (tOp rCat ta tb) σ H (xs ++ ys) := fun H1 e Q q =>
  h1 H1 e _ fun p H2 e2 hp2 => h2 H2 (e.trans e2) _ fun r H3 e3 hr3 => ⟨p, r, xs, ys, rfl, rfl, e3 p _ hp2, hr3, sz_of hz, fun s hs => q s _ (fresh_back (e2.trans e3) hs) ((e2.trans e3).trans (Ex.new hs)) upd_same⟩
theorem el_rev {p : Addr} {xs : List V} (h : Ev te σ H (.ref p)) (hp : SqL K H p xs) : EvL (tRevL K te) σ H xs.reverse := fun H1 e Q q =>
  h H1 e _ fun H2 e2 => ⟨p, xs, rfl, ex_l (e.trans e2) hp, fun s hs => q s _ (fresh_back e2 hs) (e2.trans (Ex.new hs)) upd_same⟩
theorem el_from {p : Addr} {xs : List V} {k : Int} (h : Ev te σ H (.ref p)) (hp : SqL K H p xs) (hk : Ev tb σ H (.int k)) (h0 : 0 ≤ k) : EvL (tSl (rSlL K) te (tPart tb) tNoPart) σ H (xs.drop k.toNat) := by
  have := el_sl h (eo_some hk) eo_none hp
  rwa [cut_from h0] at this
theorem el_to {p : Addr} {xs : List V} {k : Int} (h : Ev te σ H (.ref p)) (hp : SqL K H p xs) (hk : Ev tb σ H (.int k)) (h0 : 0 ≤ k) : EvL (tSl (rSlL K) te tNoPart (tPart tb)) σ H (xs.take k.toNat) := by
  have := el_sl h eo_none (eo_some hk) hp
  rwa [cut_to h0] at this
/-- a list just made of things that stand -/
theorem er_el {S : Hp → V → β → Prop} (mS : Mono S) {xs : List V} {l : List β} (h : EvL te σ H xs) (r : Paired (S H) xs l) : EvR te σ H (fun G v => IsL S G v l) := r_list h fun p G _ e hp => ⟨p, xs, rfl, hp, paired_mono (fun x b => mS _ _ x b e) r⟩
theorem er_cat {S : Hp → V → β → Prop} (mS : Mono S) {l m : List β} (h1 : EvR ta σ H (fun G v => IsL S G v l)) (h2 : EvR tb σ H (fun G v => IsL S G v m)) (hz : l.length + m.length ≤ 100000) : EvR (tOp rCat ta tb) σ H (fun G v => IsL S G v (l ++ m)) := fun H1 e Q q =>
  h1 H1 e _ fun v G H2 c r => h2 H2 (e.trans c.up) _ fun u G' H3 c' r' => by
    have u1 : Ex G H3 := c.part.trans c'.up
    obtain ⟨a, xs, rfl, ha, hx⟩ := r
    obtain ⟨b, ys, rfl, hb, hy⟩ := r'
    have ha3 := u1 a _ ha
    have hb3 := c'.part b _ hb
    refine ⟨a, b, xs, ys, rfl, rfl, ha3, hb3, sz_of (by rw [paired_len hx, paired_len hy]; exact hz), fun p hp => ?_⟩
    have part : Ex (join G G') H3 := join_up u1 c'.part
    have hg : join G G' p = none := fresh_back part hp
    have hH3 : Ex H1 H3 := c.up.trans c'.up
    refine q (.ref p) (upd (join G G') p (.lst (xs ++ ys))) _ ⟨hH3.trans (Ex.new hp), (c.old.trans join_l).trans (Ex.new hg), fun s o z => ?_, fun s h h1 => ?_⟩ ⟨p, _, rfl, upd_same, paired_mono (fun x b => mS _ _ x b (Ex.new hg)) (paired_app (paired_mono (fun x b => mS _ _ x b join_l) hx) (paired_mono (fun x b => mS _ _ x b (join_r u1 c'.part)) hy))⟩
    · by_cases hs : s = p
      · subst hs
        rw [upd_same] at z ⊢
        exact z
      · rw [upd_ne hs] at z ⊢
        exact part s o z
    · by_cases hs : s = p
      · subst hs
        cases w : H1 s with
        | none => exact absurd w h1
        | some o =>
          rw [hH3 s o w] at hp
          cases hp
      · rw [upd_ne hs]
        refine join_none (c.apart s h h1) (c'.apart s h ?_)
        cases w : H1 s with
        | none => exact absurd w h1
        | some o => rw [c.up s o w]; simp
theorem er_lcN1 {R : Hp → V → β → Prop} {S : Hp → V → γ → Prop} (mS : Mono S) {j : Nat} {vs : List Nat} {l : List β} (f : β → γ) (h : EvR tl σ H (fun G v => IsL R G v l)) (hz : l.length ≤ 40000)
    (hw : ∀ x, wipe ((wipe σ vs).set j (some x)) vs = wipe σ vs)
    (he : ∀ x b G, b ∈ l → Ex H G → R G x b → EvR te ((wipe σ vs).set j (some x)) G (fun G v => S G v (f b))) :
    EvR (tLc (iList K tl) (gName j) tYes te vs) σ H (fun G v => IsL S G v (l.map f)) := by
  have := er_lcN (K := K) (tt := tYes) mS (fun _ => true) f h hz hw (fun x b G _ _ _ => et_yes) fun x b G hb e hx _ => he x b G hb e hx
  rwa [filt1] at this
theorem er_lcR1 {γ : Type} {S : Hp → V → γ → Prop} (mS : Mono S) {ta : TA} {n : Int} {j : Nat} {vs : List Nat} (f : Int → γ) (h : EvA ta σ H [.int n]) (hn : 0 ≤ n ∧ n ≤ 40000)
    (hw : ∀ x, wipe ((wipe σ vs).set j (some x)) vs = wipe σ vs)
    (he : ∀ i, 0 ≤ i → i < n → EvR te ((wipe σ vs).set j (some (.int i))) H (fun G v => S G v (f i))) :
    EvR (tLc (iRng1 ta) (gName j) tYes te vs) σ H (fun G v => IsL S G v ((irange n).map f)) := by
  have := er_lcR mS (tt := tYes) (fun _ => true) f h hn.2 hw (fun i _ _ => et_yes) (fun i h0 h1 _ => he i h0 h1) (by omega)
  rwa [filt1] at this
theorem grown_part {γ : Type} {S : Hp → V → γ → Prop} {B Hs : Hp} {p : Addr} {l : List γ} (g : Grown S B Hs p l H) : Ex B H := by
  obtain ⟨G, ys, h1, h2, h3, _⟩ := g
  exact h2.trans h3
/-- a list displayed that will grow -/
theorem q_asgRs {S : Hp → V → β → Prop} (mS : Mono S) {tA : TA} {l : List β} {i : Nat} (h : EvRs S σ H tA l) (hl : l.length ≤ 100000) (k : ∀ p H1, H p = none → Grown S H H p l H1 → tz D (σ.set i (some (.ref p))) H1) : tSeq (tAsg (tLst tA) (gName i)) tz D σ H :=
  evRs_run mS h H (Ex.refl H) _ fun vs G H2 c r => ⟨by rw [paired_len r]; exact sz_of hl, fun p hp => by
    refine k p _ (fresh_back c.up hp) ⟨G, vs, fun a o z => ?_, c.old, c.part.trans (Ex.new hp), fresh_back c.part hp, fun a h1 h2 => absurd h1 h2, upd_same, r⟩
    have ha : a ≠ p := by
      intro e
      subst e
      rw [c.up a o z] at hp
      cases hp
    simp only [ha, if_false]
    rw [upd_ne ha]
    exact c.up a o z⟩
theorem grown_is {S : Hp → V → β → Prop} (mS : Mono S) {B Hs : Hp} {p : Addr} {l : List β} (hp : Hs p = none) (g : Grown S B Hs p l H) : Ex Hs H ∧ IsL S H (.ref p) l := by
  obtain ⟨G, c, r, _⟩ := grown_end mS hp g
  exact ⟨c.up, mono_L mS _ _ _ _ c.part r⟩
/-- a, b = a pair just made -/
theorem ev_pairX {p : Int × Int} (h : EvR te σ H (fun G v => IsPair G v p)) (H1 : Hp) (e : Ex H H1) : te σ H1 fun v H2 => Ex H1 H2 ∧ IsPair H2 v p := h H1 e _ fun v G H2 c r => ⟨c.up, mono_pair _ _ _ _ c.part r⟩
/-- a promise whose outcome may share -/
def RetW (R : Hp → V → β → Prop) (b : β) (H : Hp) (Q : VK) : Prop := ∀ v H2, Ex H H2 → R H2 v b → Q v H2
end
end Em

namespace Em
open PySem PySem.Spec PyProof.Rows L2 Evl
/-! ### breaks: no program here -/
/-- the round in which a team breaks -/
def breakM (n t : Int) : Option Int := if t = 0 ∨ t = n - 1 then none else some (if t % 2 = 0 then t else t + 1)
def brkIn (n t r : Int) : Bool := if r = 0 then false else decide (homeM n t r = homeM n t (r - 1))
theorem breakM_some {n t r : Int} (hn : TeamsOk n) (ht : TeamOk n t) (h : breakM n t = some r) : 0 < r ∧ r < n - 1 := by
  obtain ⟨h1, h2⟩ := hn
  obtain ⟨h3, h4⟩ := ht
  unfold breakM at h
  split at h
  · cases h
  · injection h with h
    subst h
    split <;> omega
theorem homeM_iff {n t r : Int} (hn : TeamsOk n) (ht : TeamOk n t) (hr : RoundOk n r) : homeM n t r = true ↔ (t = n - 1 ∧ r % 2 = 1) ∨ (t ≠ n - 1 ∧ ((t = r ∧ r % 2 = 0) ∨ (t < r ∧ (t - r + (n - 1)) % 2 = 1) ∨ (t > r ∧ (t - r) % 2 = 1))) := by
  rw [home_lin hn ht hr]
  split
  · rw [decide_eq_true_eq]
    omega
  · split
    · rw [decide_eq_true_eq]
      omega
    · split
      · rw [decide_eq_true_eq]
        omega
      · rw [decide_eq_true_eq]
        omega
theorem breakM_iff {n t r : Int} : breakM n t = some r ↔ t ≠ 0 ∧ t ≠ n - 1 ∧ ((t % 2 = 0 ∧ r = t) ∨ (t % 2 = 1 ∧ r = t + 1)) := by
  unfold breakM
  split
  · simp
    omega
  · split
    · simp
      omega
    · simp
      omega
theorem brk_told {n t r : Int} (hn : TeamsOk n) (ht : TeamOk n t) (hr : RoundOk n r) : brkIn n t r = decide (breakM n t = some r) := by
  unfold brkIn
  split
  · symm
    rw [decide_eq_false_iff_not, breakM_iff]
    obtain ⟨h1, h2⟩ := hn
    obtain ⟨h3, h4⟩ := ht
    omega
  · rename_i hr0
    have hr1 : RoundOk n (r - 1) := ⟨by have := hr.1; omega, by have := hr.2; omega⟩
    refine decide_eq_decide.mpr ?_
    rw [Bool.eq_iff_iff, homeM_iff hn ht hr, homeM_iff hn ht hr1, breakM_iff]
    obtain ⟨h1, h2⟩ := hn
    obtain ⟨h3, h4⟩ := ht
    obtain ⟨h5, h6⟩ := hr
    omega
def optLi : Option Int → List Int
  | none => []
  | some r => [r]
theorem filter_one {m r : Int} (h0 : 0 ≤ r) (h1 : r < m) : (irange m).filter (fun x => decide (some r = some x)) = [r] := by
  obtain ⟨j, rfl⟩ : ∃ j : Nat, r = (j : Int) := ⟨r.toNat, by omega⟩
  obtain ⟨rest, e⟩ := irange_split h1
  have nd := irange_nodup m
  rw [e] at nd ⊢
  have nd2 := List.nodup_append.mp nd
  rw [List.filter_append, List.filter_cons, if_pos (by simp)]
  have a : (irange (j : Int)).filter (fun x => decide (some (j : Int) = some x)) = [] := by
    rw [List.filter_eq_nil_iff]
    intro x hx
    have := mem_irange.mp hx
    simp
    omega
  have b : rest.filter (fun x => decide (some (j : Int) = some x)) = [] := by
    rw [List.filter_eq_nil_iff]
    intro x hx
    have := (List.nodup_cons.mp nd2.2.1).1
    simp
    intro e
    rw [e] at this
    exact this hx
  rw [a, b]
  rfl
theorem due_told {n t : Int} (hn : TeamsOk n) (ht : TeamOk n t) : (irange (n - 1)).filter (brkIn n t) = optLi (breakM n t) := by
  have e : (irange (n - 1)).filter (brkIn n t) = (irange (n - 1)).filter fun r => decide (breakM n t = some r) := List.filter_congr fun r hr => brk_told hn ht (mem_irange.mp hr)
  rw [e]
  cases h : breakM n t with
  | none =>
    show _ = []
    rw [List.filter_eq_nil_iff]
    intro x _
    simp
  | some r =>
    obtain ⟨h1, h2⟩ := breakM_some hn ht h
    exact filter_one (by omega) h2
def neverM (n : Int) (l : List Int) : Nat := (l.filter fun t => decide (breakM n t = none)).length
theorem never_small : ∀ h ∈ [1, 2, 3, 4, 5, 6, 7, 8, 9, 10, 11, 12, 13, 14, 15], neverM (2 * h) (irange (2 * h)) = 2 := by decide +kernel
theorem never_few {n : Int} (h1 : 2 ≤ n) (h2 : n ≤ 30) (h3 : n % 2 = 0) : neverM n (irange n) = 2 := by
  obtain ⟨k, rfl⟩ : ∃ k, n = 2 * k := ⟨n / 2, by omega⟩
  refine never_small k ?_
  have : k = 1 ∨ k = 2 ∨ k = 3 ∨ k = 4 ∨ k = 5 ∨ k = 6 ∨ k = 7 ∨ k = 8 ∨ k = 9 ∨ k = 10 ∨ k = 11 ∨ k = 12 ∨ k = 13 ∨ k = 14 ∨ k = 15 := by omega
  simpa using this
/-! a good plan's breaks: never fewer than two less than the teams -/
theorem len_split {α : Type} (p : α → Bool) : ∀ l : List α, l.length = (l.filter p).length + (l.filter fun x => !p x).length
  | [] => rfl
  | a :: l => by
    have := len_split p l
    cases h : p a <;> simp [h] <;> omega
theorem len_one {α : Type} {l : List α} (nd : l.Nodup) (h : ∀ x ∈ l, ∀ y ∈ l, x = y) : l.length ≤ 1 := by
  match l, nd, h with
  | [], _, _ => simp
  | [x], _, _ => simp
  | x :: y :: l, nd, h =>
    have e := h x (by simp) y (by simp)
    subst e
    simp at nd
theorem cnt_one {row : List (Int × Int)} {t : Int} (h : cntM row t = 1) {p q : Int × Int} (hp : p ∈ row) (hq : q ∈ row) (h1 : hasT p t = true) (h2 : hasT q t = true) : p = q := by
  unfold cntM at h
  obtain ⟨z, hz⟩ := List.length_eq_one_iff.mp h
  have a : p ∈ row.filter fun p => hasT p t := List.mem_filter.mpr ⟨hp, h1⟩
  have b : q ∈ row.filter fun p => hasT p t := List.mem_filter.mpr ⟨hq, h2⟩
  rw [hz] at a b
  rw [List.mem_singleton.mp a, List.mem_singleton.mp b]
theorem homeIn_iff {row : List (Int × Int)} {t : Int} : homeIn row t = true ↔ ∃ p ∈ row, p.1 = t := by
  unfold homeIn
  rw [List.any_eq_true]
  constructor
  · rintro ⟨x, hx, h⟩
    obtain ⟨p, hp, rfl⟩ := List.mem_map.mp hx
    exact ⟨p, hp, (of_decide_eq_true h).symm⟩
  · rintro ⟨p, hp, rfl⟩
    exact ⟨p.1, List.mem_map_of_mem hp, by simp⟩
/-- of two that meet just one is at home -/
theorem meet_home {n : Int} {row : List (Int × Int)} (hok : ∀ p ∈ row, PairOk n p) (h1 : ∀ t, TeamOk n t → cntM row t = 1) {p : Int × Int} (hp : p ∈ row) : homeIn row p.1 = true ∧ homeIn row p.2 = false := by
  obtain ⟨k1, k2, k3⟩ := hok p hp
  refine ⟨homeIn_iff.mpr ⟨p, hp, rfl⟩, ?_⟩
  cases h : homeIn row p.2 with
  | false => rfl
  | true =>
    obtain ⟨q, hq, e⟩ := homeIn_iff.mp h
    have := cnt_one (h1 p.2 k2) hp hq (by simp [hasT]) (by simp [hasT, e])
    rw [← this] at e
    exact absurd e k3
def neverIn (plan : List (List (Int × Int))) (t : Int) : Bool := (irange ((plan.length : Int) - 1)).all fun i => !brkAt plan (1 + i) t
theorem never_same {plan : List (List (Int × Int))} {a b : Int} (ha : neverIn plan a = true) (hb : neverIn plan b = true) (h0 : homeIn (plan.getD 0 []) a = homeIn (plan.getD 0 []) b) : ∀ i : Nat, i < plan.length → homeIn (plan.getD i []) a = homeIn (plan.getD i []) b
  | 0, _ => h0
  | i + 1, hi => by
    have ih := never_same ha hb h0 i (by omega)
    unfold neverIn at ha hb
    rw [List.all_eq_true] at ha hb
    have m : (i : Int) ∈ irange ((plan.length : Int) - 1) := mem_irange.mpr ⟨by omega, by omega⟩
    have a1 := ha _ m
    have b1 := hb _ m
    unfold brkAt at a1 b1
    rw [show ((1 : Int) + (i : Int) - 1).toNat = i by omega, show ((1 : Int) + (i : Int)).toNat = i + 1 by omega] at a1 b1
    simp only [Bool.not_eq_true', decide_eq_false_iff_not] at a1 b1
    generalize homeIn (plan.getD i []) a = x at *
    generalize homeIn (plan.getD i []) b = y at *
    generalize homeIn (plan.getD (i + 1) []) a = z at *
    generalize homeIn (plan.getD (i + 1) []) b = u at *
    subst ih
    cases x <;> cases z <;> cases u <;> simp_all
theorem never_two {n : Int} {plan : List (List (Int × Int))} (hok : PlanOk n plan) (g : GoodP n plan) : ((irange n).filter (neverIn plan)).length ≤ 2 := by
  have key : ∀ a b, TeamOk n a → TeamOk n b → a < b → neverIn plan a = true → neverIn plan b = true → homeIn (plan.getD 0 []) a ≠ homeIn (plan.getD 0 []) b := by
    intro a b ha hb hab na nb h0
    have m := g.meets a b ha.1 hab hb.2
    obtain ⟨p, hp, e⟩ := count_pos.mp (by rw [m]; decide : 0 < countK plan.flatten (a, b))
    obtain ⟨row, hrow, hpr⟩ := List.mem_flatten.mp hp
    obtain ⟨i, hi, hri⟩ := List.mem_iff_getElem.mp hrow
    have hs := never_same na nb h0 i hi
    have hg : plan.getD i [] = row := by rw [List.getD_eq_getElem?_getD, List.getElem?_eq_getElem hi, hri]; rfl
    rw [hg] at hs
    obtain ⟨m1, m2⟩ := meet_home (hok row hrow) (g.rows row hrow) hpr
    unfold kp at e
    have e1 := congrArg Prod.fst e
    have e2 := congrArg Prod.snd e
    dsimp only at e1 e2
    split at e1
    · rename_i c
      rw [if_neg (by omega)] at e2
      rw [← e1, ← e2, m1, m2] at hs
      cases hs
    · rename_i c
      by_cases c2 : p.2 > p.1
      · rw [if_pos c2] at e2
        rw [← e1, ← e2, m1, m2] at hs
        cases hs
      · rw [if_neg c2] at e2
        omega
  have key2 : ∀ a b, TeamOk n a → TeamOk n b → neverIn plan a = true → neverIn plan b = true → homeIn (plan.getD 0 []) a = homeIn (plan.getD 0 []) b → a = b := by
    intro a b ha hb na nb h0
    apply Classical.byContradiction
    intro hne
    by_cases c : a < b
    · exact key a b ha hb c na nb h0
    · exact key b a hb ha (by omega) nb na h0.symm
  have nd : ((irange n).filter (neverIn plan)).Nodup := (irange_nodup n).sublist List.filter_sublist
  rw [len_split (fun t => homeIn (plan.getD 0 []) t)]
  have mem : ∀ x ∈ (irange n).filter (neverIn plan), TeamOk n x ∧ neverIn plan x = true := fun x hx => by
    obtain ⟨h1, h2⟩ := List.mem_filter.mp hx
    exact ⟨mem_irange.mp h1, h2⟩
  have a : (((irange n).filter (neverIn plan)).filter fun t => homeIn (plan.getD 0 []) t).length ≤ 1 := len_one (nd.sublist List.filter_sublist) fun x hx y hy => by
    obtain ⟨h1, h2⟩ := List.mem_filter.mp hx
    obtain ⟨h3, h4⟩ := List.mem_filter.mp hy
    exact key2 x y (mem x h1).1 (mem y h3).1 (mem x h1).2 (mem y h3).2 (by rw [h2, h4])
  have b : (((irange n).filter (neverIn plan)).filter fun t => !homeIn (plan.getD 0 []) t).length ≤ 1 := len_one (nd.sublist List.filter_sublist) fun x hx y hy => by
    obtain ⟨h1, h2⟩ := List.mem_filter.mp hx
    obtain ⟨h3, h4⟩ := List.mem_filter.mp hy
    rw [Bool.not_eq_true'] at h2 h4
    exact key2 x y (mem x h1).1 (mem y h3).1 (mem x h1).2 (mem y h3).2 (by rw [h2, h4])
  omega
theorem breaks_many {n : Int} {plan : List (List (Int × Int))} (hok : PlanOk n plan) (g : GoodP n plan) : n - 2 ≤ ((breaksM n plan).length : Int) := by
  have h1 := len_split (neverIn plan) (irange n)
  have h2 := never_two hok g
  rw [irange_len] at h1
  have nd : ((irange n).filter fun t => !neverIn plan t).Nodup := (irange_nodup n).sublist List.filter_sublist
  have h3 := nodup_sub_len (m := (breaksM n plan).map (·.2)) nd fun t ht => by
    obtain ⟨k1, k2⟩ := List.mem_filter.mp ht
    rw [Bool.not_eq_true'] at k2
    unfold neverIn at k2
    rw [List.all_eq_false] at k2
    obtain ⟨i, hi, hb⟩ := k2
    rw [List.mem_map]
    refine ⟨(1 + i, t), ?_, rfl⟩
    unfold breaksM
    rw [List.mem_flatMap]
    refine ⟨i, hi, ?_⟩
    unfold brkRow
    rw [List.mem_map]
    exact ⟨t, List.mem_filter.mpr ⟨k1, by simpa using hb⟩, rfl⟩
  rw [List.length_map] at h3
  omega
theorem told_breaks : ∀ h ∈ [1, 2, 3, 4, 5], ((breaksM (2 * h) (planM (2 * h))).length : Int) = 2 * h - 2 := by decide +kernel
theorem told_few {n : Int} (h1 : 2 ≤ n) (h2 : n ≤ 10) (h3 : n % 2 = 0) : ((breaksM n (planM n)).length : Int) = n - 2 := by
  obtain ⟨k, rfl⟩ : ∃ k, n = 2 * k := ⟨n / 2, by omega⟩
  refine told_breaks k ?_
  have : k = 1 ∨ k = 2 ∨ k = 3 ∨ k = 4 ∨ k = 5 := by omega
  simpa using this
/-! rows and plans as they come -/
theorem planM_ok {n : Int} (hn : TeamsOk n) : PlanOk n (planM n) := by
  intro row hrow p hp
  unfold planM at hrow
  obtain ⟨r, hr, rfl⟩ := List.mem_map.mp hrow
  unfold rowM at hp
  obtain ⟨t, ht, rfl⟩ := List.mem_map.mp hp
  have htm := mem_irange.mp (List.mem_filter.mp ht).1
  obtain ⟨o1, o2, _⟩ := opp_ok hn htm (mem_irange.mp hr)
  exact ⟨htm, o1, fun e => o2 e.symm⟩
def RG (n : Int) (m : Nat) (row : List (Int × Int)) : Prop := row.length ≤ m ∧ ∀ p ∈ row, PairOk n p
def PG (n : Int) (k m : Nat) (plan : List (List (Int × Int))) : Prop := plan.length ≤ k ∧ ∀ row ∈ plan, RG n m row
section
variable {n : Int} {m m' k k' : Nat} {row row' : List (Int × Int)} {plan plan' : List (List (Int × Int))}
theorem RG.mono (h : RG n m row) (e : m ≤ m') : RG n m' row := ⟨Nat.le_trans h.1 e, h.2⟩
theorem RG.app (h : RG n m row) (h' : RG n m' row') : RG n (m + m') (row ++ row') := ⟨by rw [List.length_append]; have := h.1; have := h'.1; omega, fun p hp => (List.mem_append.mp hp).elim (h.2 p) (h'.2 p)⟩
theorem RG.take (h : RG n m row) (j : Nat) : RG n m (row.take j) := ⟨by rw [List.length_take]; have := h.1; omega, fun p hp => h.2 p (List.mem_of_mem_take hp)⟩
theorem RG.drop (h : RG n m row) (j : Nat) : RG n m (row.drop j) := ⟨by rw [List.length_drop]; have := h.1; omega, fun p hp => h.2 p (List.mem_of_mem_drop hp)⟩
theorem RG.rev (h : RG n m row) : RG n m row.reverse := ⟨by rw [List.length_reverse]; exact h.1, fun p hp => h.2 p (List.mem_reverse.mp hp)⟩
theorem RG.one {p : Int × Int} (h : PairOk n p) : RG n 1 [p] := ⟨Nat.le_refl _, fun q hq => by rw [List.mem_singleton.mp hq]; exact h⟩
theorem RG.nil : RG n 0 [] := ⟨Nat.le_refl _, fun q hq => by cases hq⟩
theorem PG.mono (h : PG n k m plan) (e : k ≤ k') (e' : m ≤ m') : PG n k' m' plan := ⟨Nat.le_trans h.1 e, fun row hr => (h.2 row hr).mono e'⟩
theorem PG.app (h : PG n k m plan) (h' : PG n k' m plan') : PG n (k + k') m (plan ++ plan') := ⟨by rw [List.length_append]; have := h.1; have := h'.1; omega, fun p hp => (List.mem_append.mp hp).elim (h.2 p) (h'.2 p)⟩
theorem PG.take (h : PG n k m plan) (j : Nat) : PG n k m (plan.take j) := ⟨by rw [List.length_take]; have := h.1; omega, fun p hp => h.2 p (List.mem_of_mem_take hp)⟩
theorem PG.drop (h : PG n k m plan) (j : Nat) : PG n k m (plan.drop j) := ⟨by rw [List.length_drop]; have := h.1; omega, fun p hp => h.2 p (List.mem_of_mem_drop hp)⟩
theorem PG.rev (h : PG n k m plan) : PG n k m plan.reverse := ⟨by rw [List.length_reverse]; exact h.1, fun p hp => h.2 p (List.mem_reverse.mp hp)⟩
theorem PG.one (h : RG n m row) : PG n 1 m [row] := ⟨Nat.le_refl _, fun q hq => by rw [List.mem_singleton.mp hq]; exact h⟩
theorem PG.nil : PG n 0 m [] := ⟨Nat.le_refl _, fun q hq => by cases hq⟩
theorem PG.map {f : List (Int × Int) → List (Int × Int)} (h : PG n k m plan) (hf : ∀ row, RG n m row → RG n m' (f row)) : PG n k m' (plan.map f) := ⟨by rw [List.length_map]; exact h.1, fun row hr => by
  obtain ⟨r, h1, rfl⟩ := List.mem_map.mp hr
  exact hf r (h.2 r h1)⟩
theorem PG.flat (h : PG n k m plan) : RG n (k * m) plan.flatten := ⟨flatten_le h.1 fun row hr => (h.2 row hr).1, fun p hp => by
  obtain ⟨row, h1, h2⟩ := List.mem_flatten.mp hp
  exact (h.2 row h1).2 p h2⟩
theorem PG.ok (h : PG n k m plan) : PlanOk n plan := fun row hr => (h.2 row hr).2
theorem PG.sz (h : PG n k m plan) (hk : k ≤ 100) (hm : m ≤ 1000) : PlanSz plan := ⟨Nat.le_trans h.1 hk, fun row hr => Nat.le_trans (h.2 row hr).1 hm⟩
end
theorem mod_ne {n a b s : Int} (ha : TeamOk n a) (hb : TeamOk n b) (hab : a ≠ b) : (a + s) % n ≠ (b + s) % n := by
  intro e
  obtain ⟨h1, h2⟩ := ha
  obtain ⟨h3, h4⟩ := hb
  have e1 := Int.emod_emod_of_dvd
  have e2 : (a + s - (b + s)) % n = 0 := Int.emod_eq_emod_iff_emod_sub_eq_zero.mp e
  rw [show a + s - (b + s) = a - b by omega] at e2
  by_cases c : 0 ≤ a - b
  · rw [Int.emod_eq_of_lt c (by omega)] at e2
    omega
  · have e3 : (a - b + n) % n = 0 := by rw [Int.add_emod_right]; exact e2
    rw [Int.emod_eq_of_lt (by omega) (by omega)] at e3
    omega
end Em

namespace Em
open PySem PySem.Spec PyProof.Rows L2 Evl
def rIsN0 : R2 := fun x y H Q => y = .non ∧ Q (.bl (decide (x = .non))) H
def rNotN0 : R2 := fun x y H Q => y = .non ∧ Q (.bl (!decide (x = .non))) H
theorem op_isN0 {X : Cx} : OpR X (compareOp .Is) rIsN0 := op_isN
theorem op_notN0 {X : Cx} : OpR X (compareOp .IsNot) rNotN0 := op_notN
section
variable {K : PySem.W.Frag}
/-- what comes out is told by R, of the heap as it is then -/
def EvW (te : TE) (σ : L2.St) (H : Hp) (R : Hp → V → Prop) : Prop := ∀ H1, Ex H H1 → ∀ Q : VK, (∀ v H2, Ex H1 H2 → R H2 v → Q v H2) → te σ H1 Q
theorem ew_call {β : Type} {R : Hp → V → β → Prop} {sp : Sp} {vs : List V} {E : XK} {tA : TA} {b : β} {σ : L2.St} {H : Hp} (h : EvA tA σ H vs) (hs : ∀ H1, Ex H H1 → ∀ Q, RetW R b H1 Q → ∀ E, sp vs H1 Q E) : EvW (tCall sp [] E tA) σ H (fun G v => R G v b) := fun H1 e Q q =>
  h H1 e _ fun H2 e2 => by
    rw [List.append_nil]
    exact hs H2 (e.trans e2) Q (fun v H3 e3 r => q v H3 (e2.trans e3) r) E
theorem ev_opW {σ : L2.St} {H : Hp} {ta tb : TE} {x z : V} {r : R2} {R : Hp → V → Prop} (ha : Ev ta σ H x) (hb : EvW tb σ H R) (hr : ∀ v G, Ex H G → R G v → RV r x v G z) : Ev (tOp r ta tb) σ H z := fun H1 e Q q =>
  ha H1 e _ fun H2 e2 => hb H2 (e.trans e2) _ fun v H3 e3 r => hr v H3 ((e.trans e2).trans e3) r H3 (Ex.refl _) Q fun H4 e4 => q H4 ((e2.trans e3).trans e4)
/-- all(.. over a list that comes out) -/
theorem ev_allW {β : Type} {σ : L2.St} {H : Hp} {tl te : TE} {tt : TT} {R : Hp → V → β → Prop} {j : Nat} {vs : List Nat} {l : List β} (p : β → Bool) (f : β → Bool) (h : EvW tl σ H (fun G v => IsL R G v l)) (hz : l.length ≤ 40000)
    (hw : ∀ x, wipe ((wipe σ vs).set j (some x)) vs = wipe σ vs)
    (ht : ∀ x b G, b ∈ l → Ex H G → R G x b → EvT tt ((wipe σ vs).set j (some x)) G (p b)) (he : ∀ x b G, b ∈ l → Ex H G → R G x b → p b = true → Ev te ((wipe σ vs).set j (some x)) G (.bl (f b))) :
    Ev (tCB (rAll K) (tCons (tLc (iList K tl) (gName j) tt te vs) tNil)) σ H (.bl (((l.filter p).map f).all id)) := fun H1 e Q q => h H1 e _ fun v G e1 r => by
  obtain ⟨a, xs, rfl, ha, hr⟩ := r
  refine ⟨a, rfl, ⟨xs, sq_of ha⟩, fun D hD => ?_⟩
  refine lc_core2 (S := IsV V.bl) (Q := fun v H1 => tNil σ H1 fun xs H2 => rAll K (v :: xs) H2 Q) mono_V (walk_list (K := K) (a := a) (xs := xs)) l p f (paired_len hr) (by rw [paired_len hr]; exact hz) (Ex.refl G) hD (fun H' u => sq_of (u a _ ha)) (fun i x b H' H'' hb hH y => ?_) fun v G' H2 c' r' => ?_
  · obtain ⟨rfl, hxi⟩ := y
    obtain ⟨b', hb', rb⟩ := paired_at hr hxi
    rw [hb] at hb'
    cases hb'
    have hm := List.mem_of_getElem? hb
    exact ⟨Ex.refl _, fun Qg k => k _ (hw x) (ht x b G hm (e.trans e1) rb) fun hp => r_ev (he x b G hm (e.trans e1) rb hp) rfl⟩
  · obtain ⟨a', rfl, h2⟩ := isL_V r'
    exact ⟨a', _, rfl, sq_of (c'.part a' _ h2), q H2 (e1.trans c'.up)⟩
/-- i, j = two things told by a relation -/
theorem q_parRs {β : Type} {R : Hp → V → β → Prop} (m : Mono R) {σ : L2.St} {B H : Hp} {tA : TA} {i j : Nat} {b1 b2 : β} {D : Ends} {tz : TS} (h : EvRs R σ B tA [b1, b2]) (e : Ex B H) (k : ∀ u v G H1, Clean B H G H1 → R G u b1 → R G v b2 → tz D ((σ.set i (some u)).set j (some v)) H1) : tSeq (tPar i j tA) tz D σ H :=
  evRs_run m h H e _ fun vs G H2 c r => by
    cases r with
    | cons r1 r =>
      cases r with
      | cons r2 r =>
        cases r
        exact ⟨_, _, rfl, k _ _ G H2 c r1 r2⟩

theorem rv_isN {x : V} {H : Hp} : RV rIsN0 x .non H (.bl (decide (x = .non))) := fun H1 _ Q q => ⟨rfl, q H1 (Ex.refl _)⟩
theorem rv_notN {x : V} {H : Hp} : RV rNotN0 x .non H (.bl (!decide (x = .non))) := fun H1 _ Q q => ⟨rfl, q H1 (Ex.refl _)⟩
theorem er_if {σ : L2.St} {H : Hp} {t : TT} {ta tb : TE} {R : Hp → V → Prop} {b : Bool} (h : EvT t σ H b) (h1 : b = true → EvR ta σ H R) (h2 : b = false → EvR tb σ H R) : EvR (tIf t ta tb) σ H R := fun H1 e Q q => h H1 e _ fun H2 e2 => by
  have pre : ∀ te : TE, EvR te σ H R → te σ H2 Q := fun te he => he H2 (e.trans e2) Q fun v G H3 c r => q v G H3 ⟨e2.trans c.up, c.old, c.part, fun a ha h1 => c.apart a ha (by
    cases w : H1 a with
    | none => exact absurd w h1
    | some o => rw [e2 a o w]; simp)⟩ r
  cases b with
  | true => exact pre ta (h1 rfl)
  | false => exact pre tb (h2 rfl)
theorem er_callR2 {β : Type} {S : Hp → V → β → Prop} (mS : Mono S) {σ : L2.St} {H : Hp} {ta tb : TE} {x : V} {sp : Sp} {E : XK} {R : Hp → V → Prop} {b : β} (ha : Ev ta σ H x) (hb : EvR tb σ H R) (hs : ∀ v G, Ex H G → R G v → SpN sp [x, v] G S b) : EvR (tCall sp [] E (tCons ta (tCons tb tNil))) σ H (fun G v => S G v b) := fun H1 e Q q =>
  ha H1 e _ fun H2 e2 => hb H2 (e.trans e2) _ fun v G H3 c r => hs v G c.old r H3 c.part Q (fun u G' H4 u4 g' a r' => by
    have e14 : Ex H1 H4 := (e2.trans c.up).trans u4
    refine q u (join H G') H4 ⟨e14, join_l, join_up (e.trans e14) g', fun a0 h0 h1 => join_none h0 (a a0 ?_)⟩ (mS _ _ _ _ (join_r (e.trans e14) g') r')
    cases w : H1 a0 with
    | none => exact absurd w h1
    | some o => rw [(e2.trans c.up) a0 o w]; simp) E
theorem q_asgN {β : Type} {R : Hp → V → β → Prop} {σ : L2.St} {H : Hp} {sp : Sp} {vs : List V} {E : XK} {tA : TA} {b : β} {i : Nat} {D : Ends} {tz : TS} (h : EvA tA σ H vs) (hs : SpN sp vs H R b)
    (k : ∀ v G H1, Ex H H1 → Ex G H1 → (∀ a, G a ≠ none → H a = none) → R G v b → tz D (σ.set i (some v)) H1) : tSeq (tAsg (tCall sp [] E tA) (gName i)) tz D σ H := h H (Ex.refl _) _ fun H2 e2 => by
  rw [List.append_nil]
  refine hs H2 e2 _ (fun v G H3 u g a r => k v G H3 (e2.trans u) g (fun a0 h0 => ?_) r) E
  cases w : H a0 with
  | none => rfl
  | some o => exact absurd (a a0 (by rw [e2 a0 o w]; simp)) h0
theorem rc_int1 {b : Bool} {H : Hp} : RC (fun xs H Q => (∃ i, xs = [V.int i] ∧ Q (.int i) H) ∨ ∃ k, xs = [V.bl k] ∧ Q (.int (if k then 1 else 0)) H) [.bl b] H (.int (if b then 1 else 0)) := fun H1 _ Q q => .inr ⟨b, rfl, q H1 (Ex.refl _)⟩
end
theorem clo_mk {K : PySem.W.Frag} {mg : Str → Option Value} {h : Heap} {x : Str} {C : Addr} (X : K.In h) (G : h.Ns mainGlobals mg) (a : PySem.W.nsIn K mainGlobals x = some (some (.ref C))) (mk : PySem.W.makesIn K C = true) (kp : PySem.W.keepIn K (.ref C) = true)
    (pg : PySem.W.plainGet K C Str.empty = true) (hd : PySem.W.hasDictIn K C = true) (po : PySem.W.plainOver K C = true) (sa : PySem.W.findIn K (.ref C) "__setattr__" = some (some (.builtin "object.__setattr__"))) : ClO K mg x C := ⟨mk, kp, PySem.W.mg_of X G a, ⟨pg, hd, po, sa⟩⟩
theorem mat_mk {K : PySem.W.Frag} {C f : Addr} {m qual : Str} {st : Stmt} {ps : List Str} {od an : Option Addr} {oc kV dc pm cd ct : Value} {sl : Array (Option Value)} (a : PySem.W.findIn K (.ref C) m = some (some (.ref f))) (fn : PySem.W.isFn K (.ref f) = true)
    (l : K.lookup f = some ⟨oc, od, .func (PySem.W.fnOf m qual (defArgs st) (defBody st) (defScope st) .none kV dc pm an cd ct), sl⟩) (c : PySem.W.codeIn K cd qual = true) (k : PySem.W.keepIn K (.ref f) = true)
    (hb : ∀ (kV doc pm : Value) (an : Option Addr) (cdv ct : Value) (us : List Value), us.length = ps.length → bindArgs (PySem.W.fnOf m qual (defArgs st) (defBody st) (defScope st) .none kV doc pm an cdv ct) ⟨us, []⟩ = pure (ps.zip us)) : MAt K C m qual st ps :=
  ⟨f, _, fun_mk l c k, ⟨a, fn, k⟩, (fun_mk l c k).binds hb⟩
end Em

namespace Em
open PySem PySem.Spec PyProof.Rows L2 Evl
/-! ### answers: instances with two ints -/
def IsIns (C : Addr) (fs : List (Str × V)) (H : Hp) (v : V) : Prop := ∃ x dx, v = .ref x ∧ H x = some (.ins C dx fs)
theorem isIns_mono {C : Addr} {fs : List (Str × V)} {H H' : Hp} {v : V} (e : Ex H H') (h : IsIns C fs H v) : IsIns C fs H' v := by
  obtain ⟨x, dx, rfl, h⟩ := h
  exact ⟨x, dx, rfl, e x _ h⟩
def IsInsB (H : Hp) (v : V) (b : Addr × List (Str × V)) : Prop := IsIns b.1 b.2 H v
theorem mono_ins : Mono IsInsB := fun _ _ _ _ e h => isIns_mono e h
def sp_init (C : Addr) (f g : Str) : Sp := fun vs H Q _ => ∃ (x dx : Addr) (i j : Int), vs = [.ref x, .int i, .int j] ∧ H x = some (.ins C dx []) ∧ ∀ H2, (∀ a o, a ≠ x → H a = some o → H2 a = some o) → H2 x = some (.ins C dx [(f, .int i), (g, .int j)]) → Q .non H2
/-- a class that its __init__ fills -/
def CMk (P : Program) (w : World) (K : PySem.W.Frag) (mg : Str → Option Value) (base : Heap) (k : Nat) (x : Str) (C : Addr) (ps : List Str) (sp : Sp) : Prop :=
  ∃ (f : Addr) (fd : FuncData), FnOk P w K mg base CX0 k f fd ps sp ∧ Mk K C f ∧ Binds K fd ps [] ∧ mg x = some (.ref C)
section
variable {P : Program} {w : World} {K : PySem.W.Frag} {mg : Str → Option Value} {base : Heap} {X : Cx}
theorem cmk_of {C : Addr} {x : Str} {k : Nat} {ps : List Str} {sp : Sp} (M : ClO K mg x C) (D : MOk P w K mg base k C "__init__" ps sp) : CMk P w K mg base k x C ps sp := by
  obtain ⟨f, fd, F, m, b⟩ := D
  exact ⟨f, fd, F, ⟨M.makes, m.at_, m.fn, M.kp⟩, b, M.g⟩
theorem pe_makeC {C : Addr} {x : Str} {k : Nat} {ps : List Str} {sp : Sp} {p pos : Pos} {e : Expr} {es : List Expr} {t : TA} (D : CMk X.prog X.w X.K X.mg X.base k x C ps sp) (hr : Room (k + 1) X.A) (ha : PA X (e :: es) t) (hg : Gl X x := by rfl)
    (hdb : (x == ("__debug__" : Str)) = false := by decide) (he : starEach (e :: es) X.env = (false, eval e X.env) :: starEach es X.env := by rfl) (hpl : (backTo pos (starEach es X.env)).any (·.1) = false := by rfl) :
    PE X (.Call (.Name x p) (e :: es) [] pos) (tMake C sp [] E0 t) := by
  obtain ⟨f, fd, F, M, b, g⟩ := D
  exact pe_make M F hr hg g b .nil pass0 ha hdb he hpl
end
section
variable {K : PySem.W.Frag} {σ : L2.St} {H H' : Hp} {ta tb te tl tx : TE} {tt : TT} {x y z v : V} {β γ : Type} {C : Addr} {fs : List (Str × V)} {tA : TA}
theorem er_make {f g : Str} {i j : Int} {E : XK} (h : EvA tA σ H [.int i, .int j]) : EvR (tMake C (sp_init C f g) [] E tA) σ H (fun G v => IsIns C [(f, .int i), (g, .int j)] G v) := fun H1 e Q q => h H1 e _ fun H2 e2 => fun x dx hx hdx hne => by
  refine ⟨x, dx, i, j, rfl, upd_same, fun H3 k h3 => ⟨rfl, ?_⟩⟩
  have u : Ex H2 H3 := fun a o ha => k a o (ne_of_none ha hx) (by rw [upd_ne (ne_of_none ha hx), upd_ne (ne_of_none ha hdx)]; exact ha)
  have c : Clean H H2 (upd H x (.ins C dx [(f, .int i), (g, .int j)])) H3 := Clean.new (e.trans e2) hx u h3
  exact q (.ref x) _ H3 ⟨e2.trans c.up, c.old, c.part, fun a ha h1 => c.apart a ha (by
    cases w : H1 a with
    | none => exact absurd w h1
    | some o => rw [e2 a o w]; simp)⟩ ⟨x, dx, rfl, upd_same⟩
theorem er_makeO : EvR (tMakeO C) σ H (fun G v => IsIns C [] G v) := fun H1 e Q q => fun x dx hx hdx hne => by
  have u : Ex H1 (upd (upd H1 dx (.own x)) x (.ins C dx [])) := (Ex.new hdx).trans (Ex.new (by rw [upd_ne (Ne.symm hne)]; exact hx))
  exact q (.ref x) _ _ (Clean.new e hx u upd_same) ⟨x, dx, rfl, upd_same⟩
theorem ev_fld {f : Str} (h : Ev te σ H x) (hi : IsIns C fs H x) (cl : Cls K C) (na : NoAttr K C f) (hl : fs.lookup f = some v) : Ev (tFld K te f) σ H v := fun H1 e Q q => h H1 e _ fun H2 e2 => by
  obtain ⟨a, dx, rfl, ha⟩ := hi
  exact ⟨a, C, dx, fs, v, rfl, (e.trans e2) a _ ha, cl, na, hl, q H2 e2⟩
theorem ev_meth {m : Str} {sp : Sp} {E : XK} {vs : List V} (ho : Ev te σ H x) (hi : IsIns C fs H x) (hm : fs.lookup m = none) (h : EvA tA σ H vs) (hs : SpV sp (x :: vs) H z) : Ev (tMeth C m sp [] E te tA) σ H z := fun H1 e Q q => ho H1 e _ fun H2 e2 => by
  obtain ⟨a, dx, rfl, ha⟩ := hi
  refine ⟨a, dx, fs, rfl, (e.trans e2) a _ ha, hm, h H2 (e.trans e2) _ fun H3 e3 => ?_⟩
  rw [List.append_nil]
  exact hs H3 ((e.trans e2).trans e3) Q (fun H4 e4 => q H4 ((e2.trans e3).trans e4)) E
/-- C(..).m(n, data), all new -/
theorem ev_methR2 {m : Str} {sp : Sp} {E : XK} {R : Hp → V → Prop} (ho : EvR te σ H (fun G v => IsIns C fs G v)) (hm : fs.lookup m = none) (ha : Ev ta σ H y) (hb : EvR tb σ H R) (hs : ∀ u v G, IsIns C fs G u → ∀ G', R G' v → ∀ H1, Ex G H1 → Ex G' H1 → SpV sp [u, y, v] H1 z) : Ev (tMeth C m sp [] E te (tCons ta (tCons tb tNil))) σ H z := fun H1 e Q q =>
  ho H1 e _ fun u G H2 c r => by
    have r' := r
    obtain ⟨a, dx, rfl, har⟩ := r
    refine ⟨a, dx, fs, rfl, c.part a _ har, hm, ha H2 (e.trans c.up) _ fun H3 e3 => hb H3 ((e.trans c.up).trans e3) _ fun v G' H4 c4 r4 => ?_⟩
    exact hs _ v G r' G' r4 H4 ((c.part.trans e3).trans c4.up) c4.part H4 (Ex.refl _) Q (fun H5 e5 => q H5 (((c.up.trans e3).trans c4.up).trans e5)) E
theorem ev_sumR {l : List Int} (h : EvR te σ H (fun G v => IsL (IsV V.int) G v l)) : Ev (tCB (rSum K) (tCons te tNil)) σ H (.int l.sum) := fun H1 e Q q =>
  h H1 e _ fun v G H2 c r => by
    obtain ⟨a, rfl, h2⟩ := isL_V r
    exact ⟨a, l, rfl, sq_of (c.part a _ h2), q H2 c.up⟩
theorem rv_p30 : RV (rI CPow fun i j => .int (i ^ j.toNat)) (.int 10) (.int 30) H (.int (10 ^ 30)) := rv_I (C := CPow) (g := fun i j => V.int (i ^ j.toNat)) (i := 10) (j := 30) ⟨by decide, by decide, by decide⟩
/-- a for over a list that comes out -/
theorem s_forW {R : Hp → V → β → Prop} {l : List β} {g : TG} {tu : TS} {D : Ends} (h : EvW tl σ H (fun G v => IsL R G v l)) (Pv : Nat → L2.St → Hp → Prop) (h0 : ∀ H1, Ex H H1 → Pv 0 σ H1)
    (hs : ∀ G a xs, Ex H G → G a = some (.lst xs) → Paired (R G) xs l → ∀ i x b σ' H', xs[i]? = some x → l[i]? = some b → R G x b → Ex G H' → Pv i σ' H' → g x σ' H' fun σ2 H2 => tu { D with nx := fun σ3 H3 => Ex G H3 ∧ Pv (i + 1) σ3 H3, ct := fun σ3 H3 => Ex G H3 ∧ Pv (i + 1) σ3 H3, bk := D.nx } σ2 H2) (hd : ∀ σ' H', Pv l.length σ' H' → D.nx σ' H') : tFor (iList K tl) g tu D σ H :=
  h H (Ex.refl H) _ fun v G e r => by
    obtain ⟨a, xs, rfl, ha, hr⟩ := r
    have hl := paired_len hr
    exact ⟨a, rfl, ⟨xs, sq_of ha⟩, for_list (xs := xs) (fun i σ' H' => Ex G H' ∧ Pv i σ' H') ⟨Ex.refl _, h0 G e⟩ (fun i σ' H' _ p => sq_of (p.1 a _ ha)) (fun i x σ' H' hx p => by
      obtain ⟨b, hb, rb⟩ := paired_at hr hx
      exact hs G a xs e ha hr i x b σ' H' hx hb rb p.1 p.2) fun σ' H' p => hd σ' H' (hl ▸ p.2)⟩
theorem q_forW {R : Hp → V → β → Prop} {l : List β} {g : TG} {tu tz : TS} {D : Ends} (h : EvW tl σ H (fun G v => IsL R G v l)) (Pv : Nat → L2.St → Hp → Prop) (h0 : ∀ H1, Ex H H1 → Pv 0 σ H1)
    (hs : ∀ G a xs, Ex H G → G a = some (.lst xs) → Paired (R G) xs l → ∀ i x b σ' H', xs[i]? = some x → l[i]? = some b → R G x b → Ex G H' → Pv i σ' H' → g x σ' H' fun σ2 H2 => tu { D with nx := fun σ3 H3 => Ex G H3 ∧ Pv (i + 1) σ3 H3, ct := fun σ3 H3 => Ex G H3 ∧ Pv (i + 1) σ3 H3, bk := tz D } σ2 H2) (hd : ∀ σ' H', Pv l.length σ' H' → tz D σ' H') : tSeq (tFor (iList K tl) g tu) tz D σ H :=
  s_forW (D := { D with nx := tz D }) h Pv h0 hs hd
end
section
variable {X : Cx}
theorem k_fld {K : PySem.W.Frag} {e : Expr} {f : Str} {pos : Pos} {ta : TE} (he : PE X e ta) (hb : attributeBase e f X.env (eval e X.env) = eval e X.env) (hK : X.K = K := by rfl) : PE X (.Attribute e f pos) (tFld K ta f) := hK ▸ pe_fld he hb
theorem pt_chain3 {a b c d : Expr} {ta tb tc td : TE} {pos : Pos} {op op' op'' : CmpOp} {r r' r'' : R2} (ho : OpR X (compareOp op) r) (ho' : OpR X (compareOp op') r') (ho'' : OpR X (compareOp op'') r'') (ha : PE X a ta) (hb : PE X b tb) (hc : PE X c tc) (hd : PE X d td)
    (hm : lastMarks [op, op', op''] [b, c, d] = false := by with_unfolding_all rfl) : PT X (.Compare a [op, op', op''] [b, c, d] pos) (tTest (tChain3 r r' r'' ta tb tc td)) := by
  refine ⟨fun pins s σ H Q I h => ?_⟩
  refine isTrue_chain (thn (ha.run pins s σ H _ I h) fun v s1 ⟨x, H1, I1, r1, q1⟩ => test_link (thn (hb.run pins s1 σ H1 _ I1 q1) fun u s2 ⟨y, H2, I2, r2, q2⟩ =>
    thn (ho pins s2 σ H2 x y v u _ I2 r1 r2 q2) fun d' s3 ⟨z, H3, I3, r3, k, e, q3⟩ => ?_)) hm
  subst e
  cases r3
  refine wpAny_truthy_bool ?_
  cases k with
  | false =>
    obtain ⟨k', e', q'⟩ := q3
    cases e'
    exact ite_ff ⟨H3, I3, q'⟩
  | true =>
    refine ite_tt (test_link (thn (hc.run pins s3 σ H3 _ I3 q3) fun w' s4 ⟨z', H4, I4, r4, q4⟩ => thn (ho' pins s4 σ H4 y z' u w' _ I4 r2 r4 q4) fun d2 s5 ⟨z2, H5, I5, r5, k2, e2, q5⟩ => ?_))
    subst e2
    cases r5
    refine wpAny_truthy_bool ?_
    cases k2 with
    | false =>
      obtain ⟨k', e', q'⟩ := q5
      cases e'
      exact ite_ff ⟨H5, I5, q'⟩
    | true =>
      refine ite_tt (test_last (thn (hd.run pins s5 σ H5 _ I5 q5) fun w2 s6 ⟨z3, H6, I6, r6, q6⟩ => thn (ho'' pins s6 σ H6 z' z3 w' w2 _ I6 r4 r6 q6) fun d3 s7 ⟨z4, H7, I7, r7, k4, e4, q7⟩ => ?_))
      subst e4
      cases r7
      exact wpAny_truthy_bool ⟨H7, I7, q7⟩
end
/-! ### what the answers show -/
def bothM (row : List (Int × Int)) (a b : Int) : Nat := (row.filter fun p => hasT p a && hasT p b).length
def oftenM (plan : List (List (Int × Int))) (a b : Int) : Int := (plan.map fun row => (bothM row a b : Int)).sum
def twoOk (n a b : Int) : Bool := decide (0 ≤ a) && (decide (a < b) && decide (b < n))
def showsLone (n : Int) (plan : List (List (Int × Int))) (r t : Int) : Bool := (decide (0 ≤ r) && decide (r < (plan.length : Int))) && ((decide (0 ≤ t) && decide (t < n)) && loneAt plan r t)
def showsTwice (n : Int) (plan : List (List (Int × Int))) (a b : Int) : Bool := twoOk n a b && decide (oftenM plan a b > 1)
def showsNever (n : Int) (plan : List (List (Int × Int))) (a b : Int) : Bool := twoOk n a b && decide (oftenM plan a b = 0)
/-- the names of an answer's parts -/
structure Prt (K : PySem.W.Frag) (C : Addr) (f g : Str) : Prop where
  f : NoAttr K C f
  g : NoAttr K C g
end Em

namespace Em
open PySem PySem.Spec PyProof.Rows L2 Evl
section
variable {K : PySem.W.Frag} {σ : L2.St} {H H' : Hp} {ta tb te tl tx : TE} {tt : TT} {x y z v : V} {β γ : Type} {D : Ends} {tz : TS}
/-- a comprehension over a walk of items that mean the items of l -/
theorem lc_coreG {β γ : Type} {S : Hp → V → γ → Prop} (mS : Mono S) {J : It} {n : Nat} {Gd : Hp → Prop} {Y : Nat → Hp → V → Hp → Prop} (w : Walk J n Gd Y) {g : TG} {tt : TT} {te : TE} {vs : List Nat} {Hs : Hp} {D : Addr} {Q : VK}
    (l : List β) (p : β → Bool) (f : β → γ) (hn : n = l.length) (hz : n ≤ 40000) (e : Ex H Hs) (hD : Hs D = none) (hG : ∀ H', Ex Hs H' → Gd H')
    (hi : ∀ i x b H' H'', l[i]? = some b → Ex H H' → Y i H' x H'' → Ex H' H'' ∧ ∀ Qg : L2.St → Hp → Prop, (∀ σ2, wipe σ2 vs = wipe σ vs → EvT tt σ2 H (p b) → (p b = true → EvR te σ2 H (fun G v => S G v (f b))) → Qg σ2 H'') → g x (wipe σ vs) H'' Qg)
    (q : ∀ H2, Grown S H Hs D ((l.filter p).map f) H2 → Q (.ref D) H2) :
    ∃ W : Nat → Nat → Hp → Prop, (∃ m, W 0 m (upd Hs D (.lst []))) ∧ ∀ i m H, W i m H →
      (J.stop i H ∧ Q (.ref D) H) ∨ (J.go i H ∧ ∃ Nx : Hp → Prop, (∀ H', Nx H' → ∃ m', m' < m ∧ W (i + 1) m' H') ∧ ∀ x H', J.yld i H x H' → g x (wipe σ vs) H' fun σ2 H2 => wipe σ2 vs = wipe σ vs ∧ tt σ2 H2 fun b H3 =>
        if b = true then te σ2 H3 fun y H4 => ∃ acc, H4 D = some (.lst acc) ∧ acc.length < sizeLine ∧ Nx (upd H4 D (.lst (acc ++ [y]))) else Nx H3) := by
  refine lc_it w (Qd := fun H => Q (.ref D) H) (fun i H' => Grown S H Hs D (((l.take i).filter p).map f) H') (grown_start e hD) (fun i H' _ g => hG H' (grown_ex g)) ?_ ?_
  · intro i x H' H'' hin g y
    have hil : i < l.length := by omega
    have hb : l[i]? = some l[i] := by simp [hil]
    have hH : Ex H H' := e.trans (grown_ex g)
    obtain ⟨u, hq⟩ := hi i x l[i] H' H'' hb hH y
    refine hq _ fun σ2 hw ht he => ⟨hw, ?_⟩
    have g2 := grown_up g u
    have hH2 : Ex H H'' := hH.trans u
    have et : (l.take (i + 1)) = l.take i ++ [l[i]] := (List.take_append_getElem hil).symm
    refine ht H'' hH2 _ fun H3 u3 => ?_
    have g3 := grown_up g2 u3
    have hH3 : Ex H H3 := hH2.trans u3
    cases hp : p l[i] with
    | true =>
      show te σ2 H3 _
      refine he hp H3 hH3 _ fun v G' H4 cl r => ?_
      rw [et, List.filter_append, List.map_append, List.filter_cons, if_pos hp]
      exact grown_snoc mS g3 hH3 cl r (by
        have h1 := List.length_filter_le p (l.take i)
        have h2 := List.length_take_le i l
        rw [List.length_map]
        omega)
    | false =>
      show Grown S H Hs D _ H3
      rw [et, List.filter_append, List.map_append, List.filter_cons, if_neg (by rw [hp]; simp)]
      simpa using g3
  · intro H' g
    have et : l.take n = l := by rw [hn]; exact List.take_length
    rw [et] at g
    exact q H' g

/-- x = [.. for .. in a list]: it may be changed later -/
theorem q_asgLcG {R : Hp → V → β → Prop} {S : Hp → V → γ → Prop} (mS : Mono S) {a : Addr} {xs : List V} {i j : Nat} {vs : List Nat} {l : List β} (f : β → γ) (h : Ev tl σ H (.ref a)) (hx : SqL K H a xs) (hr : Paired (R H) xs l) (hz : l.length ≤ 40000)
    (hw : ∀ x, wipe ((wipe σ vs).set j (some x)) vs = wipe σ vs)
    (he : ∀ x b, b ∈ l → R H x b → EvR te ((wipe σ vs).set j (some x)) H (fun G v => S G v (f b))) (k : ∀ p H1, H p = none → Grown S H H p (l.map f) H1 → tz D (σ.set i (some (.ref p))) H1) :
    tSeq (tAsg (tLc (iList K tl) (gName j) tYes te vs) (gName i)) tz D σ H := h H (Ex.refl _) _ fun H1 e1 => ⟨a, rfl, ⟨xs, ex_l e1 hx⟩, fun p hp =>
  lc_coreG (Q := fun v H' => tz D (σ.set i (some v)) H') mS (walk_list (K := K) (a := a) (xs := xs)) l (fun _ => true) f (paired_len hr) (by rw [paired_len hr]; exact hz) e1 hp (fun H' u => ex_l (e1.trans u) hx) (fun i x b H' H'' hb hH y => by
    obtain ⟨rfl, hxi⟩ := y
    obtain ⟨b', hb', rb⟩ := paired_at hr hxi
    rw [hb] at hb'
    cases hb'
    have hm := List.mem_of_getElem? hb
    exact ⟨Ex.refl _, fun Qg k => k _ (hw x) et_yes fun _ => he x b hm rb⟩)
    fun H2 g => by
      rw [filt1] at g
      obtain ⟨G, ys, h1, h2, h3, h4, h5, h6, h7⟩ := g
      exact k p H2 (fresh_back e1 hp) ⟨G, ys, fun b o q => h1 b o (e1 b o q), h2, h3, h4, fun b hb hs => absurd hb hs, h6, h7⟩⟩
/-- xs.reverse() of a list that has grown -/
theorem q_revG {S : Hp → V → β → Prop} (mS : Mono S) {p : Addr} {l : List β} {H0 : Hp} (g : Grown S H0 H0 p l H) (hp : H0 p = none) (ho : Ev te σ H (.ref p)) (k : ∀ H1, Ex H0 H1 → IsL S H1 (.ref p) l.reverse → tz D σ H1) : tSeq (tDrop (tBM0 K "list" rReverse te)) tz D σ H := ho H (Ex.refl _) _ fun H1 e1 => by
  have g1 := grown_up g e1
  have ge := grown_part g1
  obtain ⟨G, ys, h1, h2, h3, h4, h5, h6, h7⟩ := id g1
  refine ⟨Or.inl ⟨rfl, ys, sq_of h6⟩, p, ys, rfl, rfl, h6, ?_⟩
  exact k _ (Ex.mut ge hp) ⟨p, _, rfl, upd_same, paired_mono (fun x b r => mS _ _ _ _ (Ex.mut h3 h4) r) (paired_rev h7)⟩
theorem q_asgW {R : Hp → V → Prop} {i : Nat} (h : EvW te σ H R) (k : ∀ v H1, Ex H H1 → R H1 v → tz D (σ.set i (some v)) H1) : tSeq (tAsg te (gName i)) tz D σ H := h H (Ex.refl _) _ fun v H1 e r => k v H1 e r
/-- f(what comes out, c) -/
theorem ev_cbW {r : List V → Hp → VK → Prop} {c : V} {R : Hp → V → Prop} (h : EvW te σ H R) (hr : ∀ v G, R G v → RC r [v, c] G z) : Ev (tCB r (tCons te (tCons (tC c) tNil))) σ H z := fun H1 e Q q => h H1 e _ fun v H2 e2 k => hr v H2 k H2 (Ex.refl _) Q fun H3 e3 => q H3 (e2.trans e3)
/-- f(x, a list that comes out) -/
theorem ew_callR2 {R S : Hp → V → Prop} {sp : Sp} {E : XK} (ha : Ev ta σ H x) (hb : EvR tb σ H R) (hs : ∀ v G, Ex H G → R G v → ∀ H1, Ex G H1 → ∀ Q : VK, (∀ u H2, Ex H1 H2 → S H2 u → Q u H2) → ∀ E, sp [x, v] H1 Q E) : EvW (tCall sp [] E (tCons ta (tCons tb tNil))) σ H S := fun H1 e Q q =>
  ha H1 e _ fun H2 e2 => hb H2 (e.trans e2) _ fun v G H3 c r => hs v G c.old r H3 c.part Q (fun u H4 e4 s => q u H4 ((e2.trans c.up).trans e4) s) E
theorem rv_notB {a b : Bool} : RV rNotB (.bl a) (.bl b) H (.bl (!decide (a = b))) := fun H1 _ Q q => ⟨a, b, rfl, rfl, q H1 (Ex.refl _)⟩
end
/-! ### list.count of bools -/
def eqbl (k : Bool) (v : Value) : Bool := match v with
  | .bool b => b == k
  | _ => false
theorem bls_of_vals : ∀ {bs : List Bool} {us : List Value}, Vals (bs.map V.bl) us → us = bs.map Value.bool
  | [], us, r => by
    cases r
    rfl
  | b :: bs, us, r => by
    cases r with
    | cons r1 r2 =>
      rw [show _ = Value.bool b from r1, bls_of_vals r2]
      rfl
def rCntB (K : PySem.W.Frag) : V → List V → Hp → VK → Prop := fun x xs H Q => ∃ (p : Addr) (bs : List Bool) (k : Bool), x = .ref p ∧ xs = [.bl k] ∧ SqL K H p (bs.map V.bl) ∧ Q (.int (bs.count k : Nat)) H
theorem mt_lcountB {X : Cx} {K : PySem.W.Frag} (hK : X.K = K := by rfl) : MtR X "list.count" (rCntB K) := by
  subst hK
  intro pins s σ H x xs v us Q I rx rxs h
  obtain ⟨p, bs, k, rfl, rfl, hs, q⟩ := h
  cases rx
  obtain ⟨u, rfl, ru⟩ := rxs.one
  cases (show u = Value.bool k from ru)
  obtain ⟨its, rv, ⟨⟨cls, dd, data, sl⟩, n, ho, hc, hdn, hd⟩, hlen⟩ := I.list hs
  simp only at hc hd
  subst hc hd
  have hi := bls_of_vals rv
  subst hi
  refine call_meets PySem.F.slot_list_count ⟨_, ho, rfl⟩ PySem.F.entry_list_count (PySem.F.args_list_count_2 _ _)
    (SeqAt.list_countAt p (bs.map Value.bool).toArray n dd sl (.bool k) (eqbl k)) ⟨ho, fun y hy => ?_, ?_⟩
  · obtain ⟨b, _, rfl⟩ := List.mem_map.mp (List.mem_toArray.mp hy)
    exact SeqAt.EqAt.bool_bool b k
  · have ec : (bs.map Value.bool).toArray.toList.countP (eqbl k) = bs.count k := by
      show (bs.map Value.bool).countP (eqbl k) = _
      rw [List.countP_map]
      rfl
    refine ⟨.int (bs.count k : Nat), H, I.tok _, ⟨s.toks, ?_⟩, q⟩
    show Value.int (((bs.map Value.bool).toArray.toList.countP (eqbl k) : Nat) : Int) s.toks = Value.int ((bs.count k : Nat) : Int) s.toks
    rw [ec]
theorem ev_cntB {K : PySem.W.Frag} {σ : L2.St} {H : Hp} {ta tb : TE} {p : Addr} {bs : List Bool} {k : Bool} (ha : Ev ta σ H (.ref p)) (hp : H p = some (.lst (bs.map V.bl))) (hb : Ev tb σ H (.bl k)) : Ev (tBM K "list" (rCntB K) ta (tCons tb tNil)) σ H (.int (bs.count k : Nat)) := fun H1 e Q q =>
  ha H1 e _ fun H2 e2 => ⟨Or.inl ⟨rfl, _, sq_of (e2 p _ (e p _ hp))⟩, hb H2 (e.trans e2) _ fun H3 e3 => ⟨p, bs, k, rfl, rfl, sq_of (e3 p _ (e2 p _ (e p _ hp))), q H3 (e2.trans e3)⟩⟩
/-! ### the answers -/
inductive An where
  | good | lone (r t : Int) | twice (a b : Int) | never (a b : Int)
structure A4 where
  g : Addr
  l : Addr
  t : Addr
  n : Addr
def An.cls (C : A4) : An → Addr
  | .good => C.g | .lone _ _ => C.l | .twice _ _ => C.t | .never _ _ => C.n
def An.fs : An → List (Str × V)
  | .good => [] | .lone r t => [("number", .int r), ("team", .int t)] | .twice a b => [("one", .int a), ("other", .int b)] | .never a b => [("one", .int a), ("other", .int b)]
def An.isG : An → Bool | .good => true | _ => false
def An.isL : An → Bool | .lone _ _ => true | _ => false
def An.isT : An → Bool | .twice _ _ => true | _ => false
def An.isN : An → Bool | .never _ _ => true | _ => false
def IsAn (C : A4) (H : Hp) (v : V) (a : An) : Prop := IsIns (a.cls C) a.fs H v
theorem mono_an {C : A4} : Mono (IsAn C) := fun _ _ _ _ e h => isIns_mono e h
def judgeM (n : Int) (plan : List (List (Int × Int))) : An := match loneFind n plan with
  | some p => .lone p.1 p.2
  | none => match twoFind n plan false with
    | some p => .twice p.1 p.2
    | none => match twoFind n plan true with
      | some p => .never p.1 p.2
      | none => .good
def showsM (n : Int) (plan : List (List (Int × Int))) : An → Bool
  | .good => showsGood n plan | .lone r t => showsLone n plan r t | .twice a b => showsTwice n plan a b | .never a b => showsNever n plan a b
def dueM (n : Int) (plan : List (List (Int × Int))) : An → Bool
  | .good => goodM n plan | .lone r t => showsLone n plan r t | .twice a b => showsTwice n plan a b | .never a b => showsNever n plan a b
theorem due_shows {n : Int} (hn : TeamsOk n) {plan : List (List (Int × Int))} (h : PlanOk n plan) (a : An) : dueM n plan a = showsM n plan a := by
  cases a with
  | good => exact (good_shows hn h).symm
  | lone r t => rfl
  | twice a b => rfl
  | never a b => rfl
theorem both_kp {n a b : Int} {p : Int × Int} (h : PairOk n p) (hab : a < b) : (hasT p a && hasT p b) = decide (kp p = (a, b)) := by
  obtain ⟨p1, p2⟩ := p
  obtain ⟨_, _, hne⟩ := h
  unfold hasT kp
  dsimp only at hne ⊢
  rw [Bool.eq_iff_iff]
  simp only [Bool.and_eq_true, Bool.or_eq_true, decide_eq_true_eq, Prod.mk.injEq]
  by_cases c : p2 < p1
  · rw [if_pos c, if_neg (by omega)]
    omega
  · rw [if_neg c, if_pos (by omega)]
    omega
theorem often_count {n a b : Int} (hab : a < b) : ∀ {plan : List (List (Int × Int))}, PlanOk n plan → oftenM plan a b = (countK plan.flatten (a, b) : Int)
  | [], _ => rfl
  | row :: plan, h => by
    have ih := often_count hab (plan := plan) fun r hr => h r (List.mem_cons_of_mem _ hr)
    have e : bothM row a b = (row.filter fun p => decide (kp p = (a, b))).length := by
      unfold bothM
      rw [List.filter_congr fun p hp => both_kp (h row List.mem_cons_self p hp) hab]
    unfold oftenM at ih ⊢
    rw [List.map_cons, List.sum_cons, ih, e]
    unfold countK
    rw [List.flatten_cons, List.filter_append, List.length_append]
    simp
theorem judge_shows {n : Int} {plan : List (List (Int × Int))} (hok : PlanOk n plan) : showsM n plan (judgeM n plan) = true := by
  unfold judgeM
  cases h1 : loneFind n plan with
  | some p =>
    obtain ⟨r, t⟩ := p
    obtain ⟨k1, k2, k3, k4⟩ := loneFind_some h1
    show showsLone n plan r t = true
    unfold showsLone
    rw [decide_eq_true k1, decide_eq_true k2, decide_eq_true k3.1, decide_eq_true k3.2, k4]
    rfl
  | none =>
    dsimp only
    cases h2 : twoFind n plan false with
    | some p =>
      obtain ⟨a, b⟩ := p
      obtain ⟨k1, k2, k3, k4⟩ := twoFind_some h2
      rw [hit_many, decide_eq_true_eq] at k4
      show showsTwice n plan a b = true
      unfold showsTwice twoOk
      rw [decide_eq_true k1, decide_eq_true k2, decide_eq_true k3, often_count k2 hok]
      simp
      omega
    | none =>
      dsimp only
      cases h3 : twoFind n plan true with
      | some p =>
        obtain ⟨a, b⟩ := p
        obtain ⟨k1, k2, k3, k4⟩ := twoFind_some h3
        rw [hit_few, decide_eq_true_eq] at k4
        show showsNever n plan a b = true
        unfold showsNever twoOk
        rw [decide_eq_true k1, decide_eq_true k2, decide_eq_true k3, often_count k2 hok]
        simp
        omega
      | none =>
        show showsGood n plan = true
        unfold showsGood
        rw [h1, h2, h3]
        rfl
theorem judge_good {n : Int} (hn : TeamsOk n) {plan : List (List (Int × Int))} (hok : PlanOk n plan) : (judgeM n plan).isG = goodM n plan := by
  rw [← good_shows hn hok]
  unfold judgeM showsGood
  cases h1 : loneFind n plan with
  | some p => rfl
  | none =>
    dsimp only
    cases h2 : twoFind n plan false with
    | some p => simp [An.isG]
    | none =>
      dsimp only
      cases h3 : twoFind n plan true with
      | some p => simp [An.isG]
      | none => rfl
/-- what isinstance asks of a class -/
structure InsTy (K : PySem.W.Frag) (C : Addr) : Prop where
  ha : PySem.W.findIn K (.ref C) "__class__" = some (some (.builtin "object.__class__"))
  hm : PySem.W.mroIn K C (.type "object") = some true
structure InsG (K : PySem.W.Frag) : Prop where
  hn : PySem.W.specialIn K (.builtin "object.__class__") "__get__" = some (some (.builtin "getset_descriptor.__get__"))
  htk : PySem.W.takesIn K (.builtin "object.__class__") = some true
theorem isi_ins {K : PySem.W.Frag} {C Dc : Addr} {fs : List (Str × V)} {H : Hp} {v : V} {b : Bool} (h : IsIns C fs H v) (cl : Cls K C) (t : InsTy K C) (g : InsG K) (hk : PySem.W.kitOne K (.ref C) (.ref Dc) = some b) : RC (rIsi K) [v, .ref Dc] H (.bl b) := fun H1 e Q q => by
  obtain ⟨x, dx, rfl, hx⟩ := h
  exact ⟨_, _, _, _, b, rfl, .own Dc, .base (.ins (e x _ hx) cl t.ha g.hn g.htk t.hm), hk, q H1 (Ex.refl H1)⟩
end Em

namespace Em
open PySem PySem.Spec PyProof.Rows L2 Evl
/-! ### strange things -/
inductive Dt where
  | none | bl (b : Bool) | int (i : Int) | str (s : Str) | lst (l : List Dt) | tup (l : List Dt) | dct
mutual
inductive IsD (H : Hp) : V → Dt → Prop
  | none : IsD H .non .none
  | bl (b : Bool) : IsD H (.bl b) (.bl b)
  | int (i : Int) : IsD H (.int i) (.int i)
  | str (s : Str) : IsD H (.str s) (.str s)
  | lst {a : Addr} {vs : List V} {l : List Dt} (h : H a = some (.lst vs)) (p : IsDs H vs l) : IsD H (.ref a) (.lst l)
  | tup {a : Addr} {vs : List V} {l : List Dt} (h : H a = some (.tup vs)) (p : IsDs H vs l) : IsD H (.ref a) (.tup l)
  | dct {a : Addr} (h : H a = some (.dT [])) : IsD H (.ref a) .dct
inductive IsDs (H : Hp) : List V → List Dt → Prop
  | nil : IsDs H [] []
  | cons {v : V} {d : Dt} {vs : List V} {l : List Dt} : IsD H v d → IsDs H vs l → IsDs H (v :: vs) (d :: l)
end
mutual
theorem isD_mono {H H' : Hp} (e : Ex H H') : ∀ {v : V} {d : Dt}, IsD H v d → IsD H' v d
  | _, _, .none => .none
  | _, _, .bl b => .bl b
  | _, _, .int i => .int i
  | _, _, .str s => .str s
  | _, _, .lst h p => .lst (e _ _ h) (isDs_mono e p)
  | _, _, .tup h p => .tup (e _ _ h) (isDs_mono e p)
  | _, _, .dct h => .dct (e _ _ h)
theorem isDs_mono {H H' : Hp} (e : Ex H H') : ∀ {vs : List V} {l : List Dt}, IsDs H vs l → IsDs H' vs l
  | _, _, .nil => .nil
  | _, _, .cons h t => .cons (isD_mono e h) (isDs_mono e t)
end
theorem mono_D : Mono IsD := fun _ _ _ _ e h => isD_mono e h
theorem isDs_paired {H : Hp} : ∀ {vs : List V} {l : List Dt}, IsDs H vs l → Paired (IsD H) vs l
  | _, _, .nil => .nil
  | _, _, .cons h t => .cons h (isDs_paired t)
theorem paired_isDs {H : Hp} : ∀ {vs : List V} {l : List Dt}, Paired (IsD H) vs l → IsDs H vs l
  | _, _, .nil => .nil
  | _, _, .cons h t => .cons h (paired_isDs t)
/-- its class's name -/
def Dt.ty : Dt → String
  | .none => "NoneType" | .bl _ => "bool" | .int _ => "int" | .str _ => "str" | .lst _ => "list" | .tup _ => "tuple" | .dct => "dict"
def Dt.isInt : Dt → Bool | .int _ => true | .bl _ => true | _ => false
def Dt.isBl : Dt → Bool | .bl _ => true | _ => false
def Dt.isLst : Dt → Bool | .lst _ => true | _ => false
def Dt.isTup : Dt → Bool | .tup _ => true | _ => false
theorem tyx_D {K : PySem.W.Frag} {H : Hp} {v : V} {d : Dt} (h : IsD H v d) : TyX K H v (.type d.ty) := by
  cases h with
  | none => exact .base .non
  | bl b => exact .base (.bl b)
  | int i => exact .base (.int i)
  | str s => exact .base (.str s)
  | lst h p => exact .base (.lst h)
  | tup h p => exact .base (.tup h)
  | dct h => exact .base (.dT h)
theorem isi_D {K : PySem.W.Frag} {H : Hp} {v : V} {d : Dt} {T : String} {b : Bool} (h : IsD H v d) (hk : kitB d.ty T = some b) : RC (rIsi K) [v, .ty T] H (.bl b) := fun H1 e Q q =>
  ⟨_, _, _, _, b, rfl, .ty T, tyx_D (isD_mono e h), kit_ty hk, q H1 (Ex.refl H1)⟩
theorem isi_Dint {K : PySem.W.Frag} {H : Hp} {v : V} {d : Dt} (h : IsD H v d) : RC (rIsi K) [v, .ty "int"] H (.bl d.isInt) := isi_D h (by cases d <;> (simp only [Dt.ty, Dt.isInt]; decide +kernel))
theorem isi_Dbl {K : PySem.W.Frag} {H : Hp} {v : V} {d : Dt} (h : IsD H v d) : RC (rIsi K) [v, .ty "bool"] H (.bl d.isBl) := isi_D h (by cases d <;> (simp only [Dt.ty, Dt.isBl]; decide +kernel))
theorem isi_Dlst {K : PySem.W.Frag} {H : Hp} {v : V} {d : Dt} (h : IsD H v d) : RC (rIsi K) [v, .ty "list"] H (.bl d.isLst) := isi_D h (by cases d <;> (simp only [Dt.ty, Dt.isLst]; decide +kernel))
theorem isi_Dtup {K : PySem.W.Frag} {H : Hp} {v : V} {d : Dt} (h : IsD H v d) : RC (rIsi K) [v, .ty "tuple"] H (.bl d.isTup) := isi_D h (by cases d <;> (simp only [Dt.ty, Dt.isTup]; decide +kernel))
end Em

namespace Em
open PySem PySem.Spec PyProof.Rows L2 Evl
/-! ### defs that surely raise -/
/-- what raise asks of a class -/
structure ExR (K : PySem.W.Frag) (mg : Str → Option Value) (x : Str) (C : Addr) : Prop where
  g : mg x = some (.ref C)
  x : PySem.W.excIn K C [.type "ValueError", .type "Exception", .type "BaseException", .type "object"] "ValueError.__new__" = true
  k : PySem.W.keepIn K (.ref C) = true
  b : PySem.W.subIn K (.ref C) (.type "BaseException") = some true
  t : PySem.W.typeIn K (.ref C) = some (.type "type")
/-- a def that keeps a promise by which an error may leave it -/
def XOk (P : Program) (w : World) (K : PySem.W.Frag) (mg : Str → Option Value) (base : Heap) (k : Nat) (x : Str) (ps : List Str) (sp : Sp) : Prop :=
  ∃ (f : Addr) (fd : FuncData), FnOk P w K mg base (L2.CX P w) k f fd ps sp ∧ mg x = some (.ref f) ∧ PySem.W.keepIn K (.ref f) = true ∧ Binds K fd ps []
/-- an error of the class at C leaves; what was known stays -/
def Out (C : Addr) (H : Hp) (E : XK) : Prop := ∀ H', Ex H H' → E (.ref C) none H'
theorem Out.mono {C : Addr} {H H' : Hp} {E : XK} (o : Out C H E) (e : Ex H H') : Out C H' E := fun H2 e2 => o H2 (e.trans e2)
section
variable {P : Program} {w : World} {K : PySem.W.Frag} {mg : Str → Option Value} {base : Heap} {X : Cx}
theorem DAt.okX {x : Str} {st : Stmt} {N ps : List Str} {k : Nat} {sp : Sp} (F : DAt K mg x st ps) (S : FnScope N ps (defScope st)) (len : ∀ vs H Q E, sp vs H Q E → vs.length = ps.length)
    (hbody : ∀ (f : Addr) (cdv : Value) (A : Around) (outer : List Env) (s : Shared) (H : Hp) (vs : List V) (Q : VK) (E : XK), Room k (A.deeper (envOfC x (defScope st) s.heap.objs.size f cdv)) → sp vs H Q E →
      ∃ t, PSs (cxOf (L2.CX P w) P w K mg base N x (defScope st) f cdv A outer s H E) (defBody st) t ∧ t { nx := fun _ H' => Q .non H', rt := Q } (start N vs) H) : XOk P w K mg base (k + 1) x ps sp := by
  obtain ⟨f, fd, F, g, b⟩ := F
  exact ⟨f, fd, F.okX S len (hbody f), g, F.kp, b⟩
theorem pe_callX {x : Str} {k : Nat} {ps : List Str} {sp : Sp} {E : XK} {p pos : Pos} {e : Expr} {es : List Expr} {t : TA} (D : XOk X.prog X.w X.K X.mg X.base k x ps sp) (hr : Room k X.A) (hx : Passes (L2.CX X.prog X.w) X E) (ha : PA X (e :: es) t) (hg : Gl X x := by rfl)
    (hdb : (x == ("__debug__" : Str)) = false := by decide) (he : starEach (e :: es) X.env = (false, eval e X.env) :: starEach es X.env := by rfl) (hpl : (backTo pos (starEach es X.env)).any (·.1) = false := by rfl) :
    PE X (.Call (.Name x p) (e :: es) [] pos) (tCall sp [] E t) := by
  obtain ⟨f, fd, F, g, kp, b⟩ := D
  exact pe_call F hr hg g kp b .nil hx ha hdb he hpl
end
section
variable {K : PySem.W.Frag} {σ : L2.St} {H H' : Hp} {ta tb te : TE} {tA : TA} {t : TT} {D : Ends} {tz : TS} {E : XK} {C : Addr}
/-- a comprehension over a tuple of things told by a relation -/
theorem er_lcTP {β γ : Type} {tl : TE} {R : Hp → V → β → Prop} {S : Hp → V → γ → Prop} (mS : Mono S) {a : Addr} {xs : List V} {j : Nat} {vs : List Nat} {l : List β} (f : β → γ) (h : Ev tl σ H (.ref a)) (hx : SqT K H a xs) (hr : Paired (R H) xs l) (hz : l.length ≤ 40000)
    (hw : ∀ x, wipe ((wipe σ vs).set j (some x)) vs = wipe σ vs)
    (he : ∀ x b, b ∈ l → R H x b → EvR te ((wipe σ vs).set j (some x)) H (fun G v => S G v (f b))) :
    EvR (tLc (iTup K tl) (gName j) tYes te vs) σ H (fun G v => IsL S G v (l.map f)) := fun H0 e Q q => h H0 e _ fun H1 e1 => ⟨a, rfl, ⟨xs, ex_t (e.trans e1) hx⟩, fun D hD =>
  lc_core2 mS (walk_tup (K := K) (a := a) (xs := xs)) l (fun _ => true) f (paired_len hr) (by rw [paired_len hr]; exact hz) (e.trans e1) hD (fun H' u => ex_t ((e.trans e1).trans u) hx) (fun i x b H' H'' hb hH y => by
    obtain ⟨rfl, hxi⟩ := y
    obtain ⟨b', hb', rb⟩ := paired_at hr hxi
    rw [hb] at hb'
    cases hb'
    have hm := List.mem_of_getElem? hb
    exact ⟨Ex.refl _, fun Qg k => k _ (hw x) et_yes fun _ => he x b hm rb⟩)
    fun v G H2 c r => q v G H2 ⟨e1.trans c.up, c.old, c.part, fun b hb h1 => c.apart b hb (by
      cases w : H0 b with
      | none => exact absurd w h1
      | some o => rw [e1 b o w]; simp)⟩ (by rwa [filt1] at r)⟩
/-- what surely raises -/
def RaisesE (te : TE) (σ : L2.St) (H : Hp) (C : Addr) (E : XK) : Prop := ∀ H1, Ex H H1 → Out C H1 E → ∀ Q : VK, te σ H1 Q
def SpX (sp : Sp) (vs : List V) (H : Hp) (C : Addr) : Prop := ∀ H1, Ex H H1 → ∀ Q E, Out C H1 E → sp vs H1 Q E
theorem rx_call {sp : Sp} {vs : List V} (h : EvA tA σ H vs) (hs : SpX sp vs H C) : RaisesE (tCall sp [] E tA) σ H C E := fun H1 e o Q => h H1 e _ fun H2 e2 => by
  rw [List.append_nil]
  exact hs H2 (e.trans e2) Q E (o.mono e2)
theorem x_drop (h : RaisesE te σ H C E) (o : Out C H E) : tDrop te D σ H := h H (Ex.refl _) o _
theorem xq_drop (h : RaisesE te σ H C E) (o : Out C H E) : tSeq (tDrop te) tz D σ H := h H (Ex.refl _) o _
theorem x_ret (h : RaisesE te σ H C E) (o : Out C H E) : tRet te D σ H := h H (Ex.refl _) o _
theorem rx_if {b : Bool} (h : EvT t σ H b) (h1 : b = true → RaisesE ta σ H C E) (h2 : b = false → RaisesE tb σ H C E) : RaisesE (tIf t ta tb) σ H C E := fun H1 e o Q => h H1 e _ fun H2 e2 => by
  cases b with
  | true => exact h1 rfl H2 (e.trans e2) (o.mono e2) Q
  | false => exact h2 rfl H2 (e.trans e2) (o.mono e2) Q
end
end Em

namespace Em
open PySem PySem.Spec PyProof.Rows L2 Evl
/-! ### the errors' classes -/
structure EC where
  (teams team rnd plan alike good err : Addr)
/-- what is asked of the class of an error that is told -/
structure ErrK (K : PySem.W.Frag) (c : EC) (D : Addr) (bs : List Bool) : Prop where
  x : ExcC K D
  m : PySem.W.exmOne K (.ref D) (.ref c.err) = some true
  ks : ∃ b0 b1 b2 b3 b4 b5 b6, bs = [b0, b1, b2, b3, b4, b5, b6] ∧ PySem.W.kitOne K (.ref D) (.ref c.teams) = some b0 ∧ PySem.W.kitOne K (.ref D) (.ref c.team) = some b1 ∧ PySem.W.kitOne K (.ref D) (.ref c.rnd) = some b2 ∧
    PySem.W.kitOne K (.ref D) (.ref c.plan) = some b3 ∧ PySem.W.kitOne K (.ref D) (.ref c.alike) = some b4 ∧ PySem.W.kitOne K (.ref D) (.ref c.good) = some b5 ∧ PySem.W.kitOne K (.ref D) (.type "ValueError") = some b6
/-! ### isinstance of an error that is pinned -/
theorem call_isP {X : Cx} {e0 D : Addr} {ob : Obj} (C : ExcC X.K D) (hz : Zc (.ref D) none ob) (hf : ∃ vs, ob.data = .fields vs) (hp : (e0, ob) ∈ X.pn) : CallR X (.builtin "isinstance") (rIsE X.K D e0) := by
  intro pins s σ H ws us Q I rel h
  obtain ⟨c, cv, b, rfl, hcv, hk, q⟩ := h
  match us, rel with
  | [_, u], .cons r1 (.cons r2 .nil) =>
    cases r1
    have eu := hcv u r2
    rw [eu]
    have there := (I.pin (e0, ob) (List.mem_append_left _ hp)).1
    have inst : PySem.W.InstAt s.heap e0 ob D none := by
      obtain ⟨vs, hv⟩ := hf
      obtain ⟨oc, od, oda, osl⟩ := ob
      obtain ⟨z1, z2⟩ := hz
      simp only at z1 z2 hv
      subst z1 z2 hv
      exact ⟨there, rfl, rfl, trivial⟩
    refine PySem.W.kia_one (PySem.W.handS_kitx_exc C.hg C.hk C.hs C.hd C.ha C.hn C.ht C.hm) I.kIn inst hk (by intro z; cases z) ?_
    exact fun tk => ⟨.bl b, H, I.kept (t' := tk) (fun _ _ z => z), rfl, q⟩
/-- a def that is called with an error of the class at D, which is handled meanwhile -/
structure FnZ (P : Program) (w : World) (K : PySem.W.Frag) (mg : Str → Option Value) (base : Heap) (k : Nat) (f : Addr) (fd : FuncData) (ps : List Str) (D : Addr) (sp : Addr → Sp) : Prop where
  len : ∀ a vs H Q E, sp a vs H Q E → vs.length = ps.length
  run : ∀ (A : Around) (outer : List Env) (s : Shared) (H : Hp) (args : Args) (us : List Value) (vs : List V) (Q : VK) (p : Addr × Obj), L2H.RoomH k A → Zc (.ref D) none p.2 → (∃ vs, p.2.data = .fields vs) → L2H.PinOk outer H s p →
    Env0 P w K mg base A outer s H → BindsTo s fd args (ps.zip us) → Vals vs us → sp p.1 vs H Q E0 → codeAny (model P w) A (.call (.ref f) args) (CR CX0 outer P w H s Q E0) s
theorem fn_ofZ {P : Program} {w : World} {K : PySem.W.Frag} {mg : Str → Option Value} {base : Heap} {x : Str} {st : Stmt} {f D : Addr} {fd : FuncData} {N ps : List Str} {k : Nat} {sp : Addr → Sp} (F : Fun K x x st f fd) (S : FnScope N ps (defScope st))
    (len : ∀ a vs H Q E, sp a vs H Q E → vs.length = ps.length)
    (hbody : ∀ (cdv : Value) (A : Around) (outer : List Env) (s : Shared) (H : Hp) (vs : List V) (Q : VK) (p : Addr × Obj), Zc (.ref D) none p.2 → (∃ vs, p.2.data = .fields vs) → L2H.RoomH k (A.deeper (envOfC x (defScope st) s.heap.objs.size f cdv)) → sp p.1 vs H Q E0 →
      ∃ t, PSs (L2H.cxH CX0 P w K mg base N x (defScope st) f cdv A outer s H E0 p) (defBody st) t ∧ t { nx := fun _ H' => Q .non H', rt := Q } (L2.start N vs) H) : FnZ P w K mg base (k + 1) f fd ps D sp := by
  obtain ⟨oc, od, kV, doc, pm, an, cdv, ct, osl, rfl, lk, hcd⟩ := F.ex
  refine ⟨len, fun A outer s H args us vs Q p room hz hf hpin e0 hb rel hsp => ?_⟩
  have old : ∀ b o, base.get? b = some o → s.heap.get? b = some o := fun b o e => (e0.bs b o e).1
  have KX : K.In s.heap := e0.mod.kin.keeps old
  have noL : s.heap.NoLimit := e0.mod.nolimit.keeps old
  have kinds : ∀ y ∈ ps.zip us, (defScope st).names.lookup y.1 = some .local ∨ ((defScope st).names.lookup y.1 = some .cell ∧ ((cellsFrom (s.heap.objs.size + 1) (defScope st).names []).lookup y.1).isSome = true) := by
    rintro ⟨n, v⟩ hy
    exact (S.par n (List.of_mem_zip hy).1).elim Or.inl fun q => Or.inr ⟨q, PySem.W.cellsFrom_some _ _ _ (Or.inl q)⟩
  refine codeAny_call_function room.depth (KX _ _ lk) rfl S.co S.gen rfl (PySem.W.codeRec_of KX hcd) (hb _ _ _ _ (wpAny_newFunctionEnv_cells S.kind kinds fun env he s1 x => ?_))
  subst he
  refine ⟨noL.keeps x.toInCall.keep, codeAny_func ?_⟩
  obtain ⟨t, ht, hq⟩ := hbody cdv A outer s H vs Q p hz hf (room.deeper _) hsp
  have I := L2H.inv_startH (CX := CX0) (E := E0) S hpin e0 (len _ _ _ _ _ hsp) rel x
  refine wpAny_mono (ht.run [] s1 (L2.start N vs) H _ I hq) (fun fl s2 z => ?_) fun _ _ z => z
  match fl, z with
  | .ret u, ⟨v, σ2, H2, J, rv, q⟩ => exact ⟨v, H2, J.os, J.bare, J.base, J.hok, rv, q⟩
  | .next, ⟨σ2, H2, J, q⟩ => exact ⟨.non, H2, J.os, J.bare, J.base, J.hok, rfl, q⟩
  | .brk, ⟨_, _, _, q⟩ => exact False.elim q
  | .cont, ⟨_, _, _, q⟩ => exact False.elim q
/-- .. called in the suite -/
theorem pe_callZ {X : Cx} {a D : Addr} {oe : Obj} {pn : List (Addr × Obj)} {k : Nat} {f : Addr} {fd : FuncData} {ps : List Str} {sp : Addr → Sp} {x : Str} {q pos : Pos} {e : Expr} {es : List Expr} {t : TA} (F : FnZ X.prog X.w X.K X.mg X.base k f fd ps D sp) (hr : Room k X.A)
    (hz : Zc (.ref D) none oe) (hf : ∃ vs, oe.data = .fields vs) (hg : Gl (X.suite a ((a, oe) :: pn)) x) (hm : X.mg x = some (.ref f)) (hk : PySem.W.keepIn X.K (.ref f) = true) (hb : Binds X.K fd ps []) (ha : PA (X.suite a ((a, oe) :: pn)) (e :: es) t)
    (hdb : (x == ("__debug__" : Str)) = false := by decide) (he : starEach (e :: es) X.env = (false, eval e X.env) :: starEach es X.env := by rfl) (hpl : (backTo pos (starEach es X.env)).any (·.1) = false := by rfl) :
    PE (X.suite a ((a, oe) :: pn)) (.Call (.Name x q) (e :: es) [] pos) (fun σ H Q => t σ H fun vs H1 => sp a vs H1 Q E0) := by
  refine ⟨fun pins s σ H Q I h => wpAny_Call_Name_kw (ld_glob I hg hm (PySem.W.callWith_K (h₀ := X.base) I.ok.mod.kin hk (thn (ha.run pos pins s σ H _ I h) fun us s1 y => ?_) he hpl) hdb)⟩
  obtain ⟨vs, H1, I1, rel, z⟩ := y
  refine ⟨I1.kIn, ?_⟩
  have hl : us.length = ps.length := by rw [← rel.length]; exact F.len _ _ _ _ _ z
  have b := hb s1 us I1.kIn (by rw [List.append_nil]; exact hl)
  rw [List.append_nil] at b
  obtain ⟨p1, p2, p3, p4, p5⟩ := I1.pin (a, oe) (List.mem_append_left _ (List.mem_cons_self))
  have hpin : L2H.PinOk (X.suite a ((a, oe) :: pn)).stack H1 s1 (a, oe) := ⟨p1, p2, fun hm => by
    rcases List.mem_cons.mp (I1.stkSub a hm) with y | y
    · exact p3 y
    · exact p4 y, p5⟩
  refine wpAny_call (codeAny_mono (F.run (X.suite a ((a, oe) :: pn)).A (X.suite a ((a, oe) :: pn)).stack s1 H1 ⟨us, []⟩ us vs Q (a, oe) ⟨hr.dp, hr.un⟩ hz hf hpin I1.env0 b rel z) fun r s2 y => ?_)
  match r, y with
  | .error _, y => exact False.elim y
  | .ok (.ret u), y => exact I1.after y
  | .ok .next, y => exact False.elim y
  | .ok .brk, y => exact False.elim y
  | .ok .cont, y => exact False.elim y

/-! ### what is asked of a def that a parameter holds: it surely raises -/
def AskD (P : Program) (w : World) (K : PySem.W.Frag) (mg : Str → Option Value) (base : Heap) (k : Nat) (H : Hp) (f : Addr) (x y : V) (C : Addr) : Prop :=
  ∀ H1, Ex H H1 → ∀ s : Shared, HOk P w H1 s.heap → K.In s.heap → PySem.W.FnAt f s.heap ∧ ∀ (A : Around) (outer : List Env) (us : List Value) (E : XK), Room k A → Env0 P w K mg base A outer s H1 → Vals [x, y] us → Out C H1 E →
    codeAny (model P w) A (.call (.ref f) ⟨us, []⟩) (CR (L2.CX P w) outer P w H1 s (fun _ _ => False) E) s
section
variable {P : Program} {w : World} {K : PySem.W.Frag} {mg : Str → Option Value} {base : Heap} {H H' : Hp} {f C : Addr} {x y : V} {k : Nat}
theorem AskD.mono (a : AskD P w K mg base k H f x y C) (e : Ex H H') : AskD P w K mg base k H' f x y C := fun H1 e1 => a H1 (e.trans e1)
theorem AskD.up {j : Nat} (a : AskD P w K mg base j H f x y C) (h : j ≤ k) : AskD P w K mg base k H f x y C := fun H1 e s ok KX => by
  obtain ⟨h1, h2⟩ := a H1 e s ok KX
  exact ⟨h1, fun A outer us E hr => h2 A outer us E (hr.mono h)⟩
/-- a def of the top -/
theorem ask_def {nm : Str} {st : Stmt} {ps : List Str} {sp : Sp} (F : DAt K mg nm st ps) (X : XOk P w K mg base k nm ps sp) (hm : mg nm = some (.ref f)) (h : SpX sp [x, y] H C) : AskD P w K mg base k H f x y C := fun H1 e s ok KX => by
  obtain ⟨f1, fd1, F1, g1, b1⟩ := F
  rw [hm] at g1
  cases g1
  obtain ⟨oc, od, kV, doc, pm, an, cdv, ct, osl, e1, lk, _⟩ := F1.ex
  obtain ⟨f2, fd2, F2, g2, k2, b2⟩ := X
  rw [hm] at g2
  cases g2
  refine ⟨⟨oc, od, fd1, osl, KX _ _ lk⟩, fun A outer us E hr e0 r o => ?_⟩
  have z := h H1 e (fun _ _ => False) E o
  have hl : us.length = ps.length := by rw [← r.length]; exact F2.len _ _ _ _ z
  have b := b2 s us KX (by rw [List.append_nil]; exact hl)
  rw [List.append_nil] at b
  exact F2.run A outer s H1 ⟨us, []⟩ us [x, y] _ E hr e0 b r z
end
theorem pe_ask (P : Program) (w : World) (K : PySem.W.Frag) (mg : Str → Option Value) (base : Heap) {X : Cx} {W : WX} {k i : Nat} {x : Str} {p pos : Pos} {e : Expr} {es : List Expr} {t : TA} (tk : Takes X W) (hr : Room k X.A) (hN : X.N[i]? = some x) (hv : Vis X.env.scope x) (ha : PA X (e :: es) t)
    (hdb : (x == ("__debug__" : Str)) = false := by decide) (hcd : (x == ("__classdict__" : Str)) = false := by decide) (he : starEach (e :: es) X.env = (false, eval e X.env) :: starEach es X.env := by rfl) (hpl : (backTo pos (starEach es X.env)).any (·.1) = false := by rfl)
    (e1 : X.prog = P := by rfl) (e2 : X.w = w := by rfl) (e3 : X.K = K := by rfl) (e4 : X.mg = mg := by rfl) (e5 : X.base = base := by rfl) :
    PE X (.Call (.Name x p) (e :: es) [] pos) (fun σ H Q => ∃ f a b C, σ[i]? = some (some (.ref f)) ∧ AskD P w K mg base k H f a b C ∧ t σ H fun vs H1 => vs = [a, b] ∧ Ex H H1 ∧ Out C H1 (WE W σ)) := by
  subst e1 e2 e3 e4 e5
  refine ⟨fun pins s σ H Q I h => ?_⟩
  obtain ⟨f, a, b, C, hs, hA, ht⟩ := h
  refine wpAny_Call_Name_kw (thn ((pe_var (pos := p) hN hv hdb hcd).run pins s σ H (fun v H1 => v = .ref f ∧ H1 = H) I ⟨.ref f, hs, rfl, rfl⟩) fun u s1 z => ?_)
  obtain ⟨v, H1, I1, r1, e1, e2⟩ := z
  subst e1 e2
  cases r1
  refine PySem.W.callWith_F (hA H1 (Ex.refl _) s1 I1.hok I1.kIn).1 (thn (ha.run pos pins s1 σ H1 _ I1 ht) fun us s2 z => ?_) he hpl
  obtain ⟨vs, H2, I2, r2, e3, e4, o⟩ := z
  subst e3
  obtain ⟨g1, g2⟩ := hA H2 e4 s2 I2.hok I2.kIn
  refine ⟨g1, wpAny_call (codeAny_mono (g2 X.A X.stack us (WE W σ) hr I2.env0 r2 o) fun r s3 z => ?_)⟩
  match r, z with
  | .error er, z => exact passAt tk σ pins H2 s2 er s3 I2 z
  | .ok (.ret u), ⟨_, _, _, _, _, _, _, z⟩ => exact False.elim z
  | .ok .next, z => exact False.elim z
  | .ok .brk, z => exact False.elim z
  | .ok .cont, z => exact False.elim z

/-! ### a lambda with parameters that captures nothing -/
def LamO (f : Addr) (q : Str) (params : Arguments) (body : Expr) (scope : Scope) (pm : Value) (c : Addr) (ctv : Value) : HO := .ext fun h => h.get? f = some (PySem.W.kla_obj "<lambda>" q params body scope [] pm c ctv)
def IsLam (H : Hp) (f : Addr) (q : Str) (params : Arguments) (body : Expr) (scope : Scope) : Prop := ∃ pm c ctv, H f = some (LamO f q params body scope pm c ctv) ∧ H c = some (LamX.CodeO c q)
theorem isLam_mono {H H' : Hp} {f : Addr} {q : Str} {params : Arguments} {body : Expr} {scope : Scope} (e : Ex H H') (h : IsLam H f q params body scope) : IsLam H' f q params body scope := by
  obtain ⟨pm, c, ctv, h1, h2⟩ := h
  exact ⟨pm, c, ctv, e _ _ h1, e _ _ h2⟩
def tLamV (T : List (Addr × Str)) (q : Str) (params : Arguments) (body : Expr) (scope : Scope) : TE := fun _ H Q => LamX.Tabs T H ∧ ∀ f H1, LamX.ExtN H H1 → LamX.Tabs T H1 → IsLam H1 f q params body scope → Q (.ref f) H1
section
variable {X : Cx} {pins : List (Addr × Obj)} {σ : L2.St} {H : Hp} {s : Shared}
/-- the function object is laid -/
theorem lam_laid {q : Str} {params : Arguments} {body : Expr} {scope : Scope} {pm ctv : Value} {c : Addr} {h' : Heap} {tk : Nat} (I : Inv X pins σ H { s with heap := h', toks := tk }) (hc : H c = some (LamX.CodeO c q)) :
    ∃ H1, Inv X pins σ H1 { s with heap := h'.push (PySem.W.kla_obj "<lambda>" q params body scope [] pm c ctv), toks := tk } ∧ Ex H H1 ∧ IsLam H1 h'.objs.size q params body scope := by
  have nf : H h'.objs.size = none := I.hok.fresh (Nat.le_refl _)
  have here : (h'.push (PySem.W.kla_obj "<lambda>" q params body scope [] pm c ctv)).get? h'.objs.size = some (PySem.W.kla_obj "<lambda>" q params body scope [] pm c ctv) := Heap.get?_push_size _ rfl
  refine ⟨upd H h'.objs.size (LamO h'.objs.size q params body scope pm c ctv), I.laid (t' := tk) (fun b u z => Heap.get?_push_of_some _ z) (Nat.le_refl _) ⟨here, ⟨_, here⟩, fun h1 h2 z k => k _ z⟩, Ex.new nf, pm, c, ctv, upd_same, ?_⟩
  rw [upd_ne (ne_of_none hc nf)]
  exact hc
theorem pe_lam {T : List (Addr × Str)} {c P : Addr} {params : Arguments} {body : Expr} {scope : Scope} {pos : Pos} (TB : LamX.TabB X.base X.mg c P) (hcode : X.env.code = .ref c) (hmT : (P, X.env.qual ++ "<lambda>") ∈ T) (hu : ∀ p ∈ T, p.1 = P → p.2 = X.env.qual ++ "<lambda>")
    (hdef : defaultsOf params X.env = ([], [])) (hfree : ∀ y ∈ scope.names, y.2 ≠ .free) (hcl : cloFrom X.env.cells scope.names [] = []) : PE X (.Lambda params body scope pos) (tLamV T (X.env.qual ++ "<lambda>") params body scope) := by
  refine ⟨fun pins s σ H Q I h => PySem.W.kla_eval hdef ?_⟩
  obtain ⟨hT, h⟩ := h
  obtain ⟨ps, hP, ht, ha⟩ := hT _ hmT
  have clo : closureFor scope X.env = pure [] := (closure_ok fun y hy z => absurd z (hfree y hy)).trans (by rw [hcl])
  have bm : s.heap.BuiltinsAt X.mg P := TB.bm.keeps I.bk
  have atP : s.heap.get? P = some { cls := .none, data := .fields ps } := I.hok P _ hP
  cases hc : codeAmong pos ps.toList with
  | some cv =>
    obtain ⟨c1, e1, hco⟩ := ha pos cv hc
    subst e1
    refine PySem.W.kla_makeFunctionHit (mg := X.mg) (c := c) clo I.ok.glob (I.mod.glob.keeps I.bk) hcode (TB.code.keeps I.bk) atP ht hc bm fun ctv h' tk old _ => ?_
    obtain ⟨H1, J, up, L⟩ := lam_laid (q := X.env.qual ++ "<lambda>") (params := params) (body := body) (scope := scope) (pm := (X.mg "__name__").getD .none) (ctv := ctv) (I.kept (t' := tk) old) hco
    exact ⟨.ref _, H1, J, rfl, h _ H1 (LamX.ExtN.of up) (hT.ext up) L⟩
  | none =>
    refine PySem.W.kla_makeFunction (mg := X.mg) (c := c) clo I.ok.glob (I.mod.glob.keeps I.bk) hcode (TB.code.keeps I.bk) atP ht hc TB.gP bm fun c1 ctv h' tk old hge hlt rec tab => ?_
    obtain ⟨c2, oc, vs, t, e2, r1, r2, r3⟩ := rec
    cases e2
    have nC : H c1 = none := I.hok.fresh hge
    have I1 := LamX.inv_table (t' := tk) (more := #[rawInt pos.line, rawInt pos.col, .ref c1]) (q := X.env.qual ++ "<lambda>") I hP old tab hge ⟨oc, vs, t, r1, r2, r3⟩
    have nPc : P ≠ c1 := ne_of_none hP nC
    obtain ⟨H1, J, up, L⟩ := lam_laid (q := X.env.qual ++ "<lambda>") (params := params) (body := body) (scope := scope) (pm := (X.mg "__name__").getD .none) (ctv := ctv) I1 upd_same
    have ext : LamX.ExtN H (upd (upd H P (.tbl (ps ++ #[rawInt pos.line, rawInt pos.col, .ref c1]))) c1 (LamX.CodeO c1 (X.env.qual ++ "<lambda>"))) := by
      intro b o hb no
      have n1 : b ≠ P := by
        rintro rfl
        rw [hP] at hb
        exact no ps (Option.some.inj hb).symm
      rw [upd_ne (ne_of_none hb nC), upd_ne n1]
      exact hb
    have app : (ps ++ #[rawInt pos.line, rawInt pos.col, .ref c1]).toList = ps.toList ++ [rawInt pos.line, rawInt pos.col, .ref c1] := by simp
    have T1 : LamX.Tabs T (upd (upd H P (.tbl (ps ++ #[rawInt pos.line, rawInt pos.col, .ref c1]))) c1 (LamX.CodeO c1 (X.env.qual ++ "<lambda>"))) := by
      intro p hp
      by_cases hb : p.1 = P
      · have e1 : LamX.TabS (upd (upd H P (.tbl (ps ++ #[rawInt pos.line, rawInt pos.col, .ref c1]))) c1 (LamX.CodeO c1 (X.env.qual ++ "<lambda>"))) P (X.env.qual ++ "<lambda>") := by
          refine ⟨_, (upd_ne nPc).trans upd_same, ?_, fun ps1 cv1 hcv => ?_⟩
          · rw [app]
            exact PySem.TriplesOk_snoc _ _ _ _ ht
          · rw [app] at hcv
            rcases LamX.among_app _ ht hcv with z | z
            · obtain ⟨c0, z1, z2⟩ := ha ps1 cv1 z
              exact ⟨c0, z1, ext _ _ z2 LamX.codeO_ne⟩
            · exact ⟨c1, z, upd_same⟩
        rw [hb, hu p hp hb]
        exact e1
      · obtain ⟨ps1, z1, z2, z3⟩ := hT p hp
        refine ⟨ps1, (upd_ne (ne_of_none z1 nC)).trans ((upd_ne hb).trans z1), z2, fun p1 cv1 hcv => ?_⟩
        obtain ⟨c0, y1, y2⟩ := z3 p1 cv1 hcv
        exact ⟨c0, y1, ext _ _ y2 LamX.codeO_ne⟩
    exact ⟨.ref _, H1, J, rfl, h _ H1 (ext.trans (LamX.ExtN.of up)) (T1.ext up) L⟩
end
/-- .. asked -/
theorem ask_lam {P : Program} {w : World} {K : PySem.W.Frag} {mg : Str → Option Value} {base : Heap} {H : Hp} {f C : Addr} {x y : V} {k : Nat} {q : Str} {params : Arguments} {body : Expr} {scope : Scope} {N ps : List Str} (L : IsLam H f q params body scope) (S : FnScope N ps scope) (hps : ps.length = 2)
    (hbind : ∀ (pm c ctv : Value) (us : List Value), us.length = 2 → bindArgs (PySem.W.kla_fn "<lambda>" q params body scope [] pm c ctv) ⟨us, []⟩ = pure (ps.zip us))
    (hbody : ∀ (cdv : Value) (A : Around) (outer : List Env) (s : Shared) (H1 : Hp) (E : XK), Ex H H1 → Room k (A.deeper (envOfC q scope s.heap.objs.size f cdv)) → Out C H1 E → ∃ t, PE (cxOf (L2.CX P w) P w K mg base N q scope f cdv A outer s H1 E) body t ∧ t (L2.start N [x, y]) H1 fun _ _ => False) :
    AskD P w K mg base (k + 1) H f x y C := fun H1 e s ok KX => by
  obtain ⟨pm, c, ctv, h1, h2⟩ := L
  have at1 : s.heap.get? f = some (PySem.W.kla_obj "<lambda>" q params body scope [] pm c ctv) := (ok f _ (e _ _ h1)).1
  have at2 := (ok c _ (e _ _ h2)).1
  obtain ⟨oc, vs, t, r1, r2, r3⟩ := at2
  refine ⟨⟨_, _, _, _, at1⟩, fun A outer us E hr e0 r o => ?_⟩
  have hl : us.length = 2 := r.length.symm
  have noL : s.heap.NoLimit := e0.mod.nolimit.keeps fun b o e => (e0.bs b o e).1
  have kinds : ∀ y ∈ ps.zip us, scope.names.lookup y.1 = some .local ∨ (scope.names.lookup y.1 = some .cell ∧ ((cellsFrom (s.heap.objs.size + 1) scope.names []).lookup y.1).isSome = true) := by
    rintro ⟨n, v⟩ hy
    exact (S.par n (List.of_mem_zip hy).1).elim Or.inl fun q => Or.inr ⟨q, PySem.W.cellsFrom_some _ _ _ (Or.inl q)⟩
  refine PySem.W.kla_callFunE hr.depth at1 rfl S.co S.gen rfl ⟨c, oc, vs, t, rfl, r1, r2, r3⟩ ?_
  rw [hbind pm (.ref c) ctv us hl]
  refine wpAny_pure (wpAny_newFunctionEnv_cells S.kind kinds fun env he s1 x1 => ?_)
  subst he
  refine ⟨noL.keeps x1.toInCall.keep, PySem.W.kla_codeExpr ?_⟩
  obtain ⟨t1, ht1, hq1⟩ := hbody (.ref c) A outer s H1 E e (hr.deeper _) o
  have I : Inv (cxOf (L2.CX P w) P w K mg base N q scope f (.ref c) A outer s H1 E) [] (L2.start N [x, y]) H1 s1 := inv_start S hr.hd e0 hps.symm r x1
  refine wpAny_mono (ht1.run [] s1 _ H1 _ I hq1) (fun v s2 z => ?_) fun er s2 z => z
  obtain ⟨_, _, _, _, z⟩ := z
  exact False.elim z
end Em

namespace Em
open PySem PySem.Spec PyProof.Rows L2 Evl
/-! the walk of a reading, by the evaluations of its parts -/
local macro_rules | `(tactic| tm_at "leaf") => `(tactic| first
  | ((with_reducible apply ev_var); exact rfl)
  | (with_reducible apply ev_c)
  | (with_reducible apply rv_I0)
  | (with_reducible apply rv_p18)
  | (with_reducible apply rv_p40)
  | (with_reducible apply rv_p30)
  | (with_reducible apply ru_neg)
  | ((with_reducible apply rv_I); tm_at "sd")
  | ((with_reducible apply rv_eq); exact rfl)
  | ((with_reducible apply rv_ne); exact rfl)
  | (with_reducible apply ea_nil)
  | (with_reducible apply et_yes)
  | (with_reducible apply isi_int_int)
  | (with_reducible apply isi_int_bool)
  | (with_reducible apply isi_bl_bool)
  | (with_reducible apply rc_min2)
  | (with_reducible apply rc_max2))
local macro_rules | `(tactic| tm_at "node") => `(tactic| first
  | (with_reducible apply ev_op)
  | (with_reducible apply ev_un)
  | (with_reducible apply ea_cons)
  | (with_reducible apply et_test)
  | (with_reducible apply et_B)
  | (with_reducible apply et_not)
  | (with_reducible apply et_or)
  | (with_reducible apply et_and)
  | (with_reducible apply et_ch2)
  | (with_reducible apply ev_ch2)
  | (with_reducible apply et_ch3)
  | (with_reducible apply ev_ch3)
  | (with_reducible apply ev_andV)
  | (with_reducible apply ev_orV)
  | (with_reducible apply ev_notV)
  | (with_reducible apply ev_cb)
  | (with_reducible apply ev_call0)
  | (with_reducible intro _)
  | fail "no rule")
local macro_rules | `(tactic| tm_at "sd") => `(tactic| first | (with_reducible assumption) | omega | decide | exact ⟨by omega, by omega⟩ | exact ⟨by decide, by decide⟩ | exact ⟨by decide, by decide, by decide⟩)
local macro_rules | `(tactic| tm_at "sp") => `(tactic| fail "no promise")
local macro_rules | `(tactic| tm_at "ev") => `(tactic| first
  | tm_at "leaf"
  | tm_at "sp"
  | (tm_at "node" <;> tm_at "ev"))

def top (i : Nat) : Stmt := PySem.Challenge.pw_everymeets_k05_refused.main.body.getD i (.Pass ⟨0, 0, 0, 0⟩)
/-- the built-ins' names are free -/
structure Zs (mg : Str → Option Value) : Prop where
  isinstance : mg "isinstance" = none
  int : mg "int" = none
  bool : mg "bool" = none
  len : mg "len" = none
  range : mg "range" = none
  any : mg "any" = none
  all : mg "all" = none
  min : mg "min" = none
  max : mg "max" = none

section
variable {P : Program} {w : World} {K : PySem.W.Frag} {mg : Str → Option Value} {base : Heap}

abbrev s_is_whole : Stmt := top 9
abbrev N_is_whole : List Str := ["thing"]
theorem sc_is_whole : FnScope N_is_whole ["thing"] (defScope s_is_whole) := ⟨rfl, rfl, rfl, by decide +kernel, rfl, by decide +kernel, by decide +kernel⟩
def sp_wholeI : Sp := fun vs H Q _ => ∃ n : Int, vs = [.int n] ∧ RetV (.bl true) H Q
theorem use_wholeI {H : Hp} {n : Int} : SpV sp_wholeI [.int n] H (.bl true) := fun H1 e Q q _ => ⟨n, rfl, q⟩
theorem ok_is_whole (F : DAt K mg "is_whole" s_is_whole ["thing"]) (Z : Zs mg) : DOk P w K mg base 1 "is_whole" ["thing"] sp_wholeI := by
  have nd := sc_is_whole.nd
  refine F.ok sc_is_whole (fun vs H Q E h => ?_) (fun f cdv A outer s H vs Q E hr h => ?_)
  · obtain ⟨n, rfl, _⟩ := h
    rfl
  · obtain ⟨n, rfl, k⟩ := h
    refine ⟨_, (pss_one (ps_ret (pe_and (pe_callB (k_isi (K := K)) (by rfl) Z.isinstance boot_isinstance (pa_cons (pv 0) (pa_cons (pe_bltn (v := .ty "int") (by rfl) Z.int boot_int rfl) pa_nil))) (pe_one (pe_not (pe_callB (k_isi (K := K)) (by rfl) Z.isinstance boot_isinstance (pa_cons (pv 0) (pa_cons (pe_bltn (v := .ty "bool") (by rfl) Z.bool boot_bool rfl) pa_nil)))))))), ?_⟩
    refine s_ret (by tm_at "ev") ?_
    exact k
local macro_rules | `(tactic| tm_at "sp") => `(tactic| (with_reducible apply use_wholeI))

abbrev s_check_teams : Stmt := top 10
abbrev N_check_teams : List Str := ["teams"]
theorem sc_check_teams : FnScope N_check_teams ["teams"] (defScope s_check_teams) := ⟨rfl, rfl, rfl, by decide +kernel, rfl, by decide +kernel, by decide +kernel⟩
def sp_check_teams : Sp := fun vs H Q _ => ∃ n : Int, vs = [.int n] ∧ TeamsOk n ∧ RetV .non H Q
theorem use_check_teams {H : Hp} {n : Int} (h : TeamsOk n) : SpV sp_check_teams [.int n] H .non := fun H1 e Q q _ => ⟨n, rfl, h, q⟩
theorem ok_check_teams (F : DAt K mg "check_teams" s_check_teams ["teams"]) (D_is_whole : DOk P w K mg base 1 "is_whole" ["thing"] sp_wholeI) : DOk P w K mg base 2 "check_teams" ["teams"] sp_check_teams := by
  have nd := sc_check_teams.nd
  refine F.ok sc_check_teams (fun vs H Q E h => ?_) (fun f cdv A outer s H vs Q E hr h => ?_)
  · obtain ⟨n, rfl, _⟩ := h
    rfl
  · obtain ⟨n, rfl, ⟨h1, h2⟩, k⟩ := h
    refine ⟨_, (pss_one (ps_if (PW.pt (pw_or (pt_not (pt_val (pe_callD D_is_whole (hr.mono (by decide)) (pa_cons (pv 0) pa_nil)))) (pw_or (pt_cmpR op_lt (pv 0) pe_int (nomark _)) (pw_or1 (pt_cmpR op_eq (pe_op op_mod (pv 0) pe_int) pe_int (nomark _))))))
        (pss_one ps_never)
        pss_nil)), ?_⟩
    refine s_when (by tm_at "ev") (fun hb => ?_) (fun _ H1 e1 => k H1 e1)
    simp at hb
    omega
local macro_rules | `(tactic| tm_at "sp") => `(tactic| ((with_reducible apply use_check_teams); tm_at "sd"))

abbrev s_check_team : Stmt := top 11
abbrev N_check_team : List Str := ["teams", "team"]
theorem sc_check_team : FnScope N_check_team ["teams", "team"] (defScope s_check_team) := ⟨rfl, rfl, rfl, by decide +kernel, rfl, by decide +kernel, by decide +kernel⟩
def sp_check_team : Sp := fun vs H Q _ => ∃ n t : Int, vs = [.int n, .int t] ∧ TeamOk n t ∧ RetV .non H Q
theorem use_check_team {H : Hp} {n t : Int} (h : TeamOk n t) : SpV sp_check_team [.int n, .int t] H .non := fun H1 e Q q _ => ⟨n, t, rfl, h, q⟩
theorem ok_check_team (F : DAt K mg "check_team" s_check_team ["teams", "team"]) (D_is_whole : DOk P w K mg base 1 "is_whole" ["thing"] sp_wholeI) : DOk P w K mg base 2 "check_team" ["teams", "team"] sp_check_team := by
  have nd := sc_check_team.nd
  refine F.ok sc_check_team (fun vs H Q E h => ?_) (fun f cdv A outer s H vs Q E hr h => ?_)
  · obtain ⟨n, t, rfl, _⟩ := h
    rfl
  · obtain ⟨n, t, rfl, ⟨h1, h2⟩, k⟩ := h
    refine ⟨_, (pss_one (ps_if (PW.pt (pw_or (pt_not (pt_val (pe_callD D_is_whole (hr.mono (by decide)) (pa_cons (pv 1) pa_nil)))) (pw_or1 (pt_not (pt_chain op_le op_lt pe_int (pv 1) (pv 0))))))
        (pss_one ps_never)
        pss_nil)), ?_⟩
    refine s_when (by tm_at "ev") (fun hb => ?_) (fun _ H1 e1 => k H1 e1)
    simp at hb
    omega
local macro_rules | `(tactic| tm_at "sp") => `(tactic| ((with_reducible apply use_check_team); tm_at "sd"))

abbrev s_check_round : Stmt := top 12
abbrev N_check_round : List Str := ["teams", "number"]
theorem sc_check_round : FnScope N_check_round ["teams", "number"] (defScope s_check_round) := ⟨rfl, rfl, rfl, by decide +kernel, rfl, by decide +kernel, by decide +kernel⟩
def sp_check_round : Sp := fun vs H Q _ => ∃ n r : Int, vs = [.int n, .int r] ∧ RoundOk n r ∧ RetV .non H Q
theorem use_check_round {H : Hp} {n r : Int} (h : RoundOk n r) : SpV sp_check_round [.int n, .int r] H .non := fun H1 e Q q _ => ⟨n, r, rfl, h, q⟩
theorem ok_check_round (F : DAt K mg "check_round" s_check_round ["teams", "number"]) (D_is_whole : DOk P w K mg base 1 "is_whole" ["thing"] sp_wholeI) : DOk P w K mg base 2 "check_round" ["teams", "number"] sp_check_round := by
  have nd := sc_check_round.nd
  refine F.ok sc_check_round (fun vs H Q E h => ?_) (fun f cdv A outer s H vs Q E hr h => ?_)
  · obtain ⟨n, r, rfl, _⟩ := h
    rfl
  · obtain ⟨n, r, rfl, ⟨h1, h2⟩, k⟩ := h
    refine ⟨_, (pss_one (ps_if (PW.pt (pw_or (pt_not (pt_val (pe_callD D_is_whole (hr.mono (by decide)) (pa_cons (pv 1) pa_nil)))) (pw_or1 (pt_not (pt_chain op_le op_lt pe_int (pv 1) (pe_op op_sub (pv 0) pe_int))))))
        (pss_one ps_never)
        pss_nil)), ?_⟩
    refine s_when (by tm_at "ev") (fun hb => ?_) (fun _ H1 e1 => k H1 e1)
    simp at hb
    omega
local macro_rules | `(tactic| tm_at "sp") => `(tactic| ((with_reducible apply use_check_round); tm_at "sd"))

abbrev s_check_three : Stmt := top 13
abbrev N_check_three : List Str := ["teams", "team", "number"]
theorem sc_check_three : FnScope N_check_three ["teams", "team", "number"] (defScope s_check_three) := ⟨rfl, rfl, rfl, by decide +kernel, rfl, by decide +kernel, by decide +kernel⟩
def sp_check_three : Sp := fun vs H Q _ => ∃ n t r : Int, vs = [.int n, .int t, .int r] ∧ TeamsOk n ∧ TeamOk n t ∧ RoundOk n r ∧ RetV .non H Q
theorem use_check_three {H : Hp} {n t r : Int} (h1 : TeamsOk n) (h2 : TeamOk n t) (h3 : RoundOk n r) : SpV sp_check_three [.int n, .int t, .int r] H .non := fun H1 e Q q _ => ⟨n, t, r, rfl, h1, h2, h3, q⟩
theorem ok_check_three (F : DAt K mg "check_three" s_check_three ["teams", "team", "number"]) (D_check_teams : DOk P w K mg base 2 "check_teams" ["teams"] sp_check_teams) (D_check_team : DOk P w K mg base 2 "check_team" ["teams", "team"] sp_check_team)
    (D_check_round : DOk P w K mg base 2 "check_round" ["teams", "number"] sp_check_round) : DOk P w K mg base 3 "check_three" ["teams", "team", "number"] sp_check_three := by
  have nd := sc_check_three.nd
  refine F.ok sc_check_three (fun vs H Q E h => ?_) (fun f cdv A outer s H vs Q E hr h => ?_)
  · obtain ⟨n, t, r, rfl, _⟩ := h
    rfl
  · obtain ⟨n, t, r, rfl, h1, h2, h3, k⟩ := h
    refine ⟨_, (pss_cons (ps_expr (pe_callD D_check_teams (hr.mono (by decide)) (pa_cons (pv 0) pa_nil)))
      (pss_cons (ps_expr (pe_callD D_check_team (hr.mono (by decide)) (pa_cons (pv 0) (pa_cons (pv 1) pa_nil))))
      (pss_one (ps_expr (pe_callD D_check_round (hr.mono (by decide)) (pa_cons (pv 0) (pa_cons (pv 2) pa_nil))))))), ?_⟩
    refine q_drop (by tm_at "ev") fun H1 e1 => ?_
    refine q_drop (by tm_at "ev") fun H2 e2 => ?_
    refine s_drop (by tm_at "ev") fun H3 e3 => ?_
    exact k H3 ((e1.trans e2).trans e3)
local macro_rules | `(tactic| tm_at "sp") => `(tactic| ((with_reducible apply use_check_three) <;> tm_at "sd"))

abbrev s_opponent : Stmt := top 14
abbrev N_opponent : List Str := ["teams", "team", "number"]
theorem sc_opponent : FnScope N_opponent ["teams", "team", "number"] (defScope s_opponent) := ⟨rfl, rfl, rfl, by decide +kernel, rfl, by decide +kernel, by decide +kernel⟩
def sp_opponent : Sp := fun vs H Q _ => ∃ n t r : Int, vs = [.int n, .int t, .int r] ∧ TeamsOk n ∧ TeamOk n t ∧ RoundOk n r ∧ RetV (.int (oppM n t r)) H Q
theorem use_opponent {H : Hp} {n t r : Int} (h1 : TeamsOk n) (h2 : TeamOk n t) (h3 : RoundOk n r) : SpV sp_opponent [.int n, .int t, .int r] H (.int (oppM n t r)) := fun H1 e Q q _ => ⟨n, t, r, rfl, h1, h2, h3, q⟩
theorem mul2 {j : Int} : IntMulOk 2 j := .of_left (intBits_le_64 (by decide) (by decide))
theorem ok_opponent (F : DAt K mg "opponent" s_opponent ["teams", "team", "number"]) (D_check_three : DOk P w K mg base 3 "check_three" ["teams", "team", "number"] sp_check_three) : DOk P w K mg base 4 "opponent" ["teams", "team", "number"] sp_opponent := by
  have nd := sc_opponent.nd
  refine F.ok sc_opponent (fun vs H Q E h => ?_) (fun f cdv A outer s H vs Q E hr h => ?_)
  · obtain ⟨n, t, r, rfl, _⟩ := h
    rfl
  · obtain ⟨n, t, r, rfl, h1, h2, h3, k⟩ := h
    have m2 : IntMulOk 2 r := mul2
    have n1 : 0 < n - 1 := by have := h1.1; omega
    refine ⟨_, (pss_cons (ps_expr (pe_callD D_check_three (hr.mono (by decide)) (pa_cons (pv 0) (pa_cons (pv 1) (pa_cons (pv 2) pa_nil)))))
      (pss_cons (ps_if (pt_cmpR op_eq (pv 1) (pe_op op_sub (pv 0) pe_int) (nomark _))
        (pss_one (ps_ret (pv 2)))
        pss_nil)
      (pss_cons (ps_if (pt_cmpR op_eq (pv 1) (pv 2) (nomark _))
        (pss_one (ps_ret (pe_op op_sub (pv 0) pe_int)))
        pss_nil)
      (pss_one (ps_ret (pe_op op_mod (pe_op op_sub (pe_op op_mulB pe_int (pv 2)) (pv 1)) (pe_op op_sub (pv 0) pe_int))))))), ?_⟩
    unfold oppM at k
    refine q_drop (by tm_at "ev") fun H1 e1 => ?_
    refine q_when (by tm_at "ev") (fun hb H2 e2 => s_ret (by tm_at "ev") fun H3 e3 => ?_) fun hb H2 e2 => ?_
    · simp at hb
      rw [if_pos hb] at k
      exact k H3 ((e1.trans e2).trans e3)
    · simp at hb
      rw [if_neg hb] at k
      refine q_when (by tm_at "ev") (fun hb H3 e3 => s_ret (by tm_at "ev") fun H4 e4 => ?_) fun hb H3 e3 => s_ret (by tm_at "ev") fun H4 e4 => ?_
      · simp at hb
        rw [if_pos hb] at k
        exact k H4 (((e1.trans e2).trans e3).trans e4)
      · simp at hb
        rw [if_neg hb] at k
        exact k H4 (((e1.trans e2).trans e3).trans e4)
local macro_rules | `(tactic| tm_at "sp") => `(tactic| ((with_reducible apply use_opponent) <;> tm_at "sd"))

abbrev s_home_of : Stmt := top 15
abbrev N_home_of : List Str := ["teams", "team", "number"]
theorem sc_home_of : FnScope N_home_of ["teams", "team", "number"] (defScope s_home_of) := ⟨rfl, rfl, rfl, by decide +kernel, rfl, by decide +kernel, by decide +kernel⟩
def sp_home_of : Sp := fun vs H Q _ => ∃ n t r : Int, vs = [.int n, .int t, .int r] ∧ TeamsOk n ∧ RetV (.bl (homeM n t r)) H Q
theorem use_home_of {H : Hp} {n t r : Int} (h1 : TeamsOk n) : SpV sp_home_of [.int n, .int t, .int r] H (.bl (homeM n t r)) := fun H1 e Q q _ => ⟨n, t, r, rfl, h1, q⟩
theorem ok_home_of (F : DAt K mg "home_of" s_home_of ["teams", "team", "number"]) : DOk P w K mg base 1 "home_of" ["teams", "team", "number"] sp_home_of := by
  have nd := sc_home_of.nd
  refine F.ok sc_home_of (fun vs H Q E h => ?_) (fun f cdv A outer s H vs Q E hr h => ?_)
  · obtain ⟨n, t, r, rfl, _⟩ := h
    rfl
  · obtain ⟨n, t, r, rfl, h1, k⟩ := h
    have n1 : 0 < n - 1 := by have := h1.1; omega
    refine ⟨_, (pss_cons (ps_if (pt_cmpR op_eq (pv 1) (pe_op op_sub (pv 0) pe_int) (nomark _))
        (pss_one (ps_ret (pe_cmpR op_eq (pe_op op_mod (pv 2) pe_int) pe_int (nomark _))))
        pss_nil)
      (pss_cons (ps_if (pt_cmpR op_eq (pv 1) (pv 2) (nomark _))
        (pss_one (ps_ret (pe_cmpR op_eq (pe_op op_mod (pv 2) pe_int) pe_int (nomark _))))
        pss_nil)
      (pss_one (ps_ret (pe_cmpR op_eq (pe_op op_mod (pe_op op_mod (pe_op op_sub (pv 1) (pv 2)) (pe_op op_sub (pv 0) pe_int)) pe_int) pe_int (nomark _)))))), ?_⟩
    unfold homeM at k
    refine q_when (by tm_at "ev") (fun hb H2 e2 => s_ret (by tm_at "ev") fun H3 e3 => ?_) fun hb H2 e2 => ?_
    · simp at hb
      rw [if_pos hb] at k
      simp only [V.int.injEq]
      exact k H3 (e2.trans e3)
    · simp at hb
      rw [if_neg hb] at k
      refine q_when (by tm_at "ev") (fun hb H3 e3 => s_ret (by tm_at "ev") fun H4 e4 => ?_) fun hb H3 e3 => s_ret (by tm_at "ev") fun H4 e4 => ?_
      · simp at hb
        rw [if_pos hb] at k
        simp only [V.int.injEq]
        exact k H4 ((e2.trans e3).trans e4)
      · simp at hb
        rw [if_neg hb] at k
        simp only [V.int.injEq]
        exact k H4 ((e2.trans e3).trans e4)
local macro_rules | `(tactic| tm_at "sp") => `(tactic| ((with_reducible apply use_home_of) <;> tm_at "sd"))

abbrev s_at_home : Stmt := top 16
abbrev N_at_home : List Str := ["teams", "team", "number"]
theorem sc_at_home : FnScope N_at_home ["teams", "team", "number"] (defScope s_at_home) := ⟨rfl, rfl, rfl, by decide +kernel, rfl, by decide +kernel, by decide +kernel⟩
def sp_at_home : Sp := fun vs H Q _ => ∃ n t r : Int, vs = [.int n, .int t, .int r] ∧ TeamsOk n ∧ TeamOk n t ∧ RoundOk n r ∧ RetV (.bl (homeM n t r)) H Q
theorem use_at_home {H : Hp} {n t r : Int} (h1 : TeamsOk n) (h2 : TeamOk n t) (h3 : RoundOk n r) : SpV sp_at_home [.int n, .int t, .int r] H (.bl (homeM n t r)) := fun H1 e Q q _ => ⟨n, t, r, rfl, h1, h2, h3, q⟩
theorem ok_at_home (F : DAt K mg "at_home" s_at_home ["teams", "team", "number"]) (D_check_three : DOk P w K mg base 3 "check_three" ["teams", "team", "number"] sp_check_three) (D_home_of : DOk P w K mg base 1 "home_of" ["teams", "team", "number"] sp_home_of) :
    DOk P w K mg base 4 "at_home" ["teams", "team", "number"] sp_at_home := by
  have nd := sc_at_home.nd
  refine F.ok sc_at_home (fun vs H Q E h => ?_) (fun f cdv A outer s H vs Q E hr h => ?_)
  · obtain ⟨n, t, r, rfl, _⟩ := h
    rfl
  · obtain ⟨n, t, r, rfl, h1, h2, h3, k⟩ := h
    refine ⟨_, (pss_cons (ps_expr (pe_callD D_check_three (hr.mono (by decide)) (pa_cons (pv 0) (pa_cons (pv 1) (pa_cons (pv 2) pa_nil)))))
      (pss_one (ps_ret (pe_callD D_home_of (hr.mono (by decide)) (pa_cons (pv 0) (pa_cons (pv 1) (pa_cons (pv 2) pa_nil))))))), ?_⟩
    refine q_drop (by tm_at "ev") fun H1 e1 => ?_
    refine s_ret (by tm_at "ev") fun H2 e2 => ?_
    exact k H2 (e1.trans e2)
local macro_rules | `(tactic| tm_at "sp") => `(tactic| ((with_reducible apply use_at_home) <;> tm_at "sd"))
end

local macro_rules | `(tactic| tm_at "sp") => `(tactic| (with_reducible apply use_wholeI))
local macro_rules | `(tactic| tm_at "sp") => `(tactic| ((with_reducible apply use_check_teams); tm_at "sd"))
local macro_rules | `(tactic| tm_at "sp") => `(tactic| ((with_reducible apply use_check_team); tm_at "sd"))
local macro_rules | `(tactic| tm_at "sp") => `(tactic| ((with_reducible apply use_check_round); tm_at "sd"))
local macro_rules | `(tactic| tm_at "sp") => `(tactic| ((with_reducible apply use_check_three) <;> tm_at "sd"))
local macro_rules | `(tactic| tm_at "sp") => `(tactic| ((with_reducible apply use_opponent) <;> tm_at "sd"))
local macro_rules | `(tactic| tm_at "sp") => `(tactic| ((with_reducible apply use_home_of) <;> tm_at "sd"))
local macro_rules | `(tactic| tm_at "sp") => `(tactic| ((with_reducible apply use_at_home) <;> tm_at "sd"))
section
variable {P : Program} {w : World} {K : PySem.W.Frag} {mg : Str → Option Value} {base : Heap}
abbrev s_round_of : Stmt := top 17
abbrev N_round_of : List Str := ["teams", "one", "other"]
theorem sc_round_of : FnScope N_round_of ["teams", "one", "other"] (defScope s_round_of) := ⟨rfl, rfl, rfl, by decide +kernel, rfl, by decide +kernel, by decide +kernel⟩
def sp_round_of : Sp := fun vs H Q _ => ∃ n a b : Int, vs = [.int n, .int a, .int b] ∧ TeamsOk n ∧ n < 2 ^ 200 ∧ TeamOk n a ∧ TeamOk n b ∧ a ≠ b ∧ RetV (.int (roundM n a b)) H Q
theorem use_round_of {H : Hp} {n a b : Int} (h1 : TeamsOk n) (h2 : n < 2 ^ 200) (h3 : TeamOk n a) (h4 : TeamOk n b) (h5 : a ≠ b) : SpV sp_round_of [.int n, .int a, .int b] H (.int (roundM n a b)) := fun H1 e Q q _ => ⟨n, a, b, rfl, h1, h2, h3, h4, h5, q⟩
theorem ok_round_of (F : DAt K mg "round_of" s_round_of ["teams", "one", "other"]) (D_check_teams : DOk P w K mg base 2 "check_teams" ["teams"] sp_check_teams) (D_check_team : DOk P w K mg base 2 "check_team" ["teams", "team"] sp_check_team) (Z : Zs mg) :
    DOk P w K mg base 3 "round_of" ["teams", "one", "other"] sp_round_of := by
  have nd := sc_round_of.nd
  refine F.ok sc_round_of (fun vs H Q E h => ?_) (fun f cdv A outer s H vs Q E hr h => ?_)
  · obtain ⟨n, a, b, rfl, _⟩ := h
    rfl
  · obtain ⟨n, a, b, rfl, h1, hbig, h2, h3, h5, k⟩ := h
    have n1 : 0 < n - 1 := by have := h1.1; omega
    have m1 : IntMulOk (a + b) (n / 2) := by
      obtain ⟨_, _⟩ := h1
      obtain ⟨_, _⟩ := h2
      obtain ⟨_, _⟩ := h3
      exact mul_pow (a := 201) (b := 201) (by omega) (by omega) (by decide) (by decide) (by decide)
    refine ⟨_, (pss_cons (ps_expr (pe_callD D_check_teams (hr.mono (by decide)) (pa_cons (pv 0) pa_nil)))
      (pss_cons (ps_expr (pe_callD D_check_team (hr.mono (by decide)) (pa_cons (pv 0) (pa_cons (pv 1) pa_nil))))
      (pss_cons (ps_expr (pe_callD D_check_team (hr.mono (by decide)) (pa_cons (pv 0) (pa_cons (pv 2) pa_nil))))
      (pss_cons (ps_if (pt_cmpR op_eq (pv 1) (pv 2) (nomark _))
        (pss_one ps_never)
        pss_nil)
      (pss_cons (ps_if (pt_cmpR (k_in (K := K)) (pe_op op_sub (pv 0) pe_int) (pe_tup (pa_cons (pv 1) (pa_cons (pv 2) pa_nil))) (by rfl))
        (pss_one (ps_ret (pe_callB (call_min2 rfl) (by rfl) Z.min boot_min (pa_cons (pv 1) (pa_cons (pv 2) pa_nil)))))
        pss_nil)
      (pss_one (ps_ret (pe_op op_mod (pe_op op_mulB (pe_op op_add (pv 1) (pv 2)) (pe_op op_fdiv (pv 0) pe_int)) (pe_op op_sub (pv 0) pe_int))))))))), ?_⟩
    unfold roundM at k
    refine q_drop (by tm_at "ev") fun H1 e1 => ?_
    refine q_drop (by tm_at "ev") fun H2 e2 => ?_
    refine q_drop (by tm_at "ev") fun H3 e3 => ?_
    refine q_when (by tm_at "ev") (fun hb H4 e4 => ?_) fun hb H4 e4 => ?_
    · simp at hb
      exact h5 hb
    · have e : Ex H H4 := ((e1.trans e2).trans e3).trans e4
      refine q_when (b := inV (.int (n - 1)) [.int a, .int b]) (et_test (ev_inU (by tm_at "ev") (eu_tup (by tm_at "ev") (by show 2 ≤ 100000; decide)) rfl rfl)) (fun hb H5 e5 => s_ret (by tm_at "ev") fun H6 e6 => ?_) fun hb H5 e5 => s_ret (by tm_at "ev") fun H6 e6 => ?_
      · rw [inV2] at hb
        simp at hb
        rw [if_pos hb] at k
        exact k H6 ((e.trans e5).trans e6)
      · rw [inV2] at hb
        simp at hb
        rw [if_neg (by omega)] at k
        exact k H6 ((e.trans e5).trans e6)
local macro_rules | `(tactic| tm_at "sp") => `(tactic| ((with_reducible apply use_round_of) <;> tm_at "sd"))
end

local macro_rules | `(tactic| tm_at "sp") => `(tactic| ((with_reducible apply use_round_of) <;> tm_at "sd"))
section
variable {P : Program} {w : World} {K : PySem.W.Frag} {mg : Str → Option Value} {base : Heap}
def optV : Option Int → V
  | none => .non
  | some r => .int r
abbrev s_break_of : Stmt := top 18
abbrev N_break_of : List Str := ["teams", "team"]
theorem sc_break_of : FnScope N_break_of ["teams", "team"] (defScope s_break_of) := ⟨rfl, rfl, rfl, by decide +kernel, rfl, by decide +kernel, by decide +kernel⟩
def sp_break_of : Sp := fun vs H Q _ => ∃ n t : Int, vs = [.int n, .int t] ∧ TeamsOk n ∧ TeamOk n t ∧ RetV (optV (breakM n t)) H Q
theorem use_break_of {H : Hp} {n t : Int} (h1 : TeamsOk n) (h2 : TeamOk n t) : SpV sp_break_of [.int n, .int t] H (optV (breakM n t)) := fun H1 e Q q _ => ⟨n, t, rfl, h1, h2, q⟩
theorem ok_break_of (F : DAt K mg "break_of" s_break_of ["teams", "team"]) (D_check_teams : DOk P w K mg base 2 "check_teams" ["teams"] sp_check_teams) (D_check_team : DOk P w K mg base 2 "check_team" ["teams", "team"] sp_check_team) :
    DOk P w K mg base 3 "break_of" ["teams", "team"] sp_break_of := by
  have nd := sc_break_of.nd
  refine F.ok sc_break_of (fun vs H Q E h => ?_) (fun f cdv A outer s H vs Q E hr h => ?_)
  · obtain ⟨n, t, rfl, _⟩ := h
    rfl
  · obtain ⟨n, t, rfl, h1, h2, k⟩ := h
    refine ⟨_, (pss_cons (ps_expr (pe_callD D_check_teams (hr.mono (by decide)) (pa_cons (pv 0) pa_nil)))
      (pss_cons (ps_expr (pe_callD D_check_team (hr.mono (by decide)) (pa_cons (pv 0) (pa_cons (pv 1) pa_nil))))
      (pss_cons (ps_if (pt_cmpR (k_in (K := K)) (pv 1) (pe_tup (pa_cons pe_int (pa_cons (pe_op op_sub (pv 0) pe_int) pa_nil))) (by rfl))
        (pss_one (ps_ret pe_non))
        pss_nil)
      (pss_one (ps_ret (pe_ifExp (pt_cmpR op_eq (pe_op op_mod (pv 1) pe_int) pe_int (nomark _)) (pv 1) (pe_op op_add (pv 1) pe_int))))))), ?_⟩
    unfold breakM at k
    refine q_drop (by tm_at "ev") fun H1 e1 => ?_
    refine q_drop (by tm_at "ev") fun H2 e2 => ?_
    refine q_when (b := inV (.int t) [.int 0, .int (n - 1)]) (et_test (ev_inU (by tm_at "ev") (eu_tup (by tm_at "ev") (by show 2 ≤ 100000; decide)) rfl rfl)) (fun hb H5 e5 => s_ret (by tm_at "ev") fun H6 e6 => ?_) fun hb H5 e5 => ?_
    · rw [inV2] at hb
      simp at hb
      rw [if_pos hb] at k
      exact k H6 (((e1.trans e2).trans e5).trans e6)
    · rw [inV2] at hb
      simp at hb
      rw [if_neg (by omega)] at k
      refine s_ret (v := .int (if t % 2 = 0 then t else t + 1)) (ev_if (by tm_at "ev") (fun hb => ?_) fun hb => ?_) fun H6 e6 => k H6 (((e1.trans e2).trans e5).trans e6)
      · simp at hb
        rw [if_pos hb]
        tm_at "ev"
      · simp at hb
        rw [if_neg (by omega)]
        tm_at "ev"
local macro_rules | `(tactic| tm_at "sp") => `(tactic| ((with_reducible apply use_break_of) <;> tm_at "sd"))
end

local macro_rules | `(tactic| tm_at "sp") => `(tactic| ((with_reducible apply use_break_of) <;> tm_at "sd"))
/-- more built-ins' names that are free -/
structure Zt (mg : Str → Option Value) : Prop where
  enumerate : mg "enumerate" = none
  list : mg "list" = none
  tuple : mg "tuple" = none
  sum : mg "sum" = none
section
variable {P : Program} {w : World} {K : PySem.W.Frag} {mg : Str → Option Value} {base : Heap}
abbrev s_often_in : Stmt := top 21
abbrev N_often_in : List Str := ["pairs", "team", "pair"]
theorem sc_often_in : FnScope N_often_in ["pairs", "team"] (defScope s_often_in) := ⟨rfl, rfl, rfl, by decide +kernel, rfl, by decide +kernel, by decide +kernel⟩
def sp_often_in : Sp := fun vs H Q _ => ∃ (v : V) (row : List (Int × Int)) (t : Int), vs = [v, .int t] ∧ IsRow H v row ∧ row.length ≤ 1000 ∧ RetV (.int (cntM row t : Int)) H Q
theorem use_often_in {H : Hp} {v : V} {row : List (Int × Int)} {t : Int} (h1 : IsRow H v row) (h2 : row.length ≤ 1000) : SpV sp_often_in [v, .int t] H (.int (cntM row t : Int)) := fun H1 e Q q _ => ⟨v, row, t, rfl, mono_row _ _ _ _ e h1, h2, q⟩
theorem ok_often_in (F : DAt K mg "often_in" s_often_in ["pairs", "team"]) (Z : Zs mg) : DOk P w K mg base 1 "often_in" ["pairs", "team"] sp_often_in := by
  have nd := sc_often_in.nd
  refine F.ok sc_often_in (fun vs H Q E h => ?_) (fun f cdv A outer s H vs Q E hr h => ?_)
  · obtain ⟨v, row, t, rfl, _⟩ := h
    rfl
  · obtain ⟨v, row, t, rfl, ⟨ra, ts, rfl, hra, hts⟩, hsz, q⟩ := h
    refine ⟨_, (pss_one (ps_ret (pe_callB (k_len (K := K)) (by rfl) Z.len boot_len (pa_cons (pe_lc (own := [("pair", 2)]) (g := gName 2) rfl nd (k_list (K := K) (pv 0)) (blkOk_by (N := N_often_in) (sc := defScope s_often_in) (by decide +kernel)) (fun _ _ _ _ _ => pg_name (i := 2) nd rfl (Or.inl rfl)) (fun _ _ _ _ _ => pts_one (pt_cmpR (k_in (K := K)) (pv 1) (pv 2) (by rfl))) (fun _ _ _ _ _ => (pv 2))) pa_nil)))), ?_⟩
    refine s_ret (ev_is (ev_lenR (er_lcL mono_pair (fun p => hasT p t) id (by tm_at "ev") (sq_of hra) hts (by omega) (fun x => rfl) (fun x p _ hp => ?_) (fun x p _ hp _ => ?_))) ?_) fun H2 e2 => q H2 e2
    · exact et_test (ev_inP (by tm_at "ev") (by tm_at "ev") hp)
    · exact r_ev (by tm_at "ev") hp
    · unfold cntM
      rw [List.map_id]

abbrev s_first_lone : Stmt := top 23
abbrev N_first_lone : List Str := ["teams", "plan", "number", "pairs", "team"]
theorem sc_first_lone : FnScope N_first_lone ["teams", "plan"] (defScope s_first_lone) := ⟨rfl, rfl, rfl, by decide +kernel, rfl, by decide +kernel, by decide +kernel⟩
def sp_first_lone : Sp := fun vs H Q _ => ∃ (n : Int) (v : V) (plan : List (List (Int × Int))), vs = [.int n, v] ∧ 2 ≤ n ∧ n ≤ 100 ∧ IsPlan H v plan ∧ PlanSz plan ∧ RetN IsTupI (optL (loneFind n plan)) H Q
theorem use_first_lone {H : Hp} {n : Int} {v : V} {plan : List (List (Int × Int))} (h1 : 2 ≤ n) (h2 : n ≤ 100) (h3 : IsPlan H v plan) (h4 : PlanSz plan) : SpN sp_first_lone [.int n, v] H IsTupI (optL (loneFind n plan)) := fun H1 e Q q _ => ⟨n, v, plan, rfl, h1, h2, mono_plan _ _ _ _ e h3, h4, q⟩
theorem retn_tup {H H' : Hp} {te : TE} {σ : L2.St} {l : List Int} {D : Ends} {xs : List V} (h : EvU te σ H' xs) (e : Ex H H') (hx : xs = l.map V.int) (k : RetN IsTupI l H D.rt) : tRet te D σ H' := h H' (Ex.refl _) _ fun p H1 hp e1 h1 => by
  subst hx
  refine k (.ref p) (upd Void p (.tup (l.map V.int))) H1 (e.trans e1) (fun a o q => ?_) (fun a h => ?_) ⟨p, rfl, upd_same⟩
  · by_cases ha : a = p
    · subst ha
      rw [upd_same] at q
      rw [h1, ← q]
    · rw [upd_ne ha] at q
      cases q
  · by_cases ha : a = p
    · subst ha
      exact absurd (fresh_back e hp) h
    · rw [upd_ne ha]
      rfl
/-- a, b = a tuple of two -/
theorem gU_run {σ : L2.St} {H : Hp} {i j : Nat} {t : Addr} {x y : V} {Q : L2.St → Hp → Prop} (ht : H t = some (.tup [x, y])) (k : Q ((σ.set i (some x)).set j (some y)) H) : gTup K 2 (gCons (gName i) (gCons (gName j) gNil)) (.ref t) σ H Q := 
  ⟨t, _, rfl, st_of ht, rfl, _, _, rfl, _, _, rfl, rfl, k⟩
theorem ok_first_lone (F : DAt K mg "first_lone" s_first_lone ["teams", "plan"]) (D_often_in : DOk P w K mg base 1 "often_in" ["pairs", "team"] sp_often_in) (Z : Zs mg) (Z2 : Zt mg) : DOk P w K mg base 2 "first_lone" ["teams", "plan"] sp_first_lone := by
  have nd := sc_first_lone.nd
  refine F.ok sc_first_lone (fun vs H Q E h => ?_) (fun f cdv A outer s H vs Q E hr h => ?_)
  · obtain ⟨n, v, plan, rfl, _⟩ := h
    rfl
  · obtain ⟨n, v, plan, rfl, hn, hn2, hp, hz, q⟩ := h
    have hp0 := hp
    obtain ⟨a, rs, rfl, ha, hrs⟩ := hp
    have hl := paired_len hrs
    refine ⟨_, (pss_cons (ps_for PassesOwn.never rfl (k_enum (K := K) rfl Z2.enumerate (pa_cons (pv 1) pa_nil)) (k_gtup (K := K) (n := 2) rfl (pgs_cons (pg_name (i := 2) nd rfl (Or.inl rfl)) (pgs_cons (pg_name (i := 3) nd rfl (Or.inl rfl)) pgs_nil)))
        (pss_one (ps_for PassesOwn.never rfl (pi_range1 rfl Z.range (pa_cons (pv 0) pa_nil)) (pg_name (i := 4) nd rfl (Or.inl rfl))
          (pss_one (ps_if (pt_cmpR op_ne (pe_callD D_often_in (hr.mono (by decide)) (pa_cons (pv 3) (pa_cons (pv 4) pa_nil))) pe_int (nomark _))
            (pss_one (ps_ret (pe_tup (pa_cons (pv 2) (pa_cons (pv 4) pa_nil)))))
            pss_nil)))))
      (pss_one (ps_ret (pe_tup pa_nil)))), ?_⟩
    refine q_forE (by tm_at "ev") (sq_of ha) (fun i σ' H' => Ex H H' ∧ (∃ o2 o3 o4, σ' = [some (.int n), some (.ref a), o2, o3, o4]) ∧ ∀ b' : Int, 0 ≤ b' → b' < (i : Int) → ∀ t, 0 ≤ t → t < n → loneAt plan b' t = false)
      (fun H1 e1 => ⟨e1, ⟨none, none, none, rfl⟩, fun b' h1 h2 => by omega⟩) (fun i σ' H' _ h => sq_of (h.1 a _ ha)) ?_ ?_
    · rintro i x T σ' H' hx hT ⟨e1, ⟨o2, o3, o4, rfl⟩, hb⟩
      obtain ⟨row, hrow, hr1⟩ := paired_at hrs hx
      have hrl := hz.2 row (List.mem_of_getElem? hrow)
      have hil : i < plan.length := (List.getElem?_eq_some_iff.mp hrow).1
      have hat : ∀ t, loneAt plan (i : Int) t = loneM row t := fun t => by
        unfold loneAt
        rw [Int.toNat_natCast, List.getD_eq_getElem?_getD, hrow]
        rfl
      refine gU_run (H := upd H' T (.tup [.int (i : Int), x])) upd_same ?_
      have e2 : Ex H (upd H' T (.tup [.int (i : Int), x])) := e1.trans (Ex.new hT)
      generalize upd H' T (.tup [.int (i : Int), x]) = H2 at e2 ⊢
      refine s_forR1 (n := n) (by tm_at "ev") ⟨by omega, by omega⟩ (fun j σ' H' => Ex H H' ∧ (∃ o4, σ' = [some (.int n), some (.ref a), some (.int (i : Int)), some x, o4]) ∧ ∀ t : Int, 0 ≤ t → t < (j : Int) → loneAt plan (i : Int) t = false)
        (fun H1 e1 => ⟨e2.trans e1, ⟨_, rfl⟩, fun t h1 h2 => by omega⟩) ?_ ?_
      · rintro j σ' H3 hj ⟨e3, ⟨o4, rfl⟩, hb2⟩
        have hrow3 := mono_row _ _ _ _ e3 hr1
        refine s_when (b := loneM row (j : Int)) (et_test (ev_is (ev_op (ev_call0 (by tm_at "ev") (use_often_in hrow3 hrl)) (by tm_at "ev") (rv_ne rfl)) ?_)) (fun hbad H4 e4 => ?_) fun hbad H4 e4 => ?_
        · unfold loneM
          congr 2
          simp
          omega
        · have e : loneFind n plan = some ((i : Int), (j : Int)) := find2_some (by omega) hj (by rw [hat]; exact hbad) hb hb2
          rw [e] at q
          exact retn_tup (eu_pair (by tm_at "ev") (by tm_at "ev")) (e3.trans e4) rfl q
        · refine ⟨e3.trans e4, ⟨_, rfl⟩, fun t h1 h2 => ?_⟩
          by_cases c : t < (j : Int)
          · exact hb2 t h1 c
          · rw [show t = (j : Int) by omega, hat]
            exact hbad
      · rintro σ' H3 ⟨e3, ⟨o4, rfl⟩, hb2⟩
        refine ⟨e3, ⟨_, _, _, rfl⟩, fun b' h1 h2 t h3 h4 => ?_⟩
        by_cases c : b' < (i : Int)
        · exact hb b' h1 c t h3 h4
        · rw [show b' = (i : Int) by omega]
          exact hb2 t h3 (by omega)
    · rintro σ' H' ⟨e1, ⟨o2, o3, o4, rfl⟩, hb⟩
      have e : loneFind n plan = none := find2_none.mpr fun b t h1 h2 h3 h4 => hb b h1 (by omega) t h3 h4
      rw [e] at q
      exact retn_tup eu_nil e1 rfl q

abbrev s_table_of : Stmt := top 24
abbrev N_table_of : List Str := ["plan", "found", "pairs", "one", "other", "two"]
theorem sc_table_of : FnScope N_table_of ["plan"] (defScope s_table_of) := ⟨rfl, rfl, rfl, by decide +kernel, rfl, by decide +kernel, by decide +kernel⟩
def sp_table_of : Sp := fun vs H Q _ => ∃ (v : V) (plan : List (List (Int × Int))), vs = [v] ∧ IsPlan H v plan ∧ PlanSz plan ∧ RetN IsTab (tabM plan.flatten) H Q
theorem use_table_of {H : Hp} {v : V} {plan : List (List (Int × Int))} (h3 : IsPlan H v plan) (h4 : PlanSz plan) : SpN sp_table_of [v] H IsTab (tabM plan.flatten) := fun H1 e Q q _ => ⟨v, plan, rfl, mono_plan _ _ _ _ e h3, h4, q⟩
theorem ok_table_of (F : DAt K mg "table_of" s_table_of ["plan"]) (Z : Zs mg) : DOk P w K mg base 1 "table_of" ["plan"] sp_table_of := by
  have nd := sc_table_of.nd
  refine F.ok sc_table_of (fun vs H Q E h => ?_) (fun f cdv A outer s H vs Q E hr h => ?_)
  · obtain ⟨v, plan, rfl, _⟩ := h
    rfl
  · obtain ⟨v, plan, rfl, hp, hz, q⟩ := h
    obtain ⟨a, rs, rfl, ha, hrs⟩ := hp
    have hl := paired_len hrs
    have hu := hu_of hr
    have hz1 := hz.1
    refine ⟨_, (pss_cons (ps_set (i := 1) nd rfl (Or.inl rfl) pe_dnewT)
      (pss_cons (ps_for PassesOwn.never rfl (k_list (K := K) (pv 0)) (pg_name (i := 2) nd rfl (Or.inl rfl))
        (pss_one (ps_for PassesOwn.never rfl (k_list (K := K) (pv 2)) (k_gtup (K := K) (n := 2) rfl (pgs_cons (pg_name (i := 3) nd rfl (Or.inl rfl)) (pgs_cons (pg_name (i := 4) nd rfl (Or.inl rfl)) pgs_nil)))
          (pss_cons (ps_set (i := 5) nd rfl (Or.inl rfl) (pe_tup (pa_cons (pe_callB (call_min2 rfl) (by rfl) Z.min boot_min (pa_cons (pv 3) (pa_cons (pv 4) pa_nil))) (pa_cons (pe_callB (call_max2 rfl) (by rfl) Z.max boot_max (pa_cons (pv 3) (pa_cons (pv 4) pa_nil))) pa_nil))))
          (pss_one (ps_dput hu (pv 1) (pv 5) (pe_op op_add (pe_dget2 hu (pv 1) (pv 5) pe_int ⟨by rfl, by rfl, by rfl, by rfl⟩) pe_int) rfl))))))
      (pss_one (ps_ret (pv 1))))), ?_⟩
    refine q_asgD fun d hd0 => ?_
    have flat : ∀ i, ((plan.take i).flatten).length ≤ 100000 := fun i => by
      have h1 := flatten_le (plan := plan.take i) (a := 100) (b := 1000) (by rw [List.length_take]; omega) fun row h => hz.2 row (List.mem_of_mem_take h)
      omega
    refine q_forLn (by tm_at "ev") (sq_of (Ex.new hd0 a _ ha))
      (fun i σ' H' => (∃ o2 o5 o6 o7, σ' = [some (.ref a), some (.ref d), o2, o5, o6, o7]) ∧ Ex H H' ∧ H' d = some (.dT (encT (tabM (plan.take i).flatten))))
      (fun H1 u1 => ⟨⟨_, _, _, _, rfl⟩, (Ex.new hd0).trans u1, u1 d _ upd_same⟩) (fun i σ' H' _ h => sq_of (h.2.1 a _ ha)) ?_ ?_
    · rintro i x σ' H' hx ⟨⟨o2, o5, o6, o7, rfl⟩, e2, ht⟩
      obtain ⟨row, hrow, ra, ts, rfl, hra, hts⟩ := paired_at hrs hx
      have hrl := hz.2 row (List.mem_of_getElem? hrow)
      refine s_forL (by tm_at "ev") (sq_of (e2 ra _ hra))
        (fun j σ' H' => (∃ o6 o7 o8, σ' = [some (.ref a), some (.ref d), some (.ref ra), o6, o7, o8]) ∧ Ex H H' ∧ H' d = some (.dT (encT (tabM ((plan.take i).flatten ++ row.take j)))))
        (fun H1 u1 => ⟨⟨_, _, _, rfl⟩, e2.trans u1, by rw [List.take_zero, List.append_nil]; exact u1 d _ ht⟩) (fun j σ' H' _ h => sq_of (h.2.1 ra _ hra)) ?_ ?_
      · rintro j y σ' H' hy ⟨⟨o6, o7, o8, rfl⟩, e3, ht⟩
        obtain ⟨p, hpj, hpair⟩ := paired_at hts hy
        refine gp_run (mono_pair _ _ _ _ e3 hpair) ?_
        refine q_asgU (eu_pair (by tm_at "ev") (by tm_at "ev")) fun t H4 _ e4 h4 => ?_
        rw [kp_key] at h4
        have flatj : ((plan.take i).flatten ++ row.take j).length ≤ 200000 := by
          rw [List.length_append, List.length_take]
          have := flat i
          omega
        refine s_dput (ev_op (ev_is (ev_dget2 (by tm_at "ev") (e4 d _ ht) (by tm_at "ev") h4 (by tm_at "ev")) (encT_val _ _)) (by tm_at "ev") rv_I0) (by tm_at "ev") (e4 d _ ht) (by tm_at "ev") h4 (by
          unfold encT
          rw [List.length_map]
          have := tabM_len ((plan.take i).flatten ++ row.take j)
          omega) fun H5 e5 => ?_
        refine ⟨⟨_, _, _, rfl⟩, Ex.mut ((e3.trans e4).trans e5) hd0, ?_⟩
        rw [upd_same, encT_put, take_snoc hpj, ← List.append_assoc, tabM_snoc]
        rfl
      · rintro σ' H' ⟨⟨o6, o7, o8, rfl⟩, e3, ht⟩
        refine ⟨⟨_, _, _, _, rfl⟩, e3, ?_⟩
        rw [ht, take_snoc hrow, List.flatten_append, List.take_of_length_le (Nat.le_of_eq (paired_len hts).symm)]
        simp
    · rintro σ' H' ⟨⟨o2, o5, o6, o7, rfl⟩, e2, ht⟩
      rw [List.take_of_length_le (Nat.le_of_eq hl.symm)] at ht
      refine s_ret (by tm_at "ev") fun H3 e3 => ?_
      refine q (.ref d) (upd Void d (.dT (encT (tabM plan.flatten)))) H3 (e2.trans e3) (fun b o z => ?_) (fun b hb => ?_) ⟨d, rfl, upd_same⟩
      · by_cases hbd : b = d
        · subst hbd
          rw [upd_same] at z
          rw [e3 b _ ht, ← z]
        · rw [upd_ne hbd] at z
          cases z
      · by_cases hbd : b = d
        · subst hbd
          exact absurd hd0 hb
        · rw [upd_ne hbd]
          rfl

abbrev s_first_two : Stmt := top 25
abbrev N_first_two : List Str := ["teams", "plan", "few", "table", "other", "one", "many"]
theorem sc_first_two : FnScope N_first_two ["teams", "plan", "few"] (defScope s_first_two) := ⟨rfl, rfl, rfl, by decide +kernel, rfl, by decide +kernel, by decide +kernel⟩
def sp_first_two : Sp := fun vs H Q _ => ∃ (n : Int) (v : V) (plan : List (List (Int × Int))) (few : Bool), vs = [.int n, v, .bl few] ∧ 2 ≤ n ∧ n ≤ 100 ∧ IsPlan H v plan ∧ PlanSz plan ∧ RetN IsTupI (optL (twoFind n plan few)) H Q
theorem use_first_two {H : Hp} {n : Int} {v : V} {plan : List (List (Int × Int))} {few : Bool} (h1 : 2 ≤ n) (h2 : n ≤ 100) (h3 : IsPlan H v plan) (h4 : PlanSz plan) : SpN sp_first_two [.int n, v, .bl few] H IsTupI (optL (twoFind n plan few)) := fun H1 e Q q _ => ⟨n, v, plan, few, rfl, h1, h2, mono_plan _ _ _ _ e h3, h4, q⟩
theorem ok_first_two (F : DAt K mg "first_two" s_first_two ["teams", "plan", "few"]) (D_table_of : DOk P w K mg base 1 "table_of" ["plan"] sp_table_of) (Z : Zs mg) : DOk P w K mg base 2 "first_two" ["teams", "plan", "few"] sp_first_two := by
  have nd := sc_first_two.nd
  refine F.ok sc_first_two (fun vs H Q E h => ?_) (fun f cdv A outer s H vs Q E hr h => ?_)
  · obtain ⟨n, v, plan, few, rfl, _⟩ := h
    rfl
  · obtain ⟨n, v, plan, few, rfl, hn, hn2, hp, hz, q⟩ := h
    have hu := hu_of hr
    refine ⟨_, (pss_cons (ps_set (i := 3) nd rfl (Or.inl rfl) (pe_callD D_table_of (hr.mono (by decide)) (pa_cons (pv 1) pa_nil)))
      (pss_cons (ps_for PassesOwn.never rfl (pi_range1 rfl Z.range (pa_cons (pv 0) pa_nil)) (pg_name (i := 4) nd rfl (Or.inl rfl))
        (pss_one (ps_for PassesOwn.never rfl (pi_range1 rfl Z.range (pa_cons (pv 4) pa_nil)) (pg_name (i := 5) nd rfl (Or.inl rfl))
          (pss_cons (ps_set (i := 6) nd rfl (Or.inl rfl) (pe_dget2 hu (pv 3) (pe_tup (pa_cons (pv 5) (pa_cons (pv 4) pa_nil))) pe_int ⟨by rfl, by rfl, by rfl, by rfl⟩))
          (pss_one (ps_if (PW.pt (pw_or (PW.pt (pw_and (pt_cmpR op_eq (pv 6) pe_int (nomark _)) (pw_and1 (pt_val (pv 2))))) (pw_or1 (PW.pt (pw_and (pt_cmpR op_gt (pv 6) pe_int (nomark _)) (pw_and1 (pt_not (pt_val (pv 2)))))))))
            (pss_one (ps_ret (pe_tup (pa_cons (pv 5) (pa_cons (pv 4) pa_nil)))))
            pss_nil))))))
      (pss_one (ps_ret (pe_tup pa_nil))))), ?_⟩
    refine q_asgR (er_call mono_tab (by tm_at "ev") (use_table_of hp hz)) (Ex.refl _) fun v3 G H1 c ⟨d, hv, hd⟩ => ?_
    subst hv
    have e1 : Ex H H1 := c.up
    have hd1 := c.part d _ hd
    unfold twoFind at q
    generalize htb : tabM plan.flatten = tb at *
    refine q_forR1 (n := n) (by tm_at "ev") ⟨by omega, by omega⟩ (fun i σ' H' => Ex H1 H' ∧ (∃ o4 o5 o6, σ' = [some (.int n), some v, some (.bl few), some (.ref d), o4, o5, o6]) ∧ ∀ b' : Int, 0 ≤ b' → b' < (i : Int) → ∀ t, 0 ≤ t → t < b' → hitM tb few b' t = false)
      (fun H2 e2 => ⟨e2, ⟨none, none, none, rfl⟩, fun b' h1 h2 => by omega⟩) ?_ ?_
    · rintro i σ' H' hi ⟨e2, ⟨o4, o5, o6, rfl⟩, hb⟩
      refine s_forR1 (n := (i : Int)) (by tm_at "ev") ⟨by omega, by omega⟩ (fun j σ' H' => Ex H1 H' ∧ (∃ o5 o6, σ' = [some (.int n), some v, some (.bl few), some (.ref d), some (.int (i : Int)), o5, o6]) ∧ ∀ t : Int, 0 ≤ t → t < (j : Int) → hitM tb few (i : Int) t = false)
        (fun H2 e3 => ⟨e2.trans e3, ⟨_, _, rfl⟩, fun t h1 h2 => by omega⟩) ?_ ?_
      · rintro j σ' H3 hj ⟨e3, ⟨o5, o6, rfl⟩, hb2⟩
        refine q_asg (v := .int (getI tb ((j : Int), (i : Int)))) (ev_dgetU (by tm_at "ev") (e3 d _ hd1) (eu_pair (by tm_at "ev") (by tm_at "ev")) (by tm_at "ev")) fun H4 e4 => ?_
        refine s_when (b := hitM tb few (i : Int) (j : Int)) ?_ (fun hbad H5 e5 => ?_) fun hbad H5 e5 => ?_
        · unfold hitM
          refine et_or (et_and (et_test (ev_is (ev_op (by tm_at "ev") (by tm_at "ev") (rv_eq rfl)) ?_)) fun _ => et_B (by tm_at "ev")) fun _ => et_and (et_test (ev_op (by tm_at "ev") (by tm_at "ev") rv_I0)) fun _ => et_not (et_B (by tm_at "ev"))
          simp
        · have e : find2 n id (hitM tb few) = some ((i : Int), (j : Int)) := find2_some hi hj hbad hb hb2
          rw [e] at q
          exact retn_tup (eu_pair (by tm_at "ev") (by tm_at "ev")) (((e1.trans e3).trans e4).trans e5) rfl q
        · refine ⟨(e3.trans e4).trans e5, ⟨_, _, rfl⟩, fun t h1 h2 => ?_⟩
          by_cases c : t < (j : Int)
          · exact hb2 t h1 c
          · rw [show t = (j : Int) by omega]
            exact hbad
      · rintro σ' H3 ⟨e3, ⟨o5, o6, rfl⟩, hb2⟩
        refine ⟨e3, ⟨_, _, _, rfl⟩, fun b' h1 h2 t h3 h4 => ?_⟩
        by_cases c : b' < (i : Int)
        · exact hb b' h1 c t h3 h4
        · rw [show b' = (i : Int) by omega]
          exact hb2 t h3 (by omega)
    · rintro σ' H' ⟨e2, ⟨o4, o5, o6, rfl⟩, hb⟩
      have e : find2 n id (hitM tb few) = none := find2_none.mpr fun b t h1 h2 h3 h4 => hb b h1 (by omega) t h3 h4
      rw [e] at q
      exact retn_tup eu_nil (e1.trans e2) rfl q

abbrev s_Good_shows : Stmt := inClass (top 27) 0
abbrev N_Good_shows : List Str := ["self", "teams", "plan"]
theorem sc_Good_shows : FnScope N_Good_shows ["self", "teams", "plan"] (defScope s_Good_shows) := ⟨rfl, rfl, rfl, by decide +kernel, rfl, by decide +kernel, by decide +kernel⟩
def sp_Good_shows : Sp := fun vs H Q _ => ∃ (n : Int) (u v : V) (plan : List (List (Int × Int))), vs = [u, .int n, v] ∧ 2 ≤ n ∧ n ≤ 100 ∧ IsPlan H v plan ∧ PlanSz plan ∧ RetV (.bl (showsGood n plan)) H Q
theorem ok_Good_shows {C_Good : Addr} (F : MAt K C_Good "shows" "Good.shows" s_Good_shows ["self", "teams", "plan"]) (D_first_lone : DOk P w K mg base 2 "first_lone" ["teams", "plan"] sp_first_lone) (D_first_two : DOk P w K mg base 2 "first_two" ["teams", "plan", "few"] sp_first_two) :
    MOk P w K mg base 3 C_Good "shows" ["self", "teams", "plan"] sp_Good_shows := by
  have nd := sc_Good_shows.nd
  refine F.ok sc_Good_shows (fun vs H Q E h => ?_) (fun f cdv A outer s H vs Q E hr h => ?_)
  · obtain ⟨n, u, v, plan, rfl, _⟩ := h
    rfl
  · obtain ⟨n, u, v, plan, rfl, hn, hn2, hp, hz, q⟩ := h
    refine ⟨_, (pss_cons (ps_if (pt_cmpR (k_neD (K := K) hr.units) (pe_callD D_first_lone (hr.mono (by decide)) (pa_cons (pv 1) (pa_cons (pv 2) pa_nil))) (pe_tup pa_nil) (nomark _))
        (pss_one (ps_ret pe_bl))
        pss_nil)
      (pss_one (ps_ret (pe_and (pe_cmpR (k_eqD (K := K) hr.units) (pe_callD D_first_two (hr.mono (by decide)) (pa_cons (pv 1) (pa_cons (pv 2) (pa_cons pe_bl pa_nil)))) (pe_tup pa_nil) (nomark _)) (pe_one (pe_cmpR (k_eqD (K := K) hr.units) (pe_callD D_first_two (hr.mono (by decide)) (pa_cons (pv 1) (pa_cons (pv 2) (pa_cons pe_bl pa_nil)))) (pe_tup pa_nil) (nomark _))))))), ?_⟩
    refine q_when (et_test (ev_neU (er_call mono_tupI (by tm_at "ev") (use_first_lone hn hn2 hp hz)))) (fun hb H1 e1 => s_ret (by tm_at "ev") fun H2 e2 => ?_) fun hb H1 e1 => ?_
    · have e : showsGood n plan = false := by
        unfold showsGood
        rw [Bool.not_eq_true', decide_eq_false_iff_not] at hb
        rw [decide_eq_false (by rw [← optL_nil]; exact hb)]
        rfl
      rw [e] at q
      exact q H2 (e1.trans e2)
    · have hp1 := mono_plan _ _ _ _ e1 hp
      refine s_ret (ev_is (ev_andV (ev_eqU (er_call mono_tupI (by tm_at "ev") (use_first_two hn hn2 hp1 hz))) fun _ => ev_eqU (er_call mono_tupI (by tm_at "ev") (use_first_two hn hn2 hp1 hz))) ?_) fun H2 e2 => q H2 (e1.trans e2)
      unfold showsGood
      rw [Bool.not_eq_false', decide_eq_true_eq, optL_nil] at hb
      rw [decide_eq_true hb, Bool.true_and]
      congr 2
      · exact decide_eq_decide.mpr optL_nil
      · exact decide_eq_decide.mpr optL_nil
end


section
variable {P : Program} {w : World} {K : PySem.W.Frag} {mg : Str → Option Value} {base : Heap}
abbrev s_is_game : Stmt := top 33
abbrev N_is_game : List Str := ["teams", "thing", "team"]
theorem sc_is_game : FnScope N_is_game ["teams", "thing"] (defScope s_is_game) := ⟨rfl, rfl, rfl, by decide +kernel, rfl, by decide +kernel, by decide +kernel⟩
def sp_is_game : Sp := fun vs H Q _ => ∃ (n : Int) (v : V) (p : Int × Int), vs = [.int n, v] ∧ IsPair H v p ∧ PairOk n p ∧ RetV (.bl true) H Q
theorem use_is_game {H : Hp} {n : Int} {v : V} {p : Int × Int} (h1 : IsPair H v p) (h2 : PairOk n p) : SpV sp_is_game [.int n, v] H (.bl true) := fun H1 e Q q _ => ⟨n, v, p, rfl, mono_pair _ _ _ _ e h1, h2, q⟩
theorem ok_is_game (F : DAt K mg "is_game" s_is_game ["teams", "thing"]) (D_is_whole : DOk P w K mg base 1 "is_whole" ["thing"] sp_wholeI) (Z : Zs mg) (Z2 : Zt mg) : DOk P w K mg base 2 "is_game" ["teams", "thing"] sp_is_game := by
  have nd := sc_is_game.nd
  refine F.ok sc_is_game (fun vs H Q E h => ?_) (fun f cdv A outer s H vs Q E hr h => ?_)
  · obtain ⟨n, v, p, rfl, _⟩ := h
    rfl
  · obtain ⟨n, v, ⟨p1, p2⟩, rfl, ⟨t, rfl, ht⟩, ⟨⟨h1, h2⟩, ⟨h3, h4⟩, h5⟩, q⟩ := h
    dsimp only at h1 h2 h3 h4 h5 ht
    have hs : SqT K H t (([p1, p2] : List Int).map V.int) := st_of ht
    refine ⟨_, (pss_cons (ps_if (PW.pt (pw_or (pt_not (pt_val (pe_callB (k_isi (K := K)) (by rfl) Z.isinstance boot_isinstance (pa_cons (pv 1) (pa_cons (pe_bltn (v := .ty "tuple") (by rfl) Z2.tuple boot_tuple rfl) pa_nil))))) (pw_or (pt_cmpR op_ne (pe_callB (k_len (K := K)) (by rfl) Z.len boot_len (pa_cons (pv 1) pa_nil)) pe_int (nomark _)) (pw_or1 (pt_not (pt_val (pe_callB (k_all (K := K) rfl) (by rfl) Z.all boot_all (pa_cons (pe_lc (own := [("team", 2)]) (g := gName 2) rfl nd (k_tup (K := K) (pv 1)) (blkOk_by (N := N_is_game) (sc := defScope s_is_game) (by decide +kernel)) (fun _ _ _ _ _ => pg_name (i := 2) nd rfl (Or.inl rfl)) (fun _ _ _ _ _ => pts_nil) (fun _ _ _ _ _ => (pe_callD D_is_whole (hr.mono (by decide)) (pa_cons (pv 2) pa_nil)))) pa_nil))))))))
        (pss_one (ps_ret pe_bl))
        pss_nil)
      (pss_one (ps_ret (pe_and (pe_cmpR op_ne (pe_ix (k_ixT (K := K)) (pv 1) pe_int (fun _ _ => rfl)) (pe_ix (k_ixT (K := K)) (pv 1) pe_int (fun _ _ => rfl)) (nomark _)) (pe_and (pe_cmpR op_le pe_int (pe_callB (cr_minP rfl) (by rfl) Z.min boot_min (pa_cons (pv 1) pa_nil)) (nomark _)) (pe_one (pe_cmpR op_lt (pe_callB (cr_maxP rfl) (by rfl) Z.max boot_max (pa_cons (pv 1) pa_nil)) (pv 0) (nomark _)))))))), ?_⟩
    refine q_when (b := !true || (!decide ((2 : Int) = 2) || !true)) (et_or (et_not (et_B (ev_cb (by tm_at "ev") (isi_tup ht)))) fun _ => et_or (et_test (ev_is (ev_op (ev_lenU (by tm_at "ev") hs) (by tm_at "ev") (rv_ne rfl)) (by simp))) fun _ => et_not (et_B (ev_is (ev_allR (er_lcT mono_V (β := Int) (cd := V.int) (l := [p1, p2]) (fun _ => true) (fun _ => true) (by tm_at "ev") hs (by show 2 ≤ 40000; decide) (fun x => rfl) (fun b _ => et_yes) fun b _ _ => r_ev (v := .bl true) (by tm_at "ev") rfl)) rfl))) (fun hb => ?_) fun _ H1 e1 => ?_
    · simp at hb
    · refine s_ret (v := .bl (!decide (p1 = p2) && (decide (0 ≤ (if p2 < p1 then p2 else p1)) && decide ((if p2 > p1 then p2 else p1) < n)))) ?_ fun H2 e2 => ?_
      · refine ev_andV (ev_is (ev_op (ev_ixT (by tm_at "ev") (ex_t e1 hs) (by tm_at "ev") rfl) (ev_ixT (by tm_at "ev") (ex_t e1 hs) (by tm_at "ev") rfl) (rv_ne rfl)) (by simp)) fun _ => ev_andV (ev_op (by tm_at "ev") (ev_cb (by tm_at "ev") (rc_minP (e1 t _ ht))) rv_I0) fun _ => ev_op (ev_cb (by tm_at "ev") (rc_maxP (e1 t _ ht))) (by tm_at "ev") rv_I0
      · have e : (!decide (p1 = p2) && (decide (0 ≤ (if p2 < p1 then p2 else p1)) && decide ((if p2 > p1 then p2 else p1) < n))) = true := by
          rw [Bool.and_eq_true, Bool.and_eq_true, decide_eq_true_eq, decide_eq_true_eq, Bool.not_eq_true', decide_eq_false_iff_not]
          refine ⟨h5, ?_, ?_⟩
          · split <;> omega
          · split <;> omega
        rw [e]
        exact q H2 (e1.trans e2)

abbrev s_check_plan : Stmt := top 34
abbrev N_check_plan : List Str := ["teams", "plan", "pairs", "pair"]
theorem sc_check_plan : FnScope N_check_plan ["teams", "plan"] (defScope s_check_plan) := ⟨rfl, rfl, rfl, by decide +kernel, rfl, by decide +kernel, by decide +kernel⟩
def sp_check_plan : Sp := fun vs H Q _ => ∃ (n : Int) (v : V) (plan : List (List (Int × Int))), vs = [.int n, v] ∧ TeamsOk n ∧ n ≤ 20 ∧ IsPlan H v plan ∧ PlanSz plan ∧ PlanOk n plan ∧ RetV .non H Q
theorem use_check_plan {H : Hp} {n : Int} {v : V} {plan : List (List (Int × Int))} (h1 : TeamsOk n) (h2 : n ≤ 20) (h3 : IsPlan H v plan) (h4 : PlanSz plan) (h5 : PlanOk n plan) : SpV sp_check_plan [.int n, v] H .non := fun H1 e Q q _ => ⟨n, v, plan, rfl, h1, h2, mono_plan _ _ _ _ e h3, h4, h5, q⟩
theorem ok_check_plan (F : DAt K mg "check_plan" s_check_plan ["teams", "plan"]) (D_check_teams : DOk P w K mg base 2 "check_teams" ["teams"] sp_check_teams) (D_is_game : DOk P w K mg base 2 "is_game" ["teams", "thing"] sp_is_game) (Z : Zs mg) (Z2 : Zt mg) {tm : Tok} (hMOST : mg "MOST" = some (.int 20 tm)) :
    DOk P w K mg base 3 "check_plan" ["teams", "plan"] sp_check_plan := by
  have nd := sc_check_plan.nd
  refine F.ok sc_check_plan (fun vs H Q E h => ?_) (fun f cdv A outer s H vs Q E hr h => ?_)
  · obtain ⟨n, v, plan, rfl, _⟩ := h
    rfl
  · obtain ⟨n, v, plan, rfl, hn, hn2, ⟨a, rs, rfl, ha, hrs⟩, hz, hok, q⟩ := h
    have hl := paired_len hrs
    have hz1 := hz.1
    refine ⟨_, (pss_cons (ps_expr (pe_callD D_check_teams (hr.mono (by decide)) (pa_cons (pv 0) pa_nil)))
      (pss_cons (ps_if (pt_cmpR op_gt (pv 0) (pe_glob (v := .int 20) rfl hMOST ⟨_, rfl⟩) (nomark _))
        (pss_one ps_never)
        pss_nil)
      (pss_cons (ps_if (PW.pt (pw_or (pt_not (pt_val (pe_callB (k_isi (K := K)) (by rfl) Z.isinstance boot_isinstance (pa_cons (pv 1) (pa_cons (pe_bltn (v := .ty "list") (by rfl) Z2.list boot_list rfl) pa_nil))))) (pw_or1 (pt_not (pt_val (pe_callB (k_all (K := K) rfl) (by rfl) Z.all boot_all (pa_cons (pe_lc (own := [("pairs", 2)]) (g := gName 2) rfl nd (k_list (K := K) (pv 1)) (blkOk_by (N := N_check_plan) (sc := defScope s_check_plan) (by decide +kernel)) (fun _ _ _ _ _ => pg_name (i := 2) nd rfl (Or.inl rfl)) (fun _ _ _ _ _ => pts_nil) (fun _ _ _ _ _ => (pe_callB (k_isi (K := K)) (by rfl) Z.isinstance boot_isinstance (pa_cons (pv 2) (pa_cons (pe_bltn (v := .ty "list") (by rfl) Z2.list boot_list rfl) pa_nil))))) pa_nil)))))))
        (pss_one ps_never)
        pss_nil)
      (pss_one (ps_for PassesOwn.never rfl (k_list (K := K) (pv 1)) (pg_name (i := 2) nd rfl (Or.inl rfl))
        (pss_one (ps_if (pt_not (pt_val (pe_callB (k_all (K := K) rfl) (by rfl) Z.all boot_all (pa_cons (pe_lc (own := [("pair", 3)]) (g := gName 3) rfl nd (k_list (K := K) (pv 2)) (blkOk_by (N := N_check_plan) (sc := defScope s_check_plan) (by decide +kernel)) (fun _ _ _ _ _ => pg_name (i := 3) nd rfl (Or.inl rfl)) (fun _ _ _ _ _ => pts_nil) (fun _ _ _ _ _ => (pe_callD D_is_game (hr.mono (by decide)) (pa_cons (pv 0) (pa_cons (pv 3) pa_nil))))) pa_nil))))
          (pss_one ps_never)
          pss_nil))))))), ?_⟩
    refine q_drop (by tm_at "ev") fun H1 e1 => ?_
    refine q_when (by tm_at "ev") (fun hb => ?_) fun _ H2 e2 => ?_
    · simp at hb
      omega
    have e12 := e1.trans e2
    have hrs2 : Paired (IsRow H2) rs plan := paired_mono (fun x b r => mono_row _ _ _ _ e12 r) hrs
    refine q_when (b := !true || !((plan.filter fun _ => true).map fun _ => true).all id) (et_or (et_not (et_B (ev_cb (by tm_at "ev") (isi_lst (e12 a _ ha))))) fun _ => et_not (et_B (ev_allR (er_lcL mono_V (fun _ => true) (fun _ => true) (by tm_at "ev") (sq_of (e12 a _ ha)) hrs2 (by omega) (fun x => rfl) (fun x b _ _ => et_yes) fun x b _ hx _ => ?_)))) (fun hb => ?_) fun _ H3 e3 => ?_
    · obtain ⟨ra, ts, rfl, hra, _⟩ := hx
      exact r_ev (v := .bl true) (ev_cb (by tm_at "ev") (isi_lst hra)) rfl
    · simp at hb
    have e13 := e12.trans e3
    refine s_forL (by tm_at "ev") (sq_of (e13 a _ ha)) (fun i σ' H' => Ex H H' ∧ ∃ o2, σ' = [some (.int n), some (.ref a), o2, none]) (fun H4 e4 => ⟨e13.trans e4, _, rfl⟩) (fun i σ' H' _ h => sq_of (h.1 a _ ha)) ?_ ?_
    · rintro i x σ' H' hx ⟨e4, o2, rfl⟩
      obtain ⟨row, hrow, hr1⟩ := paired_at hrs hx
      have hm := List.mem_of_getElem? hrow
      have hrl := hz.2 row hm
      obtain ⟨ra, ts, rfl, hra, hts⟩ := mono_row _ _ _ _ e4 hr1
      refine s_when (b := !((row.filter fun _ => true).map fun _ => true).all id) (et_not (et_B (ev_allR (er_lcL mono_V (fun _ => true) (fun _ => true) (by tm_at "ev") (sq_of hra) hts (by omega) (fun x => rfl) (fun x b _ _ => et_yes) fun x b hb hx _ => ?_)))) (fun hb => ?_) fun _ H5 e5 => ⟨e4.trans e5, _, rfl⟩
      · exact r_ev (v := .bl true) (ev_call0 (by tm_at "ev") (use_is_game hx (hok row hm b hb))) rfl
      · simp at hb
    · rintro σ' H' ⟨e4, o2, rfl⟩
      exact q H' e4
end


section
variable {P : Program} {w : World} {K : PySem.W.Frag} {mg : Str → Option Value} {base : Heap}
abbrev s_breaks : Stmt := top 36
abbrev N_breaks : List Str := ["teams", "plan", "homes", "pair", "pairs", "found", "number", "team"]
theorem sc_breaks : FnScope N_breaks ["teams", "plan"] (defScope s_breaks) := ⟨rfl, rfl, rfl, by decide +kernel, rfl, by decide +kernel, by decide +kernel⟩
def sp_breaks : Sp := fun vs H Q _ => ∃ (n : Int) (v : V) (plan : List (List (Int × Int))), vs = [.int n, v] ∧ TeamsOk n ∧ n ≤ 20 ∧ IsPlan H v plan ∧ PlanSz plan ∧ PlanOk n plan ∧ goodM n plan = true ∧ RetN IsRow (breaksM n plan) H Q
theorem use_breaks {H : Hp} {n : Int} {v : V} {plan : List (List (Int × Int))} (h1 : TeamsOk n) (h2 : n ≤ 20) (h3 : IsPlan H v plan) (h4 : PlanSz plan) (h5 : PlanOk n plan) (h6 : goodM n plan = true) : SpN sp_breaks [.int n, v] H IsRow (breaksM n plan) := fun H1 e Q q _ => ⟨n, v, plan, rfl, h1, h2, mono_plan _ _ _ _ e h3, h4, h5, h6, q⟩
abbrev IsHomes := IsL (IsL (IsV V.int))
theorem mono_homes : Mono IsHomes := mono_L mono_ints
/-- one home's list in the list of them -/
theorem ev_inHome {σ : L2.St} {H : Hp} {ta tb : TE} {t : Int} {l : List Int} {x : V} (ha : Ev ta σ H (.int t)) (hb : Ev tb σ H x) (hx : IsL (IsV V.int) H x l) : Ev (tOp (rIn K false) ta tb) σ H (.bl (l.any fun y => decide (t = y))) := by
  obtain ⟨a, rfl, h⟩ := isL_V hx
  refine ev_is (ev_op ha hb (rv_isL (sq_of h) rfl ?_)) (by rw [inV_ints])
  rw [List.all_map, List.all_eq_true]
  intro y _
  rfl
theorem ok_breaks (F : DAt K mg "breaks" s_breaks ["teams", "plan"]) (D_check_plan : DOk P w K mg base 3 "check_plan" ["teams", "plan"] sp_check_plan) {C_Good : Addr} (M_Good : ClO K mg "Good" C_Good) (I_Good : Ini0 K C_Good)
    (D_Good_shows : MOk P w K mg base 3 C_Good "shows" ["self", "teams", "plan"] sp_Good_shows) (Z : Zs mg) (Z2 : Zt mg) : DOk P w K mg base 4 "breaks" ["teams", "plan"] sp_breaks := by
  have nd := sc_breaks.nd
  refine F.ok sc_breaks (fun vs H Q E h => ?_) (fun f cdv A outer s H vs Q E hr h => ?_)
  · obtain ⟨n, v, plan, rfl, _⟩ := h
    rfl
  · obtain ⟨n, v, plan, rfl, hn, hn2, hp, hz, hok, hg, q⟩ := h
    have hp0 := hp
    obtain ⟨a, rs, rfl, ha, hrs⟩ := hp
    have hl := paired_len hrs
    have hz1 := hz.1
    have h2n := hn.1
    refine ⟨_, (pss_cons (ps_expr (pe_callD D_check_plan (hr.mono (by decide)) (pa_cons (pv 0) (pa_cons (pv 1) pa_nil))))
      (pss_cons (ps_if (pt_not (pt_val (pe_methD (ht := mcall_of (abase_call (by decide)) (fun ov => rfl)) (pe_makeO M_Good I_Good) M_Good.cls D_Good_shows (hr.mono (by decide)) (pa_cons (pv 0) (pa_cons (pv 1) pa_nil)))))
        (pss_one ps_never)
        pss_nil)
      (pss_cons (ps_setLc (i := 2) (own := [("pairs", 4)]) (g := gName 4) rfl nd rfl rfl (sw_true rfl rfl rfl (by decide +kernel)) (k_list (K := K) (pv 1)) (blkOk_by (N := N_breaks) (sc := defScope s_breaks) (by decide +kernel)) (fun _ _ _ _ _ => pg_name (i := 4) nd rfl (Or.inl rfl)) (fun _ _ _ _ _ => pts_nil) (fun _ _ _ _ _ => (pe_lc (own := [("pair", 3)]) (g := gName 3) rfl nd (k_list (K := K) (pv 4)) (blkOk_by (N := N_breaks) (sc := relS _ (defScope s_breaks)) (by decide +kernel)) (fun _ _ _ _ _ => pg_name (i := 3) nd rfl (Or.inl rfl)) (fun _ _ _ _ _ => pts_nil) (fun _ _ _ _ _ => (pe_ix (k_ixT (K := K)) (pv 3) pe_int (fun _ _ => rfl))))))
      (pss_cons (ps_set (i := 5) nd rfl (Or.inl rfl) (pe_lst pa_nil))
      (pss_cons (ps_for PassesOwn.never rfl (pi_range2 rfl Z.range (pa_cons pe_int (pa_cons (pe_callB (k_len (K := K)) (by rfl) Z.len boot_len (pa_cons (pv 1) pa_nil)) pa_nil))) (pg_name (i := 6) nd rfl (Or.inl rfl))
        (pss_one (ps_for PassesOwn.never rfl (pi_range1 rfl Z.range (pa_cons (pv 0) pa_nil)) (pg_name (i := 7) nd rfl (Or.inl rfl))
          (pss_one (ps_if (pt_cmpR op_eq (pe_cmpR (k_in (K := K)) (pv 7) (pe_ix (k_ixL (K := K)) (pv 2) (pe_op op_sub (pv 6) pe_int) (fun _ _ => rfl)) (by rfl)) (pe_cmpR (k_in (K := K)) (pv 7) (pe_ix (k_ixL (K := K)) (pv 2) (pv 6) (fun _ _ => rfl)) (by rfl)) (nomark _))
            (pss_one (ps_expr (pe_bm PySem.F.plainAttrs_list PySem.F.slot_list_append PySem.F.type_list_append mt_append (pv 5) (pa_cons (pe_tup (pa_cons (pv 6) (pa_cons (pv 7) pa_nil))) pa_nil))))
            pss_nil)))))
      (pss_one (ps_ret (pv 5)))))))), ?_⟩
    refine q_drop (ev_call0 (by tm_at "ev") (use_check_plan hn hn2 hp0 hz hok)) fun H1 e1 => ?_
    have hp1 := mono_plan _ _ _ _ e1 hp0
    refine q_when (b := !(showsGood n plan)) (et_not (et_B (ev_methO (by tm_at "ev") fun u H2 e2 Q q _ => ⟨n, u, _, plan, rfl, h2n, by omega, mono_plan _ _ _ _ e2 hp1, hz, q⟩))) (fun hb => ?_) fun _ H2 e2 => ?_
    · rw [good_shows hn hok, hg] at hb
      simp at hb
    have e12 := e1.trans e2
    have hrs2 : Paired (IsRow H2) rs plan := paired_mono (fun x b r => mono_row _ _ _ _ e12 r) hrs
    refine q_asgR (R := fun G v => IsHomes G v (plan.map fun row => row.map (·.1))) (B := H2) ?_ (Ex.refl _) fun v3 G H3 c3 r3 => ?_
    · refine er_lcL1 mono_ints (fun row : List (Int × Int) => row.map (·.1)) ?_ (sq_of (e12 a _ ha)) hrs2 ?_ ?_ fun x row hm hx => ?_
      · tm_at "ev"
      · omega
      · intro x
        rfl
      obtain ⟨ra, ts, rfl, hra, hts⟩ := hx
      refine er_lcL1 (mono_V (f := V.int)) (fun p : Int × Int => p.1) ?_ (sq_of hra) hts ?_ ?_ fun x p _ hp => ?_
      · tm_at "ev"
      · have := hz.2 row hm
        omega
      · intro x
        rfl
      obtain ⟨t, rfl, ht⟩ := hp
      exact r_ev (v := .int p.1) (ev_ixT (by tm_at "ev") (st_of ht) (by tm_at "ev") rfl) rfl
    obtain ⟨hh, hs, rfl, hhh, hhs⟩ := mono_homes _ _ _ _ c3.part r3
    have e13 := e12.trans c3.up
    have hlh : hs.length = plan.length := by rw [paired_len hhs, List.length_map]
    refine q_asgL (el_lst ea_nil (by show 0 ≤ 100000; decide)) fun Fd H4 hF e4 h4 => ?_
    have e34 : Ex H3 H4 := e4
    have step : ∀ i, (((irange ((plan.length : Int) - 1)).take i).flatMap fun i => brkRow n plan (1 + i)).length ≤ 10000 := fun i => by
      have h1 := flatMap_len (f := fun i => brkRow n plan (1 + i)) (k := 20) (fun x => Nat.le_trans (brkRow_len n plan (1 + x)) (by omega)) ((irange ((plan.length : Int) - 1)).take i)
      have h2 := List.length_take_le' i (irange ((plan.length : Int) - 1))
      rw [irange_len] at h2
      omega
    refine q_forR2 (lo := 1) (n := (plan.length : Int)) (ea_cons (by tm_at "ev") (ea_cons (ev_is (ev_len (by tm_at "ev") (sq_of (e34 a _ (e13 a _ ha)))) (by rw [hl])) ea_nil)) ⟨by omega, by omega, by omega, by omega⟩
      (fun i σ' H' => Ex H3 H' ∧ (∃ o6 o7, σ' = [some (.int n), some (.ref a), some (.ref hh), none, none, some (.ref Fd), o6, o7]) ∧ Grown IsPair Void H3 Fd (((irange ((plan.length : Int) - 1)).take i).flatMap fun i => brkRow n plan (1 + i)) H')
      (fun H5 e5 => ⟨e34.trans e5, ⟨_, _, rfl⟩, grown_up (grown_new void_ex hF e4 h4) e5⟩) ?_ ?_
    · rintro i σ' H5 hi ⟨e5, ⟨o6, o7, rfl⟩, g⟩
      have at1 : ∃ x, atI hs ((1 : Int) + (i : Int) - 1) = some x ∧ IsL (IsV V.int) H3 x ((plan.getD (1 + (i : Int) - 1).toNat []).map (·.1)) := by
        obtain ⟨x, h1, h2⟩ := isL_at (i := (1 : Int) + (i : Int) - 1) hhs (by omega) (by rw [List.length_map]; omega) (([] : List (Int × Int)).map (·.1))
        rw [getD_map'] at h2
        exact ⟨x, h1, h2⟩
      have at2 : ∃ x, atI hs ((1 : Int) + (i : Int)) = some x ∧ IsL (IsV V.int) H3 x ((plan.getD (1 + (i : Int)).toNat []).map (·.1)) := by
        obtain ⟨x, h1, h2⟩ := isL_at (i := (1 : Int) + (i : Int)) hhs (by omega) (by rw [List.length_map]; omega) (([] : List (Int × Int)).map (·.1))
        rw [getD_map'] at h2
        exact ⟨x, h1, h2⟩
      obtain ⟨x1, x1a, x1h⟩ := at1
      obtain ⟨x2, x2a, x2h⟩ := at2
      have hi' : (i : Int) < (plan.length : Int) - 1 := by omega
      rw [irange_take hi', List.flatMap_append, List.flatMap_singleton]
      have base : ((irange ((plan.length : Int) - 1)).take i).flatMap (fun i => brkRow n plan (1 + i)) ++ brkRow n plan (1 + (i : Int)) = ((irange ((plan.length : Int) - 1)).take i).flatMap (fun i => brkRow n plan (1 + i)) ++ ((irange n).filter fun t => brkAt plan (1 + (i : Int)) t).map fun t => (1 + (i : Int), t) := rfl
      rw [base]
      have stp := step i
      generalize ((irange ((plan.length : Int) - 1)).take i).flatMap (fun i => brkRow n plan (1 + i)) = L0 at g stp ⊢
      generalize hr1 : (1 : Int) + (i : Int) = r at *
      refine s_forR1 (n := n) (by tm_at "ev") ⟨by omega, by omega⟩ (fun j σ' H' => Ex H3 H' ∧ (∃ o7, σ' = [some (.int n), some (.ref a), some (.ref hh), none, none, some (.ref Fd), some (.int r), o7]) ∧ Grown IsPair Void H3 Fd (L0 ++ (((irange n).take j).filter fun t => brkAt plan r t).map fun t => (r, t)) H')
        (fun H6 e6 => ⟨e5.trans e6, ⟨_, rfl⟩, by simpa using grown_up g e6⟩) ?_ ?_
      · rintro j σ' H6 hj ⟨e6, ⟨o7, rfl⟩, g2⟩
        have e36 : Ex H3 H6 := e6
        have len : (L0 ++ (((irange n).take j).filter fun t => brkAt plan r t).map fun t => (r, t)).length < 50000 := by
          have l1 := List.length_filter_le (fun t => brkAt plan r t) ((irange n).take j)
          have l2 := List.length_take_le' j (irange n)
          rw [irange_len] at l2
          rw [List.length_append, List.length_map]
          omega
        rw [irange_take hj, List.filter_append, List.map_append, List.filter_cons]
        refine s_when (b := brkAt plan r (j : Int)) (et_test (ev_is (ev_op (ev_inHome (by tm_at "ev") (ev_ixL (by tm_at "ev") (sq_of (e36 hh _ hhh)) (by tm_at "ev") x1a) (mono_ints _ _ _ _ e36 x1h)) (ev_inHome (by tm_at "ev") (ev_ixL (by tm_at "ev") (sq_of (e36 hh _ hhh)) (by tm_at "ev") x2a) (mono_ints _ _ _ _ e36 x2h)) (rv_eq rfl)) ?_)) (fun hb H7 e7 => ?_) fun hb H7 e7 => ?_
        · unfold brkAt homeIn
          simp
        · refine s_appG mono_pair (grown_up g2 e7) void_ex (by tm_at "ev") (er_pair (by tm_at "ev") (by tm_at "ev")) len fun H8 e8 g8 => ?_
          rw [if_pos hb]
          exact ⟨e8, ⟨_, rfl⟩, by simpa using g8⟩
        · rw [if_neg (by rw [hb]; simp)]
          exact ⟨e6.trans e7, ⟨_, rfl⟩, by simpa using grown_up g2 e7⟩
      · rintro σ' H6 ⟨e6, ⟨o7, rfl⟩, g2⟩
        rw [irange_all] at g2
        exact ⟨e6, ⟨_, _, rfl⟩, g2⟩
    · rintro σ' H5 ⟨e5, ⟨o6, o7, rfl⟩, g⟩
      have e : (irange ((plan.length : Int) - 1)).take ((plan.length : Int) - 1).toNat = irange ((plan.length : Int) - 1) := irange_all _
      rw [e] at g
      obtain ⟨G, c, r, _⟩ := grown_end mono_pair hF g
      refine s_ret (by tm_at "ev") fun H6 e6 => ?_
      refine q _ G H6 (((e13.trans c.up).trans e6)) (c.part.trans e6) (fun b h => c.apart b rfl ?_) r
      cases w : H b with
      | none => exact absurd w h
      | some o => rw [e13 b o w]; simp
end


section
variable {P : Program} {w : World} {K : PySem.W.Frag} {mg : Str → Option Value} {base : Heap}
/-! ### what is refused -/
/-- whether it is a whole number -/
def Dt.whole : Dt → Bool | .int _ => true | _ => false
def sp_wholeD : Sp := fun vs H Q _ => ∃ (v : V) (d : Dt), vs = [v] ∧ IsD H v d ∧ RetV (.bl d.whole) H Q
theorem use_wholeD {H : Hp} {v : V} {d : Dt} (h : IsD H v d) : SpV sp_wholeD [v] H (.bl d.whole) := fun H1 e Q q _ => ⟨v, d, rfl, isD_mono e h, q⟩
theorem ok_wholeD (F : DAt K mg "is_whole" s_is_whole ["thing"]) (Z : Zs mg) : DOk P w K mg base 1 "is_whole" ["thing"] sp_wholeD := by
  have nd := sc_is_whole.nd
  refine F.ok sc_is_whole (fun vs H Q E h => ?_) (fun f cdv A outer s H vs Q E hr h => ?_)
  · obtain ⟨v, d, rfl, _⟩ := h
    rfl
  · obtain ⟨v, d, rfl, hd, k⟩ := h
    refine ⟨_, (pss_one (ps_ret (pe_and (pe_callB (k_isi (K := K)) (by rfl) Z.isinstance boot_isinstance (pa_cons (pv 0) (pa_cons (pe_bltn (v := .ty "int") (by rfl) Z.int boot_int rfl) pa_nil))) (pe_one (pe_not (pe_callB (k_isi (K := K)) (by rfl) Z.isinstance boot_isinstance (pa_cons (pv 0) (pa_cons (pe_bltn (v := .ty "bool") (by rfl) Z.bool boot_bool rfl) pa_nil)))))))), ?_⟩
    refine s_ret (v := .bl (d.isInt && !d.isBl)) (ev_andV (ev_cb (by tm_at "ev") (isi_Dint hd)) fun _ => ev_notV (ev_cb (by tm_at "ev") (isi_Dbl hd))) ?_
    have e : (d.isInt && !d.isBl) = d.whole := by cases d <;> rfl
    rw [e]
    exact k
/-- no count of teams; no team; no round -/
def badTeams : Dt → Bool | .int n => decide (n < 2) || decide (n % 2 = 1) | _ => true
def badIn (lim : Int) : Dt → Bool | .int t => !(decide (0 ≤ t) && decide (t < lim)) | _ => true
def sx_check_teams (C : Addr) : Sp := fun vs H _ E => ∃ (v : V) (d : Dt), vs = [v] ∧ IsD H v d ∧ badTeams d = true ∧ Out C H E
theorem ux_check_teams {C : Addr} {H : Hp} {v : V} {d : Dt} (h1 : IsD H v d) (h2 : badTeams d = true) : SpX (sx_check_teams C) [v] H C := fun H1 e Q E o => ⟨v, d, rfl, isD_mono e h1, h2, o⟩
theorem okx_check_teams {C : Addr} (F : DAt K mg "check_teams" s_check_teams ["teams"]) (R_BadTeams : ExR K mg "BadTeams" C) (D_is_whole : DOk P w K mg base 1 "is_whole" ["thing"] sp_wholeD) : XOk P w K mg base 2 "check_teams" ["teams"] (sx_check_teams C) := by
  have nd := sc_check_teams.nd
  refine F.okX sc_check_teams (fun vs H Q E h => ?_) (fun f cdv A outer s H vs Q E hr h => ?_)
  · obtain ⟨v, d, rfl, _⟩ := h
    rfl
  · obtain ⟨v, d, rfl, hd, hb, o⟩ := h
    refine ⟨_, (pss_one (ps_if (PW.pt (pw_or (pt_not (pt_val (pe_callD D_is_whole (hr.mono (by decide)) (pa_cons (pv 0) pa_nil)))) (pw_or (pt_cmpR op_lt (pv 0) pe_int (nomark _)) (pw_or1 (pt_cmpR op_eq (pe_op op_mod (pv 0) pe_int) pe_int (nomark _))))))
        (pss_one (ps_raise rfl (takes_of rfl rfl rfl rfl) (pmk_own PySem.F.excBase_ValueError R_BadTeams.x R_BadTeams.g R_BadTeams.k (raises_own R_BadTeams.b R_BadTeams.t) rfl)))
        pss_nil)), ?_⟩
    have ew : Ev (tCall sp_wholeD [] E0 (tCons (tVar 0) tNil)) ([some v] : L2.St) H (.bl d.whole) := ev_call0 (ea_cons (ev_var rfl) ea_nil) (use_wholeD hd)
    cases d with
    | int n =>
      cases hd
      refine s_when (b := !true || (decide (n < 2) || decide (n % 2 = 1))) (et_or (et_not (et_B ew)) fun _ => et_or (by tm_at "ev") fun _ => et_test (ev_is (ev_op (by tm_at "ev") (by tm_at "ev") (rv_eq rfl)) (by simp))) (fun _ H1 e1 => o H1 e1) fun hb2 H1 e1 => ?_
      have hb' : (decide (n < 2) || decide (n % 2 = 1)) = true := hb
      rw [hb'] at hb2
      cases hb2
    | none => exact s_when (b := !false || true) (et_or (et_not (et_B ew)) fun h => by cases h) (fun _ H1 e1 => o H1 e1) fun h => by cases h
    | bl b => exact s_when (b := !false || true) (et_or (et_not (et_B ew)) fun h => by cases h) (fun _ H1 e1 => o H1 e1) fun h => by cases h
    | str b => exact s_when (b := !false || true) (et_or (et_not (et_B ew)) fun h => by cases h) (fun _ H1 e1 => o H1 e1) fun h => by cases h
    | lst b => exact s_when (b := !false || true) (et_or (et_not (et_B ew)) fun h => by cases h) (fun _ H1 e1 => o H1 e1) fun h => by cases h
    | tup b => exact s_when (b := !false || true) (et_or (et_not (et_B ew)) fun h => by cases h) (fun _ H1 e1 => o H1 e1) fun h => by cases h
    | dct => exact s_when (b := !false || true) (et_or (et_not (et_B ew)) fun h => by cases h) (fun _ H1 e1 => o H1 e1) fun h => by cases h

def sx_check_team (C : Addr) : Sp := fun vs H _ E => ∃ (n : Int) (v : V) (d : Dt), vs = [.int n, v] ∧ IsD H v d ∧ badIn (n) d = true ∧ Out C H E
theorem ux_check_team {C : Addr} {H : Hp} {n : Int} {v : V} {d : Dt} (h1 : IsD H v d) (h2 : badIn (n) d = true) : SpX (sx_check_team C) [.int n, v] H C := fun H1 e Q E o => ⟨n, v, d, rfl, isD_mono e h1, h2, o⟩
theorem okx_check_team {C : Addr} (F : DAt K mg "check_team" s_check_team ["teams", "team"]) (R_BadTeam : ExR K mg "BadTeam" C) (D_is_whole : DOk P w K mg base 1 "is_whole" ["thing"] sp_wholeD) : XOk P w K mg base 2 "check_team" ["teams", "team"] (sx_check_team C) := by
  have nd := sc_check_team.nd
  refine F.okX sc_check_team (fun vs H Q E h => ?_) (fun f cdv A outer s H vs Q E hr h => ?_)
  · obtain ⟨n, v, d, rfl, _⟩ := h
    rfl
  · obtain ⟨n, v, d, rfl, hd, hb, o⟩ := h
    refine ⟨_, (pss_one (ps_if (PW.pt (pw_or (pt_not (pt_val (pe_callD D_is_whole (hr.mono (by decide)) (pa_cons (pv 1) pa_nil)))) (pw_or1 (pt_not (pt_chain op_le op_lt pe_int (pv 1) (pv 0))))))
        (pss_one (ps_raise rfl (takes_of rfl rfl rfl rfl) (pmk_own PySem.F.excBase_ValueError R_BadTeam.x R_BadTeam.g R_BadTeam.k (raises_own R_BadTeam.b R_BadTeam.t) rfl)))
        pss_nil)), ?_⟩
    have ew : Ev (tCall sp_wholeD [] E0 (tCons (tVar 1) tNil)) ([some (.int n), some v] : L2.St) H (.bl d.whole) := ev_call0 (ea_cons (ev_var rfl) ea_nil) (use_wholeD hd)
    cases d with
    | int t =>
      cases hd
      refine s_when (b := !true || !(decide (0 ≤ t) && decide (t < n))) (et_or (et_not (et_B ew)) fun _ => et_not (by tm_at "ev")) (fun _ H1 e1 => o H1 e1) fun hb2 H1 e1 => ?_
      have hb' : (!(decide (0 ≤ t) && decide (t < n))) = true := hb
      rw [hb'] at hb2
      cases hb2
    | none => exact s_when (b := !false || true) (et_or (et_not (et_B ew)) fun h => by cases h) (fun _ H1 e1 => o H1 e1) fun h => by cases h
    | bl b => exact s_when (b := !false || true) (et_or (et_not (et_B ew)) fun h => by cases h) (fun _ H1 e1 => o H1 e1) fun h => by cases h
    | str b => exact s_when (b := !false || true) (et_or (et_not (et_B ew)) fun h => by cases h) (fun _ H1 e1 => o H1 e1) fun h => by cases h
    | lst b => exact s_when (b := !false || true) (et_or (et_not (et_B ew)) fun h => by cases h) (fun _ H1 e1 => o H1 e1) fun h => by cases h
    | tup b => exact s_when (b := !false || true) (et_or (et_not (et_B ew)) fun h => by cases h) (fun _ H1 e1 => o H1 e1) fun h => by cases h
    | dct => exact s_when (b := !false || true) (et_or (et_not (et_B ew)) fun h => by cases h) (fun _ H1 e1 => o H1 e1) fun h => by cases h

def sx_check_round (C : Addr) : Sp := fun vs H _ E => ∃ (n : Int) (v : V) (d : Dt), vs = [.int n, v] ∧ IsD H v d ∧ badIn (n - 1) d = true ∧ Out C H E
theorem ux_check_round {C : Addr} {H : Hp} {n : Int} {v : V} {d : Dt} (h1 : IsD H v d) (h2 : badIn (n - 1) d = true) : SpX (sx_check_round C) [.int n, v] H C := fun H1 e Q E o => ⟨n, v, d, rfl, isD_mono e h1, h2, o⟩
theorem okx_check_round {C : Addr} (F : DAt K mg "check_round" s_check_round ["teams", "number"]) (R_BadRound : ExR K mg "BadRound" C) (D_is_whole : DOk P w K mg base 1 "is_whole" ["thing"] sp_wholeD) : XOk P w K mg base 2 "check_round" ["teams", "number"] (sx_check_round C) := by
  have nd := sc_check_round.nd
  refine F.okX sc_check_round (fun vs H Q E h => ?_) (fun f cdv A outer s H vs Q E hr h => ?_)
  · obtain ⟨n, v, d, rfl, _⟩ := h
    rfl
  · obtain ⟨n, v, d, rfl, hd, hb, o⟩ := h
    refine ⟨_, (pss_one (ps_if (PW.pt (pw_or (pt_not (pt_val (pe_callD D_is_whole (hr.mono (by decide)) (pa_cons (pv 1) pa_nil)))) (pw_or1 (pt_not (pt_chain op_le op_lt pe_int (pv 1) (pe_op op_sub (pv 0) pe_int))))))
        (pss_one (ps_raise rfl (takes_of rfl rfl rfl rfl) (pmk_own PySem.F.excBase_ValueError R_BadRound.x R_BadRound.g R_BadRound.k (raises_own R_BadRound.b R_BadRound.t) rfl)))
        pss_nil)), ?_⟩
    have ew : Ev (tCall sp_wholeD [] E0 (tCons (tVar 1) tNil)) ([some (.int n), some v] : L2.St) H (.bl d.whole) := ev_call0 (ea_cons (ev_var rfl) ea_nil) (use_wholeD hd)
    cases d with
    | int t =>
      cases hd
      refine s_when (b := !true || !(decide (0 ≤ t) && decide (t < n - 1))) (et_or (et_not (et_B ew)) fun _ => et_not (by tm_at "ev")) (fun _ H1 e1 => o H1 e1) fun hb2 H1 e1 => ?_
      have hb' : (!(decide (0 ≤ t) && decide (t < n - 1))) = true := hb
      rw [hb'] at hb2
      cases hb2
    | none => exact s_when (b := !false || true) (et_or (et_not (et_B ew)) fun h => by cases h) (fun _ H1 e1 => o H1 e1) fun h => by cases h
    | bl b => exact s_when (b := !false || true) (et_or (et_not (et_B ew)) fun h => by cases h) (fun _ H1 e1 => o H1 e1) fun h => by cases h
    | str b => exact s_when (b := !false || true) (et_or (et_not (et_B ew)) fun h => by cases h) (fun _ H1 e1 => o H1 e1) fun h => by cases h
    | lst b => exact s_when (b := !false || true) (et_or (et_not (et_B ew)) fun h => by cases h) (fun _ H1 e1 => o H1 e1) fun h => by cases h
    | tup b => exact s_when (b := !false || true) (et_or (et_not (et_B ew)) fun h => by cases h) (fun _ H1 e1 => o H1 e1) fun h => by cases h
    | dct => exact s_when (b := !false || true) (et_or (et_not (et_B ew)) fun h => by cases h) (fun _ H1 e1 => o H1 e1) fun h => by cases h

/-- three things: the first that is bad tells -/
inductive Bad3 (CT Ct Cr : Addr) (H : Hp) : List V → Addr → Prop
  | teams {v u z : V} {d : Dt} (h : IsD H v d) (b : badTeams d = true) : Bad3 CT Ct Cr H [v, u, z] CT
  | team {n : Int} {u z : V} {d : Dt} (hn : TeamsOk n) (h : IsD H u d) (b : badIn n d = true) : Bad3 CT Ct Cr H [.int n, u, z] Ct
  | round {n t : Int} {z : V} {d : Dt} (hn : TeamsOk n) (ht : TeamOk n t) (h : IsD H z d) (b : badIn (n - 1) d = true) : Bad3 CT Ct Cr H [.int n, .int t, z] Cr
theorem bad3_mono {CT Ct Cr : Addr} {H H' : Hp} {vs : List V} {C : Addr} (e : Ex H H') (h : Bad3 CT Ct Cr H vs C) : Bad3 CT Ct Cr H' vs C := by
  cases h with
  | teams h b => exact .teams (isD_mono e h) b
  | team hn h b => exact .team hn (isD_mono e h) b
  | round hn ht h b => exact .round hn ht (isD_mono e h) b
def sx_three (CT Ct Cr : Addr) : Sp := fun vs H _ E => ∃ C, Bad3 CT Ct Cr H vs C ∧ Out C H E
theorem ux_three {CT Ct Cr C : Addr} {H : Hp} {vs : List V} (h : Bad3 CT Ct Cr H vs C) : SpX (sx_three CT Ct Cr) vs H C := fun H1 e Q E o => ⟨C, bad3_mono e h, o⟩
theorem okx_check_three {CT Ct Cr : Addr} (F : DAt K mg "check_three" s_check_three ["teams", "team", "number"]) (D_check_teams : DOk P w K mg base 2 "check_teams" ["teams"] sp_check_teams) (D_check_team : DOk P w K mg base 2 "check_team" ["teams", "team"] sp_check_team) (D_check_round : DOk P w K mg base 2 "check_round" ["teams", "number"] sp_check_round)
    (X_check_teams : XOk P w K mg base 2 "check_teams" ["teams"] (sx_check_teams CT)) (X_check_team : XOk P w K mg base 2 "check_team" ["teams", "team"] (sx_check_team Ct)) (X_check_round : XOk P w K mg base 2 "check_round" ["teams", "number"] (sx_check_round Cr)) : XOk P w K mg base 3 "check_three" ["teams", "team", "number"] (sx_three CT Ct Cr) := by
  have nd := sc_check_three.nd
  refine F.okX sc_check_three (fun vs H Q E h => ?_) (fun f cdv A outer s H vs Q E hr h => ?_)
  · obtain ⟨C, h, _⟩ := h
    cases h <;> rfl
  · obtain ⟨C, h, o⟩ := h
    cases h with
    | teams hd b =>
      refine ⟨_, (pss_cons (ps_expr (pe_callX X_check_teams (hr.mono (by decide)) (passes_call (takes_of rfl rfl rfl rfl) (fun _ _ _ _ h => h)) (pa_cons (pv 0) pa_nil)))
      (pss_cons (ps_expr (pe_callD D_check_team (hr.mono (by decide)) (pa_cons (pv 0) (pa_cons (pv 1) pa_nil))))
      (pss_one (ps_expr (pe_callD D_check_round (hr.mono (by decide)) (pa_cons (pv 0) (pa_cons (pv 2) pa_nil))))))), ?_⟩
      exact xq_drop (rx_call (by tm_at "ev") (ux_check_teams hd b)) o
    | team hn hd b =>
      refine ⟨_, (pss_cons (ps_expr (pe_callD D_check_teams (hr.mono (by decide)) (pa_cons (pv 0) pa_nil)))
      (pss_cons (ps_expr (pe_callX X_check_team (hr.mono (by decide)) (passes_call (takes_of rfl rfl rfl rfl) (fun _ _ _ _ h => h)) (pa_cons (pv 0) (pa_cons (pv 1) pa_nil))))
      (pss_one (ps_expr (pe_callD D_check_round (hr.mono (by decide)) (pa_cons (pv 0) (pa_cons (pv 2) pa_nil))))))), ?_⟩
      refine q_drop (by tm_at "ev") fun H1 e1 => ?_
      exact xq_drop (rx_call (by tm_at "ev") (ux_check_team (isD_mono e1 hd) b)) (o.mono e1)
    | round hn ht hd b =>
      refine ⟨_, (pss_cons (ps_expr (pe_callD D_check_teams (hr.mono (by decide)) (pa_cons (pv 0) pa_nil)))
      (pss_cons (ps_expr (pe_callD D_check_team (hr.mono (by decide)) (pa_cons (pv 0) (pa_cons (pv 1) pa_nil))))
      (pss_one (ps_expr (pe_callX X_check_round (hr.mono (by decide)) (passes_call (takes_of rfl rfl rfl rfl) (fun _ _ _ _ h => h)) (pa_cons (pv 0) (pa_cons (pv 2) pa_nil))))))), ?_⟩
      refine q_drop (by tm_at "ev") fun H1 e1 => ?_
      refine q_drop (by tm_at "ev") fun H2 e2 => ?_
      exact x_drop (rx_call (by tm_at "ev") (ux_check_round (isD_mono (e1.trans e2) hd) b)) (o.mono (e1.trans e2))

theorem okx_opponent {CT Ct Cr : Addr} (F : DAt K mg "opponent" s_opponent ["teams", "team", "number"]) (X_check_three : XOk P w K mg base 3 "check_three" ["teams", "team", "number"] (sx_three CT Ct Cr)) : XOk P w K mg base 4 "opponent" ["teams", "team", "number"] (sx_three CT Ct Cr) := by
  have nd := sc_opponent.nd
  refine F.okX sc_opponent (fun vs H Q E h => ?_) (fun f cdv A outer s H vs Q E hr h => ?_)
  · obtain ⟨C, h, _⟩ := h
    cases h <;> rfl
  · obtain ⟨C, h, o⟩ := h
    refine ⟨_, (pss_cons (ps_expr (pe_callX X_check_three (hr.mono (by decide)) (passes_call (takes_of rfl rfl rfl rfl) (fun _ _ _ _ h => h)) (pa_cons (pv 0) (pa_cons (pv 1) (pa_cons (pv 2) pa_nil)))))
      (pss_cons (ps_if (pt_cmpR op_eq (pv 1) (pe_op op_sub (pv 0) pe_int) (nomark _))
        (pss_one (ps_ret (pv 2)))
        pss_nil)
      (pss_cons (ps_if (pt_cmpR op_eq (pv 1) (pv 2) (nomark _))
        (pss_one (ps_ret (pe_op op_sub (pv 0) pe_int)))
        pss_nil)
      (pss_one (ps_ret (pe_op op_mod (pe_op op_sub (pe_op op_mulB pe_int (pv 2)) (pv 1)) (pe_op op_sub (pv 0) pe_int))))))), ?_⟩
    have l : vs.length = 3 := by cases h <;> rfl
    obtain ⟨a, b, c, rfl⟩ : ∃ a b c, vs = [a, b, c] := by
      match vs, l with
      | [a, b, c], _ => exact ⟨a, b, c, rfl⟩
    exact xq_drop (rx_call (by tm_at "ev") (ux_three h)) o

theorem okx_at_home {CT Ct Cr : Addr} (F : DAt K mg "at_home" s_at_home ["teams", "team", "number"]) (X_check_three : XOk P w K mg base 3 "check_three" ["teams", "team", "number"] (sx_three CT Ct Cr)) (D_home_of : DOk P w K mg base 1 "home_of" ["teams", "team", "number"] sp_home_of) : XOk P w K mg base 4 "at_home" ["teams", "team", "number"] (sx_three CT Ct Cr) := by
  have nd := sc_at_home.nd
  refine F.okX sc_at_home (fun vs H Q E h => ?_) (fun f cdv A outer s H vs Q E hr h => ?_)
  · obtain ⟨C, h, _⟩ := h
    cases h <;> rfl
  · obtain ⟨C, h, o⟩ := h
    refine ⟨_, (pss_cons (ps_expr (pe_callX X_check_three (hr.mono (by decide)) (passes_call (takes_of rfl rfl rfl rfl) (fun _ _ _ _ h => h)) (pa_cons (pv 0) (pa_cons (pv 1) (pa_cons (pv 2) pa_nil)))))
      (pss_one (ps_ret (pe_callD D_home_of (hr.mono (by decide)) (pa_cons (pv 0) (pa_cons (pv 1) (pa_cons (pv 2) pa_nil))))))), ?_⟩
    have l : vs.length = 3 := by cases h <;> rfl
    obtain ⟨a, b, c, rfl⟩ : ∃ a b c, vs = [a, b, c] := by
      match vs, l with
      | [a, b, c], _ => exact ⟨a, b, c, rfl⟩
    exact xq_drop (rx_call (by tm_at "ev") (ux_three h)) o

inductive BadRO (CT Ct CA : Addr) (H : Hp) : List V → Addr → Prop
  | teams {v u z : V} {d : Dt} (h : IsD H v d) (b : badTeams d = true) : BadRO CT Ct CA H [v, u, z] CT
  | one {n : Int} {u z : V} {d : Dt} (hn : TeamsOk n) (h : IsD H u d) (b : badIn n d = true) : BadRO CT Ct CA H [.int n, u, z] Ct
  | other {n t : Int} {z : V} {d : Dt} (hn : TeamsOk n) (ht : TeamOk n t) (h : IsD H z d) (b : badIn n d = true) : BadRO CT Ct CA H [.int n, .int t, z] Ct
  | alike {n t : Int} (hn : TeamsOk n) (ht : TeamOk n t) : BadRO CT Ct CA H [.int n, .int t, .int t] CA
theorem badRO_mono {CT Ct CA : Addr} {H H' : Hp} {vs : List V} {C : Addr} (e : Ex H H') (h : BadRO CT Ct CA H vs C) : BadRO CT Ct CA H' vs C := by
  cases h with
  | teams h b => exact .teams (isD_mono e h) b
  | one hn h b => exact .one hn (isD_mono e h) b
  | other hn ht h b => exact .other hn ht (isD_mono e h) b
  | alike hn ht => exact .alike hn ht
def sx_round_of (CT Ct CA : Addr) : Sp := fun vs H _ E => ∃ C, BadRO CT Ct CA H vs C ∧ Out C H E
theorem ux_round_of {CT Ct CA C : Addr} {H : Hp} {vs : List V} (h : BadRO CT Ct CA H vs C) : SpX (sx_round_of CT Ct CA) vs H C := fun H1 e Q E o => ⟨C, badRO_mono e h, o⟩
theorem okx_round_of {CT Ct CA : Addr} (F : DAt K mg "round_of" s_round_of ["teams", "one", "other"]) (D_check_teams : DOk P w K mg base 2 "check_teams" ["teams"] sp_check_teams) (D_check_team : DOk P w K mg base 2 "check_team" ["teams", "team"] sp_check_team)
    (X_check_teams : XOk P w K mg base 2 "check_teams" ["teams"] (sx_check_teams CT)) (X_check_team : XOk P w K mg base 2 "check_team" ["teams", "team"] (sx_check_team Ct)) (R_Alike : ExR K mg "Alike" CA) (Z : Zs mg) : XOk P w K mg base 3 "round_of" ["teams", "one", "other"] (sx_round_of CT Ct CA) := by
  have nd := sc_round_of.nd
  refine F.okX sc_round_of (fun vs H Q E h => ?_) (fun f cdv A outer s H vs Q E hr h => ?_)
  · obtain ⟨C, h, _⟩ := h
    cases h <;> rfl
  · obtain ⟨C, h, o⟩ := h
    cases h with
    | teams hd b =>
      refine ⟨_, (pss_cons (ps_expr (pe_callX X_check_teams (hr.mono (by decide)) (passes_call (takes_of rfl rfl rfl rfl) (fun _ _ _ _ h => h)) (pa_cons (pv 0) pa_nil)))
      (pss_cons (ps_expr (pe_callD D_check_team (hr.mono (by decide)) (pa_cons (pv 0) (pa_cons (pv 1) pa_nil))))
      (pss_cons (ps_expr (pe_callD D_check_team (hr.mono (by decide)) (pa_cons (pv 0) (pa_cons (pv 2) pa_nil))))
      (pss_cons (ps_if (pt_cmpR op_eq (pv 1) (pv 2) (nomark _))
        (pss_one (ps_raise rfl (takes_of rfl rfl rfl rfl) (pmk_own PySem.F.excBase_ValueError R_Alike.x R_Alike.g R_Alike.k (raises_own R_Alike.b R_Alike.t) rfl)))
        pss_nil)
      (pss_cons (ps_if (pt_cmpR (k_in (K := K)) (pe_op op_sub (pv 0) pe_int) (pe_tup (pa_cons (pv 1) (pa_cons (pv 2) pa_nil))) (by rfl))
        (pss_one (ps_ret (pe_callB (call_min2 rfl) (by rfl) Z.min boot_min (pa_cons (pv 1) (pa_cons (pv 2) pa_nil)))))
        pss_nil)
      (pss_one (ps_ret (pe_op op_mod (pe_op op_mulB (pe_op op_add (pv 1) (pv 2)) (pe_op op_fdiv (pv 0) pe_int)) (pe_op op_sub (pv 0) pe_int))))))))), ?_⟩
      exact xq_drop (rx_call (by tm_at "ev") (ux_check_teams hd b)) o
    | one hn hd b =>
      refine ⟨_, (pss_cons (ps_expr (pe_callD D_check_teams (hr.mono (by decide)) (pa_cons (pv 0) pa_nil)))
      (pss_cons (ps_expr (pe_callX X_check_team (hr.mono (by decide)) (passes_call (takes_of rfl rfl rfl rfl) (fun _ _ _ _ h => h)) (pa_cons (pv 0) (pa_cons (pv 1) pa_nil))))
      (pss_cons (ps_expr (pe_callD D_check_team (hr.mono (by decide)) (pa_cons (pv 0) (pa_cons (pv 2) pa_nil))))
      (pss_cons (ps_if (pt_cmpR op_eq (pv 1) (pv 2) (nomark _))
        (pss_one (ps_raise rfl (takes_of rfl rfl rfl rfl) (pmk_own PySem.F.excBase_ValueError R_Alike.x R_Alike.g R_Alike.k (raises_own R_Alike.b R_Alike.t) rfl)))
        pss_nil)
      (pss_cons (ps_if (pt_cmpR (k_in (K := K)) (pe_op op_sub (pv 0) pe_int) (pe_tup (pa_cons (pv 1) (pa_cons (pv 2) pa_nil))) (by rfl))
        (pss_one (ps_ret (pe_callB (call_min2 rfl) (by rfl) Z.min boot_min (pa_cons (pv 1) (pa_cons (pv 2) pa_nil)))))
        pss_nil)
      (pss_one (ps_ret (pe_op op_mod (pe_op op_mulB (pe_op op_add (pv 1) (pv 2)) (pe_op op_fdiv (pv 0) pe_int)) (pe_op op_sub (pv 0) pe_int))))))))), ?_⟩
      refine q_drop (by tm_at "ev") fun H1 e1 => ?_
      exact xq_drop (rx_call (by tm_at "ev") (ux_check_team (isD_mono e1 hd) b)) (o.mono e1)
    | other hn ht hd b =>
      refine ⟨_, (pss_cons (ps_expr (pe_callD D_check_teams (hr.mono (by decide)) (pa_cons (pv 0) pa_nil)))
      (pss_cons (ps_expr (pe_callD D_check_team (hr.mono (by decide)) (pa_cons (pv 0) (pa_cons (pv 1) pa_nil))))
      (pss_cons (ps_expr (pe_callX X_check_team (hr.mono (by decide)) (passes_call (takes_of rfl rfl rfl rfl) (fun _ _ _ _ h => h)) (pa_cons (pv 0) (pa_cons (pv 2) pa_nil))))
      (pss_cons (ps_if (pt_cmpR op_eq (pv 1) (pv 2) (nomark _))
        (pss_one (ps_raise rfl (takes_of rfl rfl rfl rfl) (pmk_own PySem.F.excBase_ValueError R_Alike.x R_Alike.g R_Alike.k (raises_own R_Alike.b R_Alike.t) rfl)))
        pss_nil)
      (pss_cons (ps_if (pt_cmpR (k_in (K := K)) (pe_op op_sub (pv 0) pe_int) (pe_tup (pa_cons (pv 1) (pa_cons (pv 2) pa_nil))) (by rfl))
        (pss_one (ps_ret (pe_callB (call_min2 rfl) (by rfl) Z.min boot_min (pa_cons (pv 1) (pa_cons (pv 2) pa_nil)))))
        pss_nil)
      (pss_one (ps_ret (pe_op op_mod (pe_op op_mulB (pe_op op_add (pv 1) (pv 2)) (pe_op op_fdiv (pv 0) pe_int)) (pe_op op_sub (pv 0) pe_int))))))))), ?_⟩
      refine q_drop (by tm_at "ev") fun H1 e1 => ?_
      refine q_drop (by tm_at "ev") fun H2 e2 => ?_
      exact xq_drop (rx_call (by tm_at "ev") (ux_check_team (isD_mono (e1.trans e2) hd) b)) (o.mono (e1.trans e2))
    | alike hn ht =>
      refine ⟨_, (pss_cons (ps_expr (pe_callD D_check_teams (hr.mono (by decide)) (pa_cons (pv 0) pa_nil)))
      (pss_cons (ps_expr (pe_callD D_check_team (hr.mono (by decide)) (pa_cons (pv 0) (pa_cons (pv 1) pa_nil))))
      (pss_cons (ps_expr (pe_callD D_check_team (hr.mono (by decide)) (pa_cons (pv 0) (pa_cons (pv 2) pa_nil))))
      (pss_cons (ps_if (pt_cmpR op_eq (pv 1) (pv 2) (nomark _))
        (pss_one (ps_raise rfl (takes_of rfl rfl rfl rfl) (pmk_own PySem.F.excBase_ValueError R_Alike.x R_Alike.g R_Alike.k (raises_own R_Alike.b R_Alike.t) rfl)))
        pss_nil)
      (pss_cons (ps_if (pt_cmpR (k_in (K := K)) (pe_op op_sub (pv 0) pe_int) (pe_tup (pa_cons (pv 1) (pa_cons (pv 2) pa_nil))) (by rfl))
        (pss_one (ps_ret (pe_callB (call_min2 rfl) (by rfl) Z.min boot_min (pa_cons (pv 1) (pa_cons (pv 2) pa_nil)))))
        pss_nil)
      (pss_one (ps_ret (pe_op op_mod (pe_op op_mulB (pe_op op_add (pv 1) (pv 2)) (pe_op op_fdiv (pv 0) pe_int)) (pe_op op_sub (pv 0) pe_int))))))))), ?_⟩
      refine q_drop (by tm_at "ev") fun H1 e1 => ?_
      refine q_drop (by tm_at "ev") fun H2 e2 => ?_
      refine q_drop (by tm_at "ev") fun H3 e3 => ?_
      refine q_when (by tm_at "ev") (fun _ H4 e4 => o H4 (((e1.trans e2).trans e3).trans e4)) fun hb => ?_
      simp at hb
inductive BadBO (CT Ct : Addr) (H : Hp) : List V → Addr → Prop
  | teams {v u : V} {d : Dt} (h : IsD H v d) (b : badTeams d = true) : BadBO CT Ct H [v, u] CT
  | team {n : Int} {u : V} {d : Dt} (hn : TeamsOk n) (h : IsD H u d) (b : badIn n d = true) : BadBO CT Ct H [.int n, u] Ct
theorem badBO_mono {CT Ct : Addr} {H H' : Hp} {vs : List V} {C : Addr} (e : Ex H H') (h : BadBO CT Ct H vs C) : BadBO CT Ct H' vs C := by
  cases h with
  | teams h b => exact .teams (isD_mono e h) b
  | team hn h b => exact .team hn (isD_mono e h) b
def sx_break_of (CT Ct : Addr) : Sp := fun vs H _ E => ∃ C, BadBO CT Ct H vs C ∧ Out C H E
theorem ux_break_of {CT Ct C : Addr} {H : Hp} {vs : List V} (h : BadBO CT Ct H vs C) : SpX (sx_break_of CT Ct) vs H C := fun H1 e Q E o => ⟨C, badBO_mono e h, o⟩
theorem okx_break_of {CT Ct : Addr} (F : DAt K mg "break_of" s_break_of ["teams", "team"]) (D_check_teams : DOk P w K mg base 2 "check_teams" ["teams"] sp_check_teams) (D_check_team : DOk P w K mg base 2 "check_team" ["teams", "team"] sp_check_team)
    (X_check_teams : XOk P w K mg base 2 "check_teams" ["teams"] (sx_check_teams CT)) (X_check_team : XOk P w K mg base 2 "check_team" ["teams", "team"] (sx_check_team Ct)) : XOk P w K mg base 3 "break_of" ["teams", "team"] (sx_break_of CT Ct) := by
  have nd := sc_break_of.nd
  refine F.okX sc_break_of (fun vs H Q E h => ?_) (fun f cdv A outer s H vs Q E hr h => ?_)
  · obtain ⟨C, h, _⟩ := h
    cases h <;> rfl
  · obtain ⟨C, h, o⟩ := h
    cases h with
    | teams hd b =>
      refine ⟨_, (pss_cons (ps_expr (pe_callX X_check_teams (hr.mono (by decide)) (passes_call (takes_of rfl rfl rfl rfl) (fun _ _ _ _ h => h)) (pa_cons (pv 0) pa_nil)))
      (pss_cons (ps_expr (pe_callD D_check_team (hr.mono (by decide)) (pa_cons (pv 0) (pa_cons (pv 1) pa_nil))))
      (pss_cons (ps_if (pt_cmpR (k_in (K := K)) (pv 1) (pe_tup (pa_cons pe_int (pa_cons (pe_op op_sub (pv 0) pe_int) pa_nil))) (by rfl))
        (pss_one (ps_ret pe_non))
        pss_nil)
      (pss_one (ps_ret (pe_ifExp (pt_cmpR op_eq (pe_op op_mod (pv 1) pe_int) pe_int (nomark _)) (pv 1) (pe_op op_add (pv 1) pe_int))))))), ?_⟩
      exact xq_drop (rx_call (by tm_at "ev") (ux_check_teams hd b)) o
    | team hn hd b =>
      refine ⟨_, (pss_cons (ps_expr (pe_callD D_check_teams (hr.mono (by decide)) (pa_cons (pv 0) pa_nil)))
      (pss_cons (ps_expr (pe_callX X_check_team (hr.mono (by decide)) (passes_call (takes_of rfl rfl rfl rfl) (fun _ _ _ _ h => h)) (pa_cons (pv 0) (pa_cons (pv 1) pa_nil))))
      (pss_cons (ps_if (pt_cmpR (k_in (K := K)) (pv 1) (pe_tup (pa_cons pe_int (pa_cons (pe_op op_sub (pv 0) pe_int) pa_nil))) (by rfl))
        (pss_one (ps_ret pe_non))
        pss_nil)
      (pss_one (ps_ret (pe_ifExp (pt_cmpR op_eq (pe_op op_mod (pv 1) pe_int) pe_int (nomark _)) (pv 1) (pe_op op_add (pv 1) pe_int))))))), ?_⟩
      refine q_drop (by tm_at "ev") fun H1 e1 => ?_
      exact xq_drop (rx_call (by tm_at "ev") (ux_check_team (isD_mono e1 hd) b)) (o.mono e1)
end


section
variable {P : Program} {w : World} {K : PySem.W.Frag} {mg : Str → Option Value} {base : Heap}
def gameD (n : Int) : Dt → Bool
  | .tup [.int a, .int b] => !decide (a = b) && (decide (0 ≤ (if b < a then b else a)) && decide ((if b > a then b else a) < n))
  | _ => false
theorem gameD_no {n : Int} {l : List Dt} (h : (!decide ((l.length : Int) = 2) || !((l.map Dt.whole).all id)) = true) : gameD n (.tup l) = false := by
  match l, h with
  | [], _ => rfl
  | [x], _ =>
    cases x <;> rfl
  | x :: y :: z :: t, _ =>
    cases x with
    | int a => cases y <;> rfl
    | none => rfl
    | bl b => rfl
    | str b => rfl
    | lst b => rfl
    | tup b => rfl
    | dct => rfl
  | [.int a, .int b], h => simp [Dt.whole] at h
  | [.none, x], _ => rfl
  | [.bl c, x], _ => rfl
  | [.str c, x], _ => rfl
  | [.lst c, x], _ => rfl
  | [.tup c, x], _ => rfl
  | [.dct, x], _ => rfl
  | [.int a, .none], _ => rfl
  | [.int a, .bl c], _ => rfl
  | [.int a, .str c], _ => rfl
  | [.int a, .lst c], _ => rfl
  | [.int a, .tup c], _ => rfl
  | [.int a, .dct], _ => rfl
theorem two_ints {l : List Dt} (h : (!decide ((l.length : Int) = 2) || !((l.map Dt.whole).all id)) = false) : ∃ a b, l = [.int a, .int b] := by
  match l, h with
  | [.int a, .int b], _ => exact ⟨a, b, rfl⟩
  | [], h => simp at h
  | [_], h => simp at h
  | x :: y :: z :: t, h =>
    simp at h
    omega
  | [.none, x], h => simp [Dt.whole] at h
  | [.bl c, x], h => simp [Dt.whole] at h
  | [.str c, x], h => simp [Dt.whole] at h
  | [.lst c, x], h => simp [Dt.whole] at h
  | [.tup c, x], h => simp [Dt.whole] at h
  | [.dct, x], h => simp [Dt.whole] at h
  | [.int a, .none], h => simp [Dt.whole] at h
  | [.int a, .bl c], h => simp [Dt.whole] at h
  | [.int a, .str c], h => simp [Dt.whole] at h
  | [.int a, .lst c], h => simp [Dt.whole] at h
  | [.int a, .tup c], h => simp [Dt.whole] at h
  | [.int a, .dct], h => simp [Dt.whole] at h

def sp_gameD : Sp := fun vs H Q _ => ∃ (n : Int) (v : V) (d : Dt), vs = [.int n, v] ∧ IsD H v d ∧ (∀ l, d = .tup l → l.length ≤ 100) ∧ RetV (.bl (gameD n d)) H Q
theorem use_gameD {H : Hp} {n : Int} {v : V} {d : Dt} (h : IsD H v d) (hl : ∀ l, d = .tup l → l.length ≤ 100) : SpV sp_gameD [.int n, v] H (.bl (gameD n d)) := fun H1 e Q q _ => ⟨n, v, d, rfl, isD_mono e h, hl, q⟩
theorem ok_gameD (F : DAt K mg "is_game" s_is_game ["teams", "thing"]) (D_is_whole : DOk P w K mg base 1 "is_whole" ["thing"] sp_wholeD) (Z : Zs mg) (Z2 : Zt mg) : DOk P w K mg base 2 "is_game" ["teams", "thing"] sp_gameD := by
  have nd := sc_is_game.nd
  refine F.ok sc_is_game (fun vs H Q E h => ?_) (fun f cdv A outer s H vs Q E hr h => ?_)
  · obtain ⟨n, v, d, rfl, _⟩ := h
    rfl
  · obtain ⟨n, v, d, rfl, hd, hlim, q⟩ := h
    refine ⟨_, (pss_cons (ps_if (PW.pt (pw_or (pt_not (pt_val (pe_callB (k_isi (K := K)) (by rfl) Z.isinstance boot_isinstance (pa_cons (pv 1) (pa_cons (pe_bltn (v := .ty "tuple") (by rfl) Z2.tuple boot_tuple rfl) pa_nil))))) (pw_or (pt_cmpR op_ne (pe_callB (k_len (K := K)) (by rfl) Z.len boot_len (pa_cons (pv 1) pa_nil)) pe_int (nomark _)) (pw_or1 (pt_not (pt_val (pe_callB (k_all (K := K) rfl) (by rfl) Z.all boot_all (pa_cons (pe_lc (own := [("team", 2)]) (g := gName 2) rfl nd (k_tup (K := K) (pv 1)) (blkOk_by (N := N_is_game) (sc := defScope s_is_game) (by decide +kernel)) (fun _ _ _ _ _ => pg_name (i := 2) nd rfl (Or.inl rfl)) (fun _ _ _ _ _ => pts_nil) (fun _ _ _ _ _ => (pe_callD D_is_whole (hr.mono (by decide)) (pa_cons (pv 2) pa_nil)))) pa_nil))))))))
        (pss_one (ps_ret pe_bl))
        pss_nil)
      (pss_one (ps_ret (pe_and (pe_cmpR op_ne (pe_ix (k_ixT (K := K)) (pv 1) pe_int (fun _ _ => rfl)) (pe_ix (k_ixT (K := K)) (pv 1) pe_int (fun _ _ => rfl)) (nomark _)) (pe_and (pe_cmpR op_le pe_int (pe_callB (cr_minP rfl) (by rfl) Z.min boot_min (pa_cons (pv 1) pa_nil)) (nomark _)) (pe_one (pe_cmpR op_lt (pe_callB (cr_maxP rfl) (by rfl) Z.max boot_max (pa_cons (pv 1) pa_nil)) (pv 0) (nomark _)))))))), ?_⟩
    have non : d.isTup = false → gameD n d = false := fun h => by
      cases d with
      | tup l => cases h
      | none => rfl
      | int i => rfl
      | bl b => rfl
      | str b => rfl
      | lst l => rfl
      | dct => rfl
    by_cases ht : d.isTup = true
    · cases hd with
      | @tup t xs l hx p =>
        have ps := isDs_paired p
        have hl := paired_len ps
        have hlim' := hlim l rfl
        refine q_when (b := !true || (!decide ((l.length : Int) = 2) || !((l.map Dt.whole).all id))) (et_or (et_not (et_B (ev_cb (by tm_at "ev") (isi_tup hx)))) fun _ => et_or (et_test (ev_is (ev_op (ev_lenU (by tm_at "ev") (st_of hx)) (by tm_at "ev") (rv_ne rfl)) (by rw [hl]; simp))) fun _ => et_not (et_B (ev_allR (er_lcTP mono_V (f := Dt.whole) (by tm_at "ev") (st_of hx) ps (by omega) (fun x => rfl) fun x b _ hb => r_ev (v := .bl b.whole) (ev_call0 (by tm_at "ev") (use_wholeD hb)) rfl)))) (fun hb H1 e1 => s_ret (by tm_at "ev") fun H2 e2 => ?_) fun hb H1 e1 => ?_
        · rw [Bool.not_true, Bool.false_or] at hb
          rw [gameD_no hb] at q
          exact q H2 (e1.trans e2)
        · rw [Bool.not_true, Bool.false_or] at hb
          obtain ⟨a, b, rfl⟩ := two_ints hb
          cases p with
          | cons p1 p =>
            cases p with
            | cons p2 p =>
              cases p
              cases p1
              cases p2
              have hx1 := e1 t _ hx
              refine s_ret (v := .bl (!decide (a = b) && (decide (0 ≤ (if b < a then b else a)) && decide ((if b > a then b else a) < n)))) ?_ fun H2 e2 => q H2 (e1.trans e2)
              exact ev_andV (ev_is (ev_op (ev_ixT (by tm_at "ev") (st_of hx1) (by tm_at "ev") rfl) (ev_ixT (by tm_at "ev") (st_of hx1) (by tm_at "ev") rfl) (rv_ne rfl)) (by simp)) fun _ => ev_andV (ev_op (by tm_at "ev") (ev_cb (by tm_at "ev") (rc_minP hx1)) rv_I0) fun _ => ev_op (ev_cb (by tm_at "ev") (rc_maxP hx1)) (by tm_at "ev") rv_I0
      | none => cases ht
      | int i => cases ht
      | bl b => cases ht
      | str b => cases ht
      | lst h p => cases ht
      | dct h => cases ht
    · have hf : d.isTup = false := by simpa using ht
      refine q_when (b := !d.isTup || true) (et_or (et_not (et_B (ev_cb (by tm_at "ev") (isi_Dtup hd)))) fun h => by rw [hf] at h; cases h) (fun hb H1 e1 => s_ret (by tm_at "ev") fun H2 e2 => ?_) fun hb => ?_
      · rw [non hf] at q
        exact q H2 (e1.trans e2)
      · simp at hb
end


section
variable {P : Program} {w : World} {K : PySem.W.Frag} {mg : Str → Option Value} {base : Heap}
def rowBad (n : Int) : Dt → Bool | .lst r => r.any fun p => !gameD n p | _ => false
def planBad (n : Int) : Dt → Bool | .lst l => !(l.map Dt.isLst).all id || l.any (rowBad n) | _ => true
/-- what the model's line carries -/
def SzD : Dt → Prop
  | .lst l => l.length ≤ 100 ∧ ∀ r, .lst r ∈ l → r.length ≤ 100 ∧ ∀ p, .tup p ∈ r → p.length ≤ 100
  | _ => True
inductive BadCP (CT CP : Addr) (H : Hp) : List V → Addr → Prop
  | teams {v u : V} {d : Dt} (h : IsD H v d) (b : badTeams d = true) : BadCP CT CP H [v, u] CT
  | many {n : Int} {u : V} (hn : TeamsOk n) (b : 20 < n) : BadCP CT CP H [.int n, u] CT
  | plan {n : Int} {u : V} {d : Dt} (hn : TeamsOk n) (h2 : n ≤ 20) (h : IsD H u d) (hz : SzD d) (b : planBad n d = true) : BadCP CT CP H [.int n, u] CP
theorem badCP_mono {CT CP : Addr} {H H' : Hp} {vs : List V} {C : Addr} (e : Ex H H') (h : BadCP CT CP H vs C) : BadCP CT CP H' vs C := by
  cases h with
  | teams h b => exact .teams (isD_mono e h) b
  | many hn b => exact .many hn b
  | plan hn h2 h hz b => exact .plan hn h2 (isD_mono e h) hz b
def sx_check_plan (CT CP : Addr) : Sp := fun vs H _ E => ∃ C, BadCP CT CP H vs C ∧ Out C H E
theorem ux_check_plan {CT CP C : Addr} {H : Hp} {vs : List V} (h : BadCP CT CP H vs C) : SpX (sx_check_plan CT CP) vs H C := fun H1 e Q E o => ⟨C, badCP_mono e h, o⟩

theorem okx_check_plan {CT CP : Addr} (F : DAt K mg "check_plan" s_check_plan ["teams", "plan"]) (D_check_teams : DOk P w K mg base 2 "check_teams" ["teams"] sp_check_teams) (X_check_teams : XOk P w K mg base 2 "check_teams" ["teams"] (sx_check_teams CT)) (D_is_game : DOk P w K mg base 2 "is_game" ["teams", "thing"] sp_gameD)
    (R_BadTeams : ExR K mg "BadTeams" CT) (R_BadPlan : ExR K mg "BadPlan" CP) (Z : Zs mg) (Z2 : Zt mg) {tm : Tok} (hMOST : mg "MOST" = some (.int 20 tm)) : XOk P w K mg base 3 "check_plan" ["teams", "plan"] (sx_check_plan CT CP) := by
  have nd := sc_check_plan.nd
  refine F.okX sc_check_plan (fun vs H Q E h => ?_) (fun f cdv A outer s H vs Q E hr h => ?_)
  · obtain ⟨C, h, _⟩ := h
    cases h <;> rfl
  · obtain ⟨C, h, o⟩ := h
    cases h with
    | teams hd b =>
      refine ⟨_, (pss_cons (ps_expr (pe_callX X_check_teams (hr.mono (by decide)) (passes_call (takes_of rfl rfl rfl rfl) (fun _ _ _ _ h => h)) (pa_cons (pv 0) pa_nil)))
      (pss_cons (ps_if (pt_cmpR op_gt (pv 0) (pe_glob (v := .int 20) rfl hMOST ⟨_, rfl⟩) (nomark _))
        (pss_one (ps_raise rfl (takes_of rfl rfl rfl rfl) (pmk_own PySem.F.excBase_ValueError R_BadTeams.x R_BadTeams.g R_BadTeams.k (raises_own R_BadTeams.b R_BadTeams.t) rfl)))
        pss_nil)
      (pss_cons (ps_if (PW.pt (pw_or (pt_not (pt_val (pe_callB (k_isi (K := K)) (by rfl) Z.isinstance boot_isinstance (pa_cons (pv 1) (pa_cons (pe_bltn (v := .ty "list") (by rfl) Z2.list boot_list rfl) pa_nil))))) (pw_or1 (pt_not (pt_val (pe_callB (k_all (K := K) rfl) (by rfl) Z.all boot_all (pa_cons (pe_lc (own := [("pairs", 2)]) (g := gName 2) rfl nd (k_list (K := K) (pv 1)) (blkOk_by (N := N_check_plan) (sc := defScope s_check_plan) (by decide +kernel)) (fun _ _ _ _ _ => pg_name (i := 2) nd rfl (Or.inl rfl)) (fun _ _ _ _ _ => pts_nil) (fun _ _ _ _ _ => (pe_callB (k_isi (K := K)) (by rfl) Z.isinstance boot_isinstance (pa_cons (pv 2) (pa_cons (pe_bltn (v := .ty "list") (by rfl) Z2.list boot_list rfl) pa_nil))))) pa_nil)))))))
        (pss_one (ps_raise rfl (takes_of rfl rfl rfl rfl) (pmk_own PySem.F.excBase_ValueError R_BadPlan.x R_BadPlan.g R_BadPlan.k (raises_own R_BadPlan.b R_BadPlan.t) rfl)))
        pss_nil)
      (pss_one (ps_for (passes_of rfl) rfl (k_list (K := K) (pv 1)) (pg_name (i := 2) nd rfl (Or.inl rfl))
        (pss_one (ps_if (pt_not (pt_val (pe_callB (k_all (K := K) rfl) (by rfl) Z.all boot_all (pa_cons (pe_lc (own := [("pair", 3)]) (g := gName 3) rfl nd (k_list (K := K) (pv 2)) (blkOk_by (N := N_check_plan) (sc := defScope s_check_plan) (by decide +kernel)) (fun _ _ _ _ _ => pg_name (i := 3) nd rfl (Or.inl rfl)) (fun _ _ _ _ _ => pts_nil) (fun _ _ _ _ _ => (pe_callD D_is_game (hr.mono (by decide)) (pa_cons (pv 0) (pa_cons (pv 3) pa_nil))))) pa_nil))))
          (pss_one (ps_raise rfl (takes_of rfl rfl rfl rfl) (pmk_own PySem.F.excBase_ValueError R_BadPlan.x R_BadPlan.g R_BadPlan.k (raises_own R_BadPlan.b R_BadPlan.t) rfl)))
          pss_nil))))))), ?_⟩
      exact xq_drop (rx_call (by tm_at "ev") (ux_check_teams hd b)) o
    | many hn b =>
      refine ⟨_, (pss_cons (ps_expr (pe_callD D_check_teams (hr.mono (by decide)) (pa_cons (pv 0) pa_nil)))
      (pss_cons (ps_if (pt_cmpR op_gt (pv 0) (pe_glob (v := .int 20) rfl hMOST ⟨_, rfl⟩) (nomark _))
        (pss_one (ps_raise rfl (takes_of rfl rfl rfl rfl) (pmk_own PySem.F.excBase_ValueError R_BadTeams.x R_BadTeams.g R_BadTeams.k (raises_own R_BadTeams.b R_BadTeams.t) rfl)))
        pss_nil)
      (pss_cons (ps_if (PW.pt (pw_or (pt_not (pt_val (pe_callB (k_isi (K := K)) (by rfl) Z.isinstance boot_isinstance (pa_cons (pv 1) (pa_cons (pe_bltn (v := .ty "list") (by rfl) Z2.list boot_list rfl) pa_nil))))) (pw_or1 (pt_not (pt_val (pe_callB (k_all (K := K) rfl) (by rfl) Z.all boot_all (pa_cons (pe_lc (own := [("pairs", 2)]) (g := gName 2) rfl nd (k_list (K := K) (pv 1)) (blkOk_by (N := N_check_plan) (sc := defScope s_check_plan) (by decide +kernel)) (fun _ _ _ _ _ => pg_name (i := 2) nd rfl (Or.inl rfl)) (fun _ _ _ _ _ => pts_nil) (fun _ _ _ _ _ => (pe_callB (k_isi (K := K)) (by rfl) Z.isinstance boot_isinstance (pa_cons (pv 2) (pa_cons (pe_bltn (v := .ty "list") (by rfl) Z2.list boot_list rfl) pa_nil))))) pa_nil)))))))
        (pss_one (ps_raise rfl (takes_of rfl rfl rfl rfl) (pmk_own PySem.F.excBase_ValueError R_BadPlan.x R_BadPlan.g R_BadPlan.k (raises_own R_BadPlan.b R_BadPlan.t) rfl)))
        pss_nil)
      (pss_one (ps_for (passes_of rfl) rfl (k_list (K := K) (pv 1)) (pg_name (i := 2) nd rfl (Or.inl rfl))
        (pss_one (ps_if (pt_not (pt_val (pe_callB (k_all (K := K) rfl) (by rfl) Z.all boot_all (pa_cons (pe_lc (own := [("pair", 3)]) (g := gName 3) rfl nd (k_list (K := K) (pv 2)) (blkOk_by (N := N_check_plan) (sc := defScope s_check_plan) (by decide +kernel)) (fun _ _ _ _ _ => pg_name (i := 3) nd rfl (Or.inl rfl)) (fun _ _ _ _ _ => pts_nil) (fun _ _ _ _ _ => (pe_callD D_is_game (hr.mono (by decide)) (pa_cons (pv 0) (pa_cons (pv 3) pa_nil))))) pa_nil))))
          (pss_one (ps_raise rfl (takes_of rfl rfl rfl rfl) (pmk_own PySem.F.excBase_ValueError R_BadPlan.x R_BadPlan.g R_BadPlan.k (raises_own R_BadPlan.b R_BadPlan.t) rfl)))
          pss_nil))))))), ?_⟩
      refine q_drop (by tm_at "ev") fun H1 e1 => ?_
      refine q_when (by tm_at "ev") (fun _ H2 e2 => o H2 (e1.trans e2)) fun hb => ?_
      simp at hb
      omega
    | @plan n u d hn h2 hd hz b =>
      refine ⟨_, (pss_cons (ps_expr (pe_callD D_check_teams (hr.mono (by decide)) (pa_cons (pv 0) pa_nil)))
      (pss_cons (ps_if (pt_cmpR op_gt (pv 0) (pe_glob (v := .int 20) rfl hMOST ⟨_, rfl⟩) (nomark _))
        (pss_one (ps_raise rfl (takes_of rfl rfl rfl rfl) (pmk_own PySem.F.excBase_ValueError R_BadTeams.x R_BadTeams.g R_BadTeams.k (raises_own R_BadTeams.b R_BadTeams.t) rfl)))
        pss_nil)
      (pss_cons (ps_if (PW.pt (pw_or (pt_not (pt_val (pe_callB (k_isi (K := K)) (by rfl) Z.isinstance boot_isinstance (pa_cons (pv 1) (pa_cons (pe_bltn (v := .ty "list") (by rfl) Z2.list boot_list rfl) pa_nil))))) (pw_or1 (pt_not (pt_val (pe_callB (k_all (K := K) rfl) (by rfl) Z.all boot_all (pa_cons (pe_lc (own := [("pairs", 2)]) (g := gName 2) rfl nd (k_list (K := K) (pv 1)) (blkOk_by (N := N_check_plan) (sc := defScope s_check_plan) (by decide +kernel)) (fun _ _ _ _ _ => pg_name (i := 2) nd rfl (Or.inl rfl)) (fun _ _ _ _ _ => pts_nil) (fun _ _ _ _ _ => (pe_callB (k_isi (K := K)) (by rfl) Z.isinstance boot_isinstance (pa_cons (pv 2) (pa_cons (pe_bltn (v := .ty "list") (by rfl) Z2.list boot_list rfl) pa_nil))))) pa_nil)))))))
        (pss_one (ps_raise rfl (takes_of rfl rfl rfl rfl) (pmk_own PySem.F.excBase_ValueError R_BadPlan.x R_BadPlan.g R_BadPlan.k (raises_own R_BadPlan.b R_BadPlan.t) rfl)))
        pss_nil)
      (pss_one (ps_for (passes_of rfl) rfl (k_list (K := K) (pv 1)) (pg_name (i := 2) nd rfl (Or.inl rfl))
        (pss_one (ps_if (pt_not (pt_val (pe_callB (k_all (K := K) rfl) (by rfl) Z.all boot_all (pa_cons (pe_lc (own := [("pair", 3)]) (g := gName 3) rfl nd (k_list (K := K) (pv 2)) (blkOk_by (N := N_check_plan) (sc := defScope s_check_plan) (by decide +kernel)) (fun _ _ _ _ _ => pg_name (i := 3) nd rfl (Or.inl rfl)) (fun _ _ _ _ _ => pts_nil) (fun _ _ _ _ _ => (pe_callD D_is_game (hr.mono (by decide)) (pa_cons (pv 0) (pa_cons (pv 3) pa_nil))))) pa_nil))))
          (pss_one (ps_raise rfl (takes_of rfl rfl rfl rfl) (pmk_own PySem.F.excBase_ValueError R_BadPlan.x R_BadPlan.g R_BadPlan.k (raises_own R_BadPlan.b R_BadPlan.t) rfl)))
          pss_nil))))))), ?_⟩
      refine q_drop (by tm_at "ev") fun H1 e1 => ?_
      refine q_when (by tm_at "ev") (fun hb => ?_) fun _ H2 e2 => ?_
      · simp at hb
        omega
      have e12 := e1.trans e2
      have hd2 := isD_mono e12 hd
      by_cases hl : d.isLst = true
      · cases hd2 with
        | @lst a xs l hx p =>
          have ps := isDs_paired p
          have hlen := paired_len ps
          obtain ⟨z1, z2⟩ := hz
          refine q_when (b := !true || !(l.map Dt.isLst).all id) (et_or (et_not (et_B (ev_cb (by tm_at "ev") (isi_lst hx)))) fun _ => et_not (et_B (ev_allR (er_lcL1 mono_V (f := Dt.isLst) (by tm_at "ev") (sq_of hx) ps (by omega) (fun x => rfl) fun x b _ hb => r_ev (v := .bl b.isLst) (ev_cb (by tm_at "ev") (isi_Dlst hb)) rfl)))) (fun _ H3 e3 => o H3 (e12.trans e3)) fun hb H3 e3 => ?_
          rw [Bool.not_true, Bool.false_or, Bool.not_eq_false'] at hb
          have hb' : l.any (rowBad n) = true := by
            have : (!(l.map Dt.isLst).all id || l.any (rowBad n)) = true := b
            rw [hb] at this
            simpa using this
          refine s_forLn (by tm_at "ev") (sq_of (e3 a _ hx)) (fun i σ' H' => Ex H3 H' ∧ (∃ o2, σ' = [some (.int n), some (.ref a), o2, none]) ∧ ∀ r ∈ l.take i, rowBad n r = false) (fun H4 e4 => ⟨e4, ⟨_, rfl⟩, fun r hr => by simp at hr⟩) (fun i σ' H' _ h => sq_of (h.1 a _ (e3 a _ hx))) ?_ ?_
          · rintro i x σ' H' hxi ⟨e4, ⟨o2, rfl⟩, hbad⟩
            obtain ⟨r0, hr0, hrd⟩ := paired_at ps hxi
            have hm := List.mem_of_getElem? hr0
            have hrl : r0.isLst = true := by
              have := List.all_eq_true.mp hb (r0.isLst) (List.mem_map_of_mem hm)
              simpa using this
            have hrd4 := isD_mono (e3.trans e4) hrd
            cases hrd4 with
            | @lst ra ts r hra pr =>
              have prs := isDs_paired pr
              obtain ⟨y1, y2⟩ := z2 r hm
              refine s_when (b := !(r.map (gameD n)).all id) (et_not (et_B (ev_allR (er_lcL1 mono_V (f := gameD n) (by tm_at "ev") (sq_of hra) prs (by omega) ?_ fun x y hbm hy => ?_)))) (fun _ H5 e5 => ?_) fun hg H5 e5 => ?_
              · intro x
                rfl
              · exact r_ev (v := .bl (gameD n y)) (ev_call0 (by tm_at "ev") (use_gameD hy fun l0 e0 => y2 l0 (e0 ▸ hbm))) rfl
              · exact o H5 (((e12.trans e3).trans e4).trans e5)
              refine ⟨e4.trans e5, ⟨_, rfl⟩, fun q hq => ?_⟩
              rw [take_snoc hr0, List.mem_append] at hq
              rcases hq with hq | hq
              · exact hbad q hq
              · rw [List.mem_singleton.mp hq]
                show (r.any fun p => !gameD n p) = false
                rw [Bool.not_eq_false', List.all_map, List.all_eq_true] at hg
                rw [List.any_eq_false]
                intro y hy
                have := hg y hy
                simpa using this
            | none => cases hrl
            | int i => cases hrl
            | bl b => cases hrl
            | str b => cases hrl
            | tup h p => cases hrl
            | dct h => cases hrl
          · rintro σ' H' ⟨e4, _, hbad⟩
            rw [List.take_of_length_le (Nat.le_of_eq hlen.symm)] at hbad
            obtain ⟨r, hr, hrb⟩ := List.any_eq_true.mp hb'
            rw [hbad r hr] at hrb
            cases hrb
        | none => cases hl
        | int i => cases hl
        | bl b => cases hl
        | str b => cases hl
        | tup h p => cases hl
        | dct h => cases hl
      · have hf : d.isLst = false := by simpa using hl
        refine q_when (b := !d.isLst || true) (et_or (et_not (et_B (ev_cb (by tm_at "ev") (isi_Dlst hd2)))) fun h => by rw [hf] at h; cases h) (fun _ H3 e3 => o H3 (e12.trans e3)) fun hb => ?_
        simp at hb
end


section
variable {P : Program} {w : World} {K : PySem.W.Frag} {mg : Str → Option Value} {base : Heap}
abbrev s_judged : Stmt := top 35
abbrev N_judged : List Str := ["teams", "plan", "lone", "twice", "never"]
theorem sc_judged : FnScope N_judged ["teams", "plan"] (defScope s_judged) := ⟨rfl, rfl, rfl, by decide +kernel, rfl, by decide +kernel, by decide +kernel⟩
theorem okx_judged {CT CP : Addr} (F : DAt K mg "judged" s_judged ["teams", "plan"]) (X_check_plan : XOk P w K mg base 3 "check_plan" ["teams", "plan"] (sx_check_plan CT CP)) :
    XOk P w K mg base 4 "judged" ["teams", "plan"] (sx_check_plan CT CP) := by
  have nd := sc_judged.nd
  refine F.okX sc_judged (fun vs H Q E h => ?_) (fun f cdv A outer s H vs Q E hr h => ?_)
  · obtain ⟨C, h, _⟩ := h
    cases h <;> rfl
  · obtain ⟨C, h, o⟩ := h
    refine ⟨_, (pss_cons (ps_expr (pe_callX X_check_plan (hr.mono (by decide)) (passes_call (takes_of rfl rfl rfl rfl) (fun _ _ _ _ h => h)) (pa_cons (pv 0) (pa_cons (pv 1) pa_nil)))) (pss_cons ps_never (pss_cons ps_never (pss_cons ps_never (pss_cons ps_never (pss_cons ps_never (pss_one ps_never))))))), ?_⟩
    have l : vs.length = 2 := by cases h <;> rfl
    obtain ⟨a, b, rfl⟩ : ∃ a b, vs = [a, b] := by
      match vs, l with
      | [a, b], _ => exact ⟨a, b, rfl⟩
    exact xq_drop (rx_call (by tm_at "ev") (ux_check_plan h)) o
inductive BadBr (CT CP CG : Addr) (H : Hp) : List V → Addr → Prop
  | plan {vs : List V} {C : Addr} (h : BadCP CT CP H vs C) : BadBr CT CP CG H vs C
  | good {n : Int} {v : V} {plan : List (List (Int × Int))} (hn : TeamsOk n) (h2 : n ≤ 20) (hp : IsPlan H v plan) (hz : PlanSz plan) (hok : PlanOk n plan) (hg : goodM n plan = false) : BadBr CT CP CG H [.int n, v] CG
theorem badBr_mono {CT CP CG : Addr} {H H' : Hp} {vs : List V} {C : Addr} (e : Ex H H') (h : BadBr CT CP CG H vs C) : BadBr CT CP CG H' vs C := by
  cases h with
  | plan h => exact .plan (badCP_mono e h)
  | good hn h2 hp hz hok hg => exact .good hn h2 (mono_plan _ _ _ _ e hp) hz hok hg
def sx_breaks (CT CP CG : Addr) : Sp := fun vs H _ E => ∃ C, BadBr CT CP CG H vs C ∧ Out C H E
theorem ux_breaks {CT CP CG C : Addr} {H : Hp} {vs : List V} (h : BadBr CT CP CG H vs C) : SpX (sx_breaks CT CP CG) vs H C := fun H1 e Q E o => ⟨C, badBr_mono e h, o⟩
theorem okx_breaks {CT CP CN CG : Addr} (F : DAt K mg "breaks" s_breaks ["teams", "plan"]) (D_check_plan : DOk P w K mg base 3 "check_plan" ["teams", "plan"] sp_check_plan) (X_check_plan : XOk P w K mg base 3 "check_plan" ["teams", "plan"] (sx_check_plan CT CP)) (R_NotGood : ExR K mg "NotGood" CN) (M_Good : ClO K mg "Good" CG) (I_Good : Ini0 K CG)
    (D_Good_shows : MOk P w K mg base 3 CG "shows" ["self", "teams", "plan"] sp_Good_shows) (Z : Zs mg) (Z2 : Zt mg) : XOk P w K mg base 4 "breaks" ["teams", "plan"] (sx_breaks CT CP CN) := by
  have nd := sc_breaks.nd
  refine F.okX sc_breaks (fun vs H Q E h => ?_) (fun f cdv A outer s H vs Q E hr h => ?_)
  · obtain ⟨C, h, _⟩ := h
    cases h with
    | plan h => cases h <;> rfl
    | good => rfl
  · obtain ⟨C, h, o⟩ := h
    cases h with
    | plan h =>
      refine ⟨_, (pss_cons (ps_expr (pe_callX X_check_plan (hr.mono (by decide)) (passes_call (takes_of rfl rfl rfl rfl) (fun _ _ _ _ h => h)) (pa_cons (pv 0) (pa_cons (pv 1) pa_nil))))
      (pss_cons (ps_if (pt_not (pt_val (pe_methD (ht := mcall_of (abase_call (by decide)) (fun ov => rfl)) (pe_makeO M_Good I_Good) M_Good.cls D_Good_shows (hr.mono (by decide)) (pa_cons (pv 0) (pa_cons (pv 1) pa_nil)))))
        (pss_one (ps_raise rfl (takes_of rfl rfl rfl rfl) (pmk_own PySem.F.excBase_ValueError R_NotGood.x R_NotGood.g R_NotGood.k (raises_own R_NotGood.b R_NotGood.t) rfl)))
        pss_nil)
      (pss_cons (ps_setLc (i := 2) (own := [("pairs", 4)]) (g := gName 4) rfl nd rfl rfl (sw_true rfl rfl rfl (by decide +kernel)) (k_list (K := K) (pv 1)) (blkOk_by (N := N_breaks) (sc := defScope s_breaks) (by decide +kernel)) (fun _ _ _ _ _ => pg_name (i := 4) nd rfl (Or.inl rfl)) (fun _ _ _ _ _ => pts_nil) (fun _ _ _ _ _ => (pe_lc (own := [("pair", 3)]) (g := gName 3) rfl nd (k_list (K := K) (pv 4)) (blkOk_by (N := N_breaks) (sc := relS _ (defScope s_breaks)) (by decide +kernel)) (fun _ _ _ _ _ => pg_name (i := 3) nd rfl (Or.inl rfl)) (fun _ _ _ _ _ => pts_nil) (fun _ _ _ _ _ => (pe_ix (k_ixT (K := K)) (pv 3) pe_int (fun _ _ => rfl))))))
      (pss_cons (ps_set (i := 5) nd rfl (Or.inl rfl) (pe_lst pa_nil))
      (pss_cons (ps_for (passes_of rfl) rfl (pi_range2 rfl Z.range (pa_cons pe_int (pa_cons (pe_callB (k_len (K := K)) (by rfl) Z.len boot_len (pa_cons (pv 1) pa_nil)) pa_nil))) (pg_name (i := 6) nd rfl (Or.inl rfl))
        (pss_one (ps_for (passes_of rfl) rfl (pi_range1 rfl Z.range (pa_cons (pv 0) pa_nil)) (pg_name (i := 7) nd rfl (Or.inl rfl))
          (pss_one (ps_if (pt_cmpR op_eq (pe_cmpR (k_in (K := K)) (pv 7) (pe_ix (k_ixL (K := K)) (pv 2) (pe_op op_sub (pv 6) pe_int) (fun _ _ => rfl)) (by rfl)) (pe_cmpR (k_in (K := K)) (pv 7) (pe_ix (k_ixL (K := K)) (pv 2) (pv 6) (fun _ _ => rfl)) (by rfl)) (nomark _))
            (pss_one (ps_expr (pe_bm PySem.F.plainAttrs_list PySem.F.slot_list_append PySem.F.type_list_append mt_append (pv 5) (pa_cons (pe_tup (pa_cons (pv 6) (pa_cons (pv 7) pa_nil))) pa_nil))))
            pss_nil)))))
      (pss_one (ps_ret (pv 5)))))))), ?_⟩
      have l : vs.length = 2 := by cases h <;> rfl
      obtain ⟨a, b, rfl⟩ : ∃ a b, vs = [a, b] := by
        match vs, l with
        | [a, b], _ => exact ⟨a, b, rfl⟩
      exact xq_drop (rx_call (by tm_at "ev") (ux_check_plan h)) o
    | @good n v plan hn hn2 hp hz hok hg =>
      refine ⟨_, (pss_cons (ps_expr (pe_callD D_check_plan (hr.mono (by decide)) (pa_cons (pv 0) (pa_cons (pv 1) pa_nil))))
      (pss_cons (ps_if (pt_not (pt_val (pe_methD (ht := mcall_of (abase_call (by decide)) (fun ov => rfl)) (pe_makeO M_Good I_Good) M_Good.cls D_Good_shows (hr.mono (by decide)) (pa_cons (pv 0) (pa_cons (pv 1) pa_nil)))))
        (pss_one (ps_raise rfl (takes_of rfl rfl rfl rfl) (pmk_own PySem.F.excBase_ValueError R_NotGood.x R_NotGood.g R_NotGood.k (raises_own R_NotGood.b R_NotGood.t) rfl)))
        pss_nil)
      (pss_cons (ps_setLc (i := 2) (own := [("pairs", 4)]) (g := gName 4) rfl nd rfl rfl (sw_true rfl rfl rfl (by decide +kernel)) (k_list (K := K) (pv 1)) (blkOk_by (N := N_breaks) (sc := defScope s_breaks) (by decide +kernel)) (fun _ _ _ _ _ => pg_name (i := 4) nd rfl (Or.inl rfl)) (fun _ _ _ _ _ => pts_nil) (fun _ _ _ _ _ => (pe_lc (own := [("pair", 3)]) (g := gName 3) rfl nd (k_list (K := K) (pv 4)) (blkOk_by (N := N_breaks) (sc := relS _ (defScope s_breaks)) (by decide +kernel)) (fun _ _ _ _ _ => pg_name (i := 3) nd rfl (Or.inl rfl)) (fun _ _ _ _ _ => pts_nil) (fun _ _ _ _ _ => (pe_ix (k_ixT (K := K)) (pv 3) pe_int (fun _ _ => rfl))))))
      (pss_cons (ps_set (i := 5) nd rfl (Or.inl rfl) (pe_lst pa_nil))
      (pss_cons (ps_for (passes_of rfl) rfl (pi_range2 rfl Z.range (pa_cons pe_int (pa_cons (pe_callB (k_len (K := K)) (by rfl) Z.len boot_len (pa_cons (pv 1) pa_nil)) pa_nil))) (pg_name (i := 6) nd rfl (Or.inl rfl))
        (pss_one (ps_for (passes_of rfl) rfl (pi_range1 rfl Z.range (pa_cons (pv 0) pa_nil)) (pg_name (i := 7) nd rfl (Or.inl rfl))
          (pss_one (ps_if (pt_cmpR op_eq (pe_cmpR (k_in (K := K)) (pv 7) (pe_ix (k_ixL (K := K)) (pv 2) (pe_op op_sub (pv 6) pe_int) (fun _ _ => rfl)) (by rfl)) (pe_cmpR (k_in (K := K)) (pv 7) (pe_ix (k_ixL (K := K)) (pv 2) (pv 6) (fun _ _ => rfl)) (by rfl)) (nomark _))
            (pss_one (ps_expr (pe_bm PySem.F.plainAttrs_list PySem.F.slot_list_append PySem.F.type_list_append mt_append (pv 5) (pa_cons (pe_tup (pa_cons (pv 6) (pa_cons (pv 7) pa_nil))) pa_nil))))
            pss_nil)))))
      (pss_one (ps_ret (pv 5)))))))), ?_⟩
      have h2n := hn.1
      refine q_drop (ev_call0 (by tm_at "ev") (use_check_plan hn hn2 hp hz hok)) fun H1 e1 => ?_
      have hp1 := mono_plan _ _ _ _ e1 hp
      refine q_when (b := !(showsGood n plan)) (et_not (et_B (ev_methO (by tm_at "ev") fun u H2 e2 Q q _ => ⟨n, u, _, plan, rfl, h2n, by omega, mono_plan _ _ _ _ e2 hp1, hz, q⟩))) (fun _ H2 e2 => o H2 (e1.trans e2)) fun hb => ?_
      rw [good_shows hn hok, hg] at hb
      cases hb
end


section
variable {P : Program} {w : World} {K : PySem.W.Frag} {mg : Str → Option Value} {base : Heap}
/-! ### the law's own readers and draws -/
def cellM (ns : List Int) (k : Int) : Int := ns.getD k.toNat 0
def primesM : List Int := [1000003, 1000033, 1000037, 1000039, 1000081, 1000099, 1000117, 1000121, 1000133, 1000151, 1000159, 1000171, 1000183, 1000187, 1000193, 1000199]
def primeM (k : Int) : Int := primesM.getD (k % 16).toNat 0
theorem primeM_pos (k : Int) : 0 < primeM k := by
  have h : ∀ i : Nat, i < 16 → 0 < primesM.getD i 0 := by decide
  exact h _ (by omega)
def drawM (c k m : Int) : Int := (c * 48271 + k * 69621) % primeM k % m
theorem drawM_ok {c k m : Int} (h : 0 < m) : 0 ≤ drawM c k m ∧ drawM c k m < m := ⟨Int.emod_nonneg _ (by omega), Int.emod_lt_of_pos _ h⟩
def tab4M (k : Int) : Int := [1, 7, 49, 343].getD (k % 4).toNat 0
theorem tab4M_ok (k : Int) : 0 < tab4M k ∧ tab4M k < 1000 := by
  have h : ∀ i : Nat, i < 4 → 0 < ([1, 7, 49, 343] : List Int).getD i 0 ∧ ([1, 7, 49, 343] : List Int).getD i 0 < 1000 := by decide
  exact h _ (by omega)
def valueM (c k lim : Int) : Int := if c ≥ 10 ^ 18 then (c - 10 ^ 18) / tab4M k % 10 ^ 40 else drawM ((c + 977 * k) * (c + 31 * k + 5)) (k % 9 + 1) lim
theorem valueM_ok {c k lim : Int} (h : 0 < lim) (h2 : lim ≤ 10 ^ 40) : 0 ≤ valueM c k lim ∧ valueM c k lim < 10 ^ 40 := by
  unfold valueM
  split
  · exact ⟨Int.emod_nonneg _ (by decide), Int.emod_lt_of_pos _ (by decide)⟩
  · have := drawM_ok (c := (c + 977 * k) * (c + 31 * k + 5)) (k := k % 9 + 1) h
    omega
theorem ten40 : (0 : Int) < 10 ^ 40 := by decide
theorem ten18 : (0 : Int) < 10 ^ 18 := by decide
theorem cellM_bits {ns : List Int} (h : ∀ z ∈ ns, BitsOk z) (k : Int) : BitsOk (cellM ns k) := by
  unfold cellM
  rw [List.getD_eq_getElem?_getD]
  cases e : ns[k.toNat]? with
  | none => exact (by unfold BitsOk; decide : BitsOk 0)
  | some z => exact h z (List.mem_of_getElem? e)
abbrev s__law_cell_at : Stmt := top 38
abbrev N__law_cell_at : List Str := ["_law_script", "_law_k"]
theorem sc__law_cell_at : FnScope N__law_cell_at ["_law_script", "_law_k"] (defScope s__law_cell_at) := ⟨rfl, rfl, rfl, by decide +kernel, rfl, by decide +kernel, by decide +kernel⟩
def sp_cell (K : PySem.W.Frag) : Sp := fun vs H Q _ => ∃ (a : Addr) (ns : List Int) (k : Int), vs = [.ref a, .int k] ∧ SqL K H a (ns.map V.int) ∧ 0 ≤ k ∧ RetV (.int (cellM ns k)) H Q
theorem use_cell {H : Hp} {a : Addr} {ns : List Int} {k : Int} (h : SqL K H a (ns.map V.int)) (h0 : 0 ≤ k) : SpV (sp_cell K) [.ref a, .int k] H (.int (cellM ns k)) := fun H1 e Q q _ => ⟨a, ns, k, rfl, ex_l e h, h0, q⟩
theorem ok_cell (F : DAt K mg "_law_cell_at" s__law_cell_at ["_law_script", "_law_k"]) (Z : Zs mg) : DOk P w K mg base 1 "_law_cell_at" ["_law_script", "_law_k"] (sp_cell K) := by
  have nd := sc__law_cell_at.nd
  refine F.ok sc__law_cell_at (fun vs H Q E h => ?_) (fun f cdv A outer s H vs Q E hr h => ?_)
  · obtain ⟨a, ns, k, rfl, _⟩ := h
    rfl
  · obtain ⟨a, ns, k, rfl, hs, h0, q⟩ := h
    refine ⟨_, (pss_cons (ps_if (pt_cmpR op_lt (pv 1) (pe_callB (k_len (K := K)) (by rfl) Z.len boot_len (pa_cons (pv 0) pa_nil)) (nomark _))
        (pss_one (ps_ret (pe_ix (k_ixL (K := K)) (pv 0) (pv 1) (fun _ _ => rfl))))
        pss_nil)
      (pss_one (ps_ret pe_int))), ?_⟩
    refine q_when (et_test (ev_op (by tm_at "ev") (ev_len (by tm_at "ev") hs) (by tm_at "ev"))) (fun hb H2 e2 => ?_) fun hb H2 e2 => s_ret (by tm_at "ev") fun H3 e3 => ?_
    · simp at hb
      refine s_ret (ev_ixL (by tm_at "ev") (ex_l e2 hs) (by tm_at "ev") (atI_ints (l := ns) h0 hb)) fun H3 e3 => ?_
      exact q H3 (e2.trans e3)
    · simp at hb
      have e : cellM ns k = 0 := by
        unfold cellM
        rw [List.getD_eq_getElem?_getD, List.getElem?_eq_none (by omega)]
        rfl
      rw [e] at q
      exact q H3 (e2.trans e3)

abbrev s__law_draw : Stmt := top 39
abbrev N__law_draw : List Str := ["_law_cell", "_law_k", "_law_many", "_law_primes"]
theorem sc__law_draw : FnScope N__law_draw ["_law_cell", "_law_k", "_law_many"] (defScope s__law_draw) := ⟨rfl, rfl, rfl, by decide +kernel, rfl, by decide +kernel, by decide +kernel⟩
def sp_draw : Sp := fun vs H Q _ => ∃ c k m : Int, vs = [.int c, .int k, .int m] ∧ 0 < m ∧ RetV (.int (drawM c k m)) H Q
theorem use_draw {H : Hp} {c k m : Int} (h : 0 < m) : SpV sp_draw [.int c, .int k, .int m] H (.int (drawM c k m)) := fun H1 e Q q _ => ⟨c, k, m, rfl, h, q⟩
theorem ok_draw (F : DAt K mg "_law_draw" s__law_draw ["_law_cell", "_law_k", "_law_many"]) : DOk P w K mg base 1 "_law_draw" ["_law_cell", "_law_k", "_law_many"] sp_draw := by
  have nd := sc__law_draw.nd
  refine F.ok sc__law_draw (fun vs H Q E h => ?_) (fun f cdv A outer s H vs Q E hr h => ?_)
  · obtain ⟨c, k, m, rfl, _⟩ := h
    rfl
  · obtain ⟨c, k, m, rfl, h0, q⟩ := h
    have m1 : IntMulOk c 48271 := mul_small_r (by decide) (by decide)
    have m2 : IntMulOk k 69621 := mul_small_r (by decide) (by decide)
    have p0 := primeM_pos k
    have i0 : 0 ≤ k % 16 := by omega
    have i1 : k % 16 < ((primesM.length : Nat) : Int) := by show k % 16 < 16; omega
    refine ⟨_, (pss_cons (ps_set (i := 3) nd rfl (Or.inl rfl) (pe_tup (pa_cons pe_int (pa_cons pe_int (pa_cons pe_int (pa_cons pe_int (pa_cons pe_int (pa_cons pe_int (pa_cons pe_int (pa_cons pe_int (pa_cons pe_int (pa_cons pe_int (pa_cons pe_int (pa_cons pe_int (pa_cons pe_int (pa_cons pe_int (pa_cons pe_int (pa_cons pe_int pa_nil))))))))))))))))))
      (pss_one (ps_ret (pe_op op_mod (pe_op op_mod (pe_op op_add (pe_op op_mulB (pv 0) pe_int) (pe_op op_mulB (pv 1) pe_int)) (pe_ix (k_ixT (K := K)) (pv 3) (pe_op op_mod (pv 1) pe_int) (fun _ _ => rfl))) (pv 2))))), ?_⟩
    refine q_asgU (xs := primesM.map V.int) (eu_tup (ea_is (by tm_at "ev") (by rfl)) (by show 16 ≤ 100000; decide)) fun p H1 hp e1 h1 => ?_
    have ix : Ev (tOp (rIxT K) (tVar 3) (tOp (rI (fun _ j => 0 < j) fun i j => .int (i % j)) (tVar 1) (tC (.int 16)))) ([some (.int c), some (.int k), some (.int m), some (.ref p)] : L2.St) H1 (.int (primeM k)) := ev_ixT (by tm_at "ev") (st_of h1) (by tm_at "ev") (atI_ints i0 i1)
    refine s_ret (v := .int (drawM c k m)) ?_ fun H2 e2 => q H2 (e1.trans e2)
    exact ev_op (ev_op (by tm_at "ev") ix (rv_I p0)) (by tm_at "ev") (rv_I h0)
local macro_rules | `(tactic| tm_at "sp") => `(tactic| ((with_reducible apply use_draw) <;> tm_at "sd"))

abbrev s__law_value : Stmt := top 40
abbrev N__law_value : List Str := ["_law_cell", "_law_k", "_law_limit"]
theorem sc__law_value : FnScope N__law_value ["_law_cell", "_law_k", "_law_limit"] (defScope s__law_value) := ⟨rfl, rfl, rfl, by decide +kernel, rfl, by decide +kernel, by decide +kernel⟩
def sp_value : Sp := fun vs H Q _ => ∃ c k m : Int, vs = [.int c, .int k, .int m] ∧ BitsOk c ∧ 0 ≤ k ∧ k ≤ 1000 ∧ 0 < m ∧ RetV (.int (valueM c k m)) H Q
theorem use_value {H : Hp} {c k m : Int} (h1 : BitsOk c) (h2 : 0 ≤ k) (h3 : k ≤ 1000) (h4 : 0 < m) : SpV sp_value [.int c, .int k, .int m] H (.int (valueM c k m)) := fun H1 e Q q _ => ⟨c, k, m, rfl, h1, h2, h3, h4, q⟩
theorem ok_value (F : DAt K mg "_law_value" s__law_value ["_law_cell", "_law_k", "_law_limit"]) (D__law_draw : DOk P w K mg base 1 "_law_draw" ["_law_cell", "_law_k", "_law_many"] sp_draw) : DOk P w K mg base 2 "_law_value" ["_law_cell", "_law_k", "_law_limit"] sp_value := by
  have nd := sc__law_value.nd
  refine F.ok sc__law_value (fun vs H Q E h => ?_) (fun f cdv A outer s H vs Q E hr h => ?_)
  · obtain ⟨c, k, m, rfl, _⟩ := h
    rfl
  · obtain ⟨c, k, m, rfl, h1, h2, h3, h4, q⟩ := h
    have m0 : IntMulOk (c + 977 * k) (c + 31 * k + 5) := mul_cell h1 h2 h3
    have m1 : IntMulOk 977 k := mul_small_l (by decide) (by decide)
    have m2 : IntMulOk 31 k := mul_small_l (by decide) (by decide)
    have t4 := tab4M_ok k
    have i0 : 0 ≤ k % 4 := by omega
    have i1 : k % 4 < ((([1, 7, 49, 343] : List Int).length : Nat) : Int) := by show k % 4 < 4; omega
    refine ⟨_, (pss_cons (ps_if (pt_cmpR op_ge (pv 0) (pe_op op_pow pe_int pe_int) (nomark _))
        (pss_one (ps_ret (pe_op op_mod (pe_op op_fdiv (pe_op op_sub (pv 0) (pe_op op_pow pe_int pe_int)) (pe_ix (k_ixT (K := K)) (pe_tup (pa_cons pe_int (pa_cons pe_int (pa_cons pe_int (pa_cons pe_int pa_nil))))) (pe_op op_mod (pv 1) pe_int) (fun _ _ => rfl))) (pe_op op_pow pe_int pe_int))))
        pss_nil)
      (pss_one (ps_ret (pe_callD D__law_draw (hr.mono (by decide)) (pa_cons (pe_op op_mulB (pe_op op_add (pv 0) (pe_op op_mulB pe_int (pv 1))) (pe_op op_add (pe_op op_add (pv 0) (pe_op op_mulB pe_int (pv 1))) pe_int)) (pa_cons (pe_op op_add (pe_op op_mod (pv 1) pe_int) pe_int) (pa_cons (pv 2) pa_nil))))))), ?_⟩
    unfold valueM at q
    refine q_when (b := decide (10 ^ 18 ≤ c)) (by tm_at "ev") (fun hb H2 e2 => ?_) fun hb H2 e2 => s_ret (by tm_at "ev") fun H3 e3 => ?_
    · rw [decide_eq_true_eq] at hb
      rw [if_pos hb] at q
      have ix : ∀ H', Ev (tOp (rIxT K) (tTup (tCons (tC (.int 1)) (tCons (tC (.int 7)) (tCons (tC (.int 49)) (tCons (tC (.int 343)) tNil))))) (tOp (rI (fun _ j => 0 < j) fun i j => .int (i % j)) (tVar 1) (tC (.int 4)))) ([some (.int c), some (.int k), some (.int m)] : L2.St) H' (.int (tab4M k)) := fun H' =>
        ev_ixU (xs := ([1, 7, 49, 343] : List Int).map V.int) (eu_tup (ea_is (by tm_at "ev") (by rfl)) (by show 4 ≤ 100000; decide)) (by tm_at "ev") (atI_ints i0 i1)
      refine s_ret (v := .int ((c - 10 ^ 18) / tab4M k % 10 ^ 40)) ?_ fun H3 e3 => q H3 (e2.trans e3)
      exact ev_op (ev_op (by tm_at "ev") (ix _) (rv_I ⟨t4.1, by omega⟩)) (by tm_at "ev") (rv_I ten40)
    · rw [decide_eq_false_iff_not] at hb
      rw [if_neg hb] at q
      exact q H3 (e2.trans e3)
end

local macro_rules | `(tactic| tm_at "sp") => `(tactic| ((with_reducible apply use_draw) <;> tm_at "sd"))
section
variable {P : Program} {w : World} {K : PySem.W.Frag} {mg : Str → Option Value} {base : Heap}
def tabTM (j : Int) : Int := [4, 15, 900, 10 ^ 40].getD j.toNat 0
theorem tabTM_ok {j : Int} (h : 0 ≤ j) (h2 : j < 4) : 0 < tabTM j ∧ tabTM j ≤ 10 ^ 40 := by
  have h : ∀ i : Nat, i < 4 → 0 < ([4, 15, 900, 10 ^ 40] : List Int).getD i 0 ∧ ([4, 15, 900, 10 ^ 40] : List Int).getD i 0 ≤ 10 ^ 40 := by decide
  exact h _ (by omega)
def teamsM (ns : List Int) (k : Int) : Int := 2 + 2 * (valueM (cellM ns k) (k + 2) 900000 % tabTM (drawM (cellM ns k % 10 ^ 18 + 31 * k) 6 4))
theorem teamsM_ok (ns : List Int) (k : Int) : TeamsOk (teamsM ns k) ∧ teamsM ns k < 2 ^ 200 := by
  have h1 := drawM_ok (c := cellM ns k % 10 ^ 18 + 31 * k) (k := 6) (m := 4) (by decide)
  have h2 := tabTM_ok h1.1 h1.2
  have h3 := Int.emod_nonneg (valueM (cellM ns k) (k + 2) 900000) (b := tabTM (drawM (cellM ns k % 10 ^ 18 + 31 * k) 6 4)) (by omega)
  have h4 := Int.emod_lt_of_pos (valueM (cellM ns k) (k + 2) 900000) h2.1
  have e : (10 : Int) ^ 40 < 2 ^ 190 := by decide
  have e2 : (2 : Int) + 2 * 2 ^ 190 < 2 ^ 200 := by decide
  unfold TeamsOk teamsM
  generalize valueM (cellM ns k) (k + 2) 900000 % tabTM (drawM (cellM ns k % 10 ^ 18 + 31 * k) 6 4) = z at *
  generalize tabTM (drawM (cellM ns k % 10 ^ 18 + 31 * k) 6 4) = y at *
  generalize (10 : Int) ^ 40 = a at *
  generalize (2 : Int) ^ 190 = b at *
  generalize (2 : Int) ^ 200 = c at *
  omega

abbrev s__law_teams : Stmt := top 41
abbrev N__law_teams : List Str := ["_law_script", "_law_k", "_law_drawn"]
theorem sc__law_teams : FnScope N__law_teams ["_law_script", "_law_k"] (defScope s__law_teams) := ⟨rfl, rfl, rfl, by decide +kernel, rfl, by decide +kernel, by decide +kernel⟩
def sp_teams (K : PySem.W.Frag) : Sp := fun vs H Q _ => ∃ (a : Addr) (ns : List Int) (k : Int), vs = [.ref a, .int k] ∧ SqL K H a (ns.map V.int) ∧ (∀ z ∈ ns, BitsOk z) ∧ 0 ≤ k ∧ k ≤ 100 ∧ RetV (.int (teamsM ns k)) H Q
theorem use_teams {H : Hp} {a : Addr} {ns : List Int} {k : Int} (h : SqL K H a (ns.map V.int)) (hb : ∀ z ∈ ns, BitsOk z) (h0 : 0 ≤ k) (h1 : k ≤ 100) : SpV (sp_teams K) [.ref a, .int k] H (.int (teamsM ns k)) := fun H1 e Q q _ => ⟨a, ns, k, rfl, ex_l e h, hb, h0, h1, q⟩
theorem ok_teams (F : DAt K mg "_law_teams" s__law_teams ["_law_script", "_law_k"]) (D__law_cell_at : DOk P w K mg base 1 "_law_cell_at" ["_law_script", "_law_k"] (sp_cell K)) (D__law_draw : DOk P w K mg base 1 "_law_draw" ["_law_cell", "_law_k", "_law_many"] sp_draw)
    (D__law_value : DOk P w K mg base 2 "_law_value" ["_law_cell", "_law_k", "_law_limit"] sp_value) : DOk P w K mg base 3 "_law_teams" ["_law_script", "_law_k"] (sp_teams K) := by
  have nd := sc__law_teams.nd
  refine F.ok sc__law_teams (fun vs H Q E h => ?_) (fun f cdv A outer s H vs Q E hr h => ?_)
  · obtain ⟨a, ns, k, rfl, _⟩ := h
    rfl
  · obtain ⟨a, ns, k, rfl, hs, hbits, h0, h1, q⟩ := h
    have cb := cellM_bits hbits k
    have m2 : IntMulOk 31 k := mul_small_l (by decide) (by decide)
    have d1 := drawM_ok (c := cellM ns k % 10 ^ 18 + 31 * k) (k := 6) (m := 4) (by decide)
    have t4 := tabTM_ok d1.1 d1.2
    have mz : ∀ z, IntMulOk 2 z := fun z => mul_small_l (by decide) (by decide)
    refine ⟨_, (pss_cons (ps_set (i := 2) nd rfl (Or.inl rfl) (pe_callD D__law_value (hr.mono (by decide)) (pa_cons (pe_callD D__law_cell_at (hr.mono (by decide)) (pa_cons (pv 0) (pa_cons (pv 1) pa_nil))) (pa_cons (pe_op op_add (pv 1) pe_int) (pa_cons pe_int pa_nil)))))
      (pss_one (ps_ret (pe_op op_add pe_int (pe_op op_mulB pe_int (pe_op op_mod (pv 2) (pe_ix (k_ixT (K := K)) (pe_tup (pa_cons pe_int (pa_cons pe_int (pa_cons pe_int (pa_cons (pe_op op_pow pe_int pe_int) pa_nil))))) (pe_callD D__law_draw (hr.mono (by decide)) (pa_cons (pe_op op_add (pe_op op_mod (pe_callD D__law_cell_at (hr.mono (by decide)) (pa_cons (pv 0) (pa_cons (pv 1) pa_nil))) (pe_op op_pow pe_int pe_int)) (pe_op op_mulB pe_int (pv 1))) (pa_cons pe_int (pa_cons pe_int pa_nil)))) (fun _ _ => rfl)))))))), ?_⟩
    have cell : ∀ H' σ, SqL K H' a (ns.map V.int) → σ[0]? = some (some (.ref a)) → σ[1]? = some (some (.int k)) → Ev (tCall (sp_cell K) [] E0 (tCons (tVar 0) (tCons (tVar 1) tNil))) σ H' (.int (cellM ns k)) := fun H' σ hs a0 a1 =>
      ev_call0 (ea_cons (ev_var a0) (ea_cons (ev_var a1) ea_nil)) (use_cell hs h0)
    refine q_asg (v := .int (valueM (cellM ns k) (k + 2) 900000)) (ev_call0 (ea_cons (cell H _ hs rfl rfl) (by tm_at "ev")) (use_value cb (by omega) (by omega) (by decide))) fun H1 e1 => ?_
    have hs1 := ex_l e1 hs
    refine s_ret (v := .int (teamsM ns k)) ?_ fun H2 e2 => q H2 (e1.trans e2)
    have dr : Ev (tCall sp_draw [] E0 (tCons (tOp (rI0 fun i j => .int (i + j)) (tOp (rI (fun _ j => 0 < j) fun i j => .int (i % j)) (tCall (sp_cell K) [] E0 (tCons (tVar 0) (tCons (tVar 1) tNil))) (tOp (rI CPow fun i j => .int (i ^ j.toNat)) (tC (.int 10)) (tC (.int 18)))) (tOp (rI IntMulOk fun i j => .int (i * j)) (tC (.int 31)) (tVar 1))) (tCons (tC (.int 6)) (tCons (tC (.int 4)) tNil))))
        ([some (.ref a), some (.int k), some (.int (valueM (cellM ns k) (k + 2) 900000))] : L2.St) H1 (.int (drawM (cellM ns k % 10 ^ 18 + 31 * k) 6 4)) := by
      refine ev_call0 (ea_cons (ev_op (x := .int (cellM ns k % 10 ^ 18)) (y := .int (31 * k)) (ev_op (cell H1 _ hs1 rfl rfl) (by tm_at "ev") (rv_I ten18)) (by tm_at "ev") rv_I0) (by tm_at "ev")) (use_draw (by decide))
    refine ev_op ev_c (ev_op ev_c (ev_op (by tm_at "ev") (y := .int (tabTM (drawM (cellM ns k % 10 ^ 18 + 31 * k) 6 4))) (ev_ixU (xs := ([4, 15, 900, 10 ^ 40] : List Int).map V.int) (eu_tup ?_ (by show 4 ≤ 100000; decide)) dr (atI_ints d1.1 (by show _ < (4 : Int); omega))) (rv_I t4.1)) (rv_I (mz _))) rv_I0
    exact ea_cons ev_c (ea_cons ev_c (ea_cons ev_c (ea_cons (by tm_at "ev") ea_nil)))
end


section
variable {P : Program} {w : World} {K : PySem.W.Frag} {mg : Str → Option Value} {base : Heap}
abbrev s__law_plan : Stmt := top 42
abbrev N__law_plan : List Str := ["_law_teams_here", "_law_found", "_law_number", "_law_pairs", "_law_team"]
theorem sc__law_plan : FnScope N__law_plan ["_law_teams_here"] (defScope s__law_plan) := ⟨rfl, rfl, rfl, by decide +kernel, rfl, by decide +kernel, by decide +kernel⟩
def sp_plan : Sp := fun vs H Q _ => ∃ n : Int, vs = [.int n] ∧ TeamsOk n ∧ n ≤ 100 ∧ RetN IsPlan (planM n) H Q
theorem use_plan {H : Hp} {n : Int} (h1 : TeamsOk n) (h2 : n ≤ 100) : SpN sp_plan [.int n] H IsPlan (planM n) := fun H1 e Q q _ => ⟨n, rfl, h1, h2, q⟩
theorem ok_plan (F : DAt K mg "_law_plan" s__law_plan ["_law_teams_here"]) (D_at_home : DOk P w K mg base 4 "at_home" ["teams", "team", "number"] sp_at_home) (D_opponent : DOk P w K mg base 4 "opponent" ["teams", "team", "number"] sp_opponent) (Z : Zs mg) :
    DOk P w K mg base 5 "_law_plan" ["_law_teams_here"] sp_plan := by
  have nd := sc__law_plan.nd
  refine F.ok sc__law_plan (fun vs H Q E h => ?_) (fun f cdv A outer s H vs Q E hr h => ?_)
  · obtain ⟨n, rfl, _⟩ := h
    rfl
  · obtain ⟨n, rfl, h1, h2, q⟩ := h
    have hu := hu_of hr
    have n2 := h1.1
    refine ⟨_, (pss_cons (ps_set (i := 1) nd rfl (Or.inl rfl) (pe_lst pa_nil))
      (pss_cons (ps_for PassesOwn.never rfl (pi_range1 rfl Z.range (pa_cons (pe_op op_sub (pv 0) pe_int) pa_nil)) (pg_name (i := 2) nd rfl (Or.inl rfl))
        (pss_cons (ps_set (i := 3) nd rfl (Or.inl rfl) (pe_lst pa_nil))
        (pss_cons (ps_for PassesOwn.never rfl (pi_range1 rfl Z.range (pa_cons (pv 0) pa_nil)) (pg_name (i := 4) nd rfl (Or.inl rfl))
          (pss_one (ps_if (pt_val (pe_callD D_at_home (hr.mono (by decide)) (pa_cons (pv 0) (pa_cons (pv 4) (pa_cons (pv 2) pa_nil)))))
            (pss_one (ps_expr (pe_bm PySem.F.plainAttrs_list PySem.F.slot_list_append PySem.F.type_list_append mt_append (pv 3) (pa_cons (pe_tup (pa_cons (pv 4) (pa_cons (pe_callD D_opponent (hr.mono (by decide)) (pa_cons (pv 0) (pa_cons (pv 4) (pa_cons (pv 2) pa_nil)))) pa_nil))) pa_nil))))
            pss_nil)))
        (pss_one (ps_expr (pe_bm PySem.F.plainAttrs_list PySem.F.slot_list_append PySem.F.type_list_append mt_append (pv 1) (pa_cons (pv 3) pa_nil)))))))
      (pss_one (ps_ret (pv 1))))), ?_⟩
    refine q_asgL (el_lst ea_nil (by show 0 ≤ 100000; decide)) fun F H0 hF e0 h0 => ?_
    refine q_forR1 (n := n - 1) (by tm_at "ev") ⟨by omega, by omega⟩ (fun i σ' H' => ∃ o2 o3 o4, σ' = [some (.int n), some (.ref F), o2, o3, o4] ∧ Grown IsRow Void H F (((irange (n - 1)).take i).map (rowM (homeM n) (oppM n) n)) H')
      (fun H1 e1 => ⟨none, none, none, rfl, grown_up (grown_new void_ex hF e0 h0) e1⟩) ?_ ?_
    · rintro i σ' H' hi ⟨o2, o3, o4, rfl, g⟩
      have hr0 : RoundOk n (i : Int) := ⟨by omega, hi⟩
      refine q_asgL (el_lst ea_nil (by show 0 ≤ 100000; decide)) fun D H1 hD e1 h1' => ?_
      refine q_forR1 (n := n) (by tm_at "ev") ⟨by omega, by omega⟩ (fun j σ'' H'' => ∃ o4, σ'' = [some (.int n), some (.ref F), some (.int (i : Int)), some (.ref D), o4] ∧ Grown IsPair Void H' D ((((irange n).take j).filter fun t => homeM n t (i : Int)).map fun t => (t, oppM n t (i : Int))) H'')
        (fun H2 e2 => ⟨o4, rfl, grown_up (grown_new void_ex hD e1 h1') e2⟩) ?_ ?_
      · rintro j σ'' H'' hj ⟨o4, rfl, g2⟩
        have ht : TeamOk n (j : Int) := ⟨by omega, hj⟩
        have len : ((((irange n).take j).filter fun t => homeM n t (i : Int)).map fun t => (t, oppM n t (i : Int))).length < 50000 := by
          have l1 := List.length_filter_le (fun t => homeM n t (i : Int)) ((irange n).take j)
          have l2 := List.length_take_le' j (irange n)
          rw [irange_len] at l2
          rw [List.length_map]
          omega
        rw [irange_take hj, List.filter_append, List.map_append, List.filter_cons]
        refine s_when (by tm_at "ev") (fun hb H3 e3 => ?_) fun hb H3 e3 => ?_
        · refine s_appG mono_pair (grown_up g2 e3) void_ex (by tm_at "ev") (er_pair (by tm_at "ev") (by tm_at "ev")) len fun H4 _ g4 => ?_
          rw [if_pos hb]
          exact ⟨_, rfl, g4⟩
        · rw [if_neg (by rw [hb]; simp)]
          exact ⟨_, rfl, by simpa using grown_up g2 e3⟩
      · rintro σ'' H'' ⟨o4, rfl, g2⟩
        rw [irange_all] at g2
        obtain ⟨G, c, r, _⟩ := grown_end mono_pair hD g2
        rw [irange_take hi, List.map_append]
        refine s_appW mono_row g void_ex (fun H' => by tm_at "ev") c r (fun H' => by tm_at "ev") (by rw [List.length_map, List.length_take, irange_len]; omega) fun H3 _ g3 => ?_
        exact ⟨_, _, _, rfl, g3⟩
    · rintro σ' H' ⟨o2, o3, o4, rfl, g⟩
      have e : (irange (n - 1)).take (n - 1).toNat = irange (n - 1) := irange_all _
      rw [e] at g
      obtain ⟨G, c, r, _⟩ := grown_end mono_row hF g
      refine s_ret (by tm_at "ev") fun H3 e3 => ?_
      exact q _ G H3 (c.up.trans e3) (c.part.trans e3) (fun a h => c.apart a rfl h) r
end


section
variable {P : Program} {w : World} {K : PySem.W.Frag} {mg : Str → Option Value} {base : Heap}
/-! ### which kinds an error is of -/
def dBools (l : List Bool) : PyData := .list (l.map PyData.bool)
theorem eqv_bool (a b : Bool) : PyData.eqv (.bool a) (.bool b) = decide (a = b) := by cases a <;> cases b <;> decide +kernel
theorem eqv_bools (l m : List Bool) : PyData.eqv (dBools l) (dBools m) = decide (l = m) := eqv_list eqv_bool l m
theorem sh_bool (b : Bool) : Sh 1 (.bool b) := ⟨by rw [PyData.canLay0], by simp [PyData.depth]⟩
theorem sh_bools (l : List Bool) : SeqAt.shaped (dBools l) = true := sh_shaped (sh_list sh_bool l) (by decide)
abbrev IsBs := IsL (IsV V.bl)
theorem mono_bools : Mono IsBs := mono_L mono_V
theorem dp_bools {H : Hp} {v : V} {l : List Bool} (r : IsBs H v l) : Dp K H v (dBools l) := dp_list (fun v b q => by rw [show v = V.bl b from q]; exact .bl b) r
theorem rc_isE {H : Hp} {D a C : Addr} {b : Bool} (h : PySem.W.kitOne K (.ref D) (.ref C) = some b) : RC (rIsE K D a) [.ref a, .ref C] H (.bl b) := fun H1 _ Q q => ⟨.ref C, .ref C, b, rfl, fun u h => h, h, q H1 (Ex.refl _)⟩
theorem rc_isET {H : Hp} {D a : Addr} {n : String} {b : Bool} (h : PySem.W.kitOne K (.ref D) (.type n) = some b) : RC (rIsE K D a) [.ref a, .ty n] H (.bl b) := fun H1 _ Q q => ⟨.ty n, .type n, b, rfl, fun u h => h, h, q H1 (Ex.refl _)⟩
abbrev s__law_kinds : Stmt := top 43
abbrev N__law_kinds : List Str := ["_law_error", "_law_found"]
theorem sc__law_kinds : FnScope N__law_kinds ["_law_error"] (defScope s__law_kinds) := ⟨rfl, rfl, rfl, by decide +kernel, rfl, by decide +kernel, by decide +kernel⟩
def spk (bs : List Bool) (a : Addr) : Sp := fun vs H Q _ => vs = [.ref a] ∧ RetW IsBs bs H Q
/-- the classes' names -/
structure NamesK (mg : Str → Option Value) (c : EC) : Prop where
  teams : mg "BadTeams" = some (.ref c.teams)
  team : mg "BadTeam" = some (.ref c.team)
  rnd : mg "BadRound" = some (.ref c.rnd)
  plan : mg "BadPlan" = some (.ref c.plan)
  alike : mg "Alike" = some (.ref c.alike)
  good : mg "NotGood" = some (.ref c.good)
  err : mg "MeetError" = some (.ref c.err)
  val : mg "ValueError" = none
def KindsOk (P : Program) (w : World) (K : PySem.W.Frag) (mg : Str → Option Value) (base : Heap) (k : Nat) (c : EC) : Prop :=
  ∃ (f : Addr) (fd : FuncData), mg "_law_kinds" = some (.ref f) ∧ PySem.W.keepIn K (.ref f) = true ∧ Binds K fd ["_law_error"] [] ∧ ∀ D bs, ErrK K c D bs → FnZ P w K mg base k f fd ["_law_error"] D (spk bs)
theorem ok_kinds {c : EC} (F : DAt K mg "_law_kinds" s__law_kinds ["_law_error"]) (M : NamesK mg c) (Z : Zs mg) : KindsOk P w K mg base 1 c := by
  obtain ⟨f, fd, F, g, b⟩ := F
  refine ⟨f, fd, g, F.kp, b, fun D bs hk => ?_⟩
  have nd := sc__law_kinds.nd
  refine fn_ofZ F sc__law_kinds (fun a vs H Q E h => ?_) (fun cdv A outer s H vs Q p hz hf hr h => ?_)
  · obtain ⟨rfl, _⟩ := h
    rfl
  · obtain ⟨rfl, q⟩ := h
    obtain ⟨b0, b1, b2, b3, b4, b5, b6, rfl, k0, k1, k2, k3, k4, k5, k6⟩ := hk.ks
    refine ⟨_, (pss_cons (ps_set (i := 1) nd rfl (Or.inl rfl) (pe_lst (pa_cons (pe_callB (call_isP hk.x hz hf (List.mem_singleton.mpr rfl)) (by rfl) Z.isinstance boot_isinstance (pa_cons (pv 0) (pa_cons (pe_glob (v := .ref c.teams) rfl M.teams rfl) pa_nil)))
        (pa_cons (pe_callB (call_isP hk.x hz hf (List.mem_singleton.mpr rfl)) (by rfl) Z.isinstance boot_isinstance (pa_cons (pv 0) (pa_cons (pe_glob (v := .ref c.team) rfl M.team rfl) pa_nil)))
        (pa_cons (pe_callB (call_isP hk.x hz hf (List.mem_singleton.mpr rfl)) (by rfl) Z.isinstance boot_isinstance (pa_cons (pv 0) (pa_cons (pe_glob (v := .ref c.rnd) rfl M.rnd rfl) pa_nil))) pa_nil)))))
      (pss_cons (ps_set (i := 1) nd rfl (Or.inl rfl) (pe_op op_cat (pv 1) (pe_lst (pa_cons (pe_callB (call_isP hk.x hz hf (List.mem_singleton.mpr rfl)) (by rfl) Z.isinstance boot_isinstance (pa_cons (pv 0) (pa_cons (pe_glob (v := .ref c.plan) rfl M.plan rfl) pa_nil)))
        (pa_cons (pe_callB (call_isP hk.x hz hf (List.mem_singleton.mpr rfl)) (by rfl) Z.isinstance boot_isinstance (pa_cons (pv 0) (pa_cons (pe_glob (v := .ref c.alike) rfl M.alike rfl) pa_nil)))
        (pa_cons (pe_callB (call_isP hk.x hz hf (List.mem_singleton.mpr rfl)) (by rfl) Z.isinstance boot_isinstance (pa_cons (pv 0) (pa_cons (pe_glob (v := .ref c.good) rfl M.good rfl) pa_nil))) pa_nil))))))
      (pss_one (ps_ret (pe_op op_cat (pv 1) (pe_lst (pa_cons (pe_callB (call_isP hk.x hz hf (List.mem_singleton.mpr rfl)) (by rfl) Z.isinstance boot_isinstance (pa_cons (pv 0) (pa_cons (pe_bltn (v := .ty "ValueError") (by rfl) M.val (by decide +kernel) rfl) pa_nil))) pa_nil))))))), ?_⟩
    refine q_asgL (el_lst (ea_cons (ev_cb (by tm_at "ev") (rc_isE k0)) (ea_cons (ev_cb (by tm_at "ev") (rc_isE k1)) (ea_cons (ev_cb (by tm_at "ev") (rc_isE k2)) ea_nil))) (by show 3 ≤ 100000; decide)) fun p1 H1 _ e1 h1 => ?_
    refine q_asgL (el_cat (ex_old (by tm_at "ev") h1) (ex_new (el_lst (ea_cons (ev_cb (by tm_at "ev") (rc_isE k3)) (ea_cons (ev_cb (by tm_at "ev") (rc_isE k4)) (ea_cons (ev_cb (by tm_at "ev") (rc_isE k5)) ea_nil))) (by show 3 ≤ 100000; decide))) (by show 6 ≤ 100000; decide)) fun p2 H2 _ e2 h2 => ?_
    refine s_retL (el_cat (ex_old (by tm_at "ev") h2) (ex_new (el_lst (ea_cons (ev_cb (by tm_at "ev") (rc_isET k6)) ea_nil) (by show 1 ≤ 100000; decide))) (by show 7 ≤ 100000; decide)) fun p3 H3 _ e3 h3 => ?_
    exact q _ H3 ((e1.trans e2).trans e3) ⟨p3, _, rfl, h3, map_paired (F := IsV V.bl H3) (f := V.bl) (fun b => rfl) [b0, b1, b2, b3, b4, b5, b6]⟩
/-- .. called in the suite -/
theorem pe_kinds {X : Cx} {a : Addr} {oe : Obj} {cls : Value} {d : Option Addr} {pn : List (Addr × Obj)} {k : Nat} {c : EC} {q pos : Pos} {e : Expr} {es : List Expr} {t : TA} (KO : KindsOk X.prog X.w X.K X.mg X.base k c) (hr : Room k X.A) (hz : Zc cls d oe) (hf : ∃ vs, oe.data = .fields vs)
    (hg : Gl (X.suite a ((a, oe) :: pn)) "_law_kinds") (ha : PA (X.suite a ((a, oe) :: pn)) (e :: es) t) (he : starEach (e :: es) X.env = (false, eval e X.env) :: starEach es X.env := by rfl) (hpl : (backTo pos (starEach es X.env)).any (·.1) = false := by rfl) :
    PE (X.suite a ((a, oe) :: pn)) (.Call (.Name "_law_kinds" q) (e :: es) [] pos) (fun σ H Q => ∃ D bs, cls = .ref D ∧ d = none ∧ ErrK X.K c D bs ∧ t σ H fun vs H1 => spk bs a vs H1 Q E0) := by
  refine ⟨fun pins s σ H Q I h => ?_⟩
  obtain ⟨D, bs, rfl, rfl, hk, h⟩ := h
  obtain ⟨f, fd, g, kp, b, F⟩ := KO
  exact (pe_callZ (F D bs hk) hr hz hf hg g kp b ha (by decide) he hpl).run pins s σ H Q I h

abbrev s__law_told : Stmt := top 48
abbrev N__law_told : List Str := ["_law_ask", "_law_one", "_law_other", "_law_error"]
theorem sc__law_told : FnScope N__law_told ["_law_ask", "_law_one", "_law_other"] (defScope s__law_told) := ⟨rfl, rfl, rfl, by decide +kernel, rfl, by decide +kernel, by decide +kernel⟩
def sp_told (P : Program) (w : World) (K : PySem.W.Frag) (mg : Str → Option Value) (base : Heap) (c : EC) : Sp := fun vs H Q _ => ∃ f x y C bs, vs = [.ref f, x, y] ∧ AskD P w K mg base 5 H f x y C ∧ ErrK K c C bs ∧ RetW IsBs bs H Q
theorem ok_told {c : EC} (F : DAt K mg "_law_told" s__law_told ["_law_ask", "_law_one", "_law_other"]) (KO : KindsOk P w K mg base 1 c) (M : NamesK mg c) : DOk P w K mg base 6 "_law_told" ["_law_ask", "_law_one", "_law_other"] (sp_told P w K mg base c) := by
  have nd := sc__law_told.nd
  refine F.ok sc__law_told (fun vs H Q E h => ?_) (fun f cdv A outer s H vs Q E hr h => ?_)
  · obtain ⟨f, x, y, C, bs, rfl, _⟩ := h
    rfl
  · obtain ⟨f, x, y, C, bs, rfl, hA, hk, q⟩ := h
    refine ⟨_, (pss_cons (ps_try_as (i := 3) (c := .ref c.err) rfl rfl nd rfl rfl ⟨rfl, by decide, .inl M.err⟩ takes0 (fun W pn xe tk _ => pss_one (ps_expr (pe_ask P w K mg base (i := 0) (x := "_law_ask") tk hr rfl (.inl rfl) (pa_cons (pv 1) (pa_cons (pv 2) pa_nil)))))
        (fun a oe cls d pn hz hf => pss_one (ps_ret (pe_kinds KO (hr.mono (by decide)) hz hf rfl (pa_cons (pv 3) pa_nil)))))
      (pss_one (ps_ret (pe_lst pa_nil)))), ?_⟩
    refine ⟨f, x, y, C, rfl, hA, ?_⟩
    refine (show EvA (tCons (tVar 1) (tCons (tVar 2) tNil)) _ H [x, y] from by tm_at "ev") H (Ex.refl _) _ fun H1 e1 => ⟨rfl, e1, fun H2 e2 => ?_⟩
    refine ⟨true, hk.m, fun _ a ha => ?_, fun z => by cases z⟩
    refine ⟨C, bs, rfl, rfl, hk, ?_⟩
    refine (show EvA (tCons (tVar 3) tNil) _ H2 [.ref a] from by tm_at "ev") H2 (Ex.refl _) _ fun H3 e3 => ⟨rfl, fun v H4 e4 r => ?_⟩
    exact q v H4 (((e1.trans e2).trans e3).trans e4) r
theorem ew_told {c : EC} {H : Hp} {σ : L2.St} {E : XK} {tA : TA} {f C : Addr} {x y : V} {bs : List Bool} (h : EvA tA σ H [.ref f, x, y]) (hA : AskD P w K mg base 5 H f x y C) (hk : ErrK K c C bs) : EvW (tCall (sp_told P w K mg base c) [] E tA) σ H (fun G v => IsBs G v bs) :=
  ew_call h fun H1 e Q q E => ⟨f, x, y, C, bs, rfl, hA.mono e, hk, q⟩
/-- the first operand told by a relation -/
theorem ev_opW1 {σ : L2.St} {H : Hp} {ta tb : TE} {y z : V} {r : R2} {R : Hp → V → Prop} (m : ∀ G G' v, Ex G G' → R G v → R G' v) (ha : EvW ta σ H R) (hb : Ev tb σ H y) (hr : ∀ v G, Ex H G → R G v → RV r v y G z) : Ev (tOp r ta tb) σ H z := fun H1 e Q q =>
  ha H1 e _ fun v H2 e2 k => hb H2 (e.trans e2) _ fun H3 e3 => hr v H3 ((e.trans e2).trans e3) (m _ _ v e3 k) H3 (Ex.refl _) Q fun H4 e4 => q H4 ((e2.trans e3).trans e4)

theorem paired_self {H : Hp} : ∀ xs : List V, Paired (IsV id H) xs xs
  | [] => .nil
  | x :: xs => .cons rfl (paired_self xs)
abbrev s__law_all : Stmt := top 49
abbrev N__law_all : List Str := ["_law_ask", "_law_one", "_law_things", "_law_due", "_law_thing"]
theorem sc__law_all : FnScope N__law_all ["_law_ask", "_law_one", "_law_things", "_law_due"] (defScope s__law_all) := ⟨rfl, rfl, rfl, by decide +kernel, rfl, by decide +kernel, by decide +kernel⟩
def sp_all (P : Program) (w : World) (K : PySem.W.Frag) (mg : Str → Option Value) (base : Heap) (c : EC) : Sp := fun vs H Q _ => ∃ f x a xs due C bs, vs = [.ref f, x, .ref a, due] ∧ H a = some (.lst xs) ∧ xs.length ≤ 1000 ∧ (∀ y ∈ xs, AskD P w K mg base 5 H f x y C) ∧ ErrK K c C bs ∧ IsBs H due bs ∧ RetV (.bl true) H Q
theorem ok_all {c : EC} (F : DAt K mg "_law_all" s__law_all ["_law_ask", "_law_one", "_law_things", "_law_due"]) (D__law_told : DOk P w K mg base 6 "_law_told" ["_law_ask", "_law_one", "_law_other"] (sp_told P w K mg base c)) (Z : Zs mg) : DOk P w K mg base 7 "_law_all" ["_law_ask", "_law_one", "_law_things", "_law_due"] (sp_all P w K mg base c) := by
  have nd := sc__law_all.nd
  refine F.ok sc__law_all (fun vs H Q E h => ?_) (fun f cdv A outer s H vs Q E hr h => ?_)
  · obtain ⟨f, x, a, xs, due, C, bs, rfl, _⟩ := h
    rfl
  · obtain ⟨f, x, a, xs, due, C, bs, rfl, ha, hl, hA, hk, hd, q⟩ := h
    refine ⟨_, (pss_one (ps_ret (pe_callB (k_all (K := K) rfl) (by rfl) Z.all boot_all (pa_cons (pe_lc (own := [("_law_thing", 4)]) (g := gName 4) rfl nd (k_list (K := K) (pv 2)) (blkOk_by (N := N__law_all) (sc := defScope s__law_all) (by decide +kernel)) (fun _ _ _ _ _ => pg_name (i := 4) nd rfl (Or.inl rfl)) (fun _ _ _ _ _ => pts_nil) (fun _ _ _ _ _ => (pe_cmpR (k_eqD (K := K) hr.units) (pe_callD D__law_told (hr.mono (by decide)) (pa_cons (pv 0) (pa_cons (pv 1) (pa_cons (pv 4) pa_nil)))) (pv 3) (nomark _)))) pa_nil)))), ?_⟩
    refine s_ret (v := .bl true) (ev_is (ev_allR (er_lcL1 (R := IsV id) mono_V (f := fun _ => true) (by tm_at "ev") (sq_of ha) (paired_self xs) (by omega) (fun x => rfl) fun y b hb hy => ?_)) ?_) fun H1 e1 => q H1 e1
    · cases hy
      exact r_ev (v := .bl true) (ev_is (ev_opW1 (R := fun G v => IsBs G v bs) (fun _ _ _ e r => mono_bools _ _ _ _ e r) (ew_told (by tm_at "ev") (hA _ hb) hk) (by tm_at "ev") fun v G e (r : IsBs G v bs) => rv_eqK mono_bools (fun _ _ _ => dp_bools) sh_bools r (mono_bools _ _ _ _ e hd)) (by rw [eqv_bools]; simp)) rfl
    · simp
end


section
variable {P : Program} {w : World} {K : PySem.W.Frag} {mg : Str → Option Value} {base : Heap}
/-! ### the law's own asks -/
section
variable {σ : L2.St} {H : Hp} {ta tb te tl : TE} {tA : TA} {x y z v : V} {D : Ends} {tz : TS} {C : Addr}
theorem ew_er {R : Hp → V → Prop} (m : ∀ G G' v, Ex G G' → R G v → R G' v) (h : EvR te σ H R) : EvW te σ H R := fun H1 e Q q => h H1 e Q fun v G H2 c r => q v H2 c.up (m _ _ v c.part r)
theorem ew_ev (h : Ev te σ H v) : EvW te σ H (fun _ u => u = v) := fun H1 e Q q => h H1 e Q fun H2 e2 => q v H2 e2 rfl
theorem ew_tup {xs : List V} (h : EvU te σ H xs) : EvW te σ H (fun G u => ∃ t, u = .ref t ∧ G t = some (.tup xs)) := fun H1 e Q q => h H1 e Q fun p H2 _ e2 hp => q _ H2 e2 ⟨p, rfl, hp⟩
/-- arguments of which something is known -/
def EvAW (tA : TA) (σ : L2.St) (H : Hp) (R : List V → Hp → Prop) : Prop := ∀ H1, Ex H H1 → ∀ Q : List V → Hp → Prop, (∀ vs H2, Ex H1 H2 → R vs H2 → Q vs H2) → tA σ H1 Q
theorem eaw_nil : EvAW tNil σ H (fun vs _ => vs = []) := fun H1 _ _ q => q [] H1 (Ex.refl _) rfl
theorem eaw_cons {R : Hp → V → Prop} {S : List V → Hp → Prop} {tr : TA} (m : ∀ G G' v, Ex G G' → R G v → R G' v) (h : EvW te σ H R) (hr : EvAW tr σ H S) : EvAW (tCons te tr) σ H (fun vs G => ∃ v ws, vs = v :: ws ∧ R G v ∧ S ws G) := fun H1 e Q q =>
  h H1 e _ fun v H2 e2 r => hr H2 (e.trans e2) _ fun ws H3 e3 s => q _ H3 (e2.trans e3) ⟨v, ws, rfl, m _ _ v e3 r, s⟩
theorem eaw_c {S : List V → Hp → Prop} {tr : TA} (h : Ev te σ H x) (hr : EvAW tr σ H S) : EvAW (tCons te tr) σ H (fun vs G => ∃ ws, vs = x :: ws ∧ S ws G) := fun H1 e Q q =>
  h H1 e _ fun H2 e2 => hr H2 (e.trans e2) _ fun ws H3 e3 s => q _ H3 (e2.trans e3) ⟨ws, rfl, s⟩
theorem rx_callG {sp : Sp} {E : XK} {R : List V → Hp → Prop} (h : EvAW tA σ H R) (hs : ∀ vs G, Ex H G → R vs G → SpX sp vs G C) : RaisesE (tCall sp [] E tA) σ H C E := fun H1 e o Q => h H1 e _ fun vs H2 e2 r => by
  rw [List.append_nil]
  exact hs vs H2 (e.trans e2) r H2 (Ex.refl _) Q E (o.mono e2)
theorem ev_callG {sp : Sp} {E : XK} {R : List V → Hp → Prop} (h : EvAW tA σ H R) (hs : ∀ vs G, Ex H G → R vs G → SpV sp vs G z) : Ev (tCall sp [] E tA) σ H z := fun H1 e Q q => h H1 e _ fun vs H2 e2 r => by
  rw [List.append_nil]
  exact hs vs H2 (e.trans e2) r H2 (Ex.refl _) Q (fun H3 e3 => q H3 (e2.trans e3)) E
theorem q_asgG {g : TG} (h : Ev te σ H v) (k : ∀ H1, Ex H H1 → g v σ H1 fun σ2 H2 => tz D σ2 H2) : tSeq (tAsg te g) tz D σ H := h H (Ex.refl _) _ fun H1 e => k H1 e
end
/-- no count of teams, or too many to be judged -/
def badCount (door : Int) : Dt → Bool | .int n => badTeams (.int n) || (decide (4 ≤ door) && decide (20 < n)) | d => badTeams d
theorem badCount_few {door : Int} {d : Dt} (h : badCount door d = true) (hd : ¬ 4 ≤ door) : badTeams d = true := by
  cases d with
  | int n =>
    unfold badCount at h
    simpa [hd] using h
  | none => rfl
  | bl b => rfl
  | str b => rfl
  | lst b => rfl
  | tup b => rfl
  | dct => rfl
theorem badCount_plan {CT CP : Addr} {H : Hp} {door : Int} {v : V} {d : Dt} (hd : IsD H v d) (h : badCount door d = true) (u : V) : BadCP CT CP H [v, u] CT := by
  cases hb : badTeams d with
  | true => exact .teams hd hb
  | false =>
    cases hd with
    | int n =>
      have hb2 : (decide (n < 2) || decide (n % 2 = 1)) = false := hb
      simp at hb2
      have h : (badTeams (.int n) || (decide (4 ≤ door) && decide (20 < n))) = true := h
      rw [hb] at h
      simp at h
      exact .many ⟨hb2.1, by omega⟩ h.2
    | none => cases hb
    | bl b => cases hb
    | str b => cases hb
    | lst b => cases hb
    | tup b => cases hb
    | dct => cases hb
abbrev s__law_with_teams : Stmt := top 44
abbrev N__law_with_teams : List Str := ["_law_door", "_law_teams_here"]
theorem sc__law_with_teams : FnScope N__law_with_teams ["_law_door", "_law_teams_here"] (defScope s__law_with_teams) := ⟨rfl, rfl, rfl, by decide +kernel, rfl, by decide +kernel, by decide +kernel⟩
def sx_with_teams (CT : Addr) : Sp := fun vs H _ E => ∃ (door : Int) (v : V) (d : Dt), vs = [.int door, v] ∧ 0 ≤ door ∧ door ≤ 5 ∧ IsD H v d ∧ badCount door d = true ∧ Out CT H E
theorem okx_with_teams {CT Ct Cr CP CA CN : Addr} (F : DAt K mg "_law_with_teams" s__law_with_teams ["_law_door", "_law_teams_here"]) (X_opponent : XOk P w K mg base 4 "opponent" ["teams", "team", "number"] (sx_three CT Ct Cr)) (X_at_home : XOk P w K mg base 4 "at_home" ["teams", "team", "number"] (sx_three CT Ct Cr))
    (X_round_of : XOk P w K mg base 3 "round_of" ["teams", "one", "other"] (sx_round_of CT Ct CA)) (X_break_of : XOk P w K mg base 3 "break_of" ["teams", "team"] (sx_break_of CT Ct)) (X_judged : XOk P w K mg base 4 "judged" ["teams", "plan"] (sx_check_plan CT CP)) (X_breaks : XOk P w K mg base 4 "breaks" ["teams", "plan"] (sx_breaks CT CP CN)) :
    XOk P w K mg base 5 "_law_with_teams" ["_law_door", "_law_teams_here"] (sx_with_teams CT) := by
  have nd := sc__law_with_teams.nd
  refine F.okX sc__law_with_teams (fun vs H Q E h => ?_) (fun f cdv A outer s H vs Q E hr h => ?_)
  · obtain ⟨door, v, d, rfl, _⟩ := h
    rfl
  · obtain ⟨door, v, d, rfl, h0, h5, hd, hb, o⟩ := h
    refine ⟨_, (pss_cons (ps_if (pt_cmpR op_lt (pv 0) pe_int (nomark _))
        (pss_one (ps_ret (pe_ifExp (pt_cmpR op_eq (pv 0) pe_int (nomark _)) (pe_callX X_opponent (hr.mono (by decide)) (passes_call (takes_of rfl rfl rfl rfl) (fun _ _ _ _ h => h)) (pa_cons (pv 1) (pa_cons (pe_un un_neg pe_int) (pa_cons (pe_un un_neg pe_int) pa_nil)))) (pe_ifExp (pt_cmpR op_eq (pv 0) pe_int (nomark _)) (pe_callX X_at_home (hr.mono (by decide)) (passes_call (takes_of rfl rfl rfl rfl) (fun _ _ _ _ h => h)) (pa_cons (pv 1) (pa_cons pe_non (pa_cons pe_int pa_nil)))) (pe_callX X_round_of (hr.mono (by decide)) (passes_call (takes_of rfl rfl rfl rfl) (fun _ _ _ _ h => h)) (pa_cons (pv 1) (pa_cons pe_int (pa_cons pe_int pa_nil))))))))
        pss_nil)
      (pss_one (ps_ret (pe_ifExp (pt_cmpR op_eq (pv 0) pe_int (nomark _)) (pe_callX X_break_of (hr.mono (by decide)) (passes_call (takes_of rfl rfl rfl rfl) (fun _ _ _ _ h => h)) (pa_cons (pv 1) (pa_cons (pe_un un_neg pe_int) pa_nil))) (pe_ifExp (pt_cmpR op_eq (pv 0) pe_int (nomark _)) (pe_callX X_judged (hr.mono (by decide)) (passes_call (takes_of rfl rfl rfl rfl) (fun _ _ _ _ h => h)) (pa_cons (pv 1) (pa_cons pe_non pa_nil))) (pe_callX X_breaks (hr.mono (by decide)) (passes_call (takes_of rfl rfl rfl rfl) (fun _ _ _ _ h => h)) (pa_cons (pv 1) (pa_cons (pe_lst (pa_cons (pe_lst pa_nil) pa_nil)) pa_nil)))))))), ?_⟩
    refine q_when (b := decide (door < 3)) (by tm_at "ev") (fun hlt H1 e1 => ?_) fun hlt H1 e1 => ?_
    · simp at hlt
      have hd1 := isD_mono e1 hd
      have hb1 := badCount_few hb (by omega)
      refine x_ret (rx_if (by tm_at "ev") (fun _ => rx_call (by tm_at "ev") (ux_three (.teams hd1 hb1))) fun _ => rx_if (by tm_at "ev") (fun _ => rx_call (by tm_at "ev") (ux_three (.teams hd1 hb1))) fun _ => rx_call (by tm_at "ev") (ux_round_of (.teams hd1 hb1))) (o.mono e1)
    · simp at hlt
      have hd1 := isD_mono e1 hd
      refine x_ret (rx_if (by tm_at "ev") (fun h3 => ?_) fun h3 => rx_if (by tm_at "ev") (fun h4 => rx_call (by tm_at "ev") (ux_check_plan (badCount_plan hd1 hb _))) fun h4 => ?_) (o.mono e1)
      · simp at h3
        exact rx_call (by tm_at "ev") (ux_break_of (.teams hd1 (badCount_few hb (by omega))))
      · refine rx_callG (eaw_c (by tm_at "ev") (eaw_cons (R := fun _ _ => True) (fun _ _ _ _ _ => trivial) (ew_er (R := fun _ _ => True) (fun _ _ _ _ _ => trivial) ((er_lst (R := IsRow) mono_row (.cons (er_lst (R := IsPair) mono_pair .nil (by decide)) .nil) (by decide)).imp fun _ _ _ _ => trivial)) eaw_nil)) fun vs G e r => ?_
        obtain ⟨ws, rfl, u, ws2, rfl, _, rfl⟩ := r
        exact ux_breaks (.plan (badCount_plan (isD_mono e hd1) hb _))

abbrev s__law_with_team : Stmt := top 45
abbrev N__law_with_team : List Str := ["_law_where", "_law_team", "_law_door", "_law_teams_here"]
theorem sc__law_with_team : FnScope N__law_with_team ["_law_where", "_law_team"] (defScope s__law_with_team) := ⟨rfl, rfl, rfl, by decide +kernel, rfl, by decide +kernel, by decide +kernel⟩
def sx_with_team (Ct : Addr) : Sp := fun vs H _ E => ∃ (t : Addr) (door n : Int) (v : V) (d : Dt), vs = [.ref t, v] ∧ H t = some (.tup [.int door, .int n]) ∧ 0 ≤ door ∧ door ≤ 4 ∧ TeamsOk n ∧ IsD H v d ∧ badIn n d = true ∧ Out Ct H E
theorem okx_with_team {CT Ct Cr CA : Addr} (F : DAt K mg "_law_with_team" s__law_with_team ["_law_where", "_law_team"]) (X_opponent : XOk P w K mg base 4 "opponent" ["teams", "team", "number"] (sx_three CT Ct Cr)) (X_at_home : XOk P w K mg base 4 "at_home" ["teams", "team", "number"] (sx_three CT Ct Cr))
    (X_round_of : XOk P w K mg base 3 "round_of" ["teams", "one", "other"] (sx_round_of CT Ct CA)) (X_break_of : XOk P w K mg base 3 "break_of" ["teams", "team"] (sx_break_of CT Ct)) :
    XOk P w K mg base 5 "_law_with_team" ["_law_where", "_law_team"] (sx_with_team Ct) := by
  have nd := sc__law_with_team.nd
  refine F.okX sc__law_with_team (fun vs H Q E h => ?_) (fun f cdv A outer s H vs Q E hr h => ?_)
  · obtain ⟨t, door, n, v, d, rfl, _⟩ := h
    rfl
  · obtain ⟨t, door, n, v, d, rfl, ht, h0, h4, hn, hd, hb, o⟩ := h
    refine ⟨_, (pss_cons (ps_asg (pv 0) (k_gtup (K := K) (n := 2) rfl (pgs_cons (pg_name (i := 2) nd rfl (Or.inl rfl)) (pgs_cons (pg_name (i := 3) nd rfl (Or.inl rfl)) pgs_nil))))
      (pss_cons (ps_if (pt_cmpR op_lt (pv 2) pe_int (nomark _))
        (pss_one (ps_ret (pe_ifExp (pt_cmpR op_eq (pv 2) pe_int (nomark _)) (pe_callX X_opponent (hr.mono (by decide)) (passes_call (takes_of rfl rfl rfl rfl) (fun _ _ _ _ h => h)) (pa_cons (pv 3) (pa_cons (pv 1) (pa_cons (pe_un un_neg pe_int) pa_nil)))) (pe_callX X_at_home (hr.mono (by decide)) (passes_call (takes_of rfl rfl rfl rfl) (fun _ _ _ _ h => h)) (pa_cons (pv 3) (pa_cons (pv 1) (pa_cons pe_non pa_nil)))))))
        pss_nil)
      (pss_cons (ps_if (pt_cmpR op_lt (pv 2) pe_int (nomark _))
        (pss_one (ps_ret (pe_ifExp (pt_cmpR op_eq (pv 2) pe_int (nomark _)) (pe_callX X_round_of (hr.mono (by decide)) (passes_call (takes_of rfl rfl rfl rfl) (fun _ _ _ _ h => h)) (pa_cons (pv 3) (pa_cons (pv 1) (pa_cons pe_int pa_nil)))) (pe_callX X_round_of (hr.mono (by decide)) (passes_call (takes_of rfl rfl rfl rfl) (fun _ _ _ _ h => h)) (pa_cons (pv 3) (pa_cons pe_int (pa_cons (pv 1) pa_nil)))))))
        pss_nil)
      (pss_one (ps_ret (pe_callX X_break_of (hr.mono (by decide)) (passes_call (takes_of rfl rfl rfl rfl) (fun _ _ _ _ h => h)) (pa_cons (pv 3) (pa_cons (pv 1) pa_nil)))))))), ?_⟩
    refine q_asgG (by tm_at "ev") fun H1 e1 => gU_run (e1 t _ ht) ?_
    have hd1 := isD_mono e1 hd
    have h2n := hn.1
    refine q_when (b := decide (door < 2)) (by tm_at "ev") (fun hlt H2 e2 => ?_) fun hlt H2 e2 => ?_
    · have hd2 := isD_mono e2 hd1
      exact x_ret (rx_if (by tm_at "ev") (fun _ => rx_call (by tm_at "ev") (ux_three (.team hn hd2 hb))) fun _ => rx_call (by tm_at "ev") (ux_three (.team hn hd2 hb))) (o.mono (e1.trans e2))
    · have hd2 := isD_mono e2 hd1
      refine q_when (b := decide (door < 4)) (by tm_at "ev") (fun hlt H3 e3 => ?_) fun hlt H3 e3 => ?_
      · have hd3 := isD_mono e3 hd2
        exact x_ret (rx_if (by tm_at "ev") (fun _ => rx_call (by tm_at "ev") (ux_round_of (.one hn hd3 hb))) fun _ => rx_call (by tm_at "ev") (ux_round_of (.other hn (⟨Int.le_refl _, by omega⟩ : TeamOk n 0) hd3 hb))) (o.mono ((e1.trans e2).trans e3))
      · have hd3 := isD_mono e3 hd2
        exact x_ret (rx_call (by tm_at "ev") (ux_break_of (.team hn hd3 hb))) (o.mono ((e1.trans e2).trans e3))

abbrev s__law_with_round : Stmt := top 46
abbrev N__law_with_round : List Str := ["_law_where", "_law_number", "_law_door", "_law_teams_here"]
theorem sc__law_with_round : FnScope N__law_with_round ["_law_where", "_law_number"] (defScope s__law_with_round) := ⟨rfl, rfl, rfl, by decide +kernel, rfl, by decide +kernel, by decide +kernel⟩
def sx_with_round (Cr : Addr) : Sp := fun vs H _ E => ∃ (t : Addr) (door n : Int) (v : V) (d : Dt), vs = [.ref t, v] ∧ H t = some (.tup [.int door, .int n]) ∧ TeamsOk n ∧ IsD H v d ∧ badIn (n - 1) d = true ∧ Out Cr H E
theorem okx_with_round {CT Ct Cr : Addr} (F : DAt K mg "_law_with_round" s__law_with_round ["_law_where", "_law_number"]) (X_opponent : XOk P w K mg base 4 "opponent" ["teams", "team", "number"] (sx_three CT Ct Cr)) (X_at_home : XOk P w K mg base 4 "at_home" ["teams", "team", "number"] (sx_three CT Ct Cr)) :
    XOk P w K mg base 5 "_law_with_round" ["_law_where", "_law_number"] (sx_with_round Cr) := by
  have nd := sc__law_with_round.nd
  refine F.okX sc__law_with_round (fun vs H Q E h => ?_) (fun f cdv A outer s H vs Q E hr h => ?_)
  · obtain ⟨t, door, n, v, d, rfl, _⟩ := h
    rfl
  · obtain ⟨t, door, n, v, d, rfl, ht, hn, hd, hb, o⟩ := h
    refine ⟨_, (pss_cons (ps_asg (pv 0) (k_gtup (K := K) (n := 2) rfl (pgs_cons (pg_name (i := 2) nd rfl (Or.inl rfl)) (pgs_cons (pg_name (i := 3) nd rfl (Or.inl rfl)) pgs_nil))))
      (pss_one (ps_ret (pe_ifExp (pt_cmpR op_eq (pv 2) pe_int (nomark _)) (pe_callX X_opponent (hr.mono (by decide)) (passes_call (takes_of rfl rfl rfl rfl) (fun _ _ _ _ h => h)) (pa_cons (pv 3) (pa_cons (pe_op op_sub (pv 3) pe_int) (pa_cons (pv 1) pa_nil)))) (pe_callX X_at_home (hr.mono (by decide)) (passes_call (takes_of rfl rfl rfl rfl) (fun _ _ _ _ h => h)) (pa_cons (pv 3) (pa_cons pe_int (pa_cons (pv 1) pa_nil)))))))), ?_⟩
    refine q_asgG (by tm_at "ev") fun H1 e1 => gU_run (e1 t _ ht) ?_
    have hd1 := isD_mono e1 hd
    have h2n := hn.1
    have l1 : TeamOk n (n - 1) := ⟨by omega, by omega⟩
    have l0 : TeamOk n 0 := ⟨by omega, by omega⟩
    exact x_ret (rx_if (by tm_at "ev") (fun _ => rx_call (by tm_at "ev") (ux_three (.round hn l1 hd1 hb))) fun _ => rx_call (by tm_at "ev") (ux_three (.round hn l0 hd1 hb))) (o.mono e1)

abbrev s__law_with_plan : Stmt := top 47
abbrev N__law_with_plan : List Str := ["_law_where", "_law_plan_here", "_law_door", "_law_teams_here"]
theorem sc__law_with_plan : FnScope N__law_with_plan ["_law_where", "_law_plan_here"] (defScope s__law_with_plan) := ⟨rfl, rfl, rfl, by decide +kernel, rfl, by decide +kernel, by decide +kernel⟩
def sx_with_plan (CT CP CN : Addr) : Sp := fun vs H _ E => ∃ (t : Addr) (door n : Int) (v : V) (C : Addr), vs = [.ref t, v] ∧ H t = some (.tup [.int door, .int n]) ∧ (BadCP CT CP H [.int n, v] C ∨ (door ≠ 0 ∧ BadBr CT CP CN H [.int n, v] C)) ∧ Out C H E
theorem okx_with_plan {CT CP CN : Addr} (F : DAt K mg "_law_with_plan" s__law_with_plan ["_law_where", "_law_plan_here"]) (X_judged : XOk P w K mg base 4 "judged" ["teams", "plan"] (sx_check_plan CT CP)) (X_breaks : XOk P w K mg base 4 "breaks" ["teams", "plan"] (sx_breaks CT CP CN)) :
    XOk P w K mg base 5 "_law_with_plan" ["_law_where", "_law_plan_here"] (sx_with_plan CT CP CN) := by
  have nd := sc__law_with_plan.nd
  refine F.okX sc__law_with_plan (fun vs H Q E h => ?_) (fun f cdv A outer s H vs Q E hr h => ?_)
  · obtain ⟨t, door, n, v, C, rfl, _⟩ := h
    rfl
  · obtain ⟨t, door, n, v, C, rfl, ht, hb, o⟩ := h
    refine ⟨_, (pss_cons (ps_asg (pv 0) (k_gtup (K := K) (n := 2) rfl (pgs_cons (pg_name (i := 2) nd rfl (Or.inl rfl)) (pgs_cons (pg_name (i := 3) nd rfl (Or.inl rfl)) pgs_nil))))
      (pss_one (ps_ret (pe_ifExp (pt_cmpR op_eq (pv 2) pe_int (nomark _)) (pe_callX X_judged (hr.mono (by decide)) (passes_call (takes_of rfl rfl rfl rfl) (fun _ _ _ _ h => h)) (pa_cons (pv 3) (pa_cons (pv 1) pa_nil))) (pe_callX X_breaks (hr.mono (by decide)) (passes_call (takes_of rfl rfl rfl rfl) (fun _ _ _ _ h => h)) (pa_cons (pv 3) (pa_cons (pv 1) pa_nil))))))), ?_⟩
    refine q_asgG (by tm_at "ev") fun H1 e1 => gU_run (e1 t _ ht) ?_
    refine x_ret (rx_if (by tm_at "ev") (fun hz => ?_) fun hz => ?_) (o.mono e1)
    · simp at hz
      rcases hb with hb | ⟨hne, _⟩
      · exact rx_call (by tm_at "ev") (ux_check_plan (badCP_mono e1 hb))
      · exact absurd hz hne
    · rcases hb with hb | ⟨_, hb⟩
      · exact rx_call (by tm_at "ev") (ux_breaks (.plan (badCP_mono e1 hb)))
      · exact rx_call (by tm_at "ev") (ux_breaks (badBr_mono e1 hb))
end


/-! ### what is handed in, and that it is bad: no program here -/
def kindM (k : Int) : List Bool := [decide (V.int k = V.int 0), decide (V.int k = V.int 1), decide (V.int k = V.int 2), decide (V.int k = V.int 3), decide (V.int k = V.int 4), decide (V.int k = V.int 5), true]
def kindsM : List (List Bool) := (List.range 6).map fun i : Nat => kindM (i : Int)
theorem kindsM_is : kindsM = [[true, false, false, false, false, false, true], [false, true, false, false, false, false, true], [false, false, true, false, false, false, true], [false, false, false, true, false, false, true],
  [false, false, false, false, true, false, true], [false, false, false, false, false, true, true]] := by decide +kernel
def strangeM (far : Int) : List Dt := [.none, .str "2", .bl true, .bl false, .lst [.int 2], .tup [.int 2], .dct, .int (-1), .int (-2 - 2 * far)]
theorem strange_teams {far : Int} (h : 0 ≤ far) : ∀ d ∈ strangeM far, badTeams d = true := by
  intro d hd
  simp only [strangeM, List.mem_cons, List.not_mem_nil, or_false] at hd
  rcases hd with rfl | rfl | rfl | rfl | rfl | rfl | rfl | rfl | rfl
  iterate 7 rfl
  · simp [badTeams]
  · simp [badTeams]
    omega
theorem strange_in {far lim : Int} (h : 0 ≤ far) : ∀ d ∈ strangeM far, badIn lim d = true := by
  intro d hd
  simp only [strangeM, List.mem_cons, List.not_mem_nil, or_false] at hd
  rcases hd with rfl | rfl | rfl | rfl | rfl | rfl | rfl | rfl | rfl
  iterate 7 rfl
  · simp [badIn]
  · simp [badIn]
    omega
def moreM (far : Int) : List Dt := [.int 0, .int 1, .int 3, .int (3 + 2 * far)]
def manyM (far : Int) : List Int := [22, 22 + 2 * far]
def manyD (far door : Int) : List Dt := (List.replicate (door / 4).toNat (manyM far)).flatten.map Dt.int
theorem bad_counts {far door : Int} (h : 0 ≤ far) (h0 : 0 ≤ door) : ∀ d ∈ strangeM far ++ moreM far ++ manyD far door, badCount door d = true := by
  intro d hd
  have few : ∀ d, badTeams d = true → badCount door d = true := fun d hb => by
    cases d with
    | int n =>
      show (badTeams (.int n) || _) = true
      rw [hb]
      rfl
    | none => rfl
    | bl b => rfl
    | str b => rfl
    | lst b => rfl
    | tup b => rfl
    | dct => rfl
  rcases List.mem_append.mp hd with hd | hd
  · rcases List.mem_append.mp hd with hd | hd
    · exact few _ (strange_teams h _ hd)
    · refine few _ ?_
      simp only [moreM, List.mem_cons, List.not_mem_nil, or_false] at hd
      rcases hd with rfl | rfl | rfl | rfl
      · simp [badTeams]
      · simp [badTeams]
      · simp [badTeams]
      · simp [badTeams]
  · unfold manyD at hd
    obtain ⟨m, hm, rfl⟩ := List.mem_map.mp hd
    obtain ⟨l, hl, hml⟩ := List.mem_flatten.mp hm
    obtain ⟨hne, rfl⟩ := List.mem_replicate.mp hl
    have h4 : 4 ≤ door := by omega
    show (badTeams (.int m) || (decide (4 ≤ door) && decide (20 < m))) = true
    simp only [manyM, List.mem_cons, List.not_mem_nil, or_false] at hml
    rw [Bool.or_eq_true, Bool.and_eq_true]
    refine Or.inr ⟨decide_eq_true h4, decide_eq_true ?_⟩
    omega
theorem manyD_len {far door : Int} (h : door ≤ 5) : (manyD far door).length ≤ 2 := by
  unfold manyD
  have e : ∀ k : Nat, k ≤ 1 → ((List.replicate k (manyM far)).flatten.map Dt.int).length ≤ 2 := fun k hk => by
    have : k = 0 ∨ k = 1 := by omega
    rcases this with rfl | rfl <;> simp [manyM]
  exact e _ (by omega)
def plansM1 : List Dt := [.none, .tup [], .str "01", .dct, .int 5, .lst [.none], .lst [.tup []], .lst [.tup [.tup [.int 0, .int 1]]], .lst [.lst [.none]], .lst [.lst [.tup [.int 0]]], .lst [.lst [.tup [.int 0, .int 1, .int 1]]], .lst [.lst [.lst [.int 0, .int 1]]]]
def plansM2 (n : Int) : List Dt := [.lst [.lst [.tup [.int 0, .int 0]]], .lst [.lst [.tup [.int 0, .int n]]], .lst [.lst [.tup [.int (-1), .int 0]]], .lst [.lst [.tup [.int 0, .bl true]]], .lst [.lst [.tup [.str "0", .int 1]]], .lst [.lst [.tup [.int 0, .int 1]], .int 5]]
def plansM3 (n far : Int) : List Dt := [.lst [.lst [.tup [.int 0, .int 1]], .lst [.tup [.int 1, .int (n + far)]]], .lst [.lst [.tup [.int 1, .int (-1 - far)]]], .lst [.lst [.tup [.int 0, .none]]], .lst [.lst [], .lst [.tup [.int 1, .int 1]]]]
theorem planBad_one {n : Int} {l : List Dt} {r : List Dt} {p : Dt} (hr : .lst r ∈ l) (hp : p ∈ r) (h : gameD n p = false) : planBad n (.lst l) = true := by
  show (!(l.map Dt.isLst).all id || l.any (rowBad n)) = true
  rw [Bool.or_eq_true]
  refine Or.inr (List.any_eq_true.mpr ⟨_, hr, ?_⟩)
  show (r.any fun p => !gameD n p) = true
  exact List.any_eq_true.mpr ⟨p, hp, by rw [h]; rfl⟩
theorem game_no {n a b : Int} (h : a = b ∨ a < 0 ∨ b < 0 ∨ n ≤ a ∨ n ≤ b) : gameD n (.tup [.int a, .int b]) = false := by
  show (!decide (a = b) && (decide (0 ≤ (if b < a then b else a)) && decide ((if b > a then b else a) < n))) = false
  by_cases h1 : a = b
  · simp [h1]
  · simp only [h1, decide_false, Bool.not_false, Bool.true_and, Bool.and_eq_false_iff, decide_eq_false_iff_not]
    split <;> split <;> omega
theorem sz1 {l : List Dt} (h : l.length ≤ 3) (h2 : ∀ r, Dt.lst r ∈ l → r.length ≤ 100 ∧ ∀ p, Dt.tup p ∈ r → p.length ≤ 100) : SzD (.lst l) := ⟨by omega, h2⟩
theorem bad_plans {n far : Int} (h : 0 ≤ far) (hn : 2 ≤ n) : ∀ d ∈ plansM1 ++ plansM2 n ++ plansM3 n far, SzD d ∧ planBad n d = true := by
  intro d hd
  rcases List.mem_append.mp hd with hd | hd
  · rcases List.mem_append.mp hd with hd | hd
    · simp only [plansM1, List.mem_cons, List.not_mem_nil, or_false] at hd
      rcases hd with rfl | rfl | rfl | rfl | rfl | rfl | rfl | rfl | rfl | rfl | rfl | rfl
      iterate 5 exact ⟨trivial, rfl⟩
      all_goals refine ⟨by simp [SzD], rfl⟩
    · simp only [plansM2, List.mem_cons, List.not_mem_nil, or_false] at hd
      rcases hd with rfl | rfl | rfl | rfl | rfl | rfl
      all_goals refine ⟨by simp [SzD], ?_⟩
      · exact planBad_one (List.mem_singleton.mpr rfl) (List.mem_singleton.mpr rfl) (game_no (by omega))
      · exact planBad_one (List.mem_singleton.mpr rfl) (List.mem_singleton.mpr rfl) (game_no (by omega))
      · exact planBad_one (List.mem_singleton.mpr rfl) (List.mem_singleton.mpr rfl) (game_no (by omega))
      · rfl
      · rfl
      · rfl
  · simp only [plansM3, List.mem_cons, List.not_mem_nil, or_false] at hd
    rcases hd with rfl | rfl | rfl | rfl
    all_goals refine ⟨by simp [SzD], ?_⟩
    · exact planBad_one (List.mem_cons_of_mem _ (List.mem_singleton.mpr rfl)) (List.mem_singleton.mpr rfl) (game_no (by omega))
    · exact planBad_one (List.mem_singleton.mpr rfl) (List.mem_singleton.mpr rfl) (game_no (by omega))
    · rfl
    · exact planBad_one (List.mem_cons_of_mem _ (List.mem_singleton.mpr rfl)) (List.mem_singleton.mpr rfl) (game_no (by omega))
def poorM : List (List (List (Int × Int))) := [[], [[]], [[(0, 1)], [(1, 0)]]]
theorem poor_plans {n : Int} (hn : TeamsOk n) : ∀ p ∈ poorM, PlanSz p ∧ PlanOk n p ∧ goodM n p = false := by
  intro p hp
  have h2 := hn.1
  have ok : PlanOk n p := by
    intro row hr q hq
    simp only [poorM, List.mem_cons, List.not_mem_nil, or_false] at hp
    rcases hp with rfl | rfl | rfl
    · cases hr
    · cases List.mem_singleton.mp hr
      cases hq
    · simp only [List.mem_cons, List.not_mem_nil, or_false] at hr
      rcases hr with rfl | rfl
      · cases List.mem_singleton.mp hq
        exact ⟨⟨by decide, by show (0 : Int) < n; omega⟩, ⟨by decide, by show (1 : Int) < n; omega⟩, by decide⟩
      · cases List.mem_singleton.mp hq
        exact ⟨⟨by decide, by show (1 : Int) < n; omega⟩, ⟨by decide, by show (0 : Int) < n; omega⟩, by decide⟩
  have cnt : countK p.flatten (0, 1) ≠ 1 := by
    simp only [poorM, List.mem_cons, List.not_mem_nil, or_false] at hp
    rcases hp with rfl | rfl | rfl <;> decide
  refine ⟨?_, ok, ?_⟩
  · simp only [poorM, List.mem_cons, List.not_mem_nil, or_false] at hp
    rcases hp with rfl | rfl | rfl <;> (refine ⟨by simp, fun row hr => ?_⟩; simp at hr; try (rcases hr with rfl | rfl <;> simp))
    all_goals (try (subst hr; simp))
  · cases hg : goodM n p with
    | false => rfl
    | true => exact absurd ((goodM_iff hn ok).mp hg |>.meets 0 1 (by decide) (by decide) (by omega)) cnt
theorem rest_small : ∀ h ∈ [2, 3, 4, 5, 6, 7, 8, 9, 10], goodM (2 * h) ((planM (2 * h)).drop 1) = false := by decide +kernel
theorem rest_few {n : Int} (h1 : 2 < n) (h2 : n ≤ 20) (h3 : n % 2 = 0) : goodM n ((planM n).drop 1) = false := by
  obtain ⟨k, rfl⟩ : ∃ k, n = 2 * k := ⟨n / 2, by omega⟩
  refine rest_small k ?_
  have : k = 2 ∨ k = 3 ∨ k = 4 ∨ k = 5 ∨ k = 6 ∨ k = 7 ∨ k = 8 ∨ k = 9 ∨ k = 10 := by omega
  simpa using this
theorem rest_ok {n : Int} (hn : TeamsOk n) (h2 : n ≤ 100) : PlanSz ((planM n).drop 1) ∧ PlanOk n ((planM n).drop 1) := by
  have z := planM_sz hn.1 h2
  refine ⟨⟨?_, fun row hr => z.2 row (List.mem_of_mem_drop hr)⟩, fun row hr => planM_ok hn row (List.mem_of_mem_drop hr)⟩
  rw [List.length_drop]
  have := z.1
  omega
theorem two_good : goodM 2 [[(1, 0)]] = true ∧ breaksM 2 [[(1, 0)]] = [] := by decide +kernel
theorem two_ok : TeamsOk 2 ∧ PlanSz [[(1, 0)]] ∧ PlanOk 2 [[(1, 0)]] := by
  refine ⟨⟨by decide, by decide⟩, ⟨by decide, fun row hr => ?_⟩, fun row hr q hq => ?_⟩
  · cases List.mem_singleton.mp hr
    decide
  · cases List.mem_singleton.mp hr
    cases List.mem_singleton.mp hq
    exact ⟨⟨by decide, by decide⟩, ⟨by decide, by decide⟩, by decide⟩


section
variable {σ : L2.St} {H : Hp} {ta tb te tl : TE} {tA : TA} {x y z v : V} {D : Ends} {tz tu : TS} {K : PySem.W.Frag}
theorem q_parL {i j : Nat} {xs : List V} (h : Ev ta σ H x) (h2 : EvL tb σ H xs) (k : ∀ p H1, H p = none → Ex H H1 → H1 p = some (.lst xs) → tz D ((σ.set i (some x)).set j (some (.ref p))) H1) : tSeq (tPar i j (tCons ta (tCons tb tNil))) tz D σ H :=
  h H (Ex.refl _) _ fun H1 e1 => h2 H1 e1 _ fun p H2 hp e2 h3 => ⟨x, .ref p, rfl, k p H2 (fresh_back e1 hp) (e1.trans e2) h3⟩
theorem el_rep {xs : List V} {k : Int} (h : EvX ta σ H xs) (hk : Ev tb σ H (.int k)) (h1 : -(2 ^ 63) ≤ k ∧ k < 2 ^ 63) (hz : xs.length * k.toNat ≤ 100000) : EvL (tOp rRep ta tb) σ H (List.replicate k.toNat xs).flatten := fun H1 e Q q =>
  h H1 e _ fun p H2 e2 hp => hk H2 (e.trans e2) _ fun H3 e3 => ⟨p, k, xs, rfl, rfl, e3 p _ hp, h1.1, h1.2, sz_of hz, fun l hl => q l _ (fresh_back (e2.trans e3) hl) ((e2.trans e3).trans (Ex.new hl)) upd_same⟩
theorem er_dct : EvR tDNewT σ H (fun G v => IsD G v .dct) := fun H1 e Q q => fun d hd => q (.ref d) (upd H d (.dT [])) (upd H1 d (.dT [])) (Clean.new e hd (Ex.new hd) upd_same) (.dct upd_same)
theorem er_dl {l : List Dt} (h : EvRs IsD σ H tA l) (hl : l.length ≤ 100000) : EvR (tLst tA) σ H (fun G v => IsD G v (.lst l)) := (er_lst mono_D h hl).imp fun G v e r => by
  obtain ⟨a, vs, rfl, ha, p⟩ := r
  exact .lst ha (paired_isDs p)
theorem er_dt {vs : List V} {l : List Dt} (h : EvA tA σ H vs) (hl : vs.length ≤ 100000) (r : ∀ G, IsDs G vs l) : EvR (tTup tA) σ H (fun G v => IsD G v (.tup l)) := r_tup (eu_tup h hl) fun p G _ e hp => .tup hp (r G)
theorem er_dtN {te : TE} {d : Dt} (h : EvR te σ H (fun G v => IsD G v d)) : EvR (tTup (tCons te tNil)) σ H (fun G v => IsD G v (.tup [d])) := fun H1 e Q q => h H1 e _ fun v G H2 c r => ⟨sz_of (by show 1 ≤ 100000; decide), fun p hp => by
  have c2 : Clean G H2 (upd G p (.tup [v])) (upd H2 p (.tup [v])) := Clean.new c.part hp (Ex.new hp) upd_same
  exact q _ _ _ (c.trans c2) (.tup upd_same (.cons (isD_mono c2.old r) .nil))⟩
theorem er_dv {d : Dt} (h : Ev te σ H v) (r : ∀ G, IsD G v d) : EvR te σ H (fun G v => IsD G v d) := r_ev h (r H)
theorem ints_D {H : Hp} : ∀ l : List Int, Paired (IsD H) (l.map V.int) (l.map Dt.int)
  | [] => .nil
  | i :: l => .cons (.int i) (ints_D l)
/-- a for over a new tuple, the word of the turn tells that it stays -/
theorem q_forNTp {g : TG} {xs : List V} (h : EvU tl σ H xs) (Pv : Addr → Nat → L2.St → Hp → Prop) (h0 : ∀ p H1, Ex H H1 → H1 p = some (.tup xs) → Pv p 0 σ H1) (hl : ∀ p i σ' H', Pv p i σ' H' → H' p = some (.tup xs))
    (hs : ∀ p i x σ' H', xs[i]? = some x → Pv p i σ' H' → g x σ' H' fun σ2 H2 => tu { D with nx := Pv p (i + 1), ct := Pv p (i + 1), bk := tz D } σ2 H2) (hd : ∀ p σ' H', Pv p xs.length σ' H' → tz D σ' H') : tSeq (tFor (iTup K tl) g tu) tz D σ H :=
  h H (Ex.refl H) _ fun p H1 hp e h1 => ⟨p, rfl, ⟨xs, st_of h1⟩, for_tup (Pv p) (h0 p H1 e h1) (fun i σ' H' _ q => st_of (hl p i σ' H' q)) (hs p) (hd p)⟩
theorem ew_callG {β : Type} {R : Hp → V → β → Prop} {b : β} {sp : Sp} {E : XK} {S : List V → Hp → Prop} (h : EvAW tA σ H S) (hs : ∀ vs G, Ex H G → S vs G → ∀ Q, RetW R b G Q → ∀ E, sp vs G Q E) : EvW (tCall sp [] E tA) σ H (fun G v => R G v b) := fun H1 e Q q => h H1 e _ fun vs H2 e2 r => by
  rw [List.append_nil]
  exact hs vs H2 (e.trans e2) r Q (fun v H3 e3 r => q v H3 (e2.trans e3) r) E
theorem ew_from {β : Type} {R : Hp → V → β → Prop} (mR : Mono R) {l : List β} (h : EvW te σ H (fun G v => IsL R G v l)) : EvW (tSl (rSlL K) te (tPart (tC (.int 1))) tNoPart) σ H (fun G v => IsL R G v (l.drop 1)) := fun H1 e Q q => h H1 e _ fun v H2 e2 r => by
  obtain ⟨a, xs, rfl, ha, p⟩ := r
  refine ⟨1, rfl, a, xs, rfl, sq_of ha, fun p0 hp0 => ?_⟩
  rw [cut_from (by decide)]
  exact q _ _ (e2.trans (Ex.new hp0)) ⟨p0, _, rfl, upd_same, paired_mono (fun x b => mR _ _ x b (Ex.new hp0)) (paired_drop p 1)⟩
/-- a heap without its tables -/
def noTab (H : Hp) : Hp := fun a => match H a with
  | some (.tbl _) => none
  | o => o
theorem noTab_ex : Ex (noTab H) H := fun a o h => by
  unfold noTab at h
  split at h
  · cases h
  · exact h
theorem noTab_keep {a : Addr} {o : HO} (h : H a = some o) (hn : ∀ ps, o ≠ .tbl ps) : noTab H a = some o := by
  unfold noTab
  split
  · rename_i ps q
    rw [h] at q
    exact absurd (Option.some.inj q) (hn ps)
  · exact h
theorem noTab_no {a : Addr} {o : HO} (h : noTab H a = some o) (ps : Array Value) : o ≠ .tbl ps := by
  rintro rfl
  unfold noTab at h
  split at h
  · cases h
  · rename_i q
    exact q ps h
theorem noTab_on {H1 H2 : Hp} (e : Ex (noTab H) H1) (n : LamX.ExtN H1 H2) : Ex (noTab H) H2 := fun a o h => n a o (e a o h) (noTab_no h)
theorem noTab_bs {bs : List Bool} (h : IsBs H v bs) : IsBs (noTab H) v bs := by
  obtain ⟨a, rfl, ha⟩ := isL_V h
  exact ⟨a, _, rfl, noTab_keep ha (fun ps z => by cases z), map_paired (F := IsV V.bl (noTab H)) (f := V.bl) (fun b => rfl) bs⟩
end
local macro_rules | `(tactic| tm_at "dds") => `(tactic| first | exact EvRs.nil | (refine EvRs.cons ?_ ?_; (· tm_at "dd"); (· tm_at "dds")))
local macro_rules | `(tactic| tm_at "dd") => `(tactic| first | exact er_dct | (refine er_dl ?_ (by first | decide | simp); tm_at "dds") | (refine er_dt (by tm_at "ev") (by first | decide | simp) (fun G => ?_); (repeat constructor); done) | (refine er_dtN ?_; tm_at "dd") | (refine er_dv (by tm_at "ev") (fun G => ?_); constructor; done))
section
variable {P : Program} {w : World} {K : PySem.W.Frag} {mg : Str → Option Value} {base : Heap}
section
variable {σ : L2.St} {H : Hp} {c : EC} {f C a : Addr} {x y due : V} {bs : List Bool}
theorem use_all {β : Type} {R : Hp → V → β → Prop} {l : List β} {xs : List V} (ha : H a = some (.lst xs)) (p : Paired (R H) xs l) (hl : l.length ≤ 1000) (hA : ∀ y d, d ∈ l → R H y d → AskD P w K mg base 5 H f x y C) (hk : ErrK K c C bs) (hd : IsBs H due bs) :
    SpV (sp_all P w K mg base c) [.ref f, x, .ref a, due] H (.bl true) := fun H1 e Q q E => ⟨f, x, a, xs, due, C, bs, rfl, e a _ ha, by rw [paired_len p]; exact hl, fun y hy => by
  obtain ⟨i, hi⟩ := List.getElem?_of_mem hy
  obtain ⟨d, hd, r⟩ := paired_at p hi
  exact (hA y d (List.mem_of_getElem? hd) r).mono e, hk, mono_bools _ _ _ _ e hd, q⟩
/-- what a lambda that raises is told as -/
theorem lam_ne {T : List (Addr × Str)} {q : Str} {params : Arguments} {body : Expr} {scope : Scope} {tx ty td : TE} {B : Hp} {E : XK} (eB : Ex (noTab B) H) (hT : LamX.Tabs T H) (hx : Ev tx σ (noTab B) x) (hy : Ev ty σ (noTab B) y) (hd : Ev td σ (noTab B) due) (hdue : IsBs (noTab B) due bs) (hk : ErrK K c C bs)
    (hask : ∀ f H1, IsLam H1 f q params body scope → AskD P w K mg base 5 H1 f x y C) (Q : Bool → Hp → Prop) (k : ∀ H2, LamX.ExtN H H2 → LamX.Tabs T H2 → Q false H2) :
    tTest (tOp (rNeD K) (tCall (sp_told P w K mg base c) [] E (tCons (tLamV T q params body scope) (tCons tx (tCons ty tNil)))) td) σ H Q := by
  refine ⟨hT, fun f H1 eN T1 hl => ?_⟩
  have e1 := noTab_on eB eN
  refine hx H1 e1 _ fun H2 e2 => hy H2 (e1.trans e2) _ fun H3 e3 => ?_
  refine ⟨f, x, y, C, bs, rfl, (hask f H1 hl).mono (e2.trans e3), hk, fun v H4 e4 r => ?_⟩
  have e14 := (e2.trans e3).trans e4
  refine hd H4 (e1.trans e14) _ fun H5 e5 => ?_
  refine rv_neK (K := K) (R := IsBs) mono_bools (fun _ _ _ => dp_bools) sh_bools (mono_bools _ _ _ _ e5 r) (mono_bools _ _ _ _ ((e1.trans e14).trans e5) hdue) H5 (Ex.refl _) _ fun H6 e6 => ⟨_, rfl, ?_⟩
  rw [eqv_bools, decide_eq_true rfl]
  have e16 := (e14.trans e5).trans e6
  exact k H6 (eN.trans (LamX.ExtN.of e16)) (T1.ext e16)
end
abbrev qL : Str := ("law" : Str) ++ ".<locals>." ++ "<lambda>"
abbrev NL : List Str := ["_law_one", "_law_other"]
abbrev s_law : Stmt := top 50
abbrev N_law : List Str := ["_law_script", "_law_far", "_law_due", "_law_k", "_law_teams_here", "_law_strange", "_law_door", "_law_bad", "_law_team", "_law_few", "_law_plans"]
theorem sc_law : FnScope N_law ["_law_script"] (defScope s_law) := ⟨rfl, rfl, rfl, by decide +kernel, rfl, by decide +kernel, by decide +kernel⟩
def spLaw5 (K : PySem.W.Frag) (Pt : Addr) : Sp := fun vs H Q _ => ∃ (a : Addr) (ns : List Int), vs = [.ref a] ∧ SqL K H a (ns.map V.int) ∧ ns.length ≤ 63 ∧ (∀ z ∈ ns, BitsOk z) ∧ H Pt = some (.tbl #[]) ∧ ∀ H2, Q (.bl true) H2
abbrev row5 (i : Nat) : List Bool := kindsM.getD i []
theorem ok_law {c : EC} {f cc Pt : Addr} {od an : Option Addr} {oc kV dc pm ct : Value} {sl : Array (Option Value)} (lk : K.lookup f = some ⟨oc, od, .func (PySem.W.fnOf "law" "law" (defArgs s_law) (defBody s_law) (defScope s_law) .none kV dc pm an (.ref cc) ct), sl⟩) (hcd : PySem.W.codeIn K (.ref cc) "law" = true) (TB : LamX.TabB base mg cc Pt)
    (d__law_with_teams : DAt K mg "_law_with_teams" s__law_with_teams ["_law_door", "_law_teams_here"]) (X__law_with_teams : XOk P w K mg base 5 "_law_with_teams" ["_law_door", "_law_teams_here"] (sx_with_teams c.teams))
    (d__law_with_team : DAt K mg "_law_with_team" s__law_with_team ["_law_where", "_law_team"]) (X__law_with_team : XOk P w K mg base 5 "_law_with_team" ["_law_where", "_law_team"] (sx_with_team c.team))
    (d__law_with_round : DAt K mg "_law_with_round" s__law_with_round ["_law_where", "_law_number"]) (X__law_with_round : XOk P w K mg base 5 "_law_with_round" ["_law_where", "_law_number"] (sx_with_round c.rnd))
    (d__law_with_plan : DAt K mg "_law_with_plan" s__law_with_plan ["_law_where", "_law_plan_here"]) (X__law_with_plan : XOk P w K mg base 5 "_law_with_plan" ["_law_where", "_law_plan_here"] (sx_with_plan c.teams c.plan c.good))
    (d_breaks : DAt K mg "breaks" s_breaks ["teams", "plan"]) (X_breaks : XOk P w K mg base 4 "breaks" ["teams", "plan"] (sx_breaks c.teams c.plan c.good)) (X_round_of : XOk P w K mg base 3 "round_of" ["teams", "one", "other"] (sx_round_of c.teams c.team c.alike))
    (E0' : ErrK K c c.teams (row5 0)) (E1 : ErrK K c c.team (row5 1)) (E2 : ErrK K c c.rnd (row5 2)) (E3 : ErrK K c c.plan (row5 3)) (E4 : ErrK K c c.alike (row5 4)) (E5 : ErrK K c c.good (row5 5))
    (D__law_cell_at : DOk P w K mg base 1 "_law_cell_at" ["_law_script", "_law_k"] (sp_cell K)) (D__law_value : DOk P w K mg base 2 "_law_value" ["_law_cell", "_law_k", "_law_limit"] sp_value) (D__law_teams : DOk P w K mg base 3 "_law_teams" ["_law_script", "_law_k"] (sp_teams K))
    (D__law_plan : DOk P w K mg base 5 "_law_plan" ["_law_teams_here"] sp_plan) (D__law_told : DOk P w K mg base 6 "_law_told" ["_law_ask", "_law_one", "_law_other"] (sp_told P w K mg base c)) (D__law_all : DOk P w K mg base 7 "_law_all" ["_law_ask", "_law_one", "_law_things", "_law_due"] (sp_all P w K mg base c))
    (D_break_of : DOk P w K mg base 3 "break_of" ["teams", "team"] sp_break_of) (D_breaks : DOk P w K mg base 4 "breaks" ["teams", "plan"] sp_breaks) (Z : Zs mg) :
    FnOk P w K mg base CX0 8 f (PySem.W.fnOf "law" "law" (defArgs s_law) (defBody s_law) (defScope s_law) .none kV dc pm an (.ref cc) ct) ["_law_script"] (spLaw5 K Pt) := by
  have nd := sc_law.nd
  obtain ⟨f__law_with_teams, fd1, F1, g__law_with_teams, b1⟩ := id d__law_with_teams
  obtain ⟨f__law_with_team, fd2, F2, g__law_with_team, b2⟩ := id d__law_with_team
  obtain ⟨f__law_with_round, fd3, F3, g__law_with_round, b3⟩ := id d__law_with_round
  obtain ⟨f__law_with_plan, fd4, F4, g__law_with_plan, b4⟩ := id d__law_with_plan
  obtain ⟨f_breaks, fd5, F5, g_breaks, b5⟩ := id d_breaks
  refine fn_of lk hcd sc_law (fun vs H Q E h => ?_) (fun A outer s H vs Q E hr h => ?_)
  · obtain ⟨a, ns, rfl, _⟩ := h
    rfl
  · obtain ⟨a0, ns, rfl, hs0, hlen, hbits, hPt, q⟩ := h
    have hu := hu_of hr
    have vok := valueM_ok (c := cellM ns 0) (k := 3) (lim := 900000) (by decide) (by decide)
    have tok := teamsM_ok ns 0
    have bv := use_value (H := H) (k := 3) (m := 900000) (cellM_bits hbits 0) (by decide) (by decide) (by decide)
    have bt := use_teams (k := 0) hs0 hbits (by decide) (by decide)
    generalize hfar : valueM (cellM ns 0) 3 900000 = far at *
    generalize hn : teamsM ns 0 = n at *
    obtain ⟨hn2, hbig⟩ := tok
    obtain ⟨h2n, hev⟩ := id hn2
    have n0 : 0 < n := by omega
    have m2 : IntMulOk 2 far := mul_small_l (by decide) (by decide)
    have m3 : IntMulOk (far % 10) 2 := mul_small_r (by decide) (by decide)
    refine ⟨_, PSs.nox (pss_cons (ps_par (i := 1) (j := 2) (by rfl) nd rfl rfl (by decide) rfl rfl (pa_cons (pe_callD D__law_value (hr.mono (by decide)) (pa_cons (pe_callD D__law_cell_at (hr.mono (by decide)) (pa_cons (pv 0) (pa_cons pe_int pa_nil))) (pa_cons pe_int (pa_cons pe_int pa_nil)))) (pa_cons (pe_lst pa_nil) pa_nil)) (by rfl))
      (pss_cons (ps_for PassesOwn.never rfl (pi_range1 rfl Z.range (pa_cons pe_int pa_nil)) (pg_name (i := 3) nd rfl (Or.inl rfl))
        (pss_one (ps_expr (pe_bm PySem.F.plainAttrs_list PySem.F.slot_list_append PySem.F.type_list_append mt_append (pv 2) (pa_cons (pe_lst (pa_cons (pe_cmpR op_eq (pv 3) pe_int (nomark _)) (pa_cons (pe_cmpR op_eq (pv 3) pe_int (nomark _)) (pa_cons (pe_cmpR op_eq (pv 3) pe_int (nomark _)) (pa_cons (pe_cmpR op_eq (pv 3) pe_int (nomark _)) (pa_cons (pe_cmpR op_eq (pv 3) pe_int (nomark _)) (pa_cons (pe_cmpR op_eq (pv 3) pe_int (nomark _)) (pa_cons pe_bl pa_nil)))))))) pa_nil)))))
      (pss_cons (ps_set (i := 4) nd rfl (Or.inl rfl) (pe_callD D__law_teams (hr.mono (by decide)) (pa_cons (pv 0) (pa_cons pe_int pa_nil))))
      (pss_cons (ps_set (i := 5) nd rfl (Or.inl rfl) (pe_lst (pa_cons pe_non (pa_cons pe_str (pa_cons pe_bl (pa_cons pe_bl (pa_cons (pe_lst (pa_cons pe_int pa_nil)) (pa_cons (pe_tup (pa_cons pe_int pa_nil)) (pa_cons pe_dnewT (pa_cons (pe_un un_neg pe_int) (pa_cons (pe_op op_sub (pe_un un_neg pe_int) (pe_op op_mulB pe_int (pv 1))) pa_nil)))))))))))
      (pss_cons (ps_for PassesOwn.never rfl (pi_range1 rfl Z.range (pa_cons pe_int pa_nil)) (pg_name (i := 6) nd rfl (Or.inl rfl))
        (pss_cons (ps_set (i := 7) nd rfl (Or.inl rfl) (pe_op op_cat (pe_op op_cat (pv 5) (pe_lst (pa_cons pe_int (pa_cons pe_int (pa_cons pe_int (pa_cons (pe_op op_add pe_int (pe_op op_mulB pe_int (pv 1))) pa_nil)))))) (pe_op op_rep (pe_lst (pa_cons pe_int (pa_cons (pe_op op_add pe_int (pe_op op_mulB pe_int (pv 1))) pa_nil))) (pe_op op_fdiv (pv 6) pe_int))))
        (pss_one (ps_if (pt_not (pt_val (pe_callD D__law_all (hr.mono (by decide)) (pa_cons (pe_glob (v := .ref f__law_with_teams) rfl g__law_with_teams rfl) (pa_cons (pv 6) (pa_cons (pv 7) (pa_cons (pe_ix (k_ixL (K := K)) (pv 2) pe_int (fun _ _ => rfl)) pa_nil)))))))
          (pss_one (ps_ret pe_bl))
          pss_nil))))
      (pss_cons (ps_for PassesOwn.never rfl (pi_range1 rfl Z.range (pa_cons pe_int pa_nil)) (pg_name (i := 6) nd rfl (Or.inl rfl))
        (pss_one (ps_if (pt_not (pt_val (pe_callD D__law_all (hr.mono (by decide)) (pa_cons (pe_glob (v := .ref f__law_with_team) rfl g__law_with_team rfl) (pa_cons (pe_tup (pa_cons (pv 6) (pa_cons (pv 4) pa_nil))) (pa_cons (pe_op op_cat (pv 5) (pe_lst (pa_cons (pv 4) (pa_cons (pe_op op_add (pv 4) (pv 1)) pa_nil)))) (pa_cons (pe_ix (k_ixL (K := K)) (pv 2) pe_int (fun _ _ => rfl)) pa_nil)))))))
          (pss_one (ps_ret pe_bl))
          pss_nil)))
      (pss_cons (ps_for PassesOwn.never rfl (pi_range1 rfl Z.range (pa_cons pe_int pa_nil)) (pg_name (i := 6) nd rfl (Or.inl rfl))
        (pss_one (ps_if (pt_not (pt_val (pe_callD D__law_all (hr.mono (by decide)) (pa_cons (pe_glob (v := .ref f__law_with_round) rfl g__law_with_round rfl) (pa_cons (pe_tup (pa_cons (pv 6) (pa_cons (pv 4) pa_nil))) (pa_cons (pe_op op_cat (pv 5) (pe_lst (pa_cons (pe_op op_sub (pv 4) pe_int) (pa_cons (pe_op op_add (pe_op op_sub (pv 4) pe_int) (pv 1)) pa_nil)))) (pa_cons (pe_ix (k_ixL (K := K)) (pv 2) pe_int (fun _ _ => rfl)) pa_nil)))))))
          (pss_one (ps_ret pe_bl))
          pss_nil)))
      (pss_cons (ps_for PassesOwn.never rfl (k_tup (K := K) (pe_tup (pa_cons pe_int (pa_cons (pe_op op_sub (pv 4) pe_int) (pa_cons (pe_op op_mod (pv 1) (pv 4)) pa_nil))))) (pg_name (i := 8) nd rfl (Or.inl rfl))
        (pss_one (ps_if (pt_cmpR (k_neD (K := K) hr.units) (pe_callD D__law_told (hr.mono (by decide)) (pa_cons (pe_lam (T := [(Pt, qL)]) TB rfl (List.mem_singleton.mpr rfl) (fun p hp _ => by rw [List.mem_singleton.mp hp] <;> rfl) rfl (by decide +kernel) rfl) (pa_cons (pv 4) (pa_cons (pv 8) pa_nil)))) (pe_ix (k_ixL (K := K)) (pv 2) pe_int (fun _ _ => rfl)) (nomark _))
          (pss_one (ps_ret pe_bl))
          pss_nil)))
      (pss_cons (ps_set (i := 9) nd rfl (Or.inl rfl) (pe_op op_add pe_int (pe_op op_mulB (pe_op op_mod (pv 1) pe_int) pe_int)))
      (pss_cons (ps_set (i := 10) nd rfl (Or.inl rfl) (pe_lst (pa_cons pe_non (pa_cons (pe_tup pa_nil) (pa_cons pe_str (pa_cons pe_dnewT (pa_cons pe_int (pa_cons (pe_lst (pa_cons pe_non pa_nil)) (pa_cons (pe_lst (pa_cons (pe_tup pa_nil) pa_nil)) (pa_cons (pe_lst (pa_cons (pe_tup (pa_cons (pe_tup (pa_cons pe_int (pa_cons pe_int pa_nil))) pa_nil)) pa_nil)) (pa_cons (pe_lst (pa_cons (pe_lst (pa_cons pe_non pa_nil)) pa_nil)) (pa_cons (pe_lst (pa_cons (pe_lst (pa_cons (pe_tup (pa_cons pe_int pa_nil)) pa_nil)) pa_nil)) (pa_cons (pe_lst (pa_cons (pe_lst (pa_cons (pe_tup (pa_cons pe_int (pa_cons pe_int (pa_cons pe_int pa_nil)))) pa_nil)) pa_nil)) (pa_cons (pe_lst (pa_cons (pe_lst (pa_cons (pe_lst (pa_cons pe_int (pa_cons pe_int pa_nil))) pa_nil)) pa_nil)) pa_nil))))))))))))))
      (pss_cons (ps_set (i := 10) nd rfl (Or.inl rfl) (pe_op op_cat (pv 10) (pe_lst (pa_cons (pe_lst (pa_cons (pe_lst (pa_cons (pe_tup (pa_cons pe_int (pa_cons pe_int pa_nil))) pa_nil)) pa_nil)) (pa_cons (pe_lst (pa_cons (pe_lst (pa_cons (pe_tup (pa_cons pe_int (pa_cons (pv 9) pa_nil))) pa_nil)) pa_nil)) (pa_cons (pe_lst (pa_cons (pe_lst (pa_cons (pe_tup (pa_cons (pe_un un_neg pe_int) (pa_cons pe_int pa_nil))) pa_nil)) pa_nil)) (pa_cons (pe_lst (pa_cons (pe_lst (pa_cons (pe_tup (pa_cons pe_int (pa_cons pe_bl pa_nil))) pa_nil)) pa_nil)) (pa_cons (pe_lst (pa_cons (pe_lst (pa_cons (pe_tup (pa_cons pe_str (pa_cons pe_int pa_nil))) pa_nil)) pa_nil)) (pa_cons (pe_lst (pa_cons (pe_lst (pa_cons (pe_tup (pa_cons pe_int (pa_cons pe_int pa_nil))) pa_nil)) (pa_cons pe_int pa_nil))) pa_nil)))))))))
      (pss_cons (ps_set (i := 10) nd rfl (Or.inl rfl) (pe_op op_cat (pv 10) (pe_lst (pa_cons (pe_lst (pa_cons (pe_lst (pa_cons (pe_tup (pa_cons pe_int (pa_cons pe_int pa_nil))) pa_nil)) (pa_cons (pe_lst (pa_cons (pe_tup (pa_cons pe_int (pa_cons (pe_op op_add (pv 9) (pv 1)) pa_nil))) pa_nil)) pa_nil))) (pa_cons (pe_lst (pa_cons (pe_lst (pa_cons (pe_tup (pa_cons pe_int (pa_cons (pe_op op_sub (pe_un un_neg pe_int) (pv 1)) pa_nil))) pa_nil)) pa_nil)) (pa_cons (pe_lst (pa_cons (pe_lst (pa_cons (pe_tup (pa_cons pe_int (pa_cons pe_non pa_nil))) pa_nil)) pa_nil)) (pa_cons (pe_lst (pa_cons (pe_lst pa_nil) (pa_cons (pe_lst (pa_cons (pe_tup (pa_cons pe_int (pa_cons pe_int pa_nil))) pa_nil)) pa_nil))) pa_nil)))))))
      (pss_cons (ps_for PassesOwn.never rfl (pi_range1 rfl Z.range (pa_cons pe_int pa_nil)) (pg_name (i := 6) nd rfl (Or.inl rfl))
        (pss_one (ps_if (pt_not (pt_val (pe_callD D__law_all (hr.mono (by decide)) (pa_cons (pe_glob (v := .ref f__law_with_plan) rfl g__law_with_plan rfl) (pa_cons (pe_tup (pa_cons (pv 6) (pa_cons (pv 9) pa_nil))) (pa_cons (pv 10) (pa_cons (pe_ix (k_ixL (K := K)) (pv 2) pe_int (fun _ _ => rfl)) pa_nil)))))))
          (pss_one (ps_ret pe_bl))
          pss_nil)))
      (pss_cons (ps_if (pt_not (pt_val (pe_callD D__law_all (hr.mono (by decide)) (pa_cons (pe_glob (v := .ref f__law_with_plan) rfl g__law_with_plan rfl) (pa_cons (pe_tup (pa_cons pe_int (pa_cons (pv 9) pa_nil))) (pa_cons (pe_lst (pa_cons (pe_lst pa_nil) (pa_cons (pe_lst (pa_cons (pe_lst pa_nil) pa_nil)) (pa_cons (pe_lst (pa_cons (pe_lst (pa_cons (pe_tup (pa_cons pe_int (pa_cons pe_int pa_nil))) pa_nil)) (pa_cons (pe_lst (pa_cons (pe_tup (pa_cons pe_int (pa_cons pe_int pa_nil))) pa_nil)) pa_nil))) pa_nil)))) (pa_cons (pe_ix (k_ixL (K := K)) (pv 2) pe_int (fun _ _ => rfl)) pa_nil)))))))
        (pss_one (ps_ret pe_bl))
        pss_nil)
      (pss_cons (ps_if (PW.pt (pw_and (pt_cmpR op_gt (pv 9) pe_int (nomark _)) (pw_and1 (pt_cmpR (k_neD (K := K) hr.units) (pe_callD D__law_told (hr.mono (by decide)) (pa_cons (pe_glob (v := .ref f_breaks) rfl g_breaks rfl) (pa_cons (pv 9) (pa_cons (pe_slice (k_slL (K := K)) (pe_callD D__law_plan (hr.mono (by decide)) (pa_cons (pv 9) pa_nil)) (po_some pe_int) po_none) pa_nil)))) (pe_ix (k_ixL (K := K)) (pv 2) pe_int (fun _ _ => rfl)) (nomark _)))))
        (pss_one (ps_ret pe_bl))
        pss_nil)
      (pss_one (ps_ret (pe_and (pe_cmpR op_isN0 (pe_callD D_break_of (hr.mono (by decide)) (pa_cons pe_int (pa_cons pe_int pa_nil))) pe_non (nomark _)) (pe_one (pe_cmpR (k_eqD (K := K) hr.units) (pe_callD D_breaks (hr.mono (by decide)) (pa_cons pe_int (pa_cons (pe_lst (pa_cons (pe_lst (pa_cons (pe_tup (pa_cons pe_int (pa_cons pe_int pa_nil))) pa_nil)) pa_nil)) pa_nil))) (pe_lst pa_nil) (nomark _))))))))))))))))))))), ?_⟩
    -- the first number, what is due
    refine q_parL (ev_call0 (ea_cons (ev_call0 (by tm_at "ev") (use_cell hs0 (Int.le_refl 0))) (by tm_at "ev")) bv) (el_lst ea_nil (by decide)) fun p H1 hp1 e1 h1 => ?_
    refine q_forR1 (n := 6) (by tm_at "ev") ⟨by decide, by decide⟩ (fun i σ' H' => Grown IsBs Void H p ((List.range i).map fun k : Nat => kindM (k : Int)) H' ∧ ∃ o3, σ' = [some (.ref a0), some (.int far), some (.ref p), o3, none, none, none, none, none, none, none])
      (fun H2 e2 => ⟨grown_up (grown_new void_ex hp1 e1 h1) e2, none, rfl⟩) ?_ ?_
    · rintro i σ' H' hi ⟨g, o3, rfl⟩
      rw [List.range_succ, List.map_append]
      refine s_appG mono_bools g void_ex (by tm_at "ev") (er_el (l := kindM (i : Int)) mono_V (el_lst (ea_is (by tm_at "ev") (by rfl)) (by show 7 ≤ 100000; decide)) (map_paired (F := IsV V.bl Void) (f := V.bl) (fun b => rfl) (kindM (i : Int)))) (by rw [List.length_map, List.length_range]; omega) fun H2 _ g2 => ⟨g2, _, rfl⟩
    rintro σ' H2 ⟨g, o3, rfl⟩
    have e12 : Ex H H2 := grown_ex g
    obtain ⟨G0, c0, r0, _⟩ := grown_end mono_bools hp1 g
    have rk := mono_L mono_bools _ _ _ _ c0.part r0
    clear r0 c0 g
    have rk : IsL IsBs H2 (.ref p) kindsM := rk
    obtain ⟨p', ws, ep, hws, pws⟩ := rk
    cases ep
    have atw : ∀ i : Nat, i < 6 → ∃ v, atI ws (i : Int) = some v ∧ IsBs H2 v (row5 i) := fun i hi => isL_at (i := (i : Int)) pws (by omega) (by show (i : Int) < 6; omega) []
    obtain ⟨w0, aw0, bw0⟩ : ∃ v, atI ws 0 = some v ∧ IsBs H2 v (row5 0) := atw 0 (by decide)
    obtain ⟨w1, aw1, bw1⟩ : ∃ v, atI ws 1 = some v ∧ IsBs H2 v (row5 1) := atw 1 (by decide)
    obtain ⟨w2, aw2, bw2⟩ : ∃ v, atI ws 2 = some v ∧ IsBs H2 v (row5 2) := atw 2 (by decide)
    obtain ⟨w3, aw3, bw3⟩ : ∃ v, atI ws 3 = some v ∧ IsBs H2 v (row5 3) := atw 3 (by decide)
    obtain ⟨w4, aw4, bw4⟩ : ∃ v, atI ws 4 = some v ∧ IsBs H2 v (row5 4) := atw 4 (by decide)
    obtain ⟨w5, aw5, bw5⟩ : ∃ v, atI ws 5 = some v ∧ IsBs H2 v (row5 5) := atw 5 (by decide)
    clear atw pws
    -- the count of teams, strange things
    refine q_asg (v := .int n) (Ev.mono e12 (ev_call0 (by tm_at "ev") bt)) fun H3 e3 => ?_
    refine q_asgW (R := fun G v => IsL IsD G v (strangeM far)) (ew_er (fun _ _ _ e r => mono_L mono_D _ _ _ _ e r) (er_lst mono_D (by unfold strangeM; tm_at "dds") (by show 9 ≤ 100000; decide))) fun v5 H4 e4 r5 => ?_
    -- no counts of teams
    have at2 : ∀ {H' : Hp}, Ex H2 H' → H' p = some (.lst ws) := fun e => e p _ hws
    have cat_mono : ∀ (l : List Dt) (G G' : Hp) (v : V), Ex G G' → IsL IsD G v l → IsL IsD G' v l := fun l _ _ _ e r => mono_L mono_D _ _ _ _ e r
    have mtup : ∀ (xs : List V) (G G' : Hp) (v : V), Ex G G' → (∃ t, v = .ref t ∧ G t = some (.tup xs)) → ∃ t, v = .ref t ∧ G' t = some (.tup xs) := fun xs G G' v e h => by
      obtain ⟨t, h1, h2⟩ := h
      exact ⟨t, h1, e t _ h2⟩
    refine q_forR1 (n := 6) (by tm_at "ev") ⟨by decide, by decide⟩ (fun i σ' H' => Ex H4 H' ∧ ∃ o6 o7, σ' = [some (.ref a0), some (.int far), some (.ref p), o3, some (.int n), some v5, o6, o7, none, none, none])
      (fun H' e' => ⟨e', none, none, rfl⟩) ?_ ?_
    · rintro i σ' H' hi ⟨e', o6, o7, rfl⟩
      have rr5 := cat_mono _ _ _ _ e' r5
      have e2' : Ex H2 H' := (e3.trans e4).trans e'
      have k4 : (i : Int) / 4 = 0 ∨ (i : Int) / 4 = 1 := by omega
      refine q_asgW (R := fun G v => IsL IsD G v (strangeM far ++ moreM far ++ manyD far (i : Int))) (ew_er (cat_mono _) (er_cat mono_D (er_cat mono_D (r_ev (v := v5) (by tm_at "ev") rr5) (er_lst (l := moreM far) mono_D (by unfold moreM; tm_at "dds") (by show 4 ≤ 100000; decide)) (by show 13 ≤ 100000; decide))
        (er_el mono_D (el_rep (k := (i : Int) / 4) (ex_new (el_lst (vs := (manyM far).map V.int) (ea_is (by tm_at "ev") (by rfl)) (by show 2 ≤ 100000; decide))) (by tm_at "ev") (by omega) (by show 2 * ((i : Int) / 4).toNat ≤ 100000; omega)) ?_) ?_)) fun v7 H5 e5 r7 => ?_
      · have e : (List.replicate ((i : Int) / 4).toNat ((manyM far).map V.int)).flatten = ((List.replicate ((i : Int) / 4).toNat (manyM far)).flatten).map V.int := by
          rw [List.map_flatten, List.map_replicate]
        rw [e]
        exact ints_D _
      · have := manyD_len (far := far) (door := (i : Int)) (by omega)
        show 13 + _ ≤ 100000
        omega
      obtain ⟨a7, xs7, rfl, ha7, p7⟩ := r7
      refine s_when (b := !true) (et_not (et_B (ev_call0 (vs := [.ref f__law_with_teams, .int (i : Int), .ref a7, w0]) (ea_cons (by tm_at "ev") (ea_cons (by tm_at "ev") (ea_cons (by tm_at "ev") (ea_cons (ev_ixL (by tm_at "ev") (sq_of (at2 (e2'.trans e5))) (by tm_at "ev") aw0) ea_nil)))) (use_all ha7 p7 ?_ (fun y d hm hy => ?_) E0' (mono_bools _ _ _ _ (e2'.trans e5) bw0))))) (fun hb => by simp at hb) fun _ H6 e6 => ⟨(e'.trans e5).trans e6, _, _, rfl⟩
      · have := manyD_len (far := far) (door := (i : Int)) (by omega)
        rw [List.length_append]
        show 13 + _ ≤ 1000
        omega
      · exact ask_def d__law_with_teams X__law_with_teams g__law_with_teams fun H7 e7 Q E o => ⟨(i : Int), y, d, rfl, by omega, by omega, isD_mono e7 hy, bad_counts vok.1 (by omega) d hm, o⟩
    rintro σ' H5 ⟨e5, o6, o7, rfl⟩
    have rr5 := cat_mono _ _ _ _ e5 r5
    have e25 : Ex H2 H5 := (e3.trans e4).trans e5
    -- no teams
    refine q_forR1 (n := 5) (by tm_at "ev") ⟨by decide, by decide⟩ (fun i σ' H' => Ex H5 H' ∧ ∃ o6, σ' = [some (.ref a0), some (.int far), some (.ref p), o3, some (.int n), some v5, o6, o7, none, none, none])
      (fun H' e' => ⟨e', _, rfl⟩) ?_ ?_
    · rintro i σ' H' hi ⟨e', o6, rfl⟩
      have rr := cat_mono _ _ _ _ e' rr5
      have e2' := e25.trans e'
      refine s_when (b := !true) (et_not (et_B (ev_callG (eaw_c (x := .ref f__law_with_team) (by tm_at "ev") (eaw_cons (mtup [.int (i : Int), .int n]) (ew_tup (eu_pair (by tm_at "ev") (by tm_at "ev")))
        (eaw_cons (R := fun G v => IsL IsD G v (strangeM far ++ [.int n, .int (n + far)])) (cat_mono _) (ew_er (cat_mono _) (er_cat mono_D (r_ev (v := v5) (by tm_at "ev") rr) (er_lst mono_D (by tm_at "dds") (by show 2 ≤ 100000; decide)) (by show 11 ≤ 100000; decide)))
        (eaw_c (x := w1) (ev_ixL (by tm_at "ev") (sq_of (at2 e2')) (by tm_at "ev") aw1) eaw_nil)))) fun vs G eG r => ?_))) (fun hb => by simp at hb) fun _ H6 e6 => ⟨e'.trans e6, _, rfl⟩
      obtain ⟨_, rfl, _, _, rfl, ⟨t, rfl, ht⟩, _, _, rfl, ⟨a7, xs7, rfl, ha7, p7⟩, _, rfl, rfl⟩ := r
      refine use_all ha7 p7 (by show 11 ≤ 1000; decide) (fun y d hm hy => ?_) E1 (mono_bools _ _ _ _ (e2'.trans eG) bw1)
      refine ask_def d__law_with_team X__law_with_team g__law_with_team fun H7 e7 Q E o => ⟨t, (i : Int), n, y, d, rfl, e7 t _ ht, by omega, by omega, hn2, isD_mono e7 hy, ?_, o⟩
      rcases List.mem_append.mp hm with hm | hm
      · exact strange_in vok.1 d hm
      · simp only [List.mem_cons, List.not_mem_nil, or_false] at hm
        rcases hm with rfl | rfl
        · simp [badIn]
        · simp [badIn]
          omega
    rintro σ' H6 ⟨e6, o6, rfl⟩
    have rr6 := cat_mono _ _ _ _ e6 rr5
    have e26 := e25.trans e6
    -- no rounds
    refine q_forR1 (n := 2) (by tm_at "ev") ⟨by decide, by decide⟩ (fun i σ' H' => Ex H6 H' ∧ ∃ o6, σ' = [some (.ref a0), some (.int far), some (.ref p), o3, some (.int n), some v5, o6, o7, none, none, none])
      (fun H' e' => ⟨e', _, rfl⟩) ?_ ?_
    · rintro i σ' H' hi ⟨e', o6, rfl⟩
      have rr := cat_mono _ _ _ _ e' rr6
      have e2' := e26.trans e'
      refine s_when (b := !true) (et_not (et_B (ev_callG (eaw_c (x := .ref f__law_with_round) (by tm_at "ev") (eaw_cons (mtup [.int (i : Int), .int n]) (ew_tup (eu_pair (by tm_at "ev") (by tm_at "ev")))
        (eaw_cons (R := fun G v => IsL IsD G v (strangeM far ++ [.int (n - 1), .int (n - 1 + far)])) (cat_mono _) (ew_er (cat_mono _) (er_cat mono_D (r_ev (v := v5) (by tm_at "ev") rr) (er_lst mono_D (by tm_at "dds") (by show 2 ≤ 100000; decide)) (by show 11 ≤ 100000; decide)))
        (eaw_c (x := w2) (ev_ixL (by tm_at "ev") (sq_of (at2 e2')) (by tm_at "ev") aw2) eaw_nil)))) fun vs G eG r => ?_))) (fun hb => by simp at hb) fun _ H7 e7 => ⟨e'.trans e7, _, rfl⟩
      obtain ⟨_, rfl, _, _, rfl, ⟨t, rfl, ht⟩, _, _, rfl, ⟨a7, xs7, rfl, ha7, p7⟩, _, rfl, rfl⟩ := r
      refine use_all ha7 p7 (by show 11 ≤ 1000; decide) (fun y d hm hy => ?_) E2 (mono_bools _ _ _ _ (e2'.trans eG) bw2)
      refine ask_def d__law_with_round X__law_with_round g__law_with_round fun H7 e7 Q E o => ⟨t, (i : Int), n, y, d, rfl, e7 t _ ht, hn2, isD_mono e7 hy, ?_, o⟩
      rcases List.mem_append.mp hm with hm | hm
      · exact strange_in vok.1 d hm
      · simp only [List.mem_cons, List.not_mem_nil, or_false] at hm
        rcases hm with rfl | rfl
        · simp [badIn]
        · simp [badIn]
          omega
    rintro σ' H7 ⟨e7, o6, rfl⟩
    have e27 := e26.trans e7
    have hPt7 : H7 Pt = some (.tbl #[]) := (e12.trans e27) Pt _ hPt
    clear rr5 rr6
    -- a team and itself, by the lambda
    have tk := Int.emod_nonneg far (b := n) (by omega)
    have tk2 := Int.emod_lt_of_pos far n0
    have l3 : ∀ t ∈ ([0, n - 1, far % n] : List Int), TeamOk n t := by
      intro t ht
      simp only [List.mem_cons, List.not_mem_nil, or_false] at ht
      unfold TeamOk
      rcases ht with rfl | rfl | rfl <;> omega
    refine q_forNTp (xs := ([0, n - 1, far % n] : List Int).map V.int) (eu_tup (ea_is (by tm_at "ev") (by rfl)) (by show 3 ≤ 100000; decide))
      (fun p3 i σ' H' => H' p3 = some (.tup (([0, n - 1, far % n] : List Int).map V.int)) ∧ Ex (noTab H7) H' ∧ LamX.Tabs [(Pt, qL)] H' ∧ ∃ o8, σ' = [some (.ref a0), some (.int far), some (.ref p), o3, some (.int n), some v5, o6, o7, o8, none, none])
      (fun p3 H' e' h3 => ⟨h3, noTab_ex.trans e', ?_, none, rfl⟩) (fun p3 i σ' H' h => h.1) ?_ ?_
    · intro x hx
      rw [List.mem_singleton.mp hx]
      exact LamX.TabS.nil (e' _ _ hPt7)
    · rintro p3 i x σ' H' hx ⟨h3, eT, hT, o8, rfl⟩
      rw [List.getElem?_map] at hx
      obtain ⟨t, ht, rfl⟩ := Option.map_eq_some_iff.mp hx
      have htm := l3 t (List.mem_of_getElem? ht)
      refine lam_ne (B := H7) (x := .int n) (y := .int t) (due := w4) (C := c.alike) eT hT (by tm_at "ev") (by tm_at "ev") (ev_ixL (by tm_at "ev") (sq_of (noTab_keep (at2 e27) (fun ps z => by cases z))) (by tm_at "ev") aw4) (noTab_bs (mono_bools _ _ _ _ e27 bw4)) E4 (fun f1 H8 L => ?_) _ fun H8 eN T8 => ?_
      · refine ask_lam (k := 4) (N := NL) (ps := NL) L ⟨rfl, rfl, rfl, by decide +kernel, rfl, by decide +kernel, by decide +kernel⟩ rfl (fun pm c1 ctv us hl => match us, hl with | [_, _], _ => rfl)
          (fun cdv A outer s H9 E e9 hr9 o9 => ⟨_, pe_callX X_round_of (hr9.mono (by decide)) (passes_call (takes_of rfl rfl rfl rfl) (fun _ _ _ _ h => h)) (pa_cons (pv 0) (pa_cons (pv 1) (pa_cons (pv 1) pa_nil))), ?_⟩)
        exact rx_call (by tm_at "ev") (ux_round_of (.alike hn2 htm)) H9 (Ex.refl _) o9 _
      · exact ⟨eN _ _ h3 (fun ps z => by cases z), noTab_on eT eN, T8, _, rfl⟩
    rintro p3 σ' H8 ⟨_, e8, _, o8, rfl⟩
    have hp8 : H8 p = some (.lst ws) := e8 p _ (noTab_keep (at2 e27) (fun ps z => by cases z))
    have B3 := mono_bools _ _ _ _ e8 (noTab_bs (mono_bools _ _ _ _ e27 bw3))
    have B5 := mono_bools _ _ _ _ e8 (noTab_bs (mono_bools _ _ _ _ e27 bw5))
    have hv0 := vok.1
    clear bw0 bw1 bw2 bw3 bw4 bw5 r5 e8 e27 e26 e25 e7 e6 e5 e4 e3 e12 hws at2 hPt7 hPt hs0 bv bt
    -- few teams
    refine q_asg (v := .int (2 + far % 10 * 2)) (by tm_at "ev") fun H9 e9 => ?_
    have few2 : 2 ≤ 2 + far % 10 * 2 := by omega
    have few20 : 2 + far % 10 * 2 ≤ 20 := by omega
    have fewev : (2 + far % 10 * 2) % 2 = 0 := by omega
    generalize hfew : 2 + far % 10 * 2 = few at few2 few20 fewev
    have tf : TeamsOk few := ⟨few2, fewev⟩
    -- no plans
    refine q_asgW (R := fun G v => IsL IsD G v plansM1) (ew_er (cat_mono _) (er_lst mono_D (by unfold plansM1; tm_at "dds") (by show 12 ≤ 100000; decide))) fun va Ha ea ra => ?_
    refine q_asgW (R := fun G v => IsL IsD G v (plansM1 ++ plansM2 few)) (ew_er (cat_mono _) (er_cat mono_D (r_ev (v := va) (by tm_at "ev") ra) (er_lst mono_D (by unfold plansM2; tm_at "dds") (by show 6 ≤ 100000; decide)) (by show 18 ≤ 100000; decide))) fun vb Hb eb rb => ?_
    refine q_asgW (R := fun G v => IsL IsD G v (plansM1 ++ plansM2 few ++ plansM3 few far)) (ew_er (cat_mono _) (er_cat mono_D (r_ev (v := vb) (by tm_at "ev") rb) (er_lst mono_D (by unfold plansM3; tm_at "dds") (by show 4 ≤ 100000; decide)) (by show 22 ≤ 100000; decide))) fun vc Hc ec rc => ?_
    have e8c := ((e9.trans ea).trans eb).trans ec
    obtain ⟨a10, xs10, rfl, ha10, p10⟩ := rc
    refine q_forR1 (n := 2) (by tm_at "ev") ⟨by decide, by decide⟩ (fun i σ' H' => Ex Hc H' ∧ ∃ o6, σ' = [some (.ref a0), some (.int far), some (.ref p), o3, some (.int n), some v5, o6, o7, o8, some (.int few), some (.ref a10)])
      (fun H' e' => ⟨e', _, rfl⟩) ?_ ?_
    · rintro i σ' H' hi ⟨e', o6, rfl⟩
      have e8' := e8c.trans e'
      refine s_when (b := !true) (et_not (et_B (ev_callG (eaw_c (x := .ref f__law_with_plan) (by tm_at "ev") (eaw_cons (mtup [.int (i : Int), .int few]) (ew_tup (eu_pair (by tm_at "ev") (by tm_at "ev")))
        (eaw_c (x := .ref a10) (by tm_at "ev") (eaw_c (x := w3) (ev_ixL (by tm_at "ev") (sq_of (e8' p _ hp8)) (by tm_at "ev") aw3) eaw_nil)))) fun vs G eG r => ?_))) (fun hb => by simp at hb) fun _ H7 e7 => ⟨e'.trans e7, _, rfl⟩
      obtain ⟨_, rfl, _, _, rfl, ⟨t, rfl, ht⟩, _, rfl, _, rfl, rfl⟩ := r
      have p10' := paired_mono (fun x b h => isD_mono (e'.trans eG) h) p10
      refine use_all (R := IsD) (l := plansM1 ++ plansM2 few ++ plansM3 few far) ((e'.trans eG) _ _ ha10) p10' (by show 22 ≤ 1000; decide) (fun y d hm hy => ?_) E3 (mono_bools _ _ _ _ (e8'.trans eG) B3)
      obtain ⟨z1, z2⟩ := bad_plans hv0 few2 d hm
      exact ask_def d__law_with_plan X__law_with_plan g__law_with_plan fun H7 e7 Q E o => ⟨t, (i : Int), few, y, c.plan, rfl, e7 t _ ht, Or.inl (.plan tf few20 (isD_mono e7 hy) z1 z2), o⟩
    rintro σ' Hd ⟨ed, o6, rfl⟩
    have e8d := e8c.trans ed
    -- plans that aren't good
    have mplans : ∀ (l : List (List (List (Int × Int)))) (G G' : Hp) (v : V), Ex G G' → IsL IsPlan G v l → IsL IsPlan G' v l := fun l _ _ _ e r => mono_plans _ _ _ _ e r
    have erow : ∀ {σ : L2.St} {H : Hp} {ta tb : TE} {i j : Int}, Ev ta σ H (.int i) → Ev tb σ H (.int j) → EvR (tLst (tCons (tTup (tCons ta (tCons tb tNil))) tNil)) σ H (fun G v => IsRow G v [(i, j)]) := fun h1 h2 => er_lst mono_pair (.cons (er_pair h1 h2) .nil) (by simp)
    refine q_when (b := !true) (et_not (et_B (ev_callG (eaw_c (x := .ref f__law_with_plan) (by tm_at "ev") (eaw_cons (mtup [.int 1, .int few]) (ew_tup (eu_pair (by tm_at "ev") (by tm_at "ev")))
      (eaw_cons (R := fun G v => IsL IsPlan G v poorM) (mplans _) (ew_er (mplans _) (er_lst mono_plan (.cons (er_lst mono_row .nil (by decide)) (.cons (er_lst mono_row (.cons (er_lst mono_pair .nil (by decide)) .nil) (by decide)) (.cons (er_lst mono_row (.cons (erow (by tm_at "ev") (by tm_at "ev")) (.cons (erow (by tm_at "ev") (by tm_at "ev")) .nil)) (by decide)) .nil))) (by decide)))
      (eaw_c (x := w5) (ev_ixL (by tm_at "ev") (sq_of (e8d p _ hp8)) (by tm_at "ev") aw5) eaw_nil)))) fun vs G eG r => ?_))) (fun hb => by simp at hb) fun _ He ee => ?_
    · obtain ⟨_, rfl, _, _, rfl, ⟨t, rfl, ht⟩, _, _, rfl, ⟨a7, xs7, rfl, ha7, p7⟩, _, rfl, rfl⟩ := r
      refine use_all ha7 p7 (by decide) (fun y d hm hy => ?_) E5 (mono_bools _ _ _ _ (e8d.trans eG) B5)
      obtain ⟨z1, z2, z3⟩ := poor_plans tf d hm
      exact ask_def d__law_with_plan X__law_with_plan g__law_with_plan fun H7 e7 Q E o => ⟨t, 1, few, y, c.good, rfl, e7 t _ ht, Or.inr ⟨by decide, .good tf few20 (mono_plan _ _ _ _ e7 hy) z1 z2 z3⟩, o⟩
    have e8e := e8d.trans ee
    -- the told plan without its first round
    refine q_when (b := decide (few > 2) && false) (et_and (by tm_at "ev") fun hgt => et_test (ev_is (ev_opW1 (R := fun G v => IsBs G v (row5 5)) (fun _ _ _ e r => mono_bools _ _ _ _ e r) (ew_callG (eaw_c (x := .ref f_breaks) (by tm_at "ev") (eaw_c (x := .int few) (by tm_at "ev")
      (eaw_cons (R := fun G v => IsPlan G v ((planM few).drop 1)) (fun _ _ _ e r => mono_plan _ _ _ _ e r) (ew_from mono_row (ew_er (fun _ _ _ e r => mono_plan _ _ _ _ e r) (er_call mono_plan (by tm_at "ev") (use_plan tf (by omega))))) eaw_nil))) fun vs G eG r Q hQ E => ?_)
      (ev_ixL (by tm_at "ev") (sq_of (e8e p _ hp8)) (by tm_at "ev") aw5) fun v G eG (r : IsBs G v (row5 5)) => rv_neK mono_bools (fun _ _ _ => dp_bools) sh_bools r (mono_bools _ _ _ _ (e8e.trans eG) B5)) ?_)) (fun hb => by simp at hb) fun _ Hf ef => ?_
    · obtain ⟨_, rfl, _, rfl, v, _, rfl, hv, rfl⟩ := r
      obtain ⟨z1, z2⟩ := rest_ok tf (by omega)
      exact ⟨f_breaks, .int few, v, c.good, row5 5, rfl, (ask_def d_breaks X_breaks g_breaks (ux_breaks (.good tf few20 hv z1 z2 (rest_few (of_decide_eq_true hgt) few20 fewev)))).up (by decide), E5, hQ⟩
    · rw [eqv_bools]
      simp
    -- what is just within
    obtain ⟨t2, tz, tk⟩ := two_ok
    obtain ⟨g2, bk2⟩ := two_good
    refine s_ret (v := .bl (true && true)) (ev_andV (ev_is (ev_op (ev_call0 (by tm_at "ev") (use_break_of t2 (⟨by decide, by decide⟩ : TeamOk 2 0))) (by tm_at "ev") rv_isN) ?_) fun _ => ev_is (ev_opRR (R := fun G v => IsRow G v (breaksM 2 [[(1, 0)]])) (S := fun G v => IsRow G v []) (fun _ _ _ e r => mono_row _ _ _ _ e r)
      (er_callR2 mono_row (by tm_at "ev") (er_lst mono_row (.cons (erow (by tm_at "ev") (by tm_at "ev")) .nil) (by decide)) fun v G e r => use_breaks t2 (by decide) r tz tk g2) (er_lst mono_pair .nil (by decide)) (fun u v G e r1 r2 => rv_eqK mono_row (fun _ _ _ => dp_row) sh_row r1 r2) (fun _ _ _ e r => mono_row _ _ _ _ e r)) ?_) fun Hg eg => q Hg
    · rfl
    · rw [eqv_row, bk2]
      rfl
end

local macro_rules | `(tactic| tm_at "dds") => `(tactic| first | exact EvRs.nil | (refine EvRs.cons ?_ ?_; (· tm_at "dd"); (· tm_at "dds")))
local macro_rules | `(tactic| tm_at "dd") => `(tactic| first | exact er_dct | (refine er_dl ?_ (by first | decide | simp); tm_at "dds") | (refine er_dt (by tm_at "ev") (by first | decide | simp) (fun G => ?_); (repeat constructor); done) | (refine er_dtN ?_; tm_at "dd") | (refine er_dv (by tm_at "ev") (fun G => ?_); constructor; done))
section
variable {P : Program} {w : World} {K : PySem.W.Frag} {mg : Str → Option Value} {base : Heap}
/-! ### the end: what the top has left -/
theorem kit_own {t : Value} {C : Addr} {b : Bool} (i : PySem.W.isClsIn K C = true) (ty : PySem.W.typeIn K (.ref C) = some (.type "type")) (self : PySem.W.subIn K (.ref C) (.ref C) = some true) (s : PySem.W.subIn K t (.ref C) = some b) : PySem.W.kitOne K t (.ref C) = some b := by
  unfold PySem.W.kitOne
  by_cases h : (t == .ref C) = true
  · rw [if_pos h]
    rw [eq_of_beq h, self] at s
    exact s
  · rw [if_neg h]
    have i' : (PySem.W.clsIn K C).isSome = true := i
    have e2 : ((PySem.W.clsIn K C).isSome && PySem.W.typeIn K (.ref C) == some (.type "type")) = true := by
      rw [i', ty]
      rfl
    show (if ((PySem.W.clsIn K C).isSome && PySem.W.typeIn K (.ref C) == some (.type "type")) = true then PySem.W.subIn K t (.ref C) else none) = some b
    rw [if_pos e2, s]
theorem kit_val {D : Addr} {b : Bool} (s : PySem.W.subIn K (.ref D) (.type "ValueError") = some b) : PySem.W.kitOne K (.ref D) (.type "ValueError") = some b := by
  unfold PySem.W.kitOne
  rw [if_neg (by simp)]
  show (if PySem.W.kitMeta "ValueError" = true then PySem.W.subIn K (.ref D) (.type "ValueError") else none) = some b
  have m : PySem.W.kitMeta "ValueError" = true := by decide +kernel
  rw [if_pos m, s]
/-- a class as isinstance asks it -/
structure ClsF (K : PySem.W.Frag) (C : Addr) : Prop where
  i : PySem.W.isClsIn K C = true
  t : PySem.W.typeIn K (.ref C) = some (.type "type")
  s : PySem.W.subIn K (.ref C) (.ref C) = some true
structure ErrF (K : PySem.W.Frag) (C0 C1 C2 C3 C4 C5 C6 D : Addr) (b0 b1 b2 b3 b4 b5 : Bool) : Prop where
  x : ExcC K D
  s0 : PySem.W.subIn K (.ref D) (.ref C0) = some b0
  s1 : PySem.W.subIn K (.ref D) (.ref C1) = some b1
  s2 : PySem.W.subIn K (.ref D) (.ref C2) = some b2
  s3 : PySem.W.subIn K (.ref D) (.ref C3) = some b3
  s4 : PySem.W.subIn K (.ref D) (.ref C4) = some b4
  s5 : PySem.W.subIn K (.ref D) (.ref C5) = some b5
  sv : PySem.W.subIn K (.ref D) (.type "ValueError") = some true
  se : PySem.W.subIn K (.ref D) (.ref C6) = some true
structure AllF (K : PySem.W.Frag) (C0 C1 C2 C3 C4 C5 C6 : Addr) : Prop where
  teams : ClsF K C0
  team : ClsF K C1
  rnd : ClsF K C2
  plan : ClsF K C3
  alike : ClsF K C4
  good : ClsF K C5
  eb : PySem.W.subIn K (.ref C6) (.type "BaseException") = some true
  ed : PySem.W.hasDictIn K C6 = true
  et : PySem.W.typeIn K (.ref C6) = some (.type "type")
theorem errK_of {C0 C1 C2 C3 C4 C5 C6 D : Addr} {b0 b1 b2 b3 b4 b5 : Bool} (A : AllF K C0 C1 C2 C3 C4 C5 C6) (F : ErrF K C0 C1 C2 C3 C4 C5 C6 D b0 b1 b2 b3 b4 b5) : ErrK K ⟨C0, C1, C2, C3, C4, C5, C6⟩ D [b0, b1, b2, b3, b4, b5, true] :=
  ⟨F.x, PySem.W.exm_ref A.eb A.ed A.et F.se, b0, b1, b2, b3, b4, b5, true, rfl, kit_own A.teams.i A.teams.t A.teams.s F.s0, kit_own A.team.i A.team.t A.team.s F.s1, kit_own A.rnd.i A.rnd.t A.rnd.s F.s2, kit_own A.plan.i A.plan.t A.plan.s F.s3, kit_own A.alike.i A.alike.t A.alike.s F.s4, kit_own A.good.i A.good.t A.good.s F.s5, kit_val F.sv⟩
theorem exr_mk {h : Heap} {x : Str} {C : Addr} (X : K.In h) (G : h.Ns mainGlobals mg) (a : PySem.W.nsIn K mainGlobals x = some (some (.ref C))) (e : PySem.W.excIn K C [.type "ValueError", .type "Exception", .type "BaseException", .type "object"] "ValueError.__new__" = true) (k : PySem.W.keepIn K (.ref C) = true)
    (b : PySem.W.subIn K (.ref C) (.type "BaseException") = some true) (t : PySem.W.typeIn K (.ref C) = some (.type "type")) : ExR K mg x C := ⟨PySem.W.mg_of X G a, e, k, b, t⟩
theorem walk5 {l : PySem.W.OpenLaw} {q : Program} {loose : List Str} {XP : (Str → Option Value) → Heap → Prop} {YP : World → Heap → Prop} {d : DefRec} {K : Params → PySem.W.Frag} (hn : l.most = some 63) (hdf : d.params.defaults = [])
    (hY : ∀ (w : World) (h : Heap), YP w h → (K w.params).In h)
    (F : ∀ (w : World) (mg : Str → Option Value) (fa : Addr) (h : Heap), YP w h → (K w.params).In h → h.Ns mainGlobals mg → mg d.name = some (.ref fa) → LamX.LawAtS l w (K w.params) CX0 12 63 "_law_script" mg fa h) :
    PySem.W.WalkO q loose XP YP l.row.toRowW d [] (fun f vs => PySem.call f vs) :=
  LamX.walk_ofTs (n := 63) (k := 12) (x := "_law_script") (CX := fun _ => CX0) hn (by decide) hdf ⟨rfl, by decide, by decide⟩ hY F fun _ _ _ _ _ z => z
theorem kindsM_row {c : EC} {D : Addr} (i : Nat) (bs : List Bool) (e : [[true, false, false, false, false, false, true], [false, true, false, false, false, false, true], [false, false, true, false, false, false, true], [false, false, false, true, false, false, true],
  [false, false, false, false, true, false, true], [false, false, false, false, false, true, true]].getD i [] = bs) (h : ErrK K c D bs) : ErrK K c D (row5 i) := by
  unfold row5
  rw [kindsM_is, e]
  exact h
theorem finish {lw : PySem.W.OpenLaw} {h : Heap} {f fa cc Pt : Addr} {od an : Option Addr} {oc kV dc pm ct : Value} {sl : Array (Option Value)} (X : K.In h) (G : h.Ns mainGlobals mg) (hfa : mg "law" = some (.ref fa)) (d_is_whole : DAt K mg "is_whole" s_is_whole ["thing"]) (d_check_teams : DAt K mg "check_teams" s_check_teams ["teams"]) (d_check_team : DAt K mg "check_team" s_check_team ["teams", "team"]) (d_check_round : DAt K mg "check_round" s_check_round ["teams", "number"]) (d_check_three : DAt K mg "check_three" s_check_three ["teams", "team", "number"]) (d_opponent : DAt K mg "opponent" s_opponent ["teams", "team", "number"]) (d_home_of : DAt K mg "home_of" s_home_of ["teams", "team", "number"]) (d_at_home : DAt K mg "at_home" s_at_home ["teams", "team", "number"]) (d_round_of : DAt K mg "round_of" s_round_of ["teams", "one", "other"]) (d_break_of : DAt K mg "break_of" s_break_of ["teams", "team"]) (d_often_in : DAt K mg "often_in" s_often_in ["pairs", "team"]) (d_first_lone : DAt K mg "first_lone" s_first_lone ["teams", "plan"]) (d_table_of : DAt K mg "table_of" s_table_of ["plan"]) (d_first_two : DAt K mg "first_two" s_first_two ["teams", "plan", "few"]) (d_is_game : DAt K mg "is_game" s_is_game ["teams", "thing"]) (d_check_plan : DAt K mg "check_plan" s_check_plan ["teams", "plan"]) (d_judged : DAt K mg "judged" s_judged ["teams", "plan"]) (d_breaks : DAt K mg "breaks" s_breaks ["teams", "plan"]) (d__law_cell_at : DAt K mg "_law_cell_at" s__law_cell_at ["_law_script", "_law_k"]) (d__law_draw : DAt K mg "_law_draw" s__law_draw ["_law_cell", "_law_k", "_law_many"]) (d__law_value : DAt K mg "_law_value" s__law_value ["_law_cell", "_law_k", "_law_limit"]) (d__law_teams : DAt K mg "_law_teams" s__law_teams ["_law_script", "_law_k"]) (d__law_plan : DAt K mg "_law_plan" s__law_plan ["_law_teams_here"]) (d__law_kinds : DAt K mg "_law_kinds" s__law_kinds ["_law_error"]) (d__law_with_teams : DAt K mg "_law_with_teams" s__law_with_teams ["_law_door", "_law_teams_here"]) (d__law_with_team : DAt K mg "_law_with_team" s__law_with_team ["_law_where", "_law_team"]) (d__law_with_round : DAt K mg "_law_with_round" s__law_with_round ["_law_where", "_law_number"]) (d__law_with_plan : DAt K mg "_law_with_plan" s__law_with_plan ["_law_where", "_law_plan_here"]) (d__law_told : DAt K mg "_law_told" s__law_told ["_law_ask", "_law_one", "_law_other"]) (d__law_all : DAt K mg "_law_all" s__law_all ["_law_ask", "_law_one", "_law_things", "_law_due"])
    {CG : Addr} (M_Good : ClO K mg "Good" CG) (I_Good : Ini0 K CG) (m_shows : MAt K CG "shows" "Good.shows" s_Good_shows ["self", "teams", "plan"]) {tm : Tok} (hMOST : mg "MOST" = some (.int 20 tm)) {C0 C1 C2 C3 C4 C5 C6 : Addr}
    (R_teams : ExR K mg "BadTeams" C0) (R_team : ExR K mg "BadTeam" C1) (R_rnd : ExR K mg "BadRound" C2) (R_plan : ExR K mg "BadPlan" C3) (R_alike : ExR K mg "Alike" C4) (R_good : ExR K mg "NotGood" C5) (err : mg "MeetError" = some (.ref C6)) (val : mg "ValueError" = none) (A : AllF K C0 C1 C2 C3 C4 C5 C6)
    (F_teams : ErrF K C0 C1 C2 C3 C4 C5 C6 C0 true false false false false false) (F_team : ErrF K C0 C1 C2 C3 C4 C5 C6 C1 false true false false false false) (F_rnd : ErrF K C0 C1 C2 C3 C4 C5 C6 C2 false false true false false false) (F_plan : ErrF K C0 C1 C2 C3 C4 C5 C6 C3 false false false true false false) (F_alike : ErrF K C0 C1 C2 C3 C4 C5 C6 C4 false false false false true false) (F_good : ErrF K C0 C1 C2 C3 C4 C5 C6 C5 false false false false false true)
    (la : PySem.W.nsIn K mainGlobals "law" = some (some (.ref f))) (l : K.lookup f = some ⟨oc, od, .func (PySem.W.fnOf "law" "law" (defArgs s_law) (defBody s_law) (defScope s_law) .none kV dc pm an (.ref cc) ct), sl⟩) (hcd : PySem.W.codeIn K (.ref cc) "law" = true) (Z : Zs mg) (Z2 : Zt mg)
    (hT : ∀ Pq ∈ [Pt], h.get? Pq = some (PySem.W.tabObj #[])) (hC : PySem.W.codeHdIn K cc Pt = true) (hno : K.lookup Pt = none) : LamX.LawAtS lw w K CX0 12 63 "_law_script" mg fa h := by
  have e := hfa.symm.trans (PySem.W.mg_of X G la)
  cases e
  refine ⟨PySem.W.fnOf "law" "law" (defArgs s_law) (defBody s_law) (defScope s_law) .none kV dc pm an (.ref cc) ct, [(cc, Pt)], spLaw5 K Pt, fun p hp => ?_, fun p hp => ?_, fun p hp => ?_, fun s v => .of_eq rfl, fun H a ns hl hb hH hS => ⟨a, ns, rfl, hS, hl, hb, hH _ (List.mem_singleton.mpr rfl), fun _ => rfl⟩, fun base _ _ TB => ?_⟩
  · rw [List.mem_singleton.mp hp]
    exact hT Pt (List.mem_singleton.mpr rfl)
  · rw [List.mem_singleton.mp hp]
    exact hno
  · rw [List.mem_singleton.mp hp]
    exact PySem.W.codeHd_of_K X hC
  have tb := TB _ (List.mem_singleton.mpr rfl)
  have o1 := ok_is_whole (P := lw.prog) (w := w) (base := base) d_is_whole Z
  have o2 := ok_check_teams d_check_teams o1
  have o3 := ok_check_team d_check_team o1
  have o4 := ok_check_round d_check_round o1
  have o5 := ok_check_three d_check_three o2 o3 o4
  have o6 := ok_opponent d_opponent o5
  have o7 := ok_home_of (P := lw.prog) (w := w) (base := base) d_home_of
  have o8 := ok_at_home d_at_home o5 o7
  have o9 := ok_break_of d_break_of o2 o3
  have o10 := ok_often_in (P := lw.prog) (w := w) (base := base) d_often_in Z
  have o11 := ok_first_lone d_first_lone o10 Z Z2
  have o12 := ok_table_of (P := lw.prog) (w := w) (base := base) d_table_of Z
  have o13 := ok_first_two d_first_two o12 Z
  have o14 := ok_Good_shows m_shows o11 o13
  have o15 := ok_is_game d_is_game o1 Z Z2
  have o16 := ok_check_plan d_check_plan o2 o15 Z Z2 hMOST
  have o17 := ok_breaks d_breaks o16 M_Good I_Good o14 Z Z2
  have o20 := ok_cell (P := lw.prog) (w := w) (base := base) d__law_cell_at Z
  have o21 := ok_draw (P := lw.prog) (w := w) (base := base) d__law_draw
  have o22 := ok_value d__law_value o21
  have o23 := ok_teams d__law_teams o20 o21 o22
  have o25 := ok_plan d__law_plan o8 o6 Z
  have x1 := ok_wholeD (P := lw.prog) (w := w) (base := base) d_is_whole Z
  have x2 := okx_check_teams d_check_teams R_teams x1
  have x3 := okx_check_team d_check_team R_team x1
  have x4 := okx_check_round d_check_round R_rnd x1
  have x5 := okx_check_three d_check_three o2 o3 o4 x2 x3 x4
  have x6 := okx_opponent d_opponent x5
  have x7 := okx_at_home d_at_home x5 o7
  have x8 := okx_round_of d_round_of o2 o3 x2 x3 R_alike Z
  have x9 := okx_break_of d_break_of o2 o3 x2 x3
  have x10 := ok_gameD d_is_game x1 Z Z2
  have x11 := okx_check_plan d_check_plan o2 x2 x10 R_teams R_plan Z Z2 hMOST
  have x12 := okx_judged d_judged x11
  have x13 := okx_breaks d_breaks o16 x11 R_good M_Good I_Good o14 Z Z2
  have M : NamesK mg ⟨C0, C1, C2, C3, C4, C5, C6⟩ := ⟨R_teams.g, R_team.g, R_rnd.g, R_plan.g, R_alike.g, R_good.g, err, val⟩
  have y1 := ok_kinds (P := lw.prog) (w := w) (base := base) d__law_kinds M Z
  have y2 := ok_told d__law_told y1 M
  have y3 := ok_all d__law_all y2 Z
  have z1 := okx_with_teams d__law_with_teams x6 x7 x8 x9 x12 x13
  have z2 := okx_with_team d__law_with_team x6 x7 x8 x9
  have z3 := okx_with_round d__law_with_round x6 x7
  have z4 := okx_with_plan d__law_with_plan x12 x13
  exact (ok_law (c := ⟨C0, C1, C2, C3, C4, C5, C6⟩) l hcd tb d__law_with_teams z1 d__law_with_team z2 d__law_with_round z3 d__law_with_plan z4 d_breaks x13 x8
    (kindsM_row 0 _ (by rfl) (errK_of A F_teams)) (kindsM_row 1 _ (by rfl) (errK_of A F_team)) (kindsM_row 2 _ (by rfl) (errK_of A F_rnd)) (kindsM_row 3 _ (by rfl) (errK_of A F_plan)) (kindsM_row 4 _ (by rfl) (errK_of A F_alike)) (kindsM_row 5 _ (by rfl) (errK_of A F_good)) o20 o22 o23 o25 y2 y3 o9 o17 Z).mono (by decide)
end
end Em
open PySem PySem.W PyProof.Rows
set_option maxRecDepth 100000 in
set_option maxHeartbeats 0 in
theorem PySem.Challenge.cw_everymeets_k05_refused_holds : PySem.Challenge.rw_everymeets_k05_refused.Holds := by
  w_on; o_law; k_head; (case hw => w_witness2)
  k_fill
  refine Em.walk5 (l := PySem.Challenge.rw_everymeets_k05_refused) rfl rfl (fun w h Y => PySem.W.km_in_of Y) ?F
  case F =>
    intro w mg fa h Y KX G hmg
    refine' Em.finish (w := w) KX G hmg
      (Em.dat_mk KX G ?a0 ?l0 ?c0 ?k0 (fun _ _ _ _ _ _ us hl => match us, hl with | [_], _ => rfl))
      (Em.dat_mk KX G ?a1 ?l1 ?c1 ?k1 (fun _ _ _ _ _ _ us hl => match us, hl with | [_], _ => rfl))
      (Em.dat_mk KX G ?a2 ?l2 ?c2 ?k2 (fun _ _ _ _ _ _ us hl => match us, hl with | [_, _], _ => rfl))
      (Em.dat_mk KX G ?a3 ?l3 ?c3 ?k3 (fun _ _ _ _ _ _ us hl => match us, hl with | [_, _], _ => rfl))
      (Em.dat_mk KX G ?a4 ?l4 ?c4 ?k4 (fun _ _ _ _ _ _ us hl => match us, hl with | [_, _, _], _ => rfl))
      (Em.dat_mk KX G ?a5 ?l5 ?c5 ?k5 (fun _ _ _ _ _ _ us hl => match us, hl with | [_, _, _], _ => rfl))
      (Em.dat_mk KX G ?a6 ?l6 ?c6 ?k6 (fun _ _ _ _ _ _ us hl => match us, hl with | [_, _, _], _ => rfl))
      (Em.dat_mk KX G ?a7 ?l7 ?c7 ?k7 (fun _ _ _ _ _ _ us hl => match us, hl with | [_, _, _], _ => rfl))
      (Em.dat_mk KX G ?a8 ?l8 ?c8 ?k8 (fun _ _ _ _ _ _ us hl => match us, hl with | [_, _, _], _ => rfl))
      (Em.dat_mk KX G ?a9 ?l9 ?c9 ?k9 (fun _ _ _ _ _ _ us hl => match us, hl with | [_, _], _ => rfl))
      (Em.dat_mk KX G ?a10 ?l10 ?c10 ?k10 (fun _ _ _ _ _ _ us hl => match us, hl with | [_, _], _ => rfl))
      (Em.dat_mk KX G ?a11 ?l11 ?c11 ?k11 (fun _ _ _ _ _ _ us hl => match us, hl with | [_, _], _ => rfl))
      (Em.dat_mk KX G ?a12 ?l12 ?c12 ?k12 (fun _ _ _ _ _ _ us hl => match us, hl with | [_], _ => rfl))
      (Em.dat_mk KX G ?a13 ?l13 ?c13 ?k13 (fun _ _ _ _ _ _ us hl => match us, hl with | [_, _, _], _ => rfl))
      (Em.dat_mk KX G ?a14 ?l14 ?c14 ?k14 (fun _ _ _ _ _ _ us hl => match us, hl with | [_, _], _ => rfl))
      (Em.dat_mk KX G ?a15 ?l15 ?c15 ?k15 (fun _ _ _ _ _ _ us hl => match us, hl with | [_, _], _ => rfl))
      (Em.dat_mk KX G ?a16 ?l16 ?c16 ?k16 (fun _ _ _ _ _ _ us hl => match us, hl with | [_, _], _ => rfl))
      (Em.dat_mk KX G ?a17 ?l17 ?c17 ?k17 (fun _ _ _ _ _ _ us hl => match us, hl with | [_, _], _ => rfl))
      (Em.dat_mk KX G ?a18 ?l18 ?c18 ?k18 (fun _ _ _ _ _ _ us hl => match us, hl with | [_, _], _ => rfl))
      (Em.dat_mk KX G ?a19 ?l19 ?c19 ?k19 (fun _ _ _ _ _ _ us hl => match us, hl with | [_, _, _], _ => rfl))
      (Em.dat_mk KX G ?a20 ?l20 ?c20 ?k20 (fun _ _ _ _ _ _ us hl => match us, hl with | [_, _, _], _ => rfl))
      (Em.dat_mk KX G ?a21 ?l21 ?c21 ?k21 (fun _ _ _ _ _ _ us hl => match us, hl with | [_, _], _ => rfl))
      (Em.dat_mk KX G ?a22 ?l22 ?c22 ?k22 (fun _ _ _ _ _ _ us hl => match us, hl with | [_], _ => rfl))
      (Em.dat_mk KX G ?a23 ?l23 ?c23 ?k23 (fun _ _ _ _ _ _ us hl => match us, hl with | [_], _ => rfl))
      (Em.dat_mk KX G ?a24 ?l24 ?c24 ?k24 (fun _ _ _ _ _ _ us hl => match us, hl with | [_, _], _ => rfl))
      (Em.dat_mk KX G ?a25 ?l25 ?c25 ?k25 (fun _ _ _ _ _ _ us hl => match us, hl with | [_, _], _ => rfl))
      (Em.dat_mk KX G ?a26 ?l26 ?c26 ?k26 (fun _ _ _ _ _ _ us hl => match us, hl with | [_, _], _ => rfl))
      (Em.dat_mk KX G ?a27 ?l27 ?c27 ?k27 (fun _ _ _ _ _ _ us hl => match us, hl with | [_, _], _ => rfl))
      (Em.dat_mk KX G ?a28 ?l28 ?c28 ?k28 (fun _ _ _ _ _ _ us hl => match us, hl with | [_, _, _], _ => rfl))
      (Em.dat_mk KX G ?a29 ?l29 ?c29 ?k29 (fun _ _ _ _ _ _ us hl => match us, hl with | [_, _, _, _], _ => rfl))
      (Em.clo_mk KX G ?ca0 ?cm0 ?ck0 ?cp0 ?ch0 ?co0 ?cs0)
      ?ini
      (Em.mat_mk ?ma0 ?mf0 ?ml0 ?mc0 ?mk0 (fun _ _ _ _ _ _ us hl => match us, hl with | [_, _, _], _ => rfl))
      (PySem.W.mg_of KX G ?most)
      (Em.exr_mk KX G ?ra0 ?rx0 ?rk0 ?rb0 ?rt0)
      (Em.exr_mk KX G ?ra1 ?rx1 ?rk1 ?rb1 ?rt1)
      (Em.exr_mk KX G ?ra2 ?rx2 ?rk2 ?rb2 ?rt2)
      (Em.exr_mk KX G ?ra3 ?rx3 ?rk3 ?rb3 ?rt3)
      (Em.exr_mk KX G ?ra4 ?rx4 ?rk4 ?rb4 ?rt4)
      (Em.exr_mk KX G ?ra5 ?rx5 ?rk5 ?rb5 ?rt5)
      (PySem.W.mg_of KX G ?me) (PySem.W.mg_none_of KX G ?mv) ⟨⟨?fi0, ?ft0, ?fs0⟩, ⟨?fi1, ?ft1, ?fs1⟩, ⟨?fi2, ?ft2, ?fs2⟩, ⟨?fi3, ?ft3, ?fs3⟩, ⟨?fi4, ?ft4, ?fs4⟩, ⟨?fi5, ?ft5, ?fs5⟩, ?eb, ?ed, ?et⟩
      ⟨⟨?xa0, ?xb0, ?xc0, ?xd0, ?xe0, ?xf0, ?xg0, ?xh0⟩, ?s0_0, ?s0_1, ?s0_2, ?s0_3, ?s0_4, ?s0_5, ?sv0, ?se0⟩
      ⟨⟨?xa1, ?xb1, ?xc1, ?xd1, ?xe1, ?xf1, ?xg1, ?xh1⟩, ?s1_0, ?s1_1, ?s1_2, ?s1_3, ?s1_4, ?s1_5, ?sv1, ?se1⟩
      ⟨⟨?xa2, ?xb2, ?xc2, ?xd2, ?xe2, ?xf2, ?xg2, ?xh2⟩, ?s2_0, ?s2_1, ?s2_2, ?s2_3, ?s2_4, ?s2_5, ?sv2, ?se2⟩
      ⟨⟨?xa3, ?xb3, ?xc3, ?xd3, ?xe3, ?xf3, ?xg3, ?xh3⟩, ?s3_0, ?s3_1, ?s3_2, ?s3_3, ?s3_4, ?s3_5, ?sv3, ?se3⟩
      ⟨⟨?xa4, ?xb4, ?xc4, ?xd4, ?xe4, ?xf4, ?xg4, ?xh4⟩, ?s4_0, ?s4_1, ?s4_2, ?s4_3, ?s4_4, ?s4_5, ?sv4, ?se4⟩
      ⟨⟨?xa5, ?xb5, ?xc5, ?xd5, ?xe5, ?xf5, ?xg5, ?xh5⟩, ?s5_0, ?s5_1, ?s5_2, ?s5_3, ?s5_4, ?s5_5, ?sv5, ?se5⟩
      ?la ?ll ?lc ⟨PySem.W.mg_none_of KX G ?z1, PySem.W.mg_none_of KX G ?z2, PySem.W.mg_none_of KX G ?z3, PySem.W.mg_none_of KX G ?z4, PySem.W.mg_none_of KX G ?z5, PySem.W.mg_none_of KX G ?z6, PySem.W.mg_none_of KX G ?z7, PySem.W.mg_none_of KX G ?z8, PySem.W.mg_none_of KX G ?z9⟩
      ⟨PySem.W.mg_none_of KX G ?y1, PySem.W.mg_none_of KX G ?y2, PySem.W.mg_none_of KX G ?y3, PySem.W.mg_none_of KX G ?y4⟩
      (PySem.W.km_tabs_of Y) ?hC ?hno
    (case ca0 => k_is); (case cm0 => k_is); (case ck0 => k_is); (case cp0 => k_is); (case ch0 => k_is); (case co0 => k_is); (case cs0 => k_is)
    (case ma0 => k_is); (case mf0 => k_is); (case ml0 => k_is); (case mc0 => k_is); (case mk0 => k_is)
    (case a0 => k_is); (case l0 => k_is); (case c0 => k_is); (case k0 => k_is)
    (case a1 => k_is); (case l1 => k_is); (case c1 => k_is); (case k1 => k_is)
    (case a2 => k_is); (case l2 => k_is); (case c2 => k_is); (case k2 => k_is)
    (case a3 => k_is); (case l3 => k_is); (case c3 => k_is); (case k3 => k_is)
    (case a4 => k_is); (case l4 => k_is); (case c4 => k_is); (case k4 => k_is)
    (case a5 => k_is); (case l5 => k_is); (case c5 => k_is); (case k5 => k_is)
    (case a6 => k_is); (case l6 => k_is); (case c6 => k_is); (case k6 => k_is)
    (case a7 => k_is); (case l7 => k_is); (case c7 => k_is); (case k7 => k_is)
    (case a8 => k_is); (case l8 => k_is); (case c8 => k_is); (case k8 => k_is)
    (case a9 => k_is); (case l9 => k_is); (case c9 => k_is); (case k9 => k_is)
    (case a10 => k_is); (case l10 => k_is); (case c10 => k_is); (case k10 => k_is)
    (case a11 => k_is); (case l11 => k_is); (case c11 => k_is); (case k11 => k_is)
    (case a12 => k_is); (case l12 => k_is); (case c12 => k_is); (case k12 => k_is)
    (case a13 => k_is); (case l13 => k_is); (case c13 => k_is); (case k13 => k_is)
    (case a14 => k_is); (case l14 => k_is); (case c14 => k_is); (case k14 => k_is)
    (case a15 => k_is); (case l15 => k_is); (case c15 => k_is); (case k15 => k_is)
    (case a16 => k_is); (case l16 => k_is); (case c16 => k_is); (case k16 => k_is)
    (case a17 => k_is); (case l17 => k_is); (case c17 => k_is); (case k17 => k_is)
    (case a18 => k_is); (case l18 => k_is); (case c18 => k_is); (case k18 => k_is)
    (case a19 => k_is); (case l19 => k_is); (case c19 => k_is); (case k19 => k_is)
    (case a20 => k_is); (case l20 => k_is); (case c20 => k_is); (case k20 => k_is)
    (case a21 => k_is); (case l21 => k_is); (case c21 => k_is); (case k21 => k_is)
    (case a22 => k_is); (case l22 => k_is); (case c22 => k_is); (case k22 => k_is)
    (case a23 => k_is); (case l23 => k_is); (case c23 => k_is); (case k23 => k_is)
    (case a24 => k_is); (case l24 => k_is); (case c24 => k_is); (case k24 => k_is)
    (case a25 => k_is); (case l25 => k_is); (case c25 => k_is); (case k25 => k_is)
    (case a26 => k_is); (case l26 => k_is); (case c26 => k_is); (case k26 => k_is)
    (case a27 => k_is); (case l27 => k_is); (case c27 => k_is); (case k27 => k_is)
    (case a28 => k_is); (case l28 => k_is); (case c28 => k_is); (case k28 => k_is)
    (case a29 => k_is); (case l29 => k_is); (case c29 => k_is); (case k29 => k_is)
    (case ini => unfold Em.Ini0; k_is); (case most => k_is)
    (case ra0 => k_is); (case rx0 => k_exc); (case rk0 => k_is); (case rb0 => k_is); (case rt0 => k_is)
    (case ra1 => k_is); (case rx1 => k_exc); (case rk1 => k_is); (case rb1 => k_is); (case rt1 => k_is)
    (case ra2 => k_is); (case rx2 => k_exc); (case rk2 => k_is); (case rb2 => k_is); (case rt2 => k_is)
    (case ra3 => k_is); (case rx3 => k_exc); (case rk3 => k_is); (case rb3 => k_is); (case rt3 => k_is)
    (case ra4 => k_is); (case rx4 => k_exc); (case rk4 => k_is); (case rb4 => k_is); (case rt4 => k_is)
    (case ra5 => k_is); (case rx5 => k_exc); (case rk5 => k_is); (case rb5 => k_is); (case rt5 => k_is)
    (case me => k_is); (case mv => k_is)
    (case fi0 => k_is); (case ft0 => k_is); (case fs0 => k_is)
    (case fi1 => k_is); (case ft1 => k_is); (case fs1 => k_is)
    (case fi2 => k_is); (case ft2 => k_is); (case fs2 => k_is)
    (case fi3 => k_is); (case ft3 => k_is); (case fs3 => k_is)
    (case fi4 => k_is); (case ft4 => k_is); (case fs4 => k_is)
    (case fi5 => k_is); (case ft5 => k_is); (case fs5 => k_is)
    (case eb => k_is); (case ed => k_is); (case et => k_is)
    (case xa0 => k_is); (case xb0 => k_is); (case xc0 => k_is); (case xd0 => k_is); (case xe0 => k_is); (case xf0 => k_is); (case xg0 => k_is); (case xh0 => k_is)
    (case s0_0 => k_is); (case s0_1 => k_is); (case s0_2 => k_is); (case s0_3 => k_is); (case s0_4 => k_is); (case s0_5 => k_is); (case sv0 => k_is); (case se0 => k_is)
    (case xa1 => k_is); (case xb1 => k_is); (case xc1 => k_is); (case xd1 => k_is); (case xe1 => k_is); (case xf1 => k_is); (case xg1 => k_is); (case xh1 => k_is)
    (case s1_0 => k_is); (case s1_1 => k_is); (case s1_2 => k_is); (case s1_3 => k_is); (case s1_4 => k_is); (case s1_5 => k_is); (case sv1 => k_is); (case se1 => k_is)
    (case xa2 => k_is); (case xb2 => k_is); (case xc2 => k_is); (case xd2 => k_is); (case xe2 => k_is); (case xf2 => k_is); (case xg2 => k_is); (case xh2 => k_is)
    (case s2_0 => k_is); (case s2_1 => k_is); (case s2_2 => k_is); (case s2_3 => k_is); (case s2_4 => k_is); (case s2_5 => k_is); (case sv2 => k_is); (case se2 => k_is)
    (case xa3 => k_is); (case xb3 => k_is); (case xc3 => k_is); (case xd3 => k_is); (case xe3 => k_is); (case xf3 => k_is); (case xg3 => k_is); (case xh3 => k_is)
    (case s3_0 => k_is); (case s3_1 => k_is); (case s3_2 => k_is); (case s3_3 => k_is); (case s3_4 => k_is); (case s3_5 => k_is); (case sv3 => k_is); (case se3 => k_is)
    (case xa4 => k_is); (case xb4 => k_is); (case xc4 => k_is); (case xd4 => k_is); (case xe4 => k_is); (case xf4 => k_is); (case xg4 => k_is); (case xh4 => k_is)
    (case s4_0 => k_is); (case s4_1 => k_is); (case s4_2 => k_is); (case s4_3 => k_is); (case s4_4 => k_is); (case s4_5 => k_is); (case sv4 => k_is); (case se4 => k_is)
    (case xa5 => k_is); (case xb5 => k_is); (case xc5 => k_is); (case xd5 => k_is); (case xe5 => k_is); (case xf5 => k_is); (case xg5 => k_is); (case xh5 => k_is)
    (case s5_0 => k_is); (case s5_1 => k_is); (case s5_2 => k_is); (case s5_3 => k_is); (case s5_4 => k_is); (case s5_5 => k_is); (case sv5 => k_is); (case se5 => k_is)
    (case la => k_is); (case ll => k_is); (case lc => k_is)
    (case z1 => k_is); (case z2 => k_is); (case z3 => k_is); (case z4 => k_is); (case z5 => k_is); (case z6 => k_is); (case z7 => k_is); (case z8 => k_is); (case z9 => k_is)
    (case y1 => k_is); (case y2 => k_is); (case y3 => k_is); (case y4 => k_is)
    (case hC => kernel_rfl); (case hno => kernel_rfl)
#print axioms PySem.Challenge.cw_everymeets_k05_refused_holds


