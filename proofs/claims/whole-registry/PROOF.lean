import PyProof.Rows.All
import Wide.All
import OpenK.AllK
import Wide.FinOn
import HandS.ForMost
import HandS.Evl
import HandS.Walk
import HandS.Steps
import HandS.Defaults
import HandS.IsInst
import HandS.Deep
import HandS.Wide
import HandS.WideBits
import HandS.DictComp
import HandS.Conv
import HandS.ClsMeth
import HandS.SetFor
import HandS.SetKeys
import HandS.HeadHook1
import HandS.HeadHook2
import HandS.HeadNt
import KE.SortData
import PySem.Challenge.RW_cycleready_k45_whole_registry_by_an_own
import HandS.DictTup
import KE.KDictSum
import HandS.Strs
import Lean
import KE.KStateDown
import HandS.Head0
import HandS.Head1
import HandS.Head2
import HandS.HeadEnd
import HandS.EndBits
set_option Elab.async false
set_option linter.all false
set_option maxRecDepth 100000
set_option maxHeartbeats 4000000
/-! Cycleready: the base. Promises by a datum, defs of the text by name, calls of them. -/
namespace CR
open PySem PySem.Spec PyProof.Rows L2 Evl

/-! ### the text -/
def top (i : Nat) : Stmt := PySem.Challenge.pw_cycleready_k45_whole_registry_by_an_own.main.body.getD i (.Pass ⟨0, 0, 0, 0⟩)
/-- where a def of the top, a method of a class stands -/
abbrev aF (K : PySem.W.Frag) (x : Str) : Addr := He.ga K x
abbrev aM (K : PySem.W.Frag) (C m : Str) : Addr := He.ma K (He.ga K C) m

/-! ### a promise by its datum: the arguments, then what is asked -/
def Pm {α : Type} (f : α → List V) (C : α → Hp → VK → Prop) : Sp := fun vs H Q _ => ∃ x : α, vs = f x ∧ C x H Q
theorem Pm.len {α : Type} {f : α → List V} {C : α → Hp → VK → Prop} {n : Nat} (h : ∀ x, (f x).length = n) : ∀ vs H Q E, Pm f C vs H Q E → vs.length = n := by
  rintro vs H Q E ⟨x, rfl, _⟩
  exact h x

/-! ### a def of the text that keeps its promise -/
section
variable {P : Program} {w : World} {K : PySem.W.Frag} {mg : Str → Option Value} {base : Heap}
def Okd (P : Program) (w : World) (K : PySem.W.Frag) (mg : Str → Option Value) (base : Heap) (k : Nat) (f : Addr) (ps : List Str) (sp : Sp) (dvs : List V := []) : Prop :=
  ∃ (fd : FuncData) (ds : List Value), FnOk P w K mg base CX0 k f fd ps sp ∧ Binds K fd ps ds ∧ Vals dvs ds
theorem Okd.mono {j k : Nat} {f : Addr} {ps : List Str} {sp : Sp} {dvs : List V} (h : Okd P w K mg base j f ps sp dvs) (l : j ≤ k) : Okd P w K mg base k f ps sp dvs := by
  obtain ⟨fd, ds, h1, h2, h3⟩ := h
  exact ⟨fd, ds, h1.mono l, h2, h3⟩
theorem Okd.mk {x qual : Str} {st : Stmt} {f : Addr} {fd : FuncData} {N ps : List Str} {k : Nat} {sp : Sp} (F : FunD K x qual (defArgs st) (defBody st) (defScope st) [] [] f fd) (S : FnScope N ps (defScope st))
    (len : ∀ vs H Q E, sp vs H Q E → vs.length = ps.length)
    (hb : ∀ (kV doc pm : Value) (an : Option Addr) (cdv ct : Value) (us : List Value), us.length = ps.length → bindArgs (PySem.W.fnOf x qual (defArgs st) (defBody st) (defScope st) .none kV doc pm an cdv ct) ⟨us, []⟩ = pure (ps.zip us))
    (body : ∀ (cdv : Value) (A : Around) (outer : List Env) (s : Shared) (H : Hp) (vs : List V) (Q : VK) (E : XK), Room k (A.deeper (envOfC qual (defScope st) s.heap.objs.size f cdv)) → sp vs H Q E →
      ∃ t, PSs (cxOf CX0 P w K mg base N qual (defScope st) f cdv A outer s H E).nox (defBody st) t ∧ t { nx := fun _ H' => Q .non H', rt := Q } (start N vs) H) : Okd P w K mg base (k + 1) f ps sp := by
  refine ⟨fd, [], F.ok S len fun cdv A outer s H vs Q E hr h => ?_, F.bindsN hb, .nil⟩
  obtain ⟨t, h1, h2⟩ := body cdv A outer s H vs Q E hr h
  exact ⟨t, h1.nox, h2⟩
end
theorem u65 {A : Around} {k : Nat} (hr : Room k A) : A.units + 65 < cLine := by
  have := hr.un
  omega

/-! ### calls -/
section
variable {X : Cx} {k : Nat} {f C : Addr} {ps : List Str} {sp : Sp} {dvs : List V} {x m : Str} {p pos apos : Pos} {e o : Expr} {es : List Expr} {ta : TE} {t : TA}
theorem pe_callO (G : Okd X.prog X.w X.K X.mg X.base k f ps sp dvs) (hr : Room k X.A) (hg : Gl X x) (hm : X.mg x = some (.ref f)) (hk : PySem.W.keepIn X.K (.ref f) = true)
    (ha : PA X (e :: es) t) (hdb : (x == ("__debug__" : Str)) = false := by decide) (he : starEach (e :: es) X.env = (false, eval e X.env) :: starEach es X.env := by rfl) (hpl : (backTo pos (starEach es X.env)).any (·.1) = false := by rfl) :
    PE X (.Call (.Name x p) (e :: es) [] pos) (tCall sp dvs E0 t) := by
  obtain ⟨fd, ds, F, hb, hd⟩ := G
  exact pe_call F hr hg hm hk hb hd pass0 ha hdb he hpl
theorem pe_methO {pl : Sem Bool} (he : PE X o ta) (c : Cls X.K C) (hm : Meth X.K C m f) (G : Okd X.prog X.w X.K X.mg X.base k f ps sp dvs) (hr : Room k X.A) (ha : PA X (e :: es) t)
    (hst : starEach (e :: es) X.env = (false, eval e X.env) :: starEach es X.env := by rfl) (hpl : (backTo pos (starEach es X.env)).any (·.1) = false := by rfl)
    (ht : eval (.Call (.Attribute o m apos) (e :: es) [] pos) X.env = (do
      let ov ← eval o X.env
      standAt apos.atName
      let (f, first) ← holding [ov] (getMethod ov m pl)
      callWith pos f first (backTo pos (starEach (e :: es) X.env)) (backToKw pos (keywordEach [] X.env))) := by rfl) :
    PE X (.Call (.Attribute o m apos) (e :: es) [] pos) (tMeth C m sp dvs E0 ta t) := by
  obtain ⟨fd, ds, F, hb, hd⟩ := G
  exact pe_meth he c hm F hr hb hd pass0 ha hst hpl ht
theorem pe_methO0 {pl : Sem Bool} (he : PE X o ta) (c : Cls X.K C) (hm : Meth X.K C m f) (G : Okd X.prog X.w X.K X.mg X.base k f ps sp dvs) (hr : Room k X.A)
    (ht : eval (.Call (.Attribute o m apos) [] [] pos) X.env = (do
      let ov ← eval o X.env
      standAt apos.atName
      let (f, first) ← holding [ov] (getMethod ov m pl)
      callWith pos f first (backTo pos (starEach [] X.env)) (backToKw pos (keywordEach [] X.env))) := by rfl) :
    PE X (.Call (.Attribute o m apos) [] [] pos) (tMeth C m sp dvs E0 ta tNil) := by
  obtain ⟨fd, ds, F, hb, hd⟩ := G
  exact pe_meth0 he c hm F hr hb hd pass0 ht
theorem pe_makeO (M : Mk X.K C f) (G : Okd X.prog X.w X.K X.mg X.base k f ps sp dvs) (hr : Room (k + 1) X.A) (hg : Gl X x) (hm : X.mg x = some (.ref C))
    (ha : PA X (e :: es) t) (hdb : (x == ("__debug__" : Str)) = false := by decide) (he : starEach (e :: es) X.env = (false, eval e X.env) :: starEach es X.env := by rfl) (hpl : (backTo pos (starEach es X.env)).any (·.1) = false := by rfl) :
    PE X (.Call (.Name x p) (e :: es) [] pos) (tMake C sp dvs E0 t) := by
  obtain ⟨fd, ds, F, hb, hd⟩ := G
  exact pe_make M F hr hg hm hb hd pass0 ha hdb he hpl
theorem pe_makeO0 (M : Mk X.K C f) (G : Okd X.prog X.w X.K X.mg X.base k f ps sp dvs) (hr : Room (k + 1) X.A) (hg : Gl X x) (hm : X.mg x = some (.ref C))
    (hdb : (x == ("__debug__" : Str)) = false := by decide) : PE X (.Call (.Name x p) [] [] pos) (tMake C sp dvs E0 tNil) := by
  obtain ⟨fd, ds, F, hb, hd⟩ := G
  exact pe_make0 M F hr hg hm hb hd pass0 hdb
/-- a constant of the module -/
theorem pe_gstr {z : Str} (hg : Gl X x) (h : ∃ t, X.mg x = some (.str z t)) (hd : (x == ("__debug__" : Str)) = false := by decide) : PE X (.Name x pos) (tC (.str z)) := by
  obtain ⟨t, h⟩ := h
  exact pe_glob hg h ⟨t, rfl⟩ hd
theorem pe_gint {z : Int} (hg : Gl X x) (h : ∃ t, X.mg x = some (.int z t)) (hd : (x == ("__debug__" : Str)) = false := by decide) : PE X (.Name x pos) (tC (.int z)) := by
  obtain ⟨t, h⟩ := h
  exact pe_glob hg h ⟨t, rfl⟩ hd
theorem pe_cls (hg : Gl X x) (h : X.mg x = some (.ref C)) (hd : (x == ("__debug__" : Str)) = false := by decide) : PE X (.Name x pos) (tC (.ref C)) := pe_glob hg h rfl hd
end

/-! ### the rules that lean on the written part, by its name -/
section
variable {X : Cx} {K : PySem.W.Frag} {pos pos' : Pos} {o e value tg : Expr} {f : Str} {ta tv te : TE}
theorem pe_fldK (hK : X.K = K) (he : PE X e ta) (hb : attributeBase e f X.env (eval e X.env) = eval e X.env) : PE X (.Attribute e f pos) (tFld K ta f) := by
  rw [← hK]
  exact pe_fld he hb
theorem ps_fldK (hK : X.K = K) (ha : PE X o ta) (hv : PE X value tv) (hs : swapsWith value (some (.Attribute o f pos')) pos.line X.env = pure false) : PS X (.Assign [.Attribute o f pos'] value pos) (sFld K ta tv f) := by
  rw [← hK]
  exact ps_fld ha hv hs
theorem pe_cvalK (hK : X.K = K) (he : PE X e ta) (hb : attributeBase e f X.env (eval e X.env) = eval e X.env := by rfl) : PE X (.Attribute e f pos) (ClX.tCVal K ta f) := by
  rw [← hK]
  exact ClX.pe_cval he hb
theorem ix_listK (hK : X.K = K) : IxR X (rIxL K) := by
  rw [← hK]
  exact ix_list
theorem ix_tupK (hK : X.K = K) : IxR X (rIxT K) := by
  rw [← hK]
  exact ix_tup
theorem op_in_seqK (hK : X.K = K) : OpR X (compareOp .In) (rIn K false) := by
  rw [← hK]
  exact op_in_seq
theorem op_notIn_seqK (hK : X.K = K) : OpR X (compareOp .NotIn) (rIn K true) := by
  rw [← hK]
  exact op_notIn_seq
theorem op_inDK (hK : X.K = K) (hu : X.A.units + 65 < cLine) : OpR X (compareOp .In) (rInD K) := by
  rw [← hK]
  exact op_inD hu
theorem op_notInDK (hK : X.K = K) (hu : X.A.units + 65 < cLine) : OpR X (compareOp .NotIn) (fun x y H Q => ∃ d ds, Dp K H x d ∧ Dp K H y (.list ds) ∧ SeqAt.shaped d = true ∧ SeqAt.shaped (.list ds) = true ∧ Q (.bl (!ds.any fun z => PyData.eqv z d)) H) := by
  rw [← hK]
  exact op_notInD hu
theorem op_eqDK (hK : X.K = K) (hu : X.A.units + 64 < cLine) : OpR X (compareOp .Eq) (rEqD K) := by
  rw [← hK]
  exact op_eqD hu
theorem op_neDK (hK : X.K = K) (hu : X.A.units + 64 < cLine) : OpR X (compareOp .NotEq) (rNeD K) := by
  rw [← hK]
  exact op_neD hu
theorem op_catTK (hK : X.K = K) : OpR X (binaryOp .Add) (rCatT K) := by
  rw [← hK]
  exact op_catT
theorem call_isiK (hK : X.K = K) : CallR X (.builtin "isinstance") (rIsi K) := by
  rw [← hK]
  exact call_isi
theorem call_isiTK (hK : X.K = K) : CallR X (.builtin "isinstance") (rIsiT K) := by
  rw [← hK]
  exact call_isiT
theorem cr_allK (hK : X.K = K) (hc : X.calm = true) : CallR X (.builtin "all") (rAll K) := by
  rw [← hK]
  exact cr_all hc
theorem cr_anyK (hK : X.K = K) (hc : X.calm = true) : CallR X (.builtin "any") (rAny K) := by
  rw [← hK]
  exact cr_any hc
theorem cr_sortedSK (hK : X.K = K) : CallR X (.builtin "sorted") (rSortedS K) := by
  rw [← hK]
  exact cr_sortedS
theorem call_len_seqK (hK : X.K = K) : CallR X (.builtin "len") (rLenS K) := by
  rw [← hK]
  exact call_len_seq
theorem call_list_ofK (hK : X.K = K) : CallR X (.type "list") (rListS K) := by
  rw [← hK]
  exact call_list_of
def rTupT (K : PySem.W.Frag) : List V → Hp → VK → Prop := fun xs H Q => ∃ a ys, xs = [.ref a] ∧ SqT K H a ys ∧ Q (.ref a) H
theorem call_tupleTK (hK : X.K = K) : CallR X (.type "tuple") (rTupT K) := by
  rw [← hK]
  exact call_tupleT
def rDictP (K : PySem.W.Frag) : List V → Hp → VK → Prop := fun xs H Q => ∃ (a : Addr) (ps : List Addr) (kvs : List (Key × V)), xs = [.ref a] ∧ SqL K H a (ps.map V.ref) ∧ Paired (fun p kv => SqT K H p [kV kv.1, kv.2]) ps kvs ∧ ∀ p, H p = none → Q (.ref p) (upd H p (.dK (mergeK [] kvs)))
theorem call_dictPK (hK : X.K = K) (hc : X.calm = true) : CallR X (.type "dict") (rDictP K) := by
  rw [← hK]
  exact call_dictP hc
theorem sl_listK (hK : X.K = K) : SlR X (rSlL K) := by
  rw [← hK]
  exact sl_list
theorem pi_listK (hK : X.K = K) (hl : PE X e te) : PI X tg e (iList K te) := by
  rw [← hK]
  exact pi_list hl
theorem pi_tupK (hK : X.K = K) (hl : PE X e te) : PI X tg e (iTup K te) := by
  rw [← hK]
  exact pi_tup hl
theorem pg_tupK {es : List Expr} {k : Nat} {t : TGs} {n : Nat} (hK : X.K = K) (hc : X.calm = true) (h : PGs X es t) (hn : (assignEach es X.env).length = n := by rfl) (hst : (assignEach es X.env).findIdx? (·.1) = none := by rfl) : PG X (.Tuple es k pos) (gTup K n t) := by
  rw [← hK]
  exact pg_tup hc h hn hst
end
end CR
set_option maxRecDepth 100000
set_option maxHeartbeats 4000000
/-! Cycleready: the mathematics. Sorted lists, graphs, reach, the operations on a registry's state, the law's tables. -/
namespace CR
open PySem PySem.W
/-! ### tables -/
section
variable {κ β : Type} [DecidableEq κ]
def lookA (l : List (κ × β)) (k : κ) : Option β := (l.find? fun q => decide (q.1 = k)).map (·.2)
def putA (l : List (κ × β)) (k : κ) (v : β) : List (κ × β) :=
  if (l.any fun q => decide (q.1 = k)) = true then l.map (fun q => if q.1 = k then (q.1, v) else q) else l ++ [(k, v)]
def dropA (l : List (κ × β)) (k : κ) : List (κ × β) := l.filter fun q => decide (q.1 ≠ k)
theorem anyA {l : List (κ × β)} {k : κ} : (l.any fun q => decide (q.1 = k)) = true ↔ k ∈ l.map (·.1) := by
  rw [List.any_eq_true, List.mem_map]
  constructor
  · rintro ⟨q, h1, h2⟩
    exact ⟨q, h1, of_decide_eq_true h2⟩
  · rintro ⟨q, h1, h2⟩
    exact ⟨q, h1, decide_eq_true h2⟩
theorem lookA_nil {k : κ} : lookA ([] : List (κ × β)) k = none := rfl
theorem lookA_cons {q : κ × β} {l : List (κ × β)} {k : κ} : lookA (q :: l) k = if q.1 = k then some q.2 else lookA l k := by
  unfold lookA
  rw [List.find?_cons]
  by_cases h : q.1 = k
  · simp [h]
  · simp [h]
theorem lookA_none {k : κ} : ∀ {l : List (κ × β)}, lookA l k = none ↔ k ∉ l.map (·.1)
  | [] => by simp [lookA_nil]
  | q :: l => by
    rw [lookA_cons, List.map_cons, List.mem_cons, not_or]
    by_cases h : q.1 = k
    · simp [h]
    · rw [if_neg h, lookA_none]
      exact ⟨fun z => ⟨fun e => h e.symm, z⟩, fun z => z.2⟩
theorem lookA_mem {k : κ} {v : β} : ∀ {l : List (κ × β)}, lookA l k = some v → (k, v) ∈ l
  | [], h => by simp [lookA_nil] at h
  | q :: l, h => by
    rw [lookA_cons] at h
    by_cases e : q.1 = k
    · rw [if_pos e] at h
      have : q = (k, v) := by
        obtain ⟨a, b⟩ := q
        simp at e h
        rw [e, h]
      rw [this]
      exact List.mem_cons_self
    · rw [if_neg e] at h
      exact List.mem_cons_of_mem _ (lookA_mem h)
theorem lookA_of {k : κ} {v : β} : ∀ {l : List (κ × β)}, (l.map (·.1)).Nodup → (k, v) ∈ l → lookA l k = some v
  | [], _, h => absurd h (by simp)
  | q :: l, nd, h => by
    rw [List.map_cons, List.nodup_cons] at nd
    rw [lookA_cons]
    rcases List.mem_cons.mp h with e | e
    · rw [← e]
      simp
    · have : q.1 ≠ k := by
        intro z
        exact nd.1 (z ▸ List.mem_map.mpr ⟨_, e, rfl⟩)
      rw [if_neg this]
      exact lookA_of nd.2 e
theorem keys_putA (l : List (κ × β)) (k : κ) (v : β) : (putA l k v).map (·.1) = if k ∈ l.map (·.1) then l.map (·.1) else l.map (·.1) ++ [k] := by
  unfold putA
  by_cases h : k ∈ l.map (·.1)
  · rw [if_pos (anyA.mpr h), if_pos h, List.map_map]
    refine List.map_congr_left fun q _ => ?_
    show (if q.1 = k then (q.1, v) else q).1 = q.1
    split <;> rfl
  · rw [if_neg (fun z => h (anyA.mp z)), if_neg h, List.map_append] <;> rfl
theorem nodup_putA {l : List (κ × β)} (k : κ) (v : β) (nd : (l.map (·.1)).Nodup) : ((putA l k v).map (·.1)).Nodup := by
  rw [keys_putA]
  split
  · exact nd
  · rename_i h
    rw [List.nodup_append]
    exact ⟨nd, by simp, fun a ha b hb => by
      rw [List.mem_singleton] at hb
      subst hb
      intro e
      subst e
      exact h ha⟩
theorem mem_putA {l : List (κ × β)} {k : κ} {v : β} {q : κ × β} (h : q ∈ putA l k v) : q = (k, v) ∨ (q ∈ l ∧ q.1 ≠ k) := by
  unfold putA at h
  split at h
  · obtain ⟨p, hp, e⟩ := List.mem_map.mp h
    by_cases z : p.1 = k
    · rw [if_pos z] at e
      left
      rw [← e, z]
    · rw [if_neg z] at e
      subst e
      exact Or.inr ⟨hp, z⟩
  · rename_i hn
    rcases List.mem_append.mp h with z | z
    · refine Or.inr ⟨z, fun e => hn (anyA.mpr (List.mem_map.mpr ⟨q, z, e⟩))⟩
    · exact Or.inl (List.mem_singleton.mp z)
theorem lookA_putA (l : List (κ × β)) (k j : κ) (v : β) : lookA (putA l k v) j = if j = k then some v else lookA l j := by
  unfold putA
  by_cases h : k ∈ l.map (·.1)
  · rw [if_pos (anyA.mpr h)]
    induction l with
    | nil => simp at h
    | cons q l ih =>
      rw [List.map_cons, lookA_cons, lookA_cons]
      by_cases e : q.1 = k
      · rw [if_pos e]
        by_cases ej : j = k
        · rw [if_pos ej, if_pos (e.trans ej.symm)]
        · rw [if_neg ej, if_neg (fun z => ej (z.symm.trans e)), if_neg (fun z => ej (z.symm.trans e))]
          by_cases h2 : k ∈ l.map (·.1)
          · rw [ih h2, if_neg ej]
          · have : l.map (fun q => if q.1 = k then (q.1, v) else q) = l := by
              refine (List.map_congr_left fun p hp => ?_).trans (List.map_id l)
              rw [if_neg (fun z => h2 (List.mem_map.mpr ⟨p, hp, z⟩))]
              rfl
            rw [this]
      · rw [if_neg e]
        have h2 : k ∈ l.map (·.1) := by
          rw [List.map_cons, List.mem_cons] at h
          exact h.resolve_left fun z => e z.symm
        rw [ih h2]
        by_cases ej : q.1 = j
        · rw [if_pos ej, if_pos ej]
          have : ¬ j = k := fun z => e (ej.trans z)
          rw [if_neg this]
        · rw [if_neg ej, if_neg ej]
  · rw [if_neg (fun z => h (anyA.mp z))]
    induction l with
    | nil =>
      rw [List.nil_append, lookA_cons]
      by_cases ej : j = k
      · rw [if_pos ej, if_pos ej.symm]
      · rw [if_neg ej, if_neg (fun z => ej z.symm)]
    | cons q l ih =>
      rw [List.map_cons, List.mem_cons, not_or] at h
      rw [List.cons_append, lookA_cons, ih h.2, lookA_cons]
      by_cases ej : q.1 = j
      · rw [if_pos ej, if_pos ej]
        have : ¬ j = k := fun z => h.1 (z.symm.trans ej.symm)
        rw [if_neg this]
      · rw [if_neg ej, if_neg ej]
theorem putA_new {l : List (κ × β)} {k : κ} (v : β) (h : k ∉ l.map (·.1)) : putA l k v = l ++ [(k, v)] := if_neg fun z => h (anyA.mp z)
theorem lookA_dropA (l : List (κ × β)) (k j : κ) : lookA (dropA l k) j = if j = k then none else lookA l j := by
  induction l with
  | nil => simp [dropA, lookA_nil]
  | cons q l ih =>
    unfold dropA at ih ⊢
    rw [List.filter_cons]
    by_cases e : q.1 = k
    · rw [if_neg (by simp [e]), ih, lookA_cons]
      by_cases ej : j = k
      · rw [if_pos ej, if_pos ej]
      · rw [if_neg ej, if_neg ej, if_neg (fun z => ej (z.symm.trans e))]
    · rw [if_pos (by simp [e]), lookA_cons, lookA_cons, ih]
      by_cases ej : q.1 = j
      · rw [if_pos ej, if_pos ej, if_neg (fun z => e (ej.trans z))]
      · rw [if_neg ej, if_neg ej]
theorem keys_dropA (l : List (κ × β)) (k : κ) : (dropA l k).map (·.1) = (l.map (·.1)).filter fun x => decide (x ≠ k) := by
  unfold dropA
  rw [List.filter_map] <;> rfl
theorem nodup_dropA {l : List (κ × β)} (k : κ) (nd : (l.map (·.1)).Nodup) : ((dropA l k).map (·.1)).Nodup := by
  rw [keys_dropA]
  exact nd.sublist List.filter_sublist
end

/-! ### sorted -/
def leS (a b : Str) : Bool := dataLe false (fun x : Str => PyData.str x) a b
def srtS (l : List Str) : List Str := l.mergeSort leS
def enc2 (p : Str × Str) : PyData := .tuple [.str p.1, .str p.2]
def encI (p : Str × Int) : PyData := .tuple [.str p.1, .int p.2]
def srtP (l : List (Str × Str)) : List (Str × Str) := l.mergeSort (dataLe false enc2)
def srtI (l : List (Str × Int)) : List (Str × Int) := l.mergeSort (dataLe false encI)
theorem leS_eq (a b : Str) : leS a b = decide (a.cps.toList ≤ b.cps.toList) := congrFun (congrFun (dataLe_str (fun x : Str => x)) a) b
theorem total_leS : TotalLe leS := by
  show TotalLe (dataLe false fun x : Str => PyData.str x)
  exact sortLe_total _ _ _
theorem total_le2 : TotalLe (dataLe false enc2) := sortLe_total _ _ _
theorem anti_leS {a b : Str} (h1 : leS a b = true) (h2 : leS b a = true) : a = b := by
  rw [leS_eq, decide_eq_true_eq] at h1 h2
  exact str_of_cps (List.le_antisymm h1 h2)
theorem lt_str (a b : Str) : dataLt (.str a) (.str b) = decide (a.cps.toList < b.cps.toList) := dataLt_str _ _
theorem le2_eq (p q : Str × Str) : dataLe false enc2 p q = !dataLt (enc2 q) (enc2 p) := congrFun (congrFun (dataLe_eq false enc2) p) q
theorem eqv_str (a b : Str) : PyData.eqv (.str a) (.str b) = decide (a = b) := by
  rw [PyData.eqv]
  rw [Bool.eq_iff_iff]
  simp
theorem lt2_eq (p q : Str × Str) : dataLt (enc2 p) (enc2 q) = if p.1 = q.1 then (if p.2 = q.2 then false else decide (p.2.cps.toList < q.2.cps.toList)) else decide (p.1.cps.toList < q.1.cps.toList) := by
  unfold enc2
  rw [dataLt_pair (by simp [alike]) (by simp [alike]), eqv_str, eqv_str, lt_str, lt_str]
  simp only [decide_eq_true_eq]
theorem cps_lt_tri {a b : Str} (h1 : ¬ a.cps.toList < b.cps.toList) (h2 : ¬ b.cps.toList < a.cps.toList) : a = b :=
  str_of_cps (List.le_antisymm (List.not_lt.mp h2) (List.not_lt.mp h1))
theorem anti_le2 {p q : Str × Str} (h1 : dataLe false enc2 p q = true) (h2 : dataLe false enc2 q p = true) : p = q := by
  rw [le2_eq, lt2_eq] at h1 h2
  obtain ⟨p1, p2⟩ := p
  obtain ⟨q1, q2⟩ := q
  simp only at h1 h2
  by_cases e1 : p1 = q1
  · subst e1
    by_cases e2 : p2 = q2
    · rw [e2]
    · rw [if_pos rfl, if_neg (fun z => e2 z.symm)] at h1
      rw [if_pos rfl, if_neg e2] at h2
      simp at h1 h2
      exact absurd (cps_lt_tri (by simpa using h2) (by simpa using h1)) e2
  · rw [if_neg (fun z => e1 z.symm)] at h1
    rw [if_neg e1] at h2
    simp at h1 h2
    exact absurd (cps_lt_tri (by simpa using h2) (by simpa using h1)) e1
theorem srtS_perm (l : List Str) : (srtS l).Perm l := List.mergeSort_perm _ _
theorem srtP_perm (l : List (Str × Str)) : (srtP l).Perm l := List.mergeSort_perm _ _
theorem srtI_perm (l : List (Str × Int)) : (srtI l).Perm l := List.mergeSort_perm _ _
theorem sort_perm_eq {α : Type} {le : α → α → Bool} (t : TotalLe le) (an : ∀ a b, le a b = true → le b a = true → a = b) {l m : List α} (h : l.Perm m) (hl : l.Pairwise fun a b => le a b = true) : l = m.mergeSort le :=
  List.Perm.eq_of_pairwise (le := fun a b => le a b = true) (fun a b _ _ h1 h2 => an a b h1 h2) hl (sort_pairwise t m) (h.trans (List.mergeSort_perm m le).symm)
theorem srtS_congr {l m : List Str} (h : l.Perm m) : srtS l = srtS m := sort_perm_eq total_leS (fun _ _ => anti_leS) ((srtS_perm l).trans h) (sort_pairwise total_leS l)
theorem srtP_congr {l m : List (Str × Str)} (h : l.Perm m) : srtP l = srtP m := sort_perm_eq total_le2 (fun _ _ => anti_le2) ((srtP_perm l).trans h) (sort_pairwise total_le2 l)
theorem srtS_congr_set {l m : List Str} (n1 : l.Nodup) (n2 : m.Nodup) (h : ∀ x, x ∈ l ↔ x ∈ m) : srtS l = srtS m := srtS_congr ((List.perm_ext_iff_of_nodup n1 n2).mpr h)
theorem srtP_congr_set {l m : List (Str × Str)} (n1 : l.Nodup) (n2 : m.Nodup) (h : ∀ x, x ∈ l ↔ x ∈ m) : srtP l = srtP m := srtP_congr ((List.perm_ext_iff_of_nodup n1 n2).mpr h)
theorem mem_srtS {l : List Str} {x : Str} : x ∈ srtS l ↔ x ∈ l := (srtS_perm l).mem_iff
theorem mem_srtP {l : List (Str × Str)} {x : Str × Str} : x ∈ srtP l ↔ x ∈ l := (srtP_perm l).mem_iff
theorem nodup_srtS {l : List Str} (h : l.Nodup) : (srtS l).Nodup := (srtS_perm l).symm.nodup h
theorem nodup_srtP {l : List (Str × Str)} (h : l.Nodup) : (srtP l).Nodup := (srtP_perm l).symm.nodup h
theorem length_srtS (l : List Str) : (srtS l).length = l.length := (srtS_perm l).length_eq
theorem length_srtP (l : List (Str × Str)) : (srtP l).length = l.length := (srtP_perm l).length_eq
theorem pairwise_srtS (l : List Str) : (srtS l).Pairwise (fun a b => leS a b = true) := sort_pairwise total_leS l
theorem srtS_sorted {l : List Str} (h : l.Pairwise fun a b => leS a b = true) : srtS l = l := (sort_perm_eq total_leS (fun _ _ => anti_leS) (List.Perm.refl l) h).symm
theorem srtS_filter {l : List Str} (p : Str → Bool) : srtS ((srtS l).filter p) = (srtS l).filter p := srtS_sorted ((pairwise_srtS l).sublist List.filter_sublist)
/-- what the layer's rule says of sorted texts -/
theorem pairwise_of_sortedS : ∀ {l : List Str}, PyProof.Rows.sortedS l = true → l.Pairwise fun a b => leS a b = true
  | [], _ => List.Pairwise.nil
  | x :: r, h => by
    have go : ∀ (r : List Str) (x : Str), PyProof.Rows.risingS x r = true → (x :: r).Pairwise fun a b => leS a b = true := by
      intro r
      induction r with
      | nil => intro x _; exact List.pairwise_singleton _ _
      | cons y r ih =>
        intro x h
        have h : (!PySem.Spec.ltCps y.cps.toList x.cps.toList && PyProof.Rows.risingS y r) = true := h
        rw [Bool.and_eq_true] at h
        have h2 := ih y h.2
        have hxy : leS x y = true := by
          rw [leS_eq, decide_eq_true_eq]
          have h1 : PySem.Spec.ltCps y.cps.toList x.cps.toList = false := by simpa using h.1
          refine List.not_lt.mp fun z => ?_
          have := PyProof.Rows.ltCps_eq y.cps.toList x.cps.toList
          rw [h1] at this
          exact absurd (decide_eq_true z) (by rw [← this]; exact Bool.false_ne_true)
        refine List.pairwise_cons.mpr ⟨fun z hz => ?_, h2⟩
        rcases List.mem_cons.mp hz with e | e
        · rw [e]; exact hxy
        · exact total_leS.trans _ _ _ hxy ((List.pairwise_cons.mp h2).1 z e)
    exact go r x h
theorem srtS_rule {ys l : List Str} (h : ys.Perm l) (hs : PyProof.Rows.sortedS ys = true) : ys = srtS l := sort_perm_eq total_leS (fun _ _ => anti_leS) h (pairwise_of_sortedS hs)
end CR
set_option maxRecDepth 100000
set_option maxHeartbeats 4000000
/-! Cycleready: graphs of needs, reach, the operations on the state, the law's tables. -/
namespace CR
open PySem PySem.W
/-! ### reach -/
inductive Rch (E : Str → Str → Prop) (a : Str) : Str → Prop where
  | refl : Rch E a a
  | step {b c : Str} : Rch E a b → E b c → Rch E a c
open Classical in
noncomputable def rchB (E : Str → Str → Prop) (a b : Str) : Bool := decide (Rch E a b)
theorem rchB_t {E : Str → Str → Prop} {a b : Str} (h : Rch E a b) : rchB E a b = true := @decide_eq_true _ (Classical.propDecidable _) h
theorem rchB_f {E : Str → Str → Prop} {a b : Str} (h : ¬ Rch E a b) : rchB E a b = false := @decide_eq_false _ (Classical.propDecidable _) h
theorem rchB_iff {E : Str → Str → Prop} {a b : Str} : rchB E a b = true ↔ Rch E a b := ⟨fun h => @of_decide_eq_true _ (Classical.propDecidable _) h, rchB_t⟩
/-- a set that holds the start and goes along the edges holds what is reached -/
theorem Rch.closed {E : Str → Str → Prop} {a x : Str} {S : Str → Prop} (h : Rch E a x) (h0 : S a) (hs : ∀ b c, S b → E b c → S c) : S x := by
  induction h with
  | refl => exact h0
  | step _ e ih => exact hs _ _ ih e
/-! ### graphs -/
abbrev Graph := List (Str × List Str)
def tg (g : Graph) (a : Str) : List Str := (lookA g a).getD []
def addT (ts : List Str) (t : Str) : List Str := if t ∈ ts then ts else ts ++ [t]
def recG (g : Graph) (s t : Str) : Graph := putA g s (addT (tg g s) t)
def delG (g : Graph) (s t : Str) : Graph := putA g s ((tg g s).filter fun x => decide (x ≠ t))
def delAllG (g : Graph) (s : Str) : Graph := if tg g s = [] then g else putA g s []
def Eg (g : Graph) (a b : Str) : Prop := b ∈ tg g a
def pairsG (g : Graph) : List (Str × Str) := g.flatMap fun q => q.2.map fun t => (q.1, t)
structure GOk (g : Graph) : Prop where
  nd : (g.map (·.1)).Nodup
  ndi : ∀ q ∈ g, q.2.Nodup
/-- all names of the graph are among these -/
def GIn (U : List Str) (g : Graph) : Prop := ∀ q ∈ g, q.1 ∈ U ∧ ∀ t ∈ q.2, t ∈ U
theorem tg_mem {g : Graph} {a : Str} {q : Str × List Str} (ok : GOk g) (h : q ∈ g) (e : q.1 = a) : tg g a = q.2 := by
  unfold tg
  subst e
  rw [lookA_of ok.nd (v := q.2) h] <;> rfl
theorem tg_not {g : Graph} {a : Str} (h : a ∉ g.map (·.1)) : tg g a = [] := by
  unfold tg
  rw [lookA_none.mpr h] <;> rfl
theorem tg_of {g : Graph} {a b : Str} (h : b ∈ tg g a) : ∃ q ∈ g, q.1 = a ∧ tg g a = q.2 := by
  unfold tg at h ⊢
  cases e : lookA g a with
  | none =>
    rw [e] at h
    exact absurd h (by simp)
  | some v => exact ⟨(a, v), lookA_mem e, rfl, rfl⟩
theorem tg_put (g : Graph) (s : Str) (ts : List Str) (a : Str) : tg (putA g s ts) a = if a = s then ts else tg g a := by
  unfold tg
  rw [lookA_putA]
  split <;> rfl
theorem tg_rec (g : Graph) (s t a : Str) : tg (recG g s t) a = if a = s then addT (tg g s) t else tg g a := tg_put _ _ _ _
theorem tg_del (g : Graph) (s t a : Str) : tg (delG g s t) a = if a = s then (tg g s).filter (fun x => decide (x ≠ t)) else tg g a := tg_put _ _ _ _
theorem tg_delAll (g : Graph) (s a : Str) : tg (delAllG g s) a = if a = s then [] else tg g a := by
  unfold delAllG
  split
  · rename_i h
    split
    · rename_i e
      rw [e, h]
    · rfl
  · exact tg_put _ _ _ _
theorem mem_addT {ts : List Str} {t x : Str} : x ∈ addT ts t ↔ x ∈ ts ∨ x = t := by
  unfold addT
  split
  · rename_i h
    exact ⟨Or.inl, fun z => z.elim id fun e => e ▸ h⟩
  · simp
theorem nodup_addT {ts : List Str} {t : Str} (h : ts.Nodup) : (addT ts t).Nodup := by
  unfold addT
  split
  · exact h
  · rename_i hn
    rw [List.nodup_append]
    exact ⟨h, by simp, fun a ha b hb => by
      rw [List.mem_singleton] at hb
      subst hb
      intro e
      exact hn (e ▸ ha)⟩
theorem GOk.put {g : Graph} (ok : GOk g) (s : Str) {ts : List Str} (h : ts.Nodup) : GOk (putA g s ts) := ⟨nodup_putA _ _ ok.nd, fun q hq => by
  rcases mem_putA hq with e | ⟨e, _⟩
  · rw [e]
    exact h
  · exact ok.ndi q e⟩
theorem GOk.tg_nodup {g : Graph} (ok : GOk g) (s : Str) : (tg g s).Nodup := by
  unfold tg
  cases e : lookA g s with
  | none => exact List.nodup_nil
  | some v => exact ok.ndi _ (lookA_mem e)
theorem GOk.recG {g : Graph} (ok : GOk g) (s t : Str) : GOk (recG g s t) := ok.put s (nodup_addT (ok.tg_nodup s))
theorem GOk.delG {g : Graph} (ok : GOk g) (s t : Str) : GOk (delG g s t) := ok.put s ((ok.tg_nodup s).sublist List.filter_sublist)
theorem GOk.delAllG {g : Graph} (ok : GOk g) (s : Str) : GOk (delAllG g s) := by
  unfold CR.delAllG
  split
  · exact ok
  · exact ok.put s List.nodup_nil
theorem GIn.tg {U : List Str} {g : Graph} (h : GIn U g) {a b : Str} (hb : b ∈ tg g a) : a ∈ U ∧ b ∈ U := by
  obtain ⟨q, hq, e, e2⟩ := tg_of hb
  rw [e2] at hb
  exact ⟨e ▸ (h q hq).1, (h q hq).2 b hb⟩
theorem GIn.put {U : List Str} {g : Graph} (h : GIn U g) {s : Str} {ts : List Str} (hs : s ∈ U) (ht : ∀ t ∈ ts, t ∈ U) : GIn U (putA g s ts) := fun q hq => by
  rcases mem_putA hq with e | ⟨e, _⟩
  · rw [e]
    exact ⟨hs, ht⟩
  · exact h q e
theorem GIn.recG {U : List Str} {g : Graph} (h : GIn U g) {s t : Str} (hs : s ∈ U) (ht : t ∈ U) : GIn U (recG g s t) := h.put hs fun x hx => by
  rcases mem_addT.mp hx with e | e
  · exact (h.tg e).2
  · exact e ▸ ht
theorem GIn.delG {U : List Str} {g : Graph} (h : GIn U g) {s t : Str} (hs : s ∈ U) : GIn U (delG g s t) := h.put hs fun x hx => (h.tg (List.mem_filter.mp hx).1).2
theorem GIn.delAllG {U : List Str} {g : Graph} (h : GIn U g) {s : Str} (hs : s ∈ U) : GIn U (delAllG g s) := by
  unfold CR.delAllG
  split
  · exact h
  · exact h.put hs fun x hx => absurd hx (by simp)
theorem mem_pairsG {g : Graph} (ok : GOk g) {a b : Str} : (a, b) ∈ pairsG g ↔ b ∈ tg g a := by
  unfold pairsG
  rw [List.mem_flatMap]
  constructor
  · rintro ⟨q, hq, h⟩
    obtain ⟨t, ht, e⟩ := List.mem_map.mp h
    injection e with e1 e2
    rw [tg_mem ok hq e1, ← e2]
    exact ht
  · intro h
    obtain ⟨q, hq, e1, e2⟩ := tg_of h
    rw [e2] at h
    exact ⟨q, hq, List.mem_map.mpr ⟨b, h, by rw [e1]⟩⟩
theorem nodup_pairsG : ∀ {g : Graph}, GOk g → (pairsG g).Nodup
  | [], _ => List.nodup_nil
  | q :: g, ok => by
    have nd : (q.1 :: g.map (·.1)).Nodup := ok.nd
    rw [List.nodup_cons] at nd
    have ok2 : GOk g := ⟨nd.2, fun p hp => ok.ndi p (List.mem_cons_of_mem _ hp)⟩
    show (q.2.map (fun t => (q.1, t)) ++ pairsG g).Nodup
    rw [List.nodup_append]
    refine ⟨?_, nodup_pairsG ok2, ?_⟩
    · exact List.Pairwise.map _ (fun a b h e => h (Prod.mk.inj e).2) (ok.ndi q List.mem_cons_self)
    · rintro ⟨a, b⟩ h1 ⟨c, d⟩ h2 e
      injection e with e1 e2
      obtain ⟨t, _, e3⟩ := List.mem_map.mp h1
      injection e3 with e4 e5
      obtain ⟨p, hp, h3⟩ := List.mem_flatMap.mp h2
      obtain ⟨t2, _, e6⟩ := List.mem_map.mp h3
      injection e6 with e7 e8
      exact nd.1 (List.mem_map.mpr ⟨p, hp, by rw [e7, ← e1, e4]⟩)

/-! ### a registry's state -/
structure Core where
  st : Str → Str
  ex : Str → List (Str × Int)
  early : List (Str × Str)
  held : List Str
  ch : List (Str × List Str)
def upd1 {α : Type} (f : Str → α) (x : Str) (v : α) : Str → α := fun y => if y = x then v else f y
theorem upd1_same {α : Type} {f : Str → α} {x : Str} {v : α} : upd1 f x v x = v := if_pos rfl
theorem upd1_ne {α : Type} {f : Str → α} {x y : Str} {v : α} (h : y ≠ x) : upd1 f x v y = f y := if_neg h
/-- all of these get one value -/
def updAll {α : Type} (f : Str → α) (xs : List Str) (v : α) : Str → α := fun y => if y ∈ xs then v else f y
theorem updAll_snoc {α : Type} (f : Str → α) (xs : List Str) (x : Str) (v : α) : upd1 (updAll f xs v) x v = updAll f (xs ++ [x]) v := by
  funext y
  unfold upd1 updAll
  by_cases h : y = x
  · subst h
    simp
  · by_cases h2 : y ∈ xs
    · simp [h2]
    · simp [h, h2]
theorem updAll_nil {α : Type} (f : Str → α) (v : α) : updAll f [] v = f := by
  funext y
  exact if_neg (by simp)

open Classical in
/-- the answer to a request -/
noncomputable def ansC (c : Core) (E : Str → Str → Prop) (s : Option Str) (t : Str) : Str :=
  if c.st t = "ready" ∨ c.st t = "failed" then c.st t
  else match s with
    | none => "wait"
    | some s => if (s, t) ∈ c.early ∨ Rch E t s then "early" else "wait"
/-- an early access is kept -/
def accC (c : Core) (s t : Str) (a : Str) : Core := if a = "early" ∧ (s, t) ∉ c.early then { c with early := c.early ++ [(s, t)] } else c
def expC (c : Core) (m n : Str) (v : Int) : Core := { c with ex := upd1 c.ex m (putA (c.ex m) n v) }
/-- early accesses of these are forgotten -/
def forgC (c : Core) (xs : List Str) : Core := { c with early := c.early.filter fun p => decide (p.1 ∉ xs) }
open Classical in
/-- complete: it and all it depends on are done or ready -/
noncomputable def complB (st : Str → Str) (E : Str → Str → Prop) (n : Str) : Bool := decide (∀ x, Rch E n x → st x = "done" ∨ st x = "ready")
noncomputable def finL (sn : List Str) (c : Core) (E : Str → Str → Prop) (m : Str) : List Str :=
  sn.filter fun n => decide (upd1 c.st m "done" n = "done") && complB (upd1 c.st m "done") E n
noncomputable def finC (sn : List Str) (c : Core) (E : Str → Str → Prop) (m : Str) : Core :=
  forgC { c with st := updAll (upd1 c.st m "done") (finL sn c E m) "ready" } (finL sn c E m)
/-- one module goes down -/
def downC (c : Core) (m : Str) (chain : List Str) : Core where
  st := upd1 c.st m "failed"
  ex := upd1 c.ex m []
  early := c.early
  held := if c.st m = "running" then c.held ++ [m] else c.held
  ch := putA c.ch m chain
def chainC (c : Core) (m : Str) : List Str := (lookA c.ch m).getD []
/-- the accessors of some modules: by source the smallest target -/
def accsC (c : Core) (cur : List Str) : List (Str × Str) :=
  (srtP c.early).foldl (fun acc p => if p.2 ∈ cur ∧ (c.st p.1 = "running" ∨ c.st p.1 = "done") ∧ p.1 ∉ acc.map (·.1) then acc ++ [p] else acc) []
/-- they go down, one by one -/
def downsC (c : Core) (fo : List (Str × Str)) : Core := fo.foldl (fun c p => downC c p.1 (p.1 :: chainC c p.2)) c
/-- round by round -/
def roundsC : Nat → Core → List Str → List Str → Core × List Str
  | 0, c, _, found => (c, found)
  | n + 1, c, cur, found => if cur = [] then (c, found) else roundsC n (downsC c (accsC c cur)) ((accsC c cur).map (·.1)) (found ++ (accsC c cur).map (·.1))
def restC (c : Core) (cause : Option Str) : List Str := match cause with
  | none => []
  | some b => chainC c b
def failedC (N : Nat) (c : Core) (m : Str) (cause : Option Str) : Core × List Str := roundsC N (downC c m (m :: restC c cause)) [m] [m]
def failC (N : Nat) (c : Core) (m : Str) (cause : Option Str) : Core := forgC (failedC N c m cause).1 (failedC N c m cause).2
def relC (c : Core) (m : Str) : Core := { c with held := c.held.filter fun x => decide (x ≠ m) }
def retC (c : Core) (m : Str) : Core := { c with st := upd1 c.st m "new", ch := dropA c.ch m }
def rootsC (sn : List Str) (c : Core) (kept : List Str) : List Str :=
  kept ++ sn.filter (fun n => decide (c.st n = "running")) ++ sn.filter (fun n => decide (c.st n = "done")) ++ sn.filter (fun n => decide (c.st n = "failed"))
open Classical in
noncomputable def unlL (sn : List Str) (c : Core) (E : Str → Str → Prop) (kept : List Str) : List Str :=
  sn.filter fun n => decide (c.st n = "ready") && decide (¬ ∃ r ∈ rootsC sn c kept, Rch E r n)
noncomputable def unlC (sn : List Str) (c : Core) (E : Str → Str → Prop) (kept : List Str) : Core :=
  { c with st := updAll c.st (unlL sn c E kept) "new", ex := updAll c.ex (unlL sn c E kept) [] }

/-! ### the program's state, the law's tables -/
structure RS where
  c : Core
  g : Graph
  r : Graph
structure MS where
  c : Core
  needs : List (Str × Str)
  rcd : List (Str × Str)
def Em (M : MS) (a b : Str) : Prop := (a, b) ∈ M.needs
/-- a pair to the end -/
def reput (l : List (Str × Str)) (p : Str × Str) : List (Str × Str) := l.filter (fun x => decide (x ≠ p)) ++ [p]
theorem mem_reput {l : List (Str × Str)} {p x : Str × Str} : x ∈ reput l p ↔ x ∈ l ∨ x = p := by
  unfold reput
  rw [List.mem_append, List.mem_filter, List.mem_singleton]
  constructor
  · rintro (⟨h, _⟩ | h)
    · exact Or.inl h
    · exact Or.inr h
  · rintro (h | h)
    · by_cases e : x = p
      · exact Or.inr e
      · exact Or.inl ⟨h, decide_eq_true e⟩
    · exact Or.inr h
theorem nodup_reput {l : List (Str × Str)} (p : Str × Str) (h : l.Nodup) : (reput l p).Nodup := by
  unfold reput
  rw [List.nodup_append]
  exact ⟨h.sublist List.filter_sublist, by simp, fun a ha b hb => by
    rw [List.mem_singleton] at hb
    subst hb
    exact of_decide_eq_true (List.mem_filter.mp ha).2⟩
end CR
set_option maxRecDepth 100000
set_option maxHeartbeats 4000000
/-! Cycleready: how readings are walked. Dicts by text, branches, comprehensions, new objects, owned places. -/
namespace CR
open PySem PySem.Spec PyProof.Rows L2 Evl

/-! ### branches -/
theorem it_t {P R : Prop} {b : Bool} (hb : b = true) (h : P) : if b = true then P else R := by
  rw [if_pos hb]
  exact h
theorem it_f {P R : Prop} {b : Bool} (hb : b = false) (h : R) : if b = true then P else R := by
  rw [if_neg (by rw [hb]; exact Bool.false_ne_true)]
  exact h
theorem it_c {P R : Prop} {b : Bool} (h1 : b = true → P) (h2 : b = false → R) : if b = true then P else R := by
  cases b with
  | true => exact h1 rfl
  | false => exact h2 rfl

/-! ### a dict by text -/
def dS {α : Type} (f : α → V) (l : List (Str × α)) : List (Key × V) := l.map fun q => (Sum.inr q.1, f q.2)
section
variable {α : Type} {f : α → V} {l : List (Str × α)} {k : Str}
theorem valV_dS : valV (dS f l) (Sum.inr k) = (lookA l k).map f := by
  unfold dS
  induction l with
  | nil => rfl
  | cons q l ih =>
    rw [List.map_cons, lookA_cons]
    by_cases h : q.1 = k
    · rw [valV_pos (p := (Sum.inr q.1, f q.2)) (by rw [h]), if_pos h]
      rfl
    · rw [valV_neg (p := (Sum.inr q.1, f q.2)) (fun z => h (Sum.inr.inj z)), if_neg h]
      exact ih
theorem any_dS : ((dS f l).any fun kv => decide (kv.1 = (Sum.inr k : Key))) = l.any fun q => decide (q.1 = k) := by
  unfold dS
  rw [List.any_map]
  congr 1
  funext q
  show decide ((Sum.inr q.1 : Key) = Sum.inr k) = decide (q.1 = k)
  rw [key_rr]
theorem putK_dS (v : α) : putK (dS f l) (Sum.inr k) (f v) = dS f (putA l k v) := by
  unfold putK putA
  rw [any_dS]
  split
  · unfold dS
    rw [List.map_map, List.map_map]
    refine List.map_congr_left fun q _ => ?_
    show (if (Sum.inr q.1 : Key) = Sum.inr k then ((Sum.inr q.1 : Key), f v) else (Sum.inr q.1, f q.2)) = (Sum.inr (if q.1 = k then (q.1, v) else q).1, f (if q.1 = k then (q.1, v) else q).2)
    by_cases h : q.1 = k
    · rw [if_pos (by rw [h]), if_pos h]
    · rw [if_neg (fun z => h (Sum.inr.inj z)), if_neg h]
  · unfold dS
    rw [List.map_append] <;> rfl
theorem dropK_dS : dropK (dS f l) (Sum.inr k) = dS f (dropA l k) := by
  unfold dropK dropA dS
  rw [List.filter_map]
  congr 1
  refine List.filter_congr fun q _ => ?_
  show decide (¬ (Sum.inr q.1 : Key) = Sum.inr k) = decide (¬ q.1 = k)
  rw [decide_eq_decide]
  exact ⟨fun h z => h (by rw [z]), fun h z => h (Sum.inr.inj z)⟩
theorem length_dS : (dS f l).length = l.length := List.length_map ..
theorem keys_dS : (dS f l).map (·.1) = (l.map (·.1)).map Sum.inr := by
  unfold dS
  rw [List.map_map, List.map_map]
  rfl
theorem kVs_dS : ((dS f l).map fun kv => kV kv.1) = (l.map (·.1)).map V.str := by
  unfold dS
  rw [List.map_map, List.map_map]
  rfl
theorem dg_rd {H : Hp} {a : Addr} (h : Rd H a (.dK (dS f l))) {o : Option α} (e : lookA l k = o) : DGet H a (.str k) (o.map f) := Or.inl ⟨_, Sum.inr k, h, rfl, by rw [valV_dS, e]⟩
/-- d[k] -/
theorem dg_s {H : Hp} {a : Addr} (h : H a = some (.dK (dS f l))) {v : α} (e : lookA l k = some v) : DGet H a (.str k) (some (f v)) := dg_rd (Or.inl h) e
/-- k in d -/
theorem dg_in {H : Hp} {a : Addr} (h : H a = some (.dK (dS f l))) : DGet H a (.str k) ((lookA l k).map f) := dg_rd (Or.inl h) rfl
theorem some_map {β : Type} {o : Option α} {f : α → β} : (o.map f).isSome = o.isSome := by cases o <;> rfl
theorem in_isSome : (lookA l k).isSome = decide (k ∈ l.map (·.1)) := by
  cases e : lookA l k with
  | none => exact (decide_eq_false (lookA_none.mp e)).symm
  | some v => exact (decide_eq_true (List.mem_map.mpr ⟨_, lookA_mem e, rfl⟩)).symm
theorem dp_s {H : Hp} {a : Addr} (h : H a = some (.dK (dS f l))) (v : α) (hl : l.length < 1000) : DPut H a (.str k) (f v) (upd H a (.dK (dS f (putA l k v)))) :=
  Or.inl ⟨_, Sum.inr k, h, rfl, by rw [length_dS]; exact sz_lt (by omega), by rw [putK_dS]⟩
end

/-! ### a value that a reading gives, and what is then true -/
/-- te gives a value and a heap that goes on from the first; Phi of the heap before, the value, the heap behind -/
def EvN (te : TE) (σ : L2.St) (H : Hp) (Phi : Hp → V → Hp → Prop) : Prop := ∀ H1, Ex H H1 → ∀ Q : VK, (∀ v H2, Ex H1 H2 → Phi H1 v H2 → Q v H2) → te σ H1 Q

/-! ### locks -/
theorem Ex.unlock {H H' : Hp} {d : Addr} {u : HO} {od : Obj} (h : H d = some u) (e : Ex (upd H d (.frz od u)) H') : Ex H (upd H' d u) := fun a o ha => by
  by_cases z : a = d
  · subst z
    rw [h] at ha
    cases ha
    exact upd_same
  · rw [upd_ne z]
    refine e a o ?_
    rw [upd_ne z]
    exact ha
theorem frz_same {H H' : Hp} {d : Addr} {u : HO} {od : Obj} (e : Ex (upd H d (.frz od u)) H') : H' d = some (.frz od u) := e d _ upd_same
theorem frz_none {H : Hp} {d p : Addr} {u : HO} {od : Obj} (h : upd H d (.frz od u) p = none) : p ≠ d ∧ H p = none := by
  by_cases z : p = d
  · subst z
    rw [upd_same] at h
    cases h
  · rw [upd_ne z] at h
    exact ⟨z, h⟩
theorem frz_other {H : Hp} {d a : Addr} {u o : HO} {od : Obj} (h : H a = some o) (z : a ≠ d) : upd H d (.frz od u) a = some o := by
  rw [upd_ne z]
  exact h

/-! ### comprehensions -/
section
variable {J : It} {n : Nat} {G : Hp → Prop} {Y : Nat → Hp → V → Hp → Prop} {g : TG} {tt : TT} {te : TE} {vs : List Nat} {σ : L2.St} {H1 : Hp}
/-- pure elements: those of f, by v -/
theorem lcW {wi : TI} {H : Hp} {Q : VK} (hwi : ∀ R : It → Hp → Prop, R J H1 → wi σ H R) (w : Walk J n G Y) (hz : n < 100000) (hG : ∀ H, Ex H1 H → G H) (f : Nat → Bool) (v : Nat → V)
    (hs : ∀ i x H H', i < n → Ex H1 H → Y i H x H' → ∃ σ2, Ex H H' ∧ (∀ Q : L2.St → Hp → Prop, Q σ2 H' → g x (wipe σ vs) H' Q) ∧ wipe σ2 vs = wipe σ vs ∧ EvT tt σ2 H' (f i) ∧ (f i = true → Ev te σ2 H' (v i)))
    (hQ : ∀ p H', H1 p = none → Ex H1 H' → H' p = some (.lst (given n f v)) → Q (.ref p) H') : tLc wi g tt te vs σ H Q := hwi _ fun D hD =>
  lc_it w (fun i H => Ex H1 H ∧ H D = some (.lst (given i f v))) ⟨Ex.new hD, upd_same⟩ (fun i H _ p => hG H p.1) (fun i x H H' hi p y => by
    obtain ⟨p1, p2⟩ := p
    obtain ⟨σ2, e1, hg, hw, ht, he⟩ := hs i x H H' hi p1 y
    refine hg _ ⟨hw, ht H' (Ex.refl _) _ fun H3 e3 => it_c (fun hf => ?_) (fun hf => ?_)⟩
    · refine he hf H3 e3 _ fun H4 e4 => ⟨given i f v, e4 D _ (e3 D _ (e1 D _ p2)), sz_lt (by have := given_len i f v; omega), Ex.mut (((p1.trans e1).trans e3).trans e4) hD, ?_⟩
      rw [given_yes hf]
      exact upd_same
    · refine ⟨(p1.trans e1).trans e3, ?_⟩
      rw [given_no hf]
      exact e3 D _ (e1 D _ p2)) (fun H p => hQ D H hD p.1 p.2)
end
section
/-- the same, the source told by what is known of it -/
theorem lcWi {ι : Type} {J : ι → It} {n : ι → Nat} {G : ι → Hp → Prop} {Y : ι → Nat → Hp → V → Hp → Prop} {g : TG} {tt : TT} {te : TE} {vs : List Nat} {σ : L2.St} {H1 : ι → Hp} {wi : TI} {H : Hp} {Q : VK} (f : ι → Nat → Bool) (v : ι → Nat → V)
    (hwi : ∀ R : It → Hp → Prop, (∀ z, R (J z) (H1 z)) → wi σ H R) (w : ∀ z, Walk (J z) (n z) (G z) (Y z)) (hz : ∀ z, n z < 100000) (hG : ∀ z H, Ex (H1 z) H → G z H)
    (hs : ∀ z i x H H', i < n z → Ex (H1 z) H → Y z i H x H' → ∃ σ2, Ex H H' ∧ (∀ Q : L2.St → Hp → Prop, Q σ2 H' → g x (wipe σ vs) H' Q) ∧ wipe σ2 vs = wipe σ vs ∧ EvT tt σ2 H' (f z i) ∧ (f z i = true → Ev te σ2 H' (v z i)))
    (hQ : ∀ z p H', H1 z p = none → Ex (H1 z) H' → H' p = some (.lst (given (n z) (f z) (v z))) → Q (.ref p) H') : tLc wi g tt te vs σ H Q := hwi _ fun z =>
  lcW (wi := fun σ' H' R => R (J z) (H1 z)) (H := H1 z) (fun _ r => r) (w z) (hz z) (hG z) (f z) (v z) (hs z) (hQ z)
end
/-- at a place of a list that is a map -/
theorem at_map {α β : Type} {f : α → β} {l : List α} {i : Nat} {y : β} (h : (l.map f)[i]? = some y) : ∃ x, l[i]? = some x ∧ y = f x := by
  rw [List.getElem?_map] at h
  cases e : l[i]? with
  | none => rw [e] at h; cases h
  | some x => rw [e] at h; exact ⟨x, rfl, (Option.some.inj h).symm⟩
/-- the comprehension's elements as a filter of a list -/
theorem given_filter {α : Type} (l : List α) (p : α → Bool) (h : α → V) (f : Nat → Bool) (v : Nat → V) (e : ∀ i x, l[i]? = some x → f i = p x ∧ v i = h x) : given l.length f v = (l.filter p).map h := by
  have go : ∀ n ≤ l.length, given n f v = ((l.take n).filter p).map h := by
    intro n
    induction n with
    | zero => intro _; rfl
    | succ n ih =>
      intro hn
      have hx : l[n]? = some (l[n]'(by omega)) := by simp
      obtain ⟨e1, e2⟩ := e n _ hx
      have ht : l.take (n + 1) = l.take n ++ [l[n]'(by omega)] := by rw [List.take_add_one, hx]; rfl
      rw [ht, List.filter_append, List.map_append, ← ih (by omega)]
      cases hp : p (l[n]'(by omega)) with
      | true => rw [given_yes (e1.trans hp), e2]; simp [hp]
      | false => rw [given_no (e1.trans hp)]; simp [hp]
  have := go l.length (Nat.le_refl _)
  rwa [List.take_length] at this
theorem given_map {α : Type} (l : List α) (h : α → V) (f : Nat → Bool) (v : Nat → V) (e : ∀ i x, l[i]? = some x → f i = true ∧ v i = h x) : given l.length f v = l.map h := by
  rw [given_filter l (fun _ => true) h f v e, List.filter_eq_self.mpr fun _ _ => rfl]

/-! ### isinstance -/
theorem kit_str {K : PySem.W.Frag} : PySem.W.kitOne K (.type "str") (.type "str") = some true := by
  rfl

/-! ### owned places -/
structure At {ι : Type} (A : ι → Addr) (C : ι → Option HO) (H : Hp) : Prop where
  is : ∀ i o, C i = some o → H (A i) = some o
  inj : ∀ i j, (C i).isSome = true → (C j).isSome = true → A i = A j → i = j
def own {ι : Type} (A : ι → Addr) (C : ι → Option HO) (a : Addr) : Prop := ∃ i, (C i).isSome = true ∧ A i = a
/-- a step of the owner: other objects stay, what it owns behind it owned before or it is new -/
structure Stp {ι κ : Type} (A : ι → Addr) (C : ι → Option HO) (H : Hp) (A' : κ → Addr) (C' : κ → Option HO) (H' : Hp) : Prop where
  fr : ∀ a o, H a = some o → ¬ own A C a → H' a = some o
  nw : ∀ a, own A' C' a → own A C a ∨ H a = none
section
variable {ι κ : Type} {A A' A'' : ι → Addr} {C C' C'' : ι → Option HO} {H H' H'' : Hp}
theorem At.live (h : At A C H) {i : ι} (l : (C i).isSome = true) : ∃ o, C i = some o ∧ H (A i) = some o := by
  obtain ⟨o, e⟩ := Option.isSome_iff_exists.mp l
  exact ⟨o, e, h.is i o e⟩
theorem At.own_some (h : At A C H) {a : Addr} (l : own A C a) : ∃ o, H a = some o := by
  obtain ⟨i, l, e⟩ := l
  obtain ⟨o, _, h2⟩ := h.live l
  exact ⟨o, e ▸ h2⟩
theorem At.not_own (h : At A C H) {a : Addr} (hn : H a = none) : ¬ own A C a := fun z => by
  obtain ⟨o, e⟩ := h.own_some z
  rw [hn] at e
  cases e
theorem At.ex (h : At A C H) (e : Ex H H') : At A C H' := ⟨fun i o z => e _ _ (h.is i o z), h.inj⟩
theorem At.fr (h : At A C H) (k : ∀ a, own A C a → H' a = H a) : At A C H' := ⟨fun i o z => by rw [k _ ⟨i, by rw [z]; rfl, rfl⟩]; exact h.is i o z, h.inj⟩
theorem At.congr (h : At A C H) (hC : ∀ i, C' i = C i) (hA : ∀ i, (C' i).isSome = true → A' i = A i) : At A' C' H :=
  ⟨fun i o z => by rw [hA i (by rw [z]; rfl)]; exact h.is i o ((hC i).symm.trans z), fun i j hi hj e => h.inj i j (hC i ▸ hi) (hC j ▸ hj) ((hA i hi).symm.trans (e.trans (hA j hj)))⟩
variable [DecidableEq ι]
theorem At.set (h : At A C H) {i : ι} (l : (C i).isSome = true) (o : HO) (hC : ∀ j, C' j = if j = i then some o else C j) : At A C' (upd H (A i) o) := by
  have lv : ∀ j, (C' j).isSome = true → (C j).isSome = true := fun j hj => by
    rw [hC j] at hj
    by_cases z : j = i
    · exact z ▸ l
    · rwa [if_neg z] at hj
  refine ⟨fun j u z => ?_, fun j k hj hk => h.inj j k (lv j hj) (lv k hk)⟩
  rw [hC j] at z
  by_cases e : j = i
  · rw [if_pos e] at z
    cases z
    rw [e]
    exact upd_same
  · rw [if_neg e] at z
    rw [upd_ne fun q => e (h.inj j i (by rw [z]; rfl) l q)]
    exact h.is j u z
theorem At.add (h : At A C H) {p : Addr} (hp : H p = none) (i : ι) (o : HO) (hC : ∀ j, C' j = if j = i then some o else C j) (hA : ∀ j, A' j = if j = i then p else A j) : At A' C' (upd H p o) := by
  have lv : ∀ j, j ≠ i → (C' j).isSome = true → (C j).isSome = true ∧ A' j = A j ∧ A j ≠ p := fun j hj hc => by
    rw [hC j, if_neg hj] at hc
    obtain ⟨u, _, e⟩ := h.live hc
    exact ⟨hc, by rw [hA j, if_neg hj], ne_of_none e hp⟩
  refine ⟨fun j u z => ?_, fun j k hj hk e => ?_⟩
  · by_cases e : j = i
    · rw [hC j, if_pos e] at z
      cases z
      rw [hA j, if_pos e]
      exact upd_same
    · obtain ⟨l1, l2, l3⟩ := lv j e (by rw [z]; rfl)
      rw [l2, upd_ne l3]
      rw [hC j, if_neg e] at z
      exact h.is j u z
  · by_cases ej : j = i
    · by_cases ek : k = i
      · exact ej.trans ek.symm
      · obtain ⟨_, l2, l3⟩ := lv k ek hk
        rw [hA j, if_pos ej, l2] at e
        exact absurd e.symm l3
    · obtain ⟨l1, l2, l3⟩ := lv j ej hj
      by_cases ek : k = i
      · rw [l2, hA k, if_pos ek] at e
        exact absurd e l3
      · obtain ⟨m1, m2, _⟩ := lv k ek hk
        exact h.inj j k l1 m1 (l2.symm.trans (e.trans m2))
end
section
variable {ι κ μ : Type} {A : ι → Addr} {C : ι → Option HO} {A' : κ → Addr} {C' : κ → Option HO} {A'' : μ → Addr} {C'' : μ → Option HO} {H H' H'' : Hp}
theorem Stp.refl : Stp A C H A C H := ⟨fun _ _ h _ => h, fun _ h => Or.inl h⟩
theorem Stp.ex (e : Ex H H') : Stp A C H A C H' := ⟨fun a o h _ => e a o h, fun _ h => Or.inl h⟩
theorem Stp.trans (s : Stp A C H A' C' H') (t : Stp A' C' H' A'' C'' H'') : Stp A C H A'' C'' H'' :=
  ⟨fun a o h n => t.fr a o (s.fr a o h n) fun z => (s.nw a z).elim n (fun q => by
      rw [h] at q
      cases q), fun a h => (t.nw a h).elim (s.nw a) fun q => by
    cases e : H a with
    | none => exact Or.inr rfl
    | some o =>
      by_cases z : own A C a
      · exact Or.inl z
      · rw [s.fr a o e z] at q
        cases q⟩
theorem Stp.put [DecidableEq ι] {C1 : ι → Option HO} {i : ι} (l : (C i).isSome = true) (o : HO) (hC : ∀ j, C1 j = if j = i then some o else C j) : Stp A C H A C1 (upd H (A i) o) :=
  ⟨fun a u q n => by rw [upd_ne fun z => n ⟨i, l, z.symm⟩]; exact q, fun a ⟨j, hj, e⟩ => Or.inl (by
    rw [hC j] at hj
    by_cases z : j = i
    · exact ⟨i, l, z ▸ e⟩
    · rw [if_neg z] at hj
      exact ⟨j, hj, e⟩)⟩
theorem Stp.add [DecidableEq ι] {A1 : ι → Addr} {C1 : ι → Option HO} {p : Addr} (hp : H p = none) (i : ι) (o : HO) (hC : ∀ j, C1 j = if j = i then some o else C j) (hA : ∀ j, A1 j = if j = i then p else A j) : Stp A C H A1 C1 (upd H p o) :=
  ⟨fun a u q _ => (Ex.new hp) a u q, fun a ⟨j, hj, e⟩ => by
    by_cases z : j = i
    · rw [hA j, if_pos z] at e
      exact Or.inr (e ▸ hp)
    · rw [hC j, if_neg z] at hj
      rw [hA j, if_neg z] at e
      exact Or.inl ⟨j, hj, e⟩⟩
theorem Stp.set {i : ι} (h : At A C H) (l : (C i).isSome = true) (o : HO) (lv : ∀ j, (C' j).isSome = true → own A C (A' j)) : Stp A C H A' C' (upd H (A i) o) :=
  ⟨fun a u q n => by rw [upd_ne fun z => n ⟨i, l, z.symm⟩]; exact q, fun a ⟨j, hj, e⟩ => Or.inl (e ▸ lv j hj)⟩
end
end CR
set_option maxRecDepth 100000
set_option maxHeartbeats 4000000
/-! Cycleready: rules of one's own. Locks over many dicts, stores, sorted pairs. -/
namespace CR
open PySem PySem.Spec PyProof.Rows L2 Evl

/-! ### locks over a list of dicts -/
def lockAt (d : Addr) (t : TE) : TE := fun σ H Q => ∃ u, H d = some u ∧ Mut (some u) ∧ ∀ od, t σ (upd H d (.frz od u)) fun v H' => H' d = some (.frz od u) ∧ Q v (upd H' d u)
def lockAll : List Addr → TE → TE
  | [], t => t
  | d :: ds, t => lockAt d (lockAll ds t)
def tLocks (t : TE) : TE := fun σ H Q => ∃ ds, lockAll ds t σ H Q
theorem pe_lockAll {X : Cx} {e : Expr} {t : TE} (h : PE X e t) : ∀ ds, PE X e (lockAll ds t)
  | [] => h
  | d :: ds => ⟨fun pn z σ H Q J hw => (pe_lock (pe_lockAll h ds)).run pn z σ H Q J ⟨d, hw⟩⟩
theorem pe_locks {X : Cx} {e : Expr} {t : TE} (h : PE X e t) : PE X e (tLocks t) := ⟨fun pn z σ H Q J ⟨ds, hw⟩ => (pe_lockAll h ds).run pn z σ H Q J hw⟩
/-- all of ds frozen; all of ds as they were -/
def frzL (ds : List Addr) (od : Addr → Obj) (H : Hp) : Hp := fun a => if a ∈ ds then (H a).map (HO.frz (od a)) else H a
def thawL (ds : List Addr) (H H' : Hp) : Hp := fun a => if a ∈ ds then H a else H' a
theorem lockAll_of {t : TE} {σ : L2.St} : ∀ (ds : List Addr) (H : Hp) (Q : VK), ds.Nodup → (∀ d ∈ ds, ∃ u, H d = some u ∧ Mut (some u)) →
    (∀ od, t σ (frzL ds od H) fun v H' => (∀ d ∈ ds, H' d = frzL ds od H d) ∧ Q v (thawL ds H H')) → lockAll ds t σ H Q
  | [], H, Q, _, _, h => by
    have e : frzL [] (fun _ => default) H = H := funext fun a => if_neg (by simp)
    have k := h fun _ => default
    rw [e] at k
    have e2 : (fun (v : V) (H' : Hp) => (∀ d ∈ ([] : List Addr), H' d = H d) ∧ Q v (thawL [] H H')) = Q := by
      funext v H'
      have e3 : thawL [] H H' = H' := funext fun a => if_neg (by simp)
      rw [e3]
      exact propext ⟨fun z => z.2, fun z => ⟨fun d hd => absurd hd (by simp), z⟩⟩
    rw [e2] at k
    exact k
  | d :: ds, H, Q, nd, live, h => by
    rw [List.nodup_cons] at nd
    obtain ⟨u, hd, mu⟩ := live d List.mem_cons_self
    refine ⟨u, hd, mu, fun o => lockAll_of ds (upd H d (.frz o u)) _ nd.2 (fun e he => ?_) fun od => ?_⟩
    · have ne : e ≠ d := fun z => nd.1 (z ▸ he)
      rw [upd_ne ne]
      exact live e (List.mem_cons_of_mem _ he)
    have e1 : frzL (d :: ds) (fun a => if a = d then o else od a) H = frzL ds od (upd H d (.frz o u)) := by
      funext a
      unfold frzL
      by_cases z : a = d
      · subst z
        rw [if_pos List.mem_cons_self, if_neg nd.1, upd_same, hd]
        show some (HO.frz (if a = a then o else od a) u) = _
        rw [if_pos rfl]
      · rw [upd_ne z]
        show (if a ∈ d :: ds then Option.map (HO.frz (if a = d then o else od a)) (H a) else H a) = _
        rw [if_neg z]
        by_cases y : a ∈ ds
        · rw [if_pos (List.mem_cons_of_mem _ y), if_pos y]
        · rw [if_neg (fun q => (List.mem_cons.mp q).elim z y), if_neg y]
    have k := h fun a => if a = d then o else od a
    rw [e1] at k
    have e2 : (fun (v : V) (H' : Hp) => (∀ e ∈ d :: ds, H' e = frzL ds od (upd H d (.frz o u)) e) ∧ Q v (thawL (d :: ds) H H')) =
        fun v H' => (∀ e ∈ ds, H' e = frzL ds od (upd H d (.frz o u)) e) ∧ thawL ds (upd H d (.frz o u)) H' d = some (.frz o u) ∧ Q v (upd (thawL ds (upd H d (.frz o u)) H') d u) := by
      funext v H'
      have e3 : frzL ds od (upd H d (.frz o u)) d = some (.frz o u) := by
        unfold frzL
        rw [if_neg nd.1, upd_same]
      have e4 : thawL ds (upd H d (.frz o u)) H' d = H' d := if_neg nd.1
      have e5 : upd (thawL ds (upd H d (.frz o u)) H') d u = thawL (d :: ds) H H' := by
        funext a
        by_cases z : a = d
        · subst z
          rw [upd_same]
          unfold thawL
          rw [if_pos List.mem_cons_self, hd]
        · rw [upd_ne z]
          unfold thawL
          by_cases y : a ∈ ds
          · rw [if_pos y, if_pos (List.mem_cons_of_mem _ y), upd_ne z]
          · rw [if_neg y, if_neg (fun q => (List.mem_cons.mp q).elim z y)]
      rw [e4, e5]
      refine propext ⟨fun z => ⟨fun e he => z.1 e (List.mem_cons_of_mem _ he), (z.1 d List.mem_cons_self).trans e3, z.2⟩, fun z => ⟨fun e he => ?_, z.2.2⟩⟩
      rcases List.mem_cons.mp he with q | q
      · rw [q, e3]
        exact z.2.1
      · exact z.1 e q
    rw [e2] at k
    exact k

/-! ### a store at a key, as a target -/
theorem set_dput {X : Cx} (hu : X.A.units + 1 < cLine) : PSet X (fun o i v H Q => ∃ a H', o = .ref a ∧ DPut H a i v H' ∧ Q H') := by
  rintro pn z σ H o i v ov iv u Q J ro ri rv ⟨a, H', rfl, g, q⟩
  obtain rfl : ov = Value.ref a := ro
  exact d_setItem hu J g ri rv fun z' J' => ⟨H', J', q⟩

/-! ### sorted pairs -/
theorem alike_p2 (p q : Str × Str) : PySem.W.alike (enc2 p) (enc2 q) = true := by simp [enc2, PySem.W.alike, PySem.W.alikeAll]
theorem alike_pI (p q : Str × Int) : PySem.W.alike (encI p) (encI q) = true := by simp [encI, PySem.W.alike, PySem.W.alikeAll]
theorem depth_p2 (p : Str × Str) : (enc2 p).depth = 1 := by simp [enc2, PyData.depth, PyData.depthAll]
theorem depth_pI (p : Str × Int) : (encI p).depth = 1 := by simp [encI, PyData.depth, PyData.depthAll]
theorem each_of_refs {δ : Type} {R : Value → Addr × δ → Prop} : ∀ {bs : List (Addr × δ)}, (∀ b ∈ bs, R (.ref b.1) b) → PySem.W.EachIs R (bs.map fun b => Value.ref b.1) bs
  | [], _ => .nil
  | _ :: _, h => .cons (h _ List.mem_cons_self) (each_of_refs fun b hb => h b (List.mem_cons_of_mem _ hb))
theorem refs_of_each {δ : Type} : ∀ {us : List Value} {bs : List (Addr × δ)}, PySem.W.EachIs (fun v b => v = Value.ref b.1) us bs → us = bs.map fun b => Value.ref b.1
  | _, _, .nil => rfl
  | _, _, .cons h t => by rw [List.map_cons, ← refs_of_each t, h]
theorem vals_refsB {δ : Type} : ∀ bs : List (Addr × δ), Vals (bs.map fun b => V.ref b.1) (bs.map fun b => Value.ref b.1)
  | [] => .nil
  | _ :: r => .cons rfl (vals_refsB r)
theorem sort_snd {δ : Type} {enc : δ → PyData} (anti : ∀ a b, PySem.W.dataLe false enc a b = true → PySem.W.dataLe false enc b a = true → a = b) (bs : List (Addr × δ)) :
    (bs.mergeSort (PySem.W.dataLe false fun b => enc b.2)).map (·.2) = (bs.map (·.2)).mergeSort (PySem.W.dataLe false enc) := by
  have t : PySem.W.TotalLe (PySem.W.dataLe false enc) := PySem.W.sortLe_total _ _ _
  have t2 : PySem.W.TotalLe (PySem.W.dataLe false fun b : Addr × δ => enc b.2) := PySem.W.sortLe_total _ _ _
  refine sort_perm_eq t anti ((List.mergeSort_perm bs _).map _) ?_
  rw [List.pairwise_map]
  refine (PySem.W.sort_pairwise t2 bs).imp fun {a b} h => ?_
  rw [PySem.W.dataLe_eq] at h ⊢
  exact h
theorem anti_leI {p q : Str × Int} (h1 : PySem.W.dataLe false encI p q = true) (h2 : PySem.W.dataLe false encI q p = true) (hne : p.1 = q.1 → p = q) : p = q := by
  rw [PySem.W.dataLe_eq] at h1 h2
  by_cases e : p.1 = q.1
  · exact hne e
  · exfalso
    have f : ∀ a b : Str × Int, a.1 ≠ b.1 → PySem.W.dataLt (encI a) (encI b) = decide (a.1.cps.toList < b.1.cps.toList) := fun a b h => by
      unfold encI
      rw [PySem.W.dataLt_pair (by simp [PySem.W.alike]) (by simp [PySem.W.alike]), eqv_str, if_neg (by simpa using h), lt_str]
    simp only [Bool.false_eq_true, if_false, f _ _ e, f _ _ (fun z => e z.symm)] at h1 h2
    exact e (cps_lt_tri (by simpa using h2) (by simpa using h1))
section
variable {X : Cx}
/-- sorted(xs), xs a list of pairs of texts -/
def rSortP (K : PySem.W.Frag) : List V → Hp → VK → Prop := fun vs H Q => ∃ (a : Addr) (bs : List (Addr × Str × Str)), vs = [.ref a] ∧ SqL K H a (bs.map fun b => .ref b.1) ∧ (∀ b ∈ bs, H b.1 = some (.tup [.str b.2.1, .str b.2.2])) ∧ bs.length ≤ 10000 ∧
  ∀ (cs : List (Addr × Str × Str)) (p : Addr), cs.Perm bs → cs.map (·.2) = srtP (bs.map (·.2)) → H p = none → Q (.ref p) (upd H p (.lst (cs.map fun b => .ref b.1)))
theorem dp_pair {K : PySem.W.Frag} {H : Hp} {p : Addr} {x y : Str} (h : H p = some (.tup [.str x, .str y])) : Dp K H (.ref p) (enc2 (x, y)) := .tup (st_of h) (.cons (.str _) (.cons (.str _) .nil))
theorem dp_pairI {K : PySem.W.Frag} {H : Hp} {p : Addr} {x : Str} {i : Int} (h : H p = some (.tup [.str x, .int i])) : Dp K H (.ref p) (encI (x, i)) := .tup (st_of h) (.cons (.str _) (.cons (.int _) .nil))
theorem vals_ref_eq {δ : Type} : ∀ {bs : List (Addr × δ)} {us : List Value}, Vals (bs.map fun b => V.ref b.1) us → us = bs.map fun b => Value.ref b.1
  | [], _, r => by cases r; rfl
  | b :: bs, _, r => by
    cases r with
    | cons h t =>
      rw [List.map_cons, ← vals_ref_eq t]
      congr 1
theorem cr_sortedP2 (hu : X.A.units + 64 < cLine) : CallR X (.builtin "sorted") (rSortP X.K) := by
  intro pn z σ H xs us Q J r h
  obtain ⟨a, bs, rfl, hl, ht, hn, q⟩ := h
  obtain ⟨its, rv, hl2, _⟩ := J.list hl
  rw [Vals.ref1 r]
  obtain rfl := vals_ref_eq rv
  refine PySem.W.sorted_data (R := fun v b => v = Value.ref b.1) (bs := bs) (enc := fun b => enc2 b.2) hl2.isList (each_of_refs fun _ _ => rfl) (each_of_refs fun b hb => Dp.reads J _ _ _ (dp_pair (ht b hb)) rfl) (PySem.W.AllAlike.of fun _ _ => alike_p2 _ _) (PySem.W.Sortable.tuples fun b => ⟨_, _, rfl⟩)
    (by rw [sizeLine_eq]; omega) (fun b _ => by rw [depth_p2]; omega) fun out ho eo => ?_
  obtain rfl := refs_of_each eo
  obtain ⟨ep, he⟩ := sortedAll_at z.heap (bs.map fun b => Value.ref b.1) ((bs.mergeSort (PySem.W.dataLe false fun b => enc2 b.2)).map fun b => Value.ref b.1).toArray
  have hp : (bs.mergeSort (PySem.W.dataLe false fun b => enc2 b.2)).Perm bs := List.mergeSort_perm _ _
  refine ⟨.ref (z.heap.objs.size + 1), _, J.laid (t' := z.toks) (o := .lst ((bs.mergeSort (PySem.W.dataLe false fun b => enc2 b.2)).map fun b => V.ref b.1)) (fun _ _ => sortedAll_old) (Nat.le_succ _) ⟨?_, _, ep, vals_refsB _, he⟩, rfl, q _ _ hp ?_ (J.hok.fresh (Nat.le_succ _))⟩
  · rw [List.length_map, hp.length_eq, sizeLine_eq]
    omega
  · exact sort_snd (fun _ _ => anti_le2) bs
theorem cr_sortedP2K {K : PySem.W.Frag} (hK : X.K = K) (hu : X.A.units + 64 < cLine) : CallR X (.builtin "sorted") (rSortP K) := by
  rw [← hK]
  exact cr_sortedP2 hu
end
end CR
set_option maxRecDepth 100000
set_option maxHeartbeats 4000000
/-! Cycleready: sorted keys of a dict with pairs for keys, items in a row, sorted items. -/
namespace CR
open PySem PySem.Spec PyProof.Rows L2 Evl
/-- the same place of two lists that go together -/
theorem paired_at {α β : Type} {F : α → β → Prop} : ∀ {as : List α} {bs : List β} {i : Nat} {b : β}, Paired F as bs → bs[i]? = some b → ∃ a, as[i]? = some a ∧ F a b
  | _, _, _, _, .nil, h => by simp at h
  | _, _, 0, _, .cons r _, h => by
    simp at h
    subst h
    exact ⟨_, rfl, r⟩
  | _, _, i + 1, _, .cons _ t, h => by
    obtain ⟨a, h1, h2⟩ := paired_at (i := i) t (by simpa using h)
    exact ⟨a, by simpa using h1, h2⟩
/-- two places of a list as one list of pairs -/
theorem zip_maps {α β : Type} : ∀ (as : List α) (bs : List β), as.length = bs.length → (as.zip bs).map (·.1) = as ∧ (as.zip bs).map (·.2) = bs
  | [], [], _ => ⟨rfl, rfl⟩
  | a :: as, b :: bs, h => by
    obtain ⟨h1, h2⟩ := zip_maps as bs (by simpa using h)
    exact ⟨by rw [List.zip_cons_cons, List.map_cons, h1], by rw [List.zip_cons_cons, List.map_cons, h2]⟩
  | [], _ :: _, h => by simp at h
  | _ :: _, [], h => by simp at h
theorem reads_p2 {h : Heap} {p : Addr} {x y : Str} {t t' : Tok} (i : IsTup h p #[.str x t, .str y t']) : Reads h (.ref p) (enc2 (x, y)) [] := by
  obtain ⟨o, ho, hc, n, hd⟩ := i
  exact Reads.tuple ho hc hd (.cons (.str _ _) (.cons (.str _ _) .nil))
theorem reads_pI {h : Heap} {p : Addr} {x : Str} {y : Int} {t t' : Tok} (i : IsTup h p #[.str x t, .int y t']) : Reads h (.ref p) (encI (x, y)) [] := by
  obtain ⟨o, ho, hc, n, hd⟩ := i
  exact Reads.tuple ho hc hd (.cons (.str _ _) (.cons (.int _ _) .nil))
section
variable {X : Cx}
def k2 (p : Str × Str) : List Key := [.inr p.1, .inr p.2]
/-- sorted(d), d's keys pairs of texts -/
def rSortDT : List V → Hp → VK → Prop := fun vs H Q => ∃ (a : Addr) (kvs : List (List Key × V)) (l : List (Str × Str)), vs = [.ref a] ∧ Rd H a (.dT kvs) ∧ kvs.map (·.1) = l.map k2 ∧ l.length ≤ 10000 ∧
  ∀ (cs : List (Addr × Str × Str)) (p : Addr), cs.map (·.2) = srtP l → (∀ b ∈ cs, H b.1 = some (.tup [.str b.2.1, .str b.2.2])) → H p = none → Q (.ref p) (upd H p (.lst (cs.map fun b => .ref b.1)))
theorem cr_sortedDT (hc : X.calm = true) (hu : X.A.units + 64 < cLine) : CallR X (.builtin "sorted") rSortDT := by
  intro pn z σ H xs us Q J r h
  obtain ⟨a, kvs, l, rfl, hd, hk, hn, q⟩ := h
  rw [Vals.ref1 r]
  obtain ⟨zz, hs, ks, pr, o, es, ep, ho, hx, hdt, he, hnd⟩ := (show ObjOk X.prog X.w H z.heap a (.dT kvs) from hd.ok J.hok)
  have l1 : es.size = ks.length := size_of_entries he
  have l2 : kvs.length = ks.length := Paired.length pr
  have l3 : kvs.length = l.length := by
    have e := congrArg List.length hk
    rwa [List.length_map, List.length_map] at e
  refine Calls.call_function_entry kind_sorted plain_sorted entry_sorted (args_sorted1 _) ?_
  unfold Builtin.«sorted»
  refine wpAny_bind (m := checkCount "sorted" 1 1 _) (wpAny_pure ?_)
  refine wpAny_bind (PySem.W.kdu_collect (A := X.A.in1) (kdl_raw hs hx hdt) (J.ok.hd hc) ho (by rw [sizeLine_eq]; omega) fun h' tk acc kp it => ?_)
  obtain ⟨bs, hbs1, hbs2⟩ : ∃ bs : List (Addr × Str × Str), bs.map (·.1) = ks.map (fun x => x.2.1) ∧ bs.map (·.2) = l := by
    obtain ⟨e1, e2⟩ := zip_maps (ks.map fun x => x.2.1) l (by rw [List.length_map]; omega)
    exact ⟨_, e1, e2⟩
  have lb : bs.length = l.length := by rw [← hbs2, List.length_map]
  have ea : acc.toList = bs.map fun b => Value.ref b.1 := by
    have hl : acc.toList.length = ks.length := by rw [Array.length_toList, it.1]; exact l1
    have e0 : (bs.map fun b => Value.ref b.1) = ks.map fun x => Value.ref x.2.1 := by
      have e := congrArg (List.map Value.ref) hbs1
      rw [List.map_map, List.map_map] at e
      exact e
    rw [e0]
    apply List.ext_getElem?
    intro j
    rw [List.getElem?_map]
    cases hj : acc.toList[j]? with
    | none =>
      have g := List.getElem?_eq_none_iff.mp hj
      rw [List.getElem?_eq_none (by omega)]
      rfl
    | some v =>
      obtain ⟨en, hen, hv⟩ := it.2 j v (by rw [← Array.getElem?_toList]; exact hj)
      have qe := entry_at he j
      rw [hen] at qe
      cases hb : ks[j]? with
      | none =>
        rw [hb] at qe
        exact nomatch (show some en = none from qe)
      | some b =>
        rw [hb] at qe
        have e2 : en = entryOfKey (tupleKind (mixKind X.prog X.w)) b := Option.some.inj qe
        rw [hv, e2]
        rfl
  have hb : ∀ b ∈ bs, H b.1 = some (.tup [.str b.2.1, .str b.2.2]) := fun b hb => by
    obtain ⟨i, hi⟩ := List.mem_iff_getElem?.mp hb
    have g1 : (ks.map fun x => x.2.1)[i]? = some b.1 := by rw [← hbs1, List.getElem?_map, hi]; rfl
    have g2 : l[i]? = some b.2 := by rw [← hbs2, List.getElem?_map, hi]; rfl
    obtain ⟨x, hx1, hx2⟩ := at_map g1
    obtain ⟨kv, hkv, f1, f2, _⟩ := paired_at pr hx1
    have g3 : (kvs.map (·.1))[i]? = some kv.1 := by rw [List.getElem?_map, hkv]; rfl
    rw [hk, List.getElem?_map, g2] at g3
    have g4 : k2 b.2 = kv.1 := Option.some.inj g3
    rw [hx2, f2, ← g4]
    rfl
  have J1 : Inv X pn σ H { z with heap := h', toks := tk } := J.kept kp
  refine wpAny_bind (wpAny_newList ?_ (by rw [ea, List.length_map, sizeLine_eq]; omega))
  have hoL : (h'.push (seqObj "list" acc.toList.toArray 0)).get? h'.objs.size = some (seqObj "list" acc.toList.toArray 0) := Heap.get?_push_size _ rfl
  show wpAny _ _ _ _ _ { z with heap := h'.push (seqObj "list" acc.toList.toArray 0), toks := tk }
  rw [ea] at hoL ⊢
  have ner : PySem.W.EachIs (fun v b => ∃ as, Reads (h'.push (seqObj "list" (bs.map fun b => Value.ref b.1).toArray 0)) v (enc2 b.2) as ∧ h'.objs.size ∉ as) (bs.map fun b => Value.ref b.1) bs := each_of_refs fun b hb' => by
    obtain ⟨_, its, rv, i⟩ := (show ObjOk X.prog X.w H h' b.1 (.tup [.str b.2.1, .str b.2.2]) from J1.hok _ _ (hb b hb'))
    obtain ⟨u1, u2, rfl, ⟨t1, rfl⟩, ⟨t2, rfl⟩⟩ := vals2 rv
    exact ⟨[], reads_p2 (i.keeps fun _ _ q => Heap.get?_push_of_some _ q), by simp⟩
  refine wpAny_bind (wpAny_holding (PySem.W.list_sort_data (s := { z with heap := h'.push (seqObj "list" (bs.map fun b => Value.ref b.1).toArray 0), toks := tk }) (R := fun v b => v = Value.ref b.1) (bs := bs) (enc := fun b => enc2 b.2) hoL (each_of_refs fun _ _ => rfl) ner (PySem.W.AllAlike.of fun _ _ => alike_p2 _ _)
    (PySem.W.Sortable.tuples fun b => ⟨_, _, rfl⟩) (by rw [sizeLine_eq]; omega) (fun b _ => by rw [depth_p2]; show X.A.units + 1 + 1 + 1 < cLine; omega) fun out ho' eo => ?_))
  obtain rfl := refs_of_each eo
  obtain ⟨e', he'⟩ := sortedHeap_at (vs := bs.map fun b => Value.ref b.1) (out := ((bs.mergeSort (PySem.W.dataLe false fun b => enc2 b.2)).map fun b => Value.ref b.1).toArray) hoL
  have hp : (bs.mergeSort (PySem.W.dataLe false fun b => enc2 b.2)).Perm bs := List.mergeSort_perm _ _
  refine wpAny_pure ⟨_, rfl, .ref h'.objs.size, _, J1.laid (t' := tk) (o := .lst ((bs.mergeSort (PySem.W.dataLe false fun b => enc2 b.2)).map fun b => V.ref b.1)) (fun b u e => ?_) (Nat.le_refl _) ⟨?_, _, e', vals_refsB _, he'⟩, rfl, q _ _ ?_ (fun b hb' => hb b (hp.mem_iff.mp hb')) (J1.hok.fresh (Nat.le_refl _))⟩
  · have hlt : b < h'.objs.size := Heap.lt_size e
    rw [sortedHeap_old (Nat.ne_of_lt hlt) (by rw [size_push']; exact Nat.lt_succ_of_lt hlt)]
    exact Heap.get?_push_of_some _ e
  · rw [List.length_map, hp.length_eq, sizeLine_eq]
    omega
  · rw [← hbs2]
    exact sort_snd (fun _ _ => anti_le2) bs

/-- d.items() of a dict by ints and texts -/
def rItemsK : V → List V → Hp → VK → Prop := fun x vs H Q => ∃ (a : Addr) (kvs : List (Key × V)), x = .ref a ∧ vs = [] ∧ Rd H a (.dK kvs) ∧ ∀ p, H p = none → Q (.ref p) (upd H p (DX.itemsO p a))
theorem mt_itemsK : MtM X "dict.items" rItemsK := by
  intro pn z σ H x xs v us Q J rx rxs h
  obtain ⟨a, kvs, rfl, rfl, ha, q⟩ := h
  cases rx
  cases rxs
  obtain ⟨zz, hd, vs, rel, o, es, ep, ho, hx, hdat, _⟩ := dk_rd J.hok ha
  refine DT.callItems (es := es) (ep := ep) hd ⟨o, ho, hx, hdat⟩ ?_
  exact ⟨.ref z.heap.objs.size, _, J.laid (t' := z.toks) (o := DX.itemsO z.heap.objs.size a) (fun b u e => Heap.get?_push_of_some _ e) (Nat.le_refl _) (DX.itemsO_ok (Heap.get?_push_size _ rfl)), rfl, q _ (J.hok.fresh (Nat.le_refl _))⟩
/-- sorted(d.items()), texts to ints -/
def rSortItI : List V → Hp → VK → Prop := fun vs H Q => ∃ (p a : Addr) (l : List (Str × Int)), vs = [.ref p] ∧ H p = some (DX.itemsO p a) ∧ Rd H a (.dK (dS V.int l)) ∧ (l.map (·.1)).Nodup ∧ l.length ≤ 10000 ∧
  ∀ (H' : Hp) (t : Addr) (cs : List (Addr × Str × Int)), Ex H H' → H t = none → cs.map (·.2) = srtI l → H' t = some (.lst (cs.map fun b => .ref b.1)) → (∀ b ∈ cs, H' b.1 = some (.tup [.str b.2.1, .int b.2.2])) → Q (.ref t) H'
theorem sort_sndI (bs : List (Addr × Str × Int)) (nd : ((bs.map (·.2)).map (·.1)).Nodup) : (bs.mergeSort (PySem.W.dataLe false fun b => encI b.2)).map (·.2) = srtI (bs.map (·.2)) := by
  have t : PySem.W.TotalLe (PySem.W.dataLe false encI) := PySem.W.sortLe_total _ _ _
  have t2 : PySem.W.TotalLe (PySem.W.dataLe false fun b : Addr × Str × Int => encI b.2) := PySem.W.sortLe_total _ _ _
  have hp : ((bs.mergeSort (PySem.W.dataLe false fun b => encI b.2)).map (·.2)).Perm (bs.map (·.2)) := (List.mergeSort_perm bs _).map _
  refine List.Perm.eq_of_pairwise (le := fun a b => PySem.W.dataLe false encI a b = true) (fun a b ha hb h1 h2 => anti_leI h1 h2 fun e => ?_) ?_ (PySem.W.sort_pairwise t _) (hp.trans (List.mergeSort_perm _ _).symm)
  · have m1 := hp.mem_iff.mp ha
    have m2 := (List.mergeSort_perm _ _).mem_iff.mp hb
    have g1 := lookA_of nd (k := a.1) (v := a.2) m1
    have g2 := lookA_of nd (k := b.1) (v := b.2) m2
    rw [e] at g1
    rw [g1] at g2
    exact Prod.ext e (Option.some.inj g2)
  · rw [List.pairwise_map]
    refine (PySem.W.sort_pairwise t2 bs).imp fun {a b} h => ?_
    rw [PySem.W.dataLe_eq] at h ⊢
    exact h
theorem cr_sortedIt (hc : X.calm = true) (hu : X.A.units + 64 < cLine) : CallR X (.builtin "sorted") rSortItI := by
  intro pn z σ H xs us Q J r h
  obtain ⟨p, a, l, rfl, hp, ha, nd, hn, q⟩ := h
  rw [Vals.ref1 r]
  have view : z.heap.IsItemsView p a := (show ObjOk X.prog X.w H z.heap p (DX.itemsO p a) from J.hok p _ hp).1
  obtain ⟨zz, hd, vs, rel, o, es, ep, ho, hx, hdat, hko, hpr, _⟩ := dk_rd J.hok ha
  have l1 : (dS V.int l).length = vs.length := Paired.length rel
  rw [length_dS] at l1
  have l2 : es.size = vs.length := by rw [← Array.length_toList, hpr.length]
  have hh : X.A.handled = none := J.ok.hd hc
  refine DT.sortedI (es := es) (ep := ep) hh view ⟨o, ho, hx, hdat⟩ (by rw [sizeLine_eq]; omega) fun h' tk as hk hlt hl hG => ?_
  have lak : as.length = l.length := by omega
  have nds : as.Nodup := List.Pairwise.imp (fun h => Nat.ne_of_lt h) hG.rise
  obtain ⟨e1, e2⟩ := zip_maps as l lak
  generalize hbs : as.zip l = bs at e1 e2
  have lb : bs.length = l.length := by rw [← e2, List.length_map]
  have eas : as.map Value.ref = bs.map fun b => Value.ref b.1 := by
    rw [← e1, List.map_map]
    rfl
  -- the pairs that were made
  have pr : ∀ b ∈ bs, ∃ t1 t2, IsTup h' b.1 #[.str b.2.1 t1, .int b.2.2 t2] := fun b hb => by
    obtain ⟨j, hj⟩ := List.mem_iff_getElem?.mp hb
    have g1 : as[j]? = some b.1 := by rw [← e1, List.getElem?_map, hj]; rfl
    have g2 : l[j]? = some b.2 := by rw [← e2, List.getElem?_map, hj]; rfl
    obtain ⟨en, hen, hg⟩ := hG.pairs j b.1 g1
    have hlt : j < vs.length := by
      have := (List.getElem?_eq_some_iff.mp g2).1
      omega
    have hv : vs[j]? = some vs[j] := by simp [hlt]
    obtain ⟨kv, f1, f2, f3⟩ := paired_at rel hv
    have f4 : (dS V.int l)[j]? = some (Sum.inr b.2.1, V.int b.2.2) := by
      unfold dS
      rw [List.getElem?_map, g2]
      rfl
    rw [f4] at f1
    cases f1
    obtain ⟨i1, i2⟩ := hpr.get? (i := j) (e := en) (by rw [Array.getElem?_toList]; exact hen) (k := vs[j].1) (v := vs[j].2) hv
    rw [← f2] at i1
    obtain ⟨t1, et1⟩ := Value.isStrOf_shape (x := b.2.1) (v := en.key) i1
    obtain ⟨t2, et2⟩ := (show ∃ t, vs[j].2 = Value.int b.2.2 t from f3)
    refine ⟨t1, t2, _, hg, rfl, 0, ?_⟩
    rw [et1, i2, et2]
  rw [eas]
  have hoL : (h'.push { cls := .type "list", data := .seq (bs.map fun b => Value.ref b.1).toArray }).get? h'.objs.size = some (seqObj "list" (bs.map fun b => Value.ref b.1).toArray 0) := Heap.get?_push_size _ rfl
  generalize hh2 : h'.push { cls := .type "list", data := .seq (bs.map fun b => Value.ref b.1).toArray } = h2 at hoL ⊢
  have ka : ∀ b o, h'.get? b = some o → h2.get? b = some o := fun b o e => by rw [← hh2]; exact Heap.get?_push_of_some _ e
  refine PySem.W.list_sort_data (s := { z with heap := h2, toks := tk }) (R := fun v b => v = Value.ref b.1) (bs := bs) (enc := fun b => encI b.2) hoL (each_of_refs fun _ _ => rfl) (each_of_refs fun b hb => ?_) (PySem.W.AllAlike.of fun _ _ => alike_pI _ _)
    (PySem.W.Sortable.tuples fun b => ⟨_, _, rfl⟩) (by rw [sizeLine_eq]; omega) (fun b _ => by rw [depth_pI]; show X.A.units + 1 + 1 + 1 < cLine; omega) fun out ho' eo => ?_
  · obtain ⟨t1, t2, i⟩ := pr b hb
    exact ⟨[], reads_pI (i.keeps ka), by simp⟩
  obtain rfl := refs_of_each eo
  generalize hcs : bs.mergeSort (PySem.W.dataLe false fun b => encI b.2) = cs
  have hcp : cs.Perm bs := hcs ▸ List.mergeSort_perm _ _
  obtain ⟨e', he'⟩ := sortedHeap_at (vs := bs.map fun b => Value.ref b.1) (out := (cs.map fun b => Value.ref b.1).toArray) hoL
  generalize hh3 : sortedHeap h2 h'.objs.size (bs.map fun b => Value.ref b.1) (cs.map fun b => Value.ref b.1).toArray = h3 at he' ⊢
  have kb : ∀ b o, h'.get? b = some o → h3.get? b = some o := fun b o e => by
    rw [← hh3, sortedHeap_old (Nat.ne_of_lt (Heap.lt_size e)) (Heap.lt_size (ka _ _ e))]
    exact ka _ _ e
  have hn0 : H h'.objs.size = none := J.hok.fresh (Nat.le_of_lt hlt)
  have J1 : Inv X pn σ H { z with heap := h3, toks := tk } := J.kept (t' := tk) fun b o e => kb b o (hk b o e)
  have J2 : Inv X pn σ (upd H h'.objs.size (.lst (cs.map fun b => V.ref b.1))) { z with heap := h3, toks := tk } :=
    J1.take (h' := h3) (t' := tk) (fun b ob _ e => e) (J.fpOk (Nat.le_of_lt hlt) hn0) ⟨by rw [List.length_map, hcp.length_eq, sizeLine_eq]; omega, _, e', vals_refsB _, he'⟩
  obtain ⟨H2, J3, g, qt⟩ := DX.takeT (P := fun b ws => ∃ c ∈ bs, c.1 = b ∧ ws = [.str c.2.1, .int c.2.2]) J as _ J2 nds fun b hb => by
    rw [← e1] at hb
    obtain ⟨c, hc1, rfl⟩ := List.mem_map.mp hb
    obtain ⟨t1, t2, i⟩ := pr c hc1
    have hbl : z.heap.objs.size ≤ c.1 := Nat.le_of_lt (hG.above _ (e1 ▸ hb))
    have hlt3 : c.1 < h'.objs.size := i.lt
    refine ⟨hbl, ?_, [.str c.2.1, .int c.2.2], ⟨c, hc1, rfl, rfl⟩, fun H3 => ⟨(by rw [sizeLine_eq]; show 2 ≤ 16777216; omega), [Value.str c.2.1 t1, Value.int c.2.2 t2], .cons ⟨_, rfl⟩ (.cons ⟨_, rfl⟩ .nil), i.keeps kb⟩⟩
    rw [upd_ne (Nat.ne_of_lt hlt3)]
    exact J.hok.fresh hbl
  refine ⟨.ref h'.objs.size, H2, J3, rfl, q H2 h'.objs.size cs (fun b o e => g b o (by rw [upd_ne (ne_of_none e hn0)]; exact e)) hn0 ?_ (g _ _ upd_same) fun b hb => ?_⟩
  · rw [← hcs, ← e2]
    exact sort_sndI bs (by rw [e2]; exact nd)
  · have hb2 : b ∈ bs := hcp.mem_iff.mp hb
    obtain ⟨ws, ⟨c, hc1, hc2, rfl⟩, hw⟩ := qt b.1 (by rw [← e1]; exact List.mem_map.mpr ⟨b, hb2, rfl⟩)
    have : c = b := by
      obtain ⟨i, hi⟩ := List.mem_iff_getElem?.mp hc1
      obtain ⟨j, hj⟩ := List.mem_iff_getElem?.mp hb2
      have g1 : as[i]? = some c.1 := by rw [← e1, List.getElem?_map, hi]; rfl
      have g2 : as[j]? = some b.1 := by rw [← e1, List.getElem?_map, hj]; rfl
      have eij : i = j := (List.getElem?_inj (List.getElem?_eq_some_iff.mp g1).1 nds).mp (by rw [g1, g2, hc2])
      subst eij
      rw [hi] at hj
      exact Option.some.inj hj
    rw [hw, this]
end
end CR
set_option maxRecDepth 100000
set_option maxHeartbeats 4000000
/-! Cycleready: comprehensions by a word on the turns, a graph's objects. -/
namespace CR
open PySem PySem.Spec PyProof.Rows L2 Evl
section
variable {J : It} {n : Nat} {G : Hp → Prop} {Y : Nat → Hp → V → Hp → Prop} {g : TG} {tt : TT} {te tk tv : TE} {vs : List Nat} {σ : L2.St} {H H1 : Hp} {Q : VK} {wi : TI}
/-- turns of a comprehension: at each turn what Body says with the next turn's word -/
theorem turns_it {S : Hp → Prop} {B : V → Hp → (Hp → Prop) → Prop} {H0 : Hp} (w : Walk J n G Y) (Pv : Nat → Hp → Prop) (h0 : Pv 0 H0) (hG : ∀ i H, i ≤ n → Pv i H → G H)
    (hs : ∀ i x H H', i < n → Pv i H → Y i H x H' → B x H' (Pv (i + 1))) (hd : ∀ H, Pv n H → S H) :
    ∃ W : Nat → Nat → Hp → Prop, (∃ m, W 0 m H0) ∧ ∀ i m H, W i m H → (J.stop i H ∧ S H) ∨ (J.go i H ∧ ∃ Nx : Hp → Prop, (∀ H', Nx H' → ∃ m', m' < m ∧ W (i + 1) m' H') ∧ ∀ x H', J.yld i H x H' → B x H' Nx) := by
  refine ⟨fun i m H => m + i = n ∧ Pv i H, ⟨n, rfl, h0⟩, fun i m H ⟨e, p⟩ => ?_⟩
  by_cases hi : i < n
  · exact .inr ⟨w.goes i H hi (hG i H (by omega) p), Pv (i + 1), fun H' p' => ⟨n - (i + 1), by omega, by omega, p'⟩, fun x H' y => hs i x H H' hi p (w.yields i H x H' hi (hG i H (by omega) p) y)⟩
  · obtain rfl : i = n := by omega
    exact .inl ⟨w.stops H (hG i H (by omega) p), hd H p⟩
abbrev bodyLc (g : TG) (tt : TT) (te : TE) (vs : List Nat) (σ : L2.St) (D : Addr) (x : V) (H' : Hp) (Nx : Hp → Prop) : Prop := g x (wipe σ vs) H' fun σ2 H2 => wipe σ2 vs = wipe σ vs ∧ tt σ2 H2 fun b H3 =>
  if b = true then te σ2 H3 fun y H4 => ∃ acc, H4 D = some (.lst acc) ∧ acc.length < sizeLine ∧ Nx (upd H4 D (.lst (acc ++ [y]))) else Nx H3
theorem lcP (hwi : ∀ R : It → Hp → Prop, R J H1 → wi σ H R) (w : Walk J n G Y)
    (k : ∀ D, H1 D = none → ∃ Pv : Nat → Hp → Prop, Pv 0 (upd H1 D (.lst [])) ∧ (∀ i H, i ≤ n → Pv i H → G H) ∧ (∀ i x H H', i < n → Pv i H → Y i H x H' → bodyLc g tt te vs σ D x H' (Pv (i + 1))) ∧ ∀ H, Pv n H → Q (.ref D) H) : tLc wi g tt te vs σ H Q :=
  hwi _ fun D hD => let ⟨Pv, h0, hG, hs, hd⟩ := k D hD; turns_it (B := bodyLc g tt te vs σ D) w Pv h0 hG hs hd
abbrev bodyDc (g : TG) (tt : TT) (tk tv : TE) (vs : List Nat) (σ : L2.St) (D : Addr) (x : V) (H' : Hp) (Nx : Hp → Prop) : Prop := g x (wipe σ vs) H' fun σ2 H2 => wipe σ2 vs = wipe σ vs ∧ tt σ2 H2 fun b H3 =>
  if b = true then tk σ2 H3 fun y H4 => tv σ2 H4 fun z H5 => ∃ kvs k, y = kV k ∧ H5 D = some (.dK kvs) ∧ kvs.length < sizeLine ∧ Nx (upd H5 D (.dK (putK kvs k z))) else Nx H3
theorem dcP (hwi : ∀ R : It → Hp → Prop, R J H1 → wi σ H R) (w : Walk J n G Y)
    (k : ∀ D, H1 D = none → ∃ Pv : Nat → Hp → Prop, Pv 0 (upd H1 D (.dK [])) ∧ (∀ i H, i ≤ n → Pv i H → G H) ∧ (∀ i x H H', i < n → Pv i H → Y i H x H' → bodyDc g tt tk tv vs σ D x H' (Pv (i + 1))) ∧ ∀ H, Pv n H → Q (.ref D) H) : tDc wi g tt tk tv vs σ H Q :=
  hwi _ fun D hD => let ⟨Pv, h0, hG, hs, hd⟩ := k D hD; turns_it (B := bodyDc g tt tk tv vs σ D) w Pv h0 hG hs hd
abbrev bodyLc2 (g : TG) (tt : TT) (wi1 : TI) (g1 : TG) (tt1 : TT) (te : TE) (vs vs1 : List Nat) (σ : L2.St) (D : Addr) (x : V) (H' : Hp) (Nx : Hp → Prop) : Prop := g x (wipe σ vs) H' fun σ2 H2 => wipe σ2 vs = wipe σ vs ∧ tt σ2 H2 fun b H3 =>
  if b = true then wi1 σ2 H3 fun J1 H4 => ∃ W1 : Nat → Nat → Hp → Prop, (∃ m, W1 0 m H4) ∧ ∀ j k H, W1 j k H →
    (J1.stop j H ∧ Nx H) ∨ (J1.go j H ∧ ∃ Nx1 : Hp → Prop, (∀ H', Nx1 H' → ∃ k', k' < k ∧ W1 (j + 1) k' H') ∧ ∀ x H', J1.yld j H x H' → bodyLc g1 tt1 te vs1 σ2 D x H' Nx1) else Nx H3
theorem lc2P {wi1 : TI} {g1 : TG} {tt1 : TT} {vs1 : List Nat} (hwi : ∀ R : It → Hp → Prop, R J H1 → wi σ H R) (w : Walk J n G Y)
    (k : ∀ D, H1 D = none → ∃ Pv : Nat → Hp → Prop, Pv 0 (upd H1 D (.lst [])) ∧ (∀ i H, i ≤ n → Pv i H → G H) ∧ (∀ i x H H', i < n → Pv i H → Y i H x H' → bodyLc2 g tt wi1 g1 tt1 te vs vs1 σ D x H' (Pv (i + 1))) ∧ ∀ H, Pv n H → Q (.ref D) H) :
    tLc2 wi g tt wi1 g1 tt1 te vs vs1 σ H Q :=
  hwi _ fun D hD => let ⟨Pv, h0, hG, hs, hd⟩ := k D hD; turns_it (B := bodyLc2 g tt wi1 g1 tt1 te vs vs1 σ D) w Pv h0 hG hs hd
end

theorem ne_mem {α : Type} {l : List α} {a b : α} (h : a ∈ l) (n : b ∉ l) : a ≠ b := fun e => n (e ▸ h)
theorem pair_at {kvs : List (Key × V)} {i : Nat} {k : Key} {v x : V} {H H' : Hp} (h : kvs[i]? = some (k, v)) (y : YPair (fun i => kvs[i]?.map fun kv => kV kv.1) (fun i => kvs[i]?.map Prod.snd) i H x H') :
    ∃ T, x = .ref T ∧ H T = none ∧ H' = upd H T (.tup [kV k, v]) := by
  obtain ⟨T, a, b, e1, e2, e3, e4, e5⟩ := y
  have e4 : (kvs[i]?.map fun kv => kV kv.1) = some a := e4
  have e5 : kvs[i]?.map Prod.snd = some b := e5
  rw [h] at e4 e5
  obtain rfl : kV k = a := Option.some.inj e4
  obtain rfl : v = b := Option.some.inj e5
  exact ⟨T, e1, e2, e3⟩
theorem not_take {α : Type} {g : List (Str × α)} {i : Nat} {q : Str × α} (nd : (g.map (·.1)).Nodup) (e : g[i]? = some q) : ∀ r ∈ g.take i, r.1 ≠ q.1 := fun r hr z => by
  obtain ⟨j, hj⟩ := List.mem_iff_getElem?.mp hr
  have hji : j < i := by
    have := (List.getElem?_eq_some_iff.mp hj).1
    rw [List.length_take] at this
    omega
  rw [List.getElem?_take_of_lt hji] at hj
  have h1 : (g.map (·.1))[j]? = some q.1 := by rw [List.getElem?_map, hj, ← z]; rfl
  have h2 : (g.map (·.1))[i]? = some q.1 := by rw [List.getElem?_map, e]; rfl
  have := (List.getElem?_inj (List.getElem?_eq_some_iff.mp h1).1 nd).mp (h1.trans h2.symm)
  omega
theorem valV_not {α : Type} {l : List α} {k : Str} {f : α → Str} {v : α → V} (h : ∀ r ∈ l, f r ≠ k) : valV (l.map fun r => ((Sum.inr (f r) : Key), v r)) (Sum.inr k) = none := by
  induction l with
  | nil => rfl
  | cons q l ih =>
    rw [List.map_cons, valV_neg (fun z => h q List.mem_cons_self (Sum.inr.inj z))]
    exact ih fun r hr => h r (List.mem_cons_of_mem _ hr)
/-! ### pairs, as objects -/
def Prs (H : Hp) (bs : List (Addr × Str × Str)) : Prop := ∀ b ∈ bs, H b.1 = some (.tup [.str b.2.1, .str b.2.2])
def refsB {δ : Type} (bs : List (Addr × δ)) : List V := bs.map fun b => .ref b.1
theorem Prs.ex {H H' : Hp} {bs : List (Addr × Str × Str)} (h : Prs H bs) (e : Ex H H') : Prs H' bs := fun b hb => e _ _ (h b hb)

/-! ### a graph's objects -/
inductive NR where
  | p | pD | d | i (a : Str)
  deriving DecidableEq
abbrev NL := NR → Addr
def dU (ts : List Str) : List (Key × V) := dS V.bl (ts.map fun t => (t, true))
def dG (ν : NL) (g : Graph) : List (Key × V) := dS (fun a => V.ref (ν (.i a))) (g.map fun q => (q.1, q.1))
def CN (K : PySem.W.Frag) (ν : NL) (g : Graph) : NR → Option HO
  | .p => some (.ins (aF K "Needs") (ν .pD) [("own_targets", .ref (ν .d))])
  | .pD => some (.own (ν .p))
  | .d => some (.dK (dG ν g))
  | .i a => (lookA g a).map fun ts => .dK (dU ts)
abbrev NAt (K : PySem.W.Frag) (ν : NL) (g : Graph) (H : Hp) : Prop := At ν (CN K ν g) H
section
variable {K : PySem.W.Frag} {ν : NL} {g : Graph} {H : Hp}
theorem NAt.of (hp : H (ν .p) = some (.ins (aF K "Needs") (ν .pD) [("own_targets", .ref (ν .d))])) (hpD : H (ν .pD) = some (.own (ν .p))) (hd : H (ν .d) = some (.dK (dG ν g)))
    (hi : ∀ a ts, lookA g a = some ts → H (ν (.i a)) = some (.dK (dU ts)) ∧ ν (.i a) ≠ ν .d) (hii : ∀ a b ts us, lookA g a = some ts → lookA g b = some us → ν (.i a) = ν (.i b) → a = b) : NAt K ν g H := by
  have lv : ∀ a, (CN K ν g (.i a)).isSome = true → ∃ ts, lookA g a = some ts := fun a ha => by
    cases e : lookA g a with
    | none =>
      have : CN K ν g (.i a) = (lookA g a).map fun ts => .dK (dU ts) := rfl
      rw [this, e] at ha
      cases ha
    | some ts => exact ⟨ts, rfl⟩
  refine ⟨fun i o z => ?_, fun i j li lj e => ?_⟩
  · cases i with
    | p => cases z; exact hp
    | pD => cases z; exact hpD
    | d => cases z; exact hd
    | i a =>
      obtain ⟨ts, e⟩ := lv a (by rw [z]; rfl)
      have : CN K ν g (.i a) = (lookA g a).map fun ts => .dK (dU ts) := rfl
      rw [this, e] at z
      cases z
      exact (hi a ts e).1
  · cases i with
    | p => cases j with
      | p => rfl
      | pD => exact absurd e (ne_of hp hpD (fun z => nomatch z))
      | d => exact absurd e (ne_of hp hd (fun z => nomatch z))
      | i b => obtain ⟨ts, q⟩ := lv b lj; exact absurd e (ne_of hp (hi b ts q).1 (fun z => nomatch z))
    | pD => cases j with
      | p => exact absurd e (ne_of hpD hp (fun z => nomatch z))
      | pD => rfl
      | d => exact absurd e (ne_of hpD hd (fun z => nomatch z))
      | i b => obtain ⟨ts, q⟩ := lv b lj; exact absurd e (ne_of hpD (hi b ts q).1 (fun z => nomatch z))
    | d => cases j with
      | p => exact absurd e (ne_of hd hp (fun z => nomatch z))
      | pD => exact absurd e (ne_of hd hpD (fun z => nomatch z))
      | d => rfl
      | i b => obtain ⟨ts, q⟩ := lv b lj; exact absurd e.symm (hi b ts q).2
    | i a =>
      obtain ⟨ts, q⟩ := lv a li
      cases j with
      | p => exact absurd e (ne_of (hi a ts q).1 hp (fun z => nomatch z))
      | pD => exact absurd e (ne_of (hi a ts q).1 hpD (fun z => nomatch z))
      | d => exact absurd e (hi a ts q).2
      | i b =>
        obtain ⟨us, r⟩ := lv b lj
        rw [hii a b ts us q r e]
theorem NAt.pi (h : NAt K ν g H) : H (ν .p) = some (.ins (aF K "Needs") (ν .pD) [("own_targets", .ref (ν .d))]) := h.is .p _ rfl
theorem NAt.di (h : NAt K ν g H) : H (ν .d) = some (.dK (dG ν g)) := h.is .d _ rfl
theorem NAt.ii (h : NAt K ν g H) {a : Str} {ts : List Str} (e : lookA g a = some ts) : H (ν (.i a)) = some (.dK (dU ts)) := h.is (.i a) _ (by
  show (lookA g a).map _ = _
  rw [e]
  rfl)
theorem keysG : ((g.map fun q => (q.1, q.1)).map (·.1)) = g.map (·.1) := by
  rw [List.map_map]
  rfl
theorem lookG {a : Str} : lookA (g.map fun q => (q.1, q.1)) a = (lookA g a).map fun _ => a := by
  induction g with
  | nil => rfl
  | cons q g ih =>
    rw [List.map_cons, lookA_cons, lookA_cons]
    by_cases e : q.1 = a
    · rw [if_pos e, if_pos e, ← e]
      rfl
    · rw [if_neg e, if_neg e]
      exact ih
theorem lookU {ts : List Str} {t : Str} : lookA (ts.map fun t => (t, true)) t = if t ∈ ts then some true else none := by
  induction ts with
  | nil => rfl
  | cons x ts ih =>
    rw [List.map_cons, lookA_cons, ih]
    by_cases e : x = t
    · rw [if_pos e, if_pos (by rw [e]; exact List.mem_cons_self)]
    · rw [if_neg e]
      by_cases m : t ∈ ts
      · rw [if_pos m, if_pos (List.mem_cons_of_mem _ m)]
      · rw [if_neg m, if_neg (fun z => (List.mem_cons.mp z).elim (fun q => e q.symm) m)]
theorem keys_dU {ts : List Str} : (dU ts).map (·.1) = ts.map Sum.inr := by
  unfold dU dS
  rw [List.map_map, List.map_map]
  rfl
theorem srtS_nil : srtS [] = [] := List.mergeSort_nil
theorem srtP_nil : srtP [] = [] := List.mergeSort_nil
/-- g's own dict at a name; is it there? -/
theorem NAt.get (h : NAt K ν g H) {a : Str} {ts : List Str} (e : lookA g a = some ts) : DGet H (ν .d) (.str a) (some (.ref (ν (.i a)))) :=
  dg_s (f := fun a => V.ref (ν (.i a))) h.di (v := a) (by rw [lookG, e]; rfl)
theorem NAt.has (h : NAt K ν g H) {a : Str} : DGet H (ν .d) (.str a) ((lookA g a).map fun _ => .ref (ν (.i a))) := by
  have k := dg_in (f := fun a => V.ref (ν (.i a))) (k := a) h.di
  rw [lookG, Option.map_map] at k
  exact k
theorem mem_lookA {a : Str} : (lookA g a).isSome = decide (a ∈ g.map (·.1)) := in_isSome
theorem tg_look {a : Str} {ts : List Str} (e : lookA g a = some ts) : tg g a = ts := by
  unfold tg
  rw [e]
  rfl
theorem tg_none {a : Str} (e : lookA g a = none) : tg g a = [] := by
  unfold tg
  rw [e]
  rfl
/-! ### all of a graph's dicts locked -/
def inns (ν : NL) (g : Graph) : List Addr := g.map fun q => ν (.i q.1)
theorem NAt.locks (h : NAt K ν g H) (ok : GOk g) : (inns ν g).Nodup ∧ (∀ d ∈ inns ν g, ∃ u, H d = some u ∧ Mut (some u)) ∧ ν .d ∉ inns ν g ∧ ν .p ∉ inns ν g := by
  have lv : ∀ q ∈ g, lookA g q.1 = some q.2 := fun q hq => lookA_of ok.nd hq
  have ls : ∀ q ∈ g, (CN K ν g (.i q.1)).isSome = true := fun q hq => by
    show ((lookA g q.1).map _).isSome = true
    rw [lv q hq]
    rfl
  refine ⟨?_, fun d hd => ?_, fun hd => ?_, fun hd => ?_⟩
  · have nd := ok.nd
    unfold inns
    rw [List.nodup_iff_pairwise_ne, List.pairwise_map] at nd ⊢
    refine List.Pairwise.imp_of_mem (fun {a b} ha hb hne e => hne ?_) nd
    exact NR.i.inj (h.inj _ _ (ls a ha) (ls b hb) e)
  · obtain ⟨q, hq, rfl⟩ := List.mem_map.mp hd
    exact ⟨_, h.ii (lv q hq), True.intro⟩
  · obtain ⟨q, hq, e⟩ := List.mem_map.mp hd
    exact nomatch h.inj _ .d (ls q hq) rfl e
  · obtain ⟨q, hq, e⟩ := List.mem_map.mp hd
    exact nomatch h.inj _ .p (ls q hq) rfl e
theorem getG {i : Nat} {q : Str × List Str} (e : g[i]? = some q) : (dG ν g)[i]? = some (Sum.inr q.1, V.ref (ν (.i q.1))) := by
  unfold dG dS
  rw [List.getElem?_map, List.getElem?_map, e]
  rfl
theorem length_dG : (dG ν g).length = g.length := by
  unfold dG
  rw [length_dS, List.length_map]
theorem length_dU {ts : List Str} : (dU ts).length = ts.length := by
  unfold dU
  rw [length_dS, List.length_map]
theorem getU {ts : List Str} {i : Nat} {t : Str} (e : ts[i]? = some t) : (dU ts)[i]? = some (Sum.inr t, V.bl true) := by
  unfold dU dS
  rw [List.getElem?_map, List.getElem?_map, e]
  rfl
theorem pairsG_take {i : Nat} {q : Str × List Str} (e : g[i]? = some q) : pairsG (g.take (i + 1)) = pairsG (g.take i) ++ q.2.map fun t => (q.1, t) := by
  unfold pairsG
  rw [List.take_add_one, e, List.flatMap_append]
  simp
theorem pairsG_len (i : Nat) : (pairsG (g.take i)).length ≤ (pairsG g).length := by
  have e : pairsG g = pairsG (g.take i) ++ pairsG (g.drop i) := by
    unfold pairsG
    rw [← List.flatMap_append, List.take_append_drop]
  rw [e, List.length_append]
  omega
theorem Prs.mut {H : Hp} {bs : List (Addr × Str × Str)} {D : Addr} {xs : List V} {o : HO} (h : Prs H bs) (hD : H D = some (.lst xs)) : Prs (upd H D o) bs := fun b hb => by
  rw [upd_ne (ne_of (h b hb) hD (fun z => nomatch z))]
  exact h b hb
end
theorem inV_str {x : Str} {xs : List Str} : inV (V.str x) (xs.map V.str) = decide (x ∈ xs) := by
  unfold inV
  rw [List.any_map, Bool.eq_iff_iff, List.any_eq_true, decide_eq_true_eq]
  constructor
  · rintro ⟨y, hy, e⟩
    have e : (y == x) = true := e
    exact eq_of_beq e ▸ hy
  · intro h
    exact ⟨x, h, show (x == x) = true from beq_self_eq_true x⟩
theorem putK_dU {ts : List Str} {t : Str} : putK (dU ts) (Sum.inr t) (.bl true) = dU (addT ts t) := by
  unfold dU
  rw [show V.bl true = V.bl true from rfl, putK_dS]
  congr 1
  unfold putA addT
  by_cases m : t ∈ ts
  · rw [if_pos (anyA.mpr (by rw [List.map_map]; exact List.mem_map.mpr ⟨t, m, rfl⟩)), if_pos m, List.map_map]
    refine List.map_congr_left fun x _ => ?_
    show (if x = t then (x, true) else (x, true)) = (x, true)
    split <;> rfl
  · rw [if_neg, if_neg m, List.map_append]
    · rfl
    · intro z
      rw [anyA, List.map_map] at z
      obtain ⟨x, hx, e⟩ := List.mem_map.mp z
      exact m (e ▸ hx)
theorem putA_putA {g : Graph} {s : Str} {a b : List Str} : putA (putA g s a) s b = putA g s b := by
  have h : s ∈ (putA g s a).map (·.1) := by
    rw [keys_putA]
    split
    · assumption
    · simp
  have e : putA (putA g s a) s b = (putA g s a).map (fun q => if q.1 = s then (q.1, b) else q) := if_pos (anyA.mpr h)
  rw [e]
  unfold putA
  by_cases m : s ∈ g.map (·.1)
  · rw [if_pos (anyA.mpr m), if_pos (anyA.mpr m), List.map_map]
    refine List.map_congr_left fun q _ => ?_
    show (if (if q.1 = s then (q.1, a) else q).1 = s then ((if q.1 = s then (q.1, a) else q).1, b) else (if q.1 = s then (q.1, a) else q)) = if q.1 = s then (q.1, b) else q
    by_cases z : q.1 = s
    · rw [if_pos z, if_pos z]
      rw [if_pos z]
    · rw [if_neg z, if_neg z]
  · rw [if_neg (fun z => m (anyA.mp z)), if_neg (fun z => m (anyA.mp z)), List.map_append]
    congr 1
    · refine (List.map_congr_left fun q hq => ?_).trans (List.map_id g)
      rw [if_neg (fun z => m (List.mem_map.mpr ⟨q, hq, z⟩))]
      rfl
    · simp
/-! ### a graph changes -/
theorem dG_eq {ν : NL} {g : Graph} : dG ν g = g.map fun q => (Sum.inr q.1, V.ref (ν (.i q.1))) := by
  unfold dG dS
  rw [List.map_map]
  rfl
theorem dG_put_there {ν : NL} {g : Graph} {s : Str} {ts : List Str} (h : s ∈ g.map (·.1)) : dG ν (putA g s ts) = dG ν g := by
  unfold dG
  congr 1
  unfold putA
  rw [if_pos (anyA.mpr h), List.map_map]
  refine List.map_congr_left fun q _ => ?_
  show ((if q.1 = s then (q.1, ts) else q).1, (if q.1 = s then (q.1, ts) else q).1) = (q.1, q.1)
  split <;> rfl
def putN (ν : NL) (s : Str) (p : Addr) : NL := fun r => if r = .i s then p else ν r
theorem dG_put {ν : NL} {g : Graph} {s : Str} {p : Addr} (ts : List Str) : dG (putN ν s p) (putA g s ts) = putK (dG ν g) (Sum.inr s) (.ref p) := by
  have e1 : ((dG ν g).any fun kv => decide (kv.1 = (Sum.inr s : Key))) = g.any fun q => decide (q.1 = s) := by
    rw [dG_eq, List.any_map]
    congr 1
    funext q
    show decide ((Sum.inr q.1 : Key) = Sum.inr s) = decide (q.1 = s)
    rw [key_rr]
  have e2 : ∀ a, putN ν s p (.i a) = if a = s then p else ν (.i a) := fun a => by
    unfold putN
    by_cases z : a = s
    · rw [if_pos (by rw [z]), if_pos z]
    · rw [if_neg (fun q => z (NR.i.inj q)), if_neg z]
  unfold putK putA
  rw [e1]
  split
  · rw [dG_eq, dG_eq, List.map_map, List.map_map]
    refine List.map_congr_left fun q _ => ?_
    show ((Sum.inr (if q.1 = s then (q.1, ts) else q).1 : Key), V.ref (putN ν s p (.i (if q.1 = s then (q.1, ts) else q).1))) = if (Sum.inr q.1 : Key) = Sum.inr s then (Sum.inr q.1, V.ref p) else (Sum.inr q.1, V.ref (ν (.i q.1)))
    by_cases z : q.1 = s
    · rw [if_pos z, if_pos (by rw [z])]
      show ((Sum.inr q.1 : Key), V.ref (putN ν s p (.i q.1))) = _
      rw [e2, if_pos z]
    · rw [if_neg z, if_neg (fun y => z (Sum.inr.inj y)), e2, if_neg z]
  · rename_i hn
    rw [dG_eq, dG_eq, List.map_append]
    congr 1
    · refine List.map_congr_left fun q hq => ?_
      rw [e2, if_neg]
      intro z
      exact hn (anyA.mpr (List.mem_map.mpr ⟨q, hq, z⟩))
    · show [((Sum.inr s : Key), V.ref (putN ν s p (.i s)))] = _
      rw [e2, if_pos rfl]
section
variable {K : PySem.W.Frag} {ν : NL} {g : Graph} {H : Hp}
theorem CN_put_there {s : Str} {ts us : List Str} (h : lookA g s = some us) (j : NR) : CN K ν (putA g s ts) j = if j = .i s then some (.dK (dU ts)) else CN K ν g j := by
  have hm : s ∈ g.map (·.1) := List.mem_map.mpr ⟨_, lookA_mem h, rfl⟩
  cases j with
  | p => rfl
  | pD => rfl
  | d =>
    show some (HO.dK (dG ν (putA g s ts))) = some (HO.dK (dG ν g))
    rw [dG_put_there hm]
  | i a =>
    show (lookA (putA g s ts) a).map _ = _
    rw [lookA_putA]
    by_cases z : a = s
    · rw [if_pos z, if_pos (by rw [z])]
      rfl
    · rw [if_neg z, if_neg (fun y => z (NR.i.inj y))]
      rfl
/-- a name's targets change in their dict -/
theorem NAt.inner (h : NAt K ν g H) {s : Str} {us : List Str} (e : lookA g s = some us) (ts : List Str) : NAt K ν (putA g s ts) (upd H (ν (.i s)) (.dK (dU ts))) ∧ Stp ν (CN K ν g) H ν (CN K ν (putA g s ts)) (upd H (ν (.i s)) (.dK (dU ts))) := by
  have l : (CN K ν g (.i s)).isSome = true := by
    show ((lookA g s).map _).isSome = true
    rw [e]
    rfl
  exact ⟨At.set h l _ (CN_put_there e), Stp.put l _ (CN_put_there e)⟩
/-- a name gets a new dict -/
theorem NAt.outer (h : NAt K ν g H) {p : Addr} (hp : H p = none) (s : Str) (ts : List Str) :
    NAt K (putN ν s p) (putA g s ts) (upd (upd H p (.dK (dU ts))) (ν .d) (.dK (putK (dG ν g) (Sum.inr s) (.ref p)))) ∧
    Stp ν (CN K ν g) H (putN ν s p) (CN K (putN ν s p) (putA g s ts)) (upd (upd H p (.dK (dU ts))) (ν .d) (.dK (putK (dG ν g) (Sum.inr s) (.ref p)))) := by
  have a1 := At.add (C' := fun j => if j = .i s then some (.dK (dU ts)) else CN K ν g j) (A' := putN ν s p) h hp (.i s) (.dK (dU ts)) (fun _ => rfl) (fun _ => rfl)
  have s1 := Stp.add (A := ν) (C := CN K ν g) (C1 := fun j => if j = .i s then some (.dK (dU ts)) else CN K ν g j) (A1 := putN ν s p) hp (.i s) (.dK (dU ts)) (fun _ => rfl) (fun _ => rfl)
  have e : ∀ j, CN K (putN ν s p) (putA g s ts) j = if j = .d then some (.dK (putK (dG ν g) (Sum.inr s) (.ref p))) else (fun j => if j = .i s then some (.dK (dU ts)) else CN K ν g j) j := fun j => by
    cases j with
    | p => rfl
    | pD => rfl
    | d =>
      show some (HO.dK (dG (putN ν s p) (putA g s ts))) = some _
      rw [dG_put]
    | i a =>
      show (lookA (putA g s ts) a).map _ = if (NR.i a) = .i s then _ else _
      rw [lookA_putA]
      by_cases z : a = s
      · rw [if_pos z, if_pos (by rw [z])]
        rfl
      · rw [if_neg z, if_neg (fun y => z (NR.i.inj y))]
        rfl
  exact ⟨At.set a1 (i := .d) rfl _ e, s1.trans (Stp.put (A := putN ν s p) (i := .d) rfl _ e)⟩
end
end CR
set_option maxRecDepth 100000
set_option maxHeartbeats 4000000
/-! Cycleready: dict comprehensions whose keys may be pairs, and of two fors. -/
namespace CR
open PySem PySem.Spec PyProof.Rows L2 Evl
/-- what a turn does behind its tests, by the dict, the slots, the heap and the word to reach -/
abbrev TB := Addr → L2.St → Hp → (Hp → Prop) → Prop
/-- the store of a key -/
def tbS (tk tv : TE) : TB := fun D σ H Nx => tk σ H fun y H4 => tv σ H4 fun v H5 => ∃ H6, DPut H5 D y v H6 ∧ Nx H6
/-- a turn from its target on -/
abbrev bodyT (g : TG) (tt : TT) (tb : TB) (vs : List Nat) (σ : L2.St) (D : Addr) (x : V) (H' : Hp) (Nx : Hp → Prop) : Prop := g x (wipe σ vs) H' fun σ2 H2 => wipe σ2 vs = wipe σ vs ∧ tt σ2 H2 fun b H3 => if b = true then tb D σ2 H3 Nx else Nx H3
/-- an inner for -/
def tbI (wi1 : TI) (g1 : TG) (tt1 : TT) (tb : TB) (vs1 : List Nat) : TB := fun D σ H Nx => wi1 σ H fun J1 H4 => ∃ W1 : Nat → Nat → Hp → Prop, (∃ m, W1 0 m H4) ∧ ∀ j k H, W1 j k H →
  (J1.stop j H ∧ Nx H) ∨ (J1.go j H ∧ ∃ Nx1 : Hp → Prop, (∀ H', Nx1 H' → ∃ k', k' < k ∧ W1 (j + 1) k' H') ∧ ∀ x H', J1.yld j H x H' → bodyT g1 tt1 tb vs1 σ D x H' Nx1)
/-- the comprehension; o0 the empty dict of its kind -/
def tDx (o0 : HO) (wi : TI) (g : TG) (tt : TT) (tb : TB) (vs : List Nat) : TE := fun σ H Q => wi σ H fun J H1 => ∀ D, H1 D = none → ∃ W : Nat → Nat → Hp → Prop, (∃ m, W 0 m (upd H1 D o0)) ∧ ∀ i m H, W i m H →
  (J.stop i H ∧ Q (.ref D) H) ∨ (J.go i H ∧ ∃ Nx : Hp → Prop, (∀ H', Nx H' → ∃ m', m' < m ∧ W (i + 1) m' H') ∧ ∀ x H', J.yld i H x H' → bodyT g tt tb vs σ D x H' Nx)
theorem dxP {J : It} {n : Nat} {G : Hp → Prop} {Y : Nat → Hp → V → Hp → Prop} {o0 : HO} {g : TG} {tt : TT} {tb : TB} {vs : List Nat} {σ : L2.St} {H H1 : Hp} {Q : VK} {wi : TI} (hwi : ∀ R : It → Hp → Prop, R J H1 → wi σ H R) (w : Walk J n G Y)
    (k : ∀ D, H1 D = none → ∃ Pv : Nat → Hp → Prop, Pv 0 (upd H1 D o0) ∧ (∀ i H, i ≤ n → Pv i H → G H) ∧ (∀ i x H H', i < n → Pv i H → Y i H x H' → bodyT g tt tb vs σ D x H' (Pv (i + 1))) ∧ ∀ H, Pv n H → Q (.ref D) H) : tDx o0 wi g tt tb vs σ H Q :=
  hwi _ fun D hD => let ⟨Pv, h0, hG, hs, hd⟩ := k D hD; turns_it (B := bodyT g tt tb vs σ D) w Pv h0 hG hs hd

/-- a piece of a turn, in a block's context: what it asks, and what it leaves (the slots of vs1 forgotten) -/
def PB (X : Cx) (D : Addr) (B : Sem PySem.Fin → Sem PySem.Fin) (tb : TB) (vs1 : List Nat) : Prop :=
  ∀ (pn : List (Addr × Obj)) (z : Shared) (σ : L2.St) (H : Hp) (Nx : Hp → Prop) (k : Sem PySem.Fin) (Q : PySem.Fin → Shared → Prop) (E : Value → Shared → Prop), Inv X pn σ H z → tb D σ H Nx →
    (∀ z' H', Inv X pn (wipe σ vs1) H' z' → Nx H' → wpAny (model X.prog X.w) X.A k Q E z') → (∀ v z', X.xe v z' → E v z') → wpAny (model X.prog X.w) X.A (B k) Q E z
/-- the store -/
theorem put_store {X : Cx} {pn : List (Addr × Obj)} {σ : L2.St} {H H' : Hp} {z : Shared} {E : Value → Shared → Prop} {D : Addr} {y v : V} {u r : Value} {Q : Unit → Shared → Prop} (hu : X.A.units + 1 < cLine) (J : Inv X pn σ H z) (g : DPut H D y v H') (ry : RelV y u) (rv : RelV v r)
    (k : ∀ z', Inv X pn σ H' z' → Q () z') : wpAny (model X.prog X.w) X.A (dictSet D u r) Q E z := by
  rcases g with ⟨kvs, key, e, rfl, l, rfl⟩ | ⟨kvs, key, b, e, rfl, eb, l, rfl⟩
  · exact d_dictSet J e l ry rv k
  · obtain rfl : u = Value.ref b := ry
    obtain ⟨zz, hd, xs, rel, dd⟩ := dt_of J.hok e
    have hz : xs.length ≤ sizeLine := by
      rw [← Paired.length rel]
      exact zz
    have hl : (putK kvs key v).length ≤ sizeLine := by
      have := length_putK kvs key v
      omega
    refine wpAny_dictSet_heap (hsz := hz) (knd := tupleKind (mixKind X.prog X.w)) (show X.A.units < cLine by omega) (key_of J.hok eb) dd fun h' dd' hs => k _ ?_
    obtain ⟨q, es, ep, hq, h2, h3, h4, _, h5⟩ := dd'
    refine d_write J (by rw [e]; exact True.intro) hs ⟨q, hq⟩ ⟨hl, hd, _, (rel.put key eb rv).keeps fun c ys ec => ?_, q, es, ep, hq, h2, h3, h4, h5⟩
    rw [upd_ne (ne_of ec e (fun z => nomatch z))]
    exact ec
/-- a turn of a clause, told by what stands behind its tests -/
def TurnIs (C : Expr) (k : Nat) (tg : Expr) (ps : Pos) (ifs : List Expr) (B : Env → Addr → Sem PySem.Fin → Sem PySem.Fin) : Prop := ∀ (it : Value) (D : Addr) (env : Env), compTurn C k it (.ref D) env = (do
  standAt ps
  match ← pyNext it with
  | none => pure (.done .next)
  | some v =>
    letOwnedTupleGo tg it v
    assign tg env v
    let mut ok := true
    for c in ifs do
      if ok then ok ← isTrue c env (eval c env)
    if ok then
      B env D (again (.compLoop C k it (.ref D) env))
    else again (.compLoop C k it (.ref D) env))
def storeB (kx vx : Expr) (env : Env) (D : Addr) (k : Sem PySem.Fin) : Sem PySem.Fin := do
  (do
    let kv ← eval kx env
    let vv ← holding [kv] (eval vx env)
    standAt { kx.pos with endLine := vx.pos.endLine, endCol := vx.pos.endCol }
    holding [kv, vv] (dictSet D kv vv))
  k
def innerB (C : Expr) (i1 : Expr) (env : Env) (D : Addr) (k : Sem PySem.Fin) : Sem PySem.Fin := do
  let x ← eval i1 env
  standAt i1.pos
  let x ← foldedSetIterable i1 env x
  let _ ← runOwn (.compStart C 1 (← holding [x] (pyIter x)) (.ref D) env) env
  k
section
variable {kx vx t0 i0 t1 i1 : Expr} {ifs0 ifs1 : List Expr} {scope : Scope} {pos : Pos}
theorem turn_one : TurnIs (.DictComp kx vx [⟨t0, i0, ifs0, 0⟩] scope pos) 0 t0 i0.pos ifs0 (storeB kx vx) := fun it D env => by rfl
theorem turn_out : TurnIs (.DictComp kx vx [⟨t0, i0, ifs0, 0⟩, ⟨t1, i1, ifs1, 0⟩] scope pos) 0 t0 i0.pos ifs0 (innerB (.DictComp kx vx [⟨t0, i0, ifs0, 0⟩, ⟨t1, i1, ifs1, 0⟩] scope pos) i1) := fun it D env => by rfl
theorem turn_in : TurnIs (.DictComp kx vx [⟨t0, i0, ifs0, 0⟩, ⟨t1, i1, ifs1, 0⟩] scope pos) 1 t1 i1.pos ifs1 (storeB kx vx) := fun it D env => by rfl
end
/-- the loop over turns of this shape -/
theorem loop_of {prog : Program} {w : World} {A : Around} {R : Result → Shared → Prop} {z : Shared} {kx vx tg : Expr} {gens : List Comprehension} {scope : Scope} {pos : Pos} {k : Nat} {ps : Pos} {ifs : List Expr} {B : Env → Addr → Sem PySem.Fin → Sem PySem.Fin} {it : Value} {D : Addr} {env : Env} (hT : TurnIs (.DictComp kx vx gens scope pos) k tg ps ifs B) (I : Nat → Shared → Prop)
    (turn : ∀ n z, I n z → wpAny (model prog w) A (pyNext it) (fun r z1 => match r with
      | none => R (.ok .next) z1
      | some v => wpAny (model prog w) A (letOwnedTupleGo tg it v) (fun _ z2 => wpAny (model prog w) A (assign tg env v) (fun _ z3 =>
          wpAny (model prog w) A (forIn ifs true fun c r => if r = true then do let ok ← isTrue c env (eval c env); pure (ForInStep.yield ok) else pure (ForInStep.yield r)) (fun ok z4 =>
            if ok = true then (∀ (k : Sem PySem.Fin) (Q : PySem.Fin → Shared → Prop), (∀ z5, (∃ m, m < n ∧ I m z5) → wpAny (model prog w) A k Q (notedBy (model prog w) A env fun e z' => R (.error e) z') z5) → wpAny (model prog w) A (B env D k) Q (notedBy (model prog w) A env fun e z' => R (.error e) z') z4)
            else ∃ m, m < n ∧ I m z4) (notedBy (model prog w) A env fun e z' => R (.error e) z') z3) (notedBy (model prog w) A env fun e z' => R (.error e) z') z2) (notedBy (model prog w) A env fun e z' => R (.error e) z') z1) (notedBy (model prog w) A env fun e z' => R (.error e) z') z)
    (n : Nat) (h : I n z) : codeAny (model prog w) A (.compLoop (.DictComp kx vx gens scope pos) k it (.ref D) env) R z := by
  refine codeAny_loop rfl I (fun n z hI => ?_) n h
  show wpAny _ A ((compTurn (.DictComp kx vx gens scope pos) k it (.ref D) env).onRaise (fun x => do noteFrame x env; theTreesLotGoes x)) _ _ z
  refine wpAny_noted ?_
  rw [hT it D env]
  refine wpAny_bind (wpAny_standAt (wpAny_bind (wpAny_mono (turn n z hI) (fun r z1 h1 => ?_) fun _ _ q => q)))
  cases r with
  | none => exact wpAny_pure h1
  | some v =>
    refine wpAny_bind (wpAny_mono h1 (fun _ z2 h2 => ?_) fun _ _ q => q)
    refine wpAny_bind (wpAny_mono h2 (fun _ z3 h3 => wpAny_bind (wpAny_mono h3 (fun ok z4 h4 => ?_) fun _ _ q => q)) fun _ _ q => q)
    cases ok with
    | false => exact wpAny_pure ⟨rfl, h4⟩
    | true => exact h4 _ _ fun z5 h5 => wpAny_pure ⟨rfl, h5⟩
/-- the store, as a piece of a turn -/
theorem pb_store {X : Cx} {kx vx : Expr} {tk tv : TE} {D : Addr} (hu : X.A.units + 1 < cLine) (hk : PE X kx tk) (hv : PE X vx tv) : PB X D (storeB kx vx X.env D) (tbS tk tv) [] := by
  intro pn z σ H Nx k Q E J h hk' hE
  unfold storeB
  refine wpAny_bind (wpAny_bind (wpAny_mono (hk.run pn z σ H _ J h) (fun kv z1 q => ?_) hE))
  obtain ⟨y, H1, J1, r1, q1⟩ := q
  refine wpAny_bind (wpAny_holding (wpAny_mono (hv.run pn z1 σ H1 _ J1 q1) (fun vv z2 q => ?_) hE))
  obtain ⟨v, H2, J2, r2, H3, g, nx⟩ := q
  exact wpAny_bind (wpAny_standAt (wpAny_holding (put_store hu J2 g r1 r2 fun z3 J3 => hk' z3 H3 J3 nx)))
/-- the second clause's beginning -/
theorem start_one {prog : Program} {w : World} {A : Around} {R : Result → Shared → Prop} {z : Shared} {kx vx t0 i0 t1 i1 : Expr} {ifs0 ifs1 : List Expr} {scope : Scope} {pos : Pos} {it acc : Value} {env : Env}
    (h0 : codeAny (model prog w) A (.compLoop (.DictComp kx vx [⟨t0, i0, ifs0, 0⟩, ⟨t1, i1, ifs1, 0⟩] scope pos) 1 it acc env) R z)
    (h : wpAny (model prog w) A (pyIter it) (fun u z' => codeAny (model prog w) A (.compLoop (.DictComp kx vx [⟨t0, i0, ifs0, 0⟩, ⟨t1, i1, ifs1, 0⟩] scope pos) 1 u acc env) R z') (notedBy (model prog w) A env fun x z' => R (.error x) z') z) :
    codeAny (model prog w) A (.compStart (.DictComp kx vx [⟨t0, i0, ifs0, 0⟩, ⟨t1, i1, ifs1, 0⟩] scope pos) 1 it acc env) R z := by
  refine codeAny_of_tree ?_
  show wpAny _ _ ((compStart (.DictComp kx vx [⟨t0, i0, ifs0, 0⟩, ⟨t1, i1, ifs1, 0⟩] scope pos) 1 it acc env).onRaise (fun x => do noteFrame x env; standAt theWindowsPlace)) _ _ z
  refine wpAny_notedAt ?_
  unfold compStart
  show wpAny _ _ (ask >>= _) _ _ z
  refine wpAny_bind (wpAny_askSetting (wpAny_ite ?_))
  split
  · first
      | exact wpAny_bind (wpAny_pure (wpAny_pure ⟨rfl, h0⟩))
      | exact wpAny_pure ⟨rfl, h0⟩
  · first
      | exact wpAny_bind (wpAny_rule (wpAny_bind (wpAny_standAt (wpAny_bind (wpAny_mono h (fun u z' q => wpAny_pure ⟨rfl, q⟩) fun _ _ q => q)))))
      | (refine wpAny_bind (wpAny_rule ?_); show wpAny _ _ (standAt i1.pos >>= _) _ _ z; exact wpAny_bind (wpAny_standAt (wpAny_bind (wpAny_mono h (fun u z' q => wpAny_pure ⟨rfl, q⟩) fun _ _ q => q))))
/-- the inner for, as a piece of a turn -/
theorem pb_inner {X : Cx} {kx vx t0 i0 t1 i1 : Expr} {ifs0 ifs1 : List Expr} {scope : Scope} {pos : Pos} {wi1 : TI} {g1 : TG} {tt1 : TT} {tb : TB} {vs1 : List Nat} {D : Addr} (hc : X.calm = true) (hE0 : X.xe = fun _ _ => False)
    (hi : PI X t1 i1 wi1) (hg : PG X t1 g1) (ht : PTs X ifs1 tt1) (hb : PB X D (storeB kx vx X.env D) tb []) (hs : ∀ env x, foldedSetIterable i1 env x = pure x) :
    PB X D (innerB (.DictComp kx vx [⟨t0, i0, ifs0, 0⟩, ⟨t1, i1, ifs1, 0⟩] scope pos) i1 X.env D) (tbI wi1 g1 tt1 tb vs1) vs1 := by
  intro pn z σ H Nx k Q E J h hk hE
  have noE : ∀ {E' : Value → Shared → Prop} (v : Value) (z' : Shared), X.xe v z' → E' v z' := fun v z' q => by
    rw [hE0] at q
    exact q.elim
  unfold innerB
  refine wpAny_bind (wpAny_mono (hi.run pn z σ H _ J h) (fun xv z1 hx => ?_) noE)
  refine wpAny_bind (wpAny_standAt (wpAny_bind (wpAny_of_eq (hs _ xv) ?_)))
  refine wpAny_bind (wpAny_holding (wpAny_mono hx (fun itv z2 h2 => ?_) noE))
  obtain ⟨it, fp, tn, Jt, H2, rfl, J2, T, st2, f2, W1, ⟨m1, w1⟩, turn1⟩ := h2
  refine wpAny_bind (wpAny_runOwn ?_)
  rw [Around.mark_none]
  have stat : ∀ {H' : Hp}, (∀ b ∈ fp, H' b = none) → ∀ b ∈ fp, FpOk X pn H' b := fun hn b hb => ⟨hn b hb, (f2 b hb).2⟩
  have loop : codeAny (model X.prog X.w) X.A (.compLoop (.DictComp kx vx [⟨t0, i0, ifs0, 0⟩, ⟨t1, i1, ifs1, 0⟩] scope pos) 1 (.ref it) (.ref D) X.env)
      (fun r z' => match r with
        | .ok _ => ∃ H', Inv X pn (wipe σ vs1) H' z' ∧ Nx H'
        | .error _ => False) z2 := by
    refine loop_of turn_in (fun k z' => ∃ j H', Inv X pn (wipe σ vs1) H' z' ∧ tn j z'.heap ∧ (∀ b ∈ fp, H' b = none) ∧ W1 j k H') ?_ m1 ⟨0, H2, J2.weak (wipe_length _ _) (fun j v e => (wipe_some e).1), st2, fun b hb => (f2 b hb).1, w1⟩
    rintro n z3 ⟨j, H3, J3, st3, n3, w3⟩
    rcases turn1 j n H3 w3 with ⟨stop, nx⟩ | ⟨go, Nx1, hNx, step⟩
    · refine thnF (T.done X rfl rfl rfl hc j pn z3 (wipe σ vs1) H3 (fun _ _ => False) J3 (stat n3) st3 stop) fun r z4 ⟨hr, J4⟩ => ?_
      subst hr
      exact ⟨H3, J4, nx⟩
    · refine thnF (T.item X rfl rfl rfl hc j pn z3 (wipe σ vs1) H3 (fun _ _ => False) J3 (stat n3) st3 go) fun r z4 ⟨u, hr, h4⟩ => ?_
      subst hr
      refine thnF h4 fun _ z5 ⟨x, H5, J5, r5, y5, st5, n5⟩ => ?_
      have J5' := J5.pinned (stat n5) (T.obj _ _ st5)
      refine wpAny_mono (hg.run _ z5 (wipe σ vs1) H5 x u _ J5' r5 (step x H5 y5)) (fun _ z6 q6 => ?_) noE
      obtain ⟨σ6, H6, J6, hw6, q6⟩ := q6
      refine wpAny_mono (ht.run _ z6 σ6 H6 _ J6 q6) (fun b z7 q7 => ?_) noE
      obtain ⟨H7, J7, q7⟩ := q7
      have fin : ∀ {z' : Shared} {H' : Hp}, Inv X (pn ++ pinsAt fp z5.heap) σ6 H' z' → Nx1 H' → ∃ m, m < n ∧ ∃ j H', Inv X pn (wipe σ vs1) H' z' ∧ tn j z'.heap ∧ (∀ b ∈ fp, H' b = none) ∧ W1 j m H' := fun {z' H'} J' nx => by
        obtain ⟨m', hm, w'⟩ := hNx H' nx
        have pin' : ∀ b ∈ fp, ∀ o, z5.heap.get? b = some o → z'.heap.get? b = some o ∧ H' b = none := fun b hb o e =>
          have q := J'.pin (b, o) (List.mem_append_right _ (List.mem_append_right _ (mem_pinsAt hb e)))
          ⟨q.1, q.2.1⟩
        refine ⟨m', hm, j + 1, H', J'.unpinned.weak (by rw [← hw6, wipe_length]) (fun i v e => ?_), T.keep _ _ _ st5 fun b hb o e => (pin' b hb o e).1, fun b hb => ?_, w'⟩
        · rw [← hw6] at e
          exact (wipe_some e).1
        · obtain ⟨o, e, _⟩ := T.obj _ _ st5 b hb
          exact (pin' b hb o e).2
      cases b with
      | false => exact fin J7 q7
      | true => exact fun k' Q' hk' => hb _ z7 σ6 H7 Nx1 k' Q' _ J7 q7 (fun z' H' J' nx => hk' z' (fin J' nx)) noE
  refine codeAny_mono (start_one loop (T.self X.A 0 _ _ _ st2 loop)) fun r z' hr => ?_
  cases r with
  | ok f =>
    obtain ⟨H', J', nx⟩ := hr
    first
      | exact hk z' H' J' nx
      | exact wpAny_pure (hk z' H' J' nx)
  | error e => exact hr.elim
section
variable {X : Cx}
/-- one or two fors, the dict of either kind -/
theorem pe_dx {kx vx tg iter : Expr} {ifs : List Expr} {rest : List Comprehension} {scope : Scope} {own : List (Str × Nat)} {pos : Pos} {wi : TI} {g : TG} {tt : TT} {tb : TB} {vs1 : List Nat} {o0 : HO} {B : Env → Addr → Sem PySem.Fin → Sem PySem.Fin}
    (hO : ∀ (H : Hp) (h : Heap), sysModules < h.objs.size → ObjOk X.prog X.w H (h.push { cls := .type "dict", data := .dict #[] }) h.objs.size o0)
    (hT : TurnIs (.DictComp kx vx (⟨tg, iter, ifs, 0⟩ :: rest) scope pos) 0 tg iter.pos ifs B)
    (hev : eval (.DictComp kx vx (⟨tg, iter, ifs, 0⟩ :: rest) scope pos) X.env = comprehension (.DictComp kx vx (⟨tg, iter, ifs, 0⟩ :: rest) scope pos) scope X.env (firstIterPos (⟨tg, iter, ifs, 0⟩ :: rest) pos) newDict false (eval iter X.env) none)
    (hc : X.calm = true) (hN : X.N.Nodup) (hi : PI X tg iter wi) (ok : BlkOk X.N X.env.scope scope own) (hv : ∀ i ∈ vs1, i ∈ own.map (·.2))
    (hg : ∀ (z : Shared) (H : Hp) (C : Addr) (cl : List (Str × Addr)) (fp : List Addr), PG (X.blk z H scope (compEnvC scope cl C X.env) fp) tg g)
    (ht : ∀ (z : Shared) (H : Hp) (C : Addr) (cl : List (Str × Addr)) (fp : List Addr), PTs (X.blk z H scope (compEnvC scope cl C X.env) fp) ifs tt)
    (hB : ∀ (z : Shared) (H : Hp) (C : Addr) (cl : List (Str × Addr)) (fp : List Addr) (D : Addr), PB (X.blk z H scope (compEnvC scope cl C X.env) fp) D (B (compEnvC scope cl C X.env) D) tb vs1)
    (hs : ∀ x, foldedSetIterable iter X.env x = pure x) : PE X (.DictComp kx vx (⟨tg, iter, ifs, 0⟩ :: rest) scope pos) (tDx o0 wi g tt tb (own.map (·.2))) := by
  refine ⟨fun pn z σ H Q J h => ?_⟩
  rw [hev]
  have hfree : ∀ y ∈ scope.names, y.2 = .free → ∃ c, X.env.cells.lookup y.1 = some c := fun y hy e => (ok.free y hy e).elim (fun k => J.ok.has _ (.inl k)) fun k => J.ok.has _ (.inr k)
  refine wpAny_comprehension_free (use := none) rfl hs (closure_ok hfree) ok.kind (fun y hy e => by rw [ok.uniq y hy, e])
    (thn (hi.run pn z σ H _ J h) fun xv z1 hx => thn hx fun itv z2 h2 => ?_)
  obtain ⟨it, fp, tn, Jt, H2, rfl, J2, T, st2, f2, q⟩ := h2
  refine wpAny_newObj_type (newEnv_comp ?_)
  have hDn : H2 z2.heap.objs.size = none := J2.hok.fresh (Nat.le_refl _)
  obtain ⟨W, ⟨m0, w0⟩, turn⟩ := q _ hDn
  have J3 : Inv X pn σ (upd H2 z2.heap.objs.size o0) { z2 with heap := z2.heap.push { cls := .type "dict", data := .dict #[] } } := J2.laid (t' := z2.toks) (fun b o e => Heap.get?_push_of_some _ e) (Nat.le_refl _) (hO _ _ J2.big)
  have lt2 : ∀ b ∈ fp, b < z2.heap.objs.size := fun b hb => by
    obtain ⟨o, e, _⟩ := T.obj _ _ st2 b hb
    exact Heap.lt_size e
  have st3 : tn 0 (z2.heap.push { cls := .type "dict", data := .dict #[] }) := T.keep _ _ _ st2 fun b _ o e => Heap.get?_push_of_some _ e
  have f3 : ∀ b ∈ fp, FpOk X pn (upd H2 z2.heap.objs.size o0) b ∧ b < (z2.heap.push { cls := .type "dict", data := .dict #[] }).objs.size := fun b hb => by
    refine ⟨⟨?_, (f2 b hb).2⟩, ?_⟩
    · rw [upd_ne (Nat.ne_of_lt (lt2 b hb))]
      exact (f2 b hb).1
    · rw [Heap.size_push]
      exact Nat.lt_succ_of_lt (lt2 b hb)
  generalize hD : z2.heap.objs.size = D at *
  generalize hz3 : ({ z2 with heap := z2.heap.push { cls := .type "dict", data := .dict #[] } } : Shared) = z3 at *
  have h3 : z2.heap.push { cls := .type "dict", data := .dict #[] } = z3.heap := by rw [← hz3]
  rw [h3] at st3 f3
  have J4 := block_start J3 ok hN f3
  generalize hH3 : upd H2 D o0 = H3 at *
  have pg := hg z3 H3 z3.heap.objs.size (cellsFrom (z3.heap.objs.size + 1) scope.names (cloFrom X.env.cells scope.names [])) fp
  have pt := ht z3 H3 z3.heap.objs.size (cellsFrom (z3.heap.objs.size + 1) scope.names (cloFrom X.env.cells scope.names [])) fp
  have pb := hB z3 H3 z3.heap.objs.size (cellsFrom (z3.heap.objs.size + 1) scope.names (cloFrom X.env.cells scope.names [])) fp D
  show codeAny _ _ (.compStart (.DictComp kx vx (⟨tg, iter, ifs, 0⟩ :: rest) scope pos) 0 (.ref it) (.ref D) (compEnvC scope (cellsFrom (z3.heap.objs.size + 1) scope.names (cloFrom X.env.cells scope.names [])) z3.heap.objs.size X.env)) (compPost (model X.prog X.w) X.A X.xe none _ (.ref D) z3.heap.objs.size) { z3 with heap := pushCells (z3.heap.push { cls := .type "dict", data := .dict #[] }) scope.names }
  generalize hce : compEnvC scope (cellsFrom (z3.heap.objs.size + 1) scope.names (cloFrom X.env.cells scope.names [])) z3.heap.objs.size X.env = ce at J4 pg pt pb ⊢
  have cL : ce.locals = z3.heap.objs.size := by
    subst hce
    rfl
  have st4 : tn 0 (pushCells (z3.heap.push { cls := .type "dict", data := .dict #[] }) scope.names) := T.keep _ _ _ st3 fun b _ o e => pushCells_keeps _ _ _ _ (Heap.get?_push_of_some _ e)
  generalize hz4 : ({ z3 with heap := pushCells (z3.heap.push { cls := .type "dict", data := .dict #[] }) scope.names } : Shared) = z4 at J4 ⊢
  have st4 : tn 0 z4.heap := by
    rw [← hz4]
    exact st4
  have stat : ∀ {σ' : L2.St} {H' : Hp} {z' : Shared}, Inv (X.blk z3 H3 scope ce fp) [] σ' H' z' → (∀ b ∈ fp, H' b = none) → ∀ b ∈ fp, FpOk (X.blk z3 H3 scope ce fp) [] H' b := fun {σ' H' z'} J' hn b hb =>
    ⟨hn b hb, (J'.ok.exf b hb).1, J'.ok.exfs b hb, .inl hb, fun x c e => (J'.ok.exf b hb).2 x c e, fun p hp => absurd (show p ∈ ([] : List (Addr × Obj)) ++ [] from hp) (by simp)⟩
  refine codeAny_compStart_dict ?loop (T.self X.A 0 _ _ _ st4 ?loop)
  refine loop_of hT (fun n z' => ∃ i H', Inv (X.blk z3 H3 scope ce fp) [] (wipe σ (own.map (·.2))) H' z' ∧ tn i z'.heap ∧ (∀ b ∈ fp, H' b = none) ∧ W i n H') ?_ m0 ⟨0, H3, J4, st4, fun b hb => (f3 b hb).1.1, w0⟩
  rintro n z5 ⟨i, H5, J5, st5, n5, w5⟩
  rcases turn i n H5 w5 with ⟨stop, qq⟩ | ⟨go, Nx, hNx, step⟩
  · refine thnF (T.done (X.blk z3 H3 scope ce fp) rfl rfl rfl hc i [] z5 _ H5 (fun _ _ => False) J5 (stat J5 n5) st5 stop) fun r z6 ⟨hr, J6⟩ => ?_
    subst hr
    -- back in the def's context
    have J7 : Inv X pn σ H5 z6 := J3.call' (ch := fp) J6.os J6.base J6.hok J6.bare fun b hb => ⟨(f3 b hb).1.2.2.2.1, (f3 b hb).1.2.1, (f3 b hb).1.2.2.2.2.1, (f3 b hb).1.2.2.2.2.2⟩
    have nC : H5 z3.heap.objs.size = none := cL ▸ (show H5 ce.locals = none from J6.free)
    obtain ⟨m, hn, _⟩ := J6.loc
    have hn : z6.heap.Ns z3.heap.objs.size m := cL ▸ (show z6.heap.Ns ce.locals m from hn)
    obtain ⟨f0, f1, f2', f3', f4, f5⟩ := J3.fpOk (Nat.le_refl _) nC
    exact ⟨m, hn, fun h'' sb => ⟨.ref D, H5, J7.turned (t' := z6.toks) (fun b o hb e => (sb.2 b hb).trans e) f0 f1 f3' f4 f5, rfl, qq⟩⟩
  · refine thnF (T.item (X.blk z3 H3 scope ce fp) rfl rfl rfl hc i [] z5 _ H5 (fun _ _ => False) J5 (stat J5 n5) st5 go) fun r z6 ⟨u, hr, h6⟩ => ?_
    subst hr
    refine thnF h6 fun _ z7 ⟨x, H7, J7, r7, y7, st7, n7⟩ => ?_
    have J7' := J7.pinned (stat J7 n7) (T.obj _ _ st7)
    refine thnF (pg.run _ z7 _ H7 x u _ J7' r7 (step x H7 y7)) fun _ z8 ⟨σ8, H8, J8, hw8, q8⟩ => ?_
    refine thnF (pt.run _ z8 σ8 H8 _ J8 q8) fun b z9 ⟨H9, J9, q9⟩ => ?_
    have fin : ∀ {σ9 : L2.St} {z' : Shared} {H' : Hp}, Inv (X.blk z3 H3 scope ce fp) ([] ++ pinsAt fp z7.heap) σ9 H' z' → (wipe σ (own.map (·.2))).length = σ9.length → (∀ (j : Nat) v, (wipe σ (own.map (·.2)))[j]? = some (some v) → σ9[j]? = some (some v)) → Nx H' →
        ∃ m, m < n ∧ ∃ i H', Inv (X.blk z3 H3 scope ce fp) [] (wipe σ (own.map (·.2))) H' z' ∧ tn i z'.heap ∧ (∀ b ∈ fp, H' b = none) ∧ W i m H' := fun {σ9 z' H'} J' hl hk nx => by
      obtain ⟨m', hm, w'⟩ := hNx H' nx
      have pin' : ∀ b ∈ fp, ∀ o, z7.heap.get? b = some o → z'.heap.get? b = some o ∧ H' b = none := fun b hb o e =>
        have q := J'.pin (b, o) (List.mem_append_right _ (List.mem_append_right _ (mem_pinsAt hb e)))
        ⟨q.1, q.2.1⟩
      refine ⟨m', hm, i + 1, H', (J'.unpinned (pins := [])).weak hl hk, T.keep _ _ _ st7 fun b hb o e => (pin' b hb o e).1, fun b hb => ?_, w'⟩
      obtain ⟨o, e, _⟩ := T.obj _ _ st7 b hb
      exact (pin' b hb o e).2
    have hl8 : (wipe σ (own.map (·.2))).length = σ8.length := by rw [← hw8, wipe_length]
    cases b with
    | false =>
      refine fin J9 hl8 (fun j v e => ?_) q9
      rw [← hw8] at e
      exact (wipe_some e).1
    | true =>
      refine fun k' Q' hk' => pb _ z9 σ8 H9 Nx k' Q' _ J9 q9 (fun z' H' J' nx => hk' z' (fin J' (hl8.trans (wipe_length σ8 vs1).symm) (fun j v e => ?_) nx)) fun _ _ q => False.elim q
      rw [← hw8] at e
      obtain ⟨e1, e2⟩ := wipe_some e
      rw [wipe_out fun z => e2 (hv j z)]
      exact e1
/-- {(a, b): v for target in iter if ..} -/
theorem pe_dcT {kx vx tg iter : Expr} {ifs : List Expr} {scope : Scope} {own : List (Str × Nat)} {pos : Pos} {wi : TI} {g : TG} {tt : TT} {tk tv : TE} (hu : X.A.units + 1 < cLine) (hc : X.calm = true) (hN : X.N.Nodup) (hi : PI X tg iter wi) (ok : BlkOk X.N X.env.scope scope own)
    (hg : ∀ (z : Shared) (H : Hp) (C : Addr) (cl : List (Str × Addr)) (fp : List Addr), PG (X.blk z H scope (compEnvC scope cl C X.env) fp) tg g)
    (ht : ∀ (z : Shared) (H : Hp) (C : Addr) (cl : List (Str × Addr)) (fp : List Addr), PTs (X.blk z H scope (compEnvC scope cl C X.env) fp) ifs tt)
    (hk : ∀ (z : Shared) (H : Hp) (C : Addr) (cl : List (Str × Addr)) (fp : List Addr), PE (X.blk z H scope (compEnvC scope cl C X.env) fp) kx tk)
    (hx : ∀ (z : Shared) (H : Hp) (C : Addr) (cl : List (Str × Addr)) (fp : List Addr), PE (X.blk z H scope (compEnvC scope cl C X.env) fp) vx tv)
    (hs : ∀ x, foldedSetIterable iter X.env x = pure x := by intro _; rfl) : PE X (.DictComp kx vx [⟨tg, iter, ifs, 0⟩] scope pos) (tDx (.dT []) wi g tt (tbS tk tv) (own.map (·.2))) :=
  pe_dx (vs1 := []) (fun H h hb => dt_empty h hb) turn_one (by rw [arm_eval_DictComp]; rfl) hc hN hi ok (fun _ h => absurd h (by simp)) hg ht (fun z H C cl fp D => pb_store (X := X.blk z H scope (compEnvC scope cl C X.env) fp) hu (hk z H C cl fp) (hx z H C cl fp)) hs
/-- {k: v for target in iter if .. for target1 in iter1 if ..} -/
theorem pe_dc2 {kx vx tg iter tg1 iter1 : Expr} {ifs ifs1 : List Expr} {scope : Scope} {own : List (Str × Nat)} {vs1 : List Nat} {pos : Pos} {wi wi1 : TI} {g g1 : TG} {tt tt1 : TT} {tk tv : TE} (hu : X.A.units + 1 < cLine) (hc : X.calm = true) (hN : X.N.Nodup) (hi : PI X tg iter wi) (ok : BlkOk X.N X.env.scope scope own) (hv : ∀ i ∈ vs1, i ∈ own.map (·.2))
    (hg : ∀ (z : Shared) (H : Hp) (C : Addr) (cl : List (Str × Addr)) (fp : List Addr), PG (X.blk z H scope (compEnvC scope cl C X.env) fp) tg g)
    (ht : ∀ (z : Shared) (H : Hp) (C : Addr) (cl : List (Str × Addr)) (fp : List Addr), PTs (X.blk z H scope (compEnvC scope cl C X.env) fp) ifs tt)
    (hi1 : ∀ (z : Shared) (H : Hp) (C : Addr) (cl : List (Str × Addr)) (fp : List Addr), PI (X.blk z H scope (compEnvC scope cl C X.env) fp) tg1 iter1 wi1)
    (hg1 : ∀ (z : Shared) (H : Hp) (C : Addr) (cl : List (Str × Addr)) (fp : List Addr), PG (X.blk z H scope (compEnvC scope cl C X.env) fp) tg1 g1)
    (ht1 : ∀ (z : Shared) (H : Hp) (C : Addr) (cl : List (Str × Addr)) (fp : List Addr), PTs (X.blk z H scope (compEnvC scope cl C X.env) fp) ifs1 tt1)
    (hk : ∀ (z : Shared) (H : Hp) (C : Addr) (cl : List (Str × Addr)) (fp : List Addr), PE (X.blk z H scope (compEnvC scope cl C X.env) fp) kx tk)
    (hx : ∀ (z : Shared) (H : Hp) (C : Addr) (cl : List (Str × Addr)) (fp : List Addr), PE (X.blk z H scope (compEnvC scope cl C X.env) fp) vx tv)
    (hs : ∀ x, foldedSetIterable iter X.env x = pure x := by intro _; rfl) (hs1 : ∀ env x, foldedSetIterable iter1 env x = pure x := by intro _ _; rfl) :
    PE X (.DictComp kx vx [⟨tg, iter, ifs, 0⟩, ⟨tg1, iter1, ifs1, 0⟩] scope pos) (tDx (.dK []) wi g tt (tbI wi1 g1 tt1 (tbS tk tv) vs1) (own.map (·.2))) :=
  pe_dx (vs1 := vs1) (fun H h hb => dk_empty h hb) turn_out (by rw [arm_eval_DictComp]; rfl) hc hN hi ok hv hg ht (fun z H C cl fp D => pb_inner (X := X.blk z H scope (compEnvC scope cl C X.env) fp) hc rfl (hi1 z H C cl fp) (hg1 z H C cl fp) (ht1 z H C cl fp)
    (pb_store (X := X.blk z H scope (compEnvC scope cl C X.env) fp) hu (hk z H C cl fp) (hx z H C cl fp)) hs1) hs
end
end CR
set_option maxRecDepth 100000
set_option maxHeartbeats 4000000
/-! Cycleready: the number of different texts in a list, a text removed from a list, methods called with keywords, static methods. -/
namespace CR
open PySem PySem.Spec PyProof.Rows L2 Evl
/-! ### len(set(xs)) of different texts -/
section
variable {P : Program} {w : World}
theorem any_take {xs : List Str} {i : Nat} {x k : Str} (hx : xs[i]? = some x) : ((xs.take i).any (· == k) || decide (k = x)) = (xs.take (i + 1)).any (· == k) := by
  rw [List.take_add_one, hx, List.any_append]
  congr 1
  show decide (k = x) = ((x == k) || false)
  rw [Bool.or_false, Bool.eq_iff_iff, decide_eq_true_eq, beq_iff_eq]
  exact ⟨fun e => e.symm, fun e => e.symm⟩
theorem not_in_take {xs : List Str} (nd : xs.Nodup) {i : Nat} {x : Str} (hx : xs[i]? = some x) : (xs.take i).any (· == x) = false := by
  rw [List.any_eq_false]
  intro y hy e
  obtain rfl := eq_of_beq e
  obtain ⟨j, hj⟩ := List.mem_iff_getElem?.mp hy
  have hji : j < i := by
    have := (List.getElem?_eq_some_iff.mp hj).1
    rw [List.length_take] at this
    omega
  rw [List.getElem?_take_of_lt hji] at hj
  have := (List.getElem?_inj (List.getElem?_eq_some_iff.mp hj).1 nd).mp (hj.trans hx.symm)
  omega
abbrev TxtSet (P : Program) (w : World) (h : Heap) (S : Addr) (xs : List Str) (i : Nat) : Prop := h.SetOf (PySem.strKind P w) S (fun k => (xs.take i).any (· == k)) i
theorem txt_loop {A : Around} {R : Result → Shared → Prop} {it : Addr} {fp wr : List Addr} {G : Array GenState → Array GenState → Prop} {n : Nat} {Pv : Nat → Value → Prop} {St : Nat → Shared → Prop} (W : WalksS P w A.in1 it fp wr G n Pv St) (S : Addr) (nS : S ∉ fp) {xs : List Str} (hn : xs.length = n) (nd : xs.Nodup) (hb : n + 1 < scanBound)
    (hv : ∀ i v, Pv i v → ∃ x t, xs[i]? = some x ∧ v = .str x t) : ∀ (m i : Nat) (z : Shared), n - i = m → i ≤ n → St i z → TxtSet P w z.heap S xs i → (∀ z', Moved (S :: wr) G z z' → TxtSet P w z'.heap S xs n → R (.ok (.ret .none)) z') →
      codeAny (model P w) A (.builtin "set.update.loop" ⟨[.ref S, .ref it], []⟩) R z := by
  have nSw : S ∉ wr := fun q => nS (W.sub _ q)
  intro m
  induction m with
  | zero =>
    intro i z hm hi st ts fin
    obtain rfl : i = n := by omega
    refine codeAny_builtin PyProof.Rows.F.entry_set_update_loop ?_
    rw [Around.under_plainId PyProof.Rows.F.plain_set_update_loop _]
    refine wpAny_bind (W.done z _ _ st fun z' mv => ?_)
    refine wpAny_pure (fin z' (mv.mono fun b q => List.mem_cons_of_mem _ q) ?_)
    obtain ⟨o, es, ep, t, ho, rest⟩ := ts
    exact ⟨o, es, ep, t, mv.heap S _ nSw ho, rest⟩
  | succ m ih =>
    intro i z hm hi st ts fin
    refine codeAny_builtin PyProof.Rows.F.entry_set_update_loop ?_
    rw [Around.under_plainId PyProof.Rows.F.plain_set_update_loop _]
    refine wpAny_bind (W.item i z _ _ (by omega) st fun v z' hP st' mv => ?_)
    obtain ⟨x, t, hx, rfl⟩ := hv i v hP
    have ts' : TxtSet P w z'.heap S xs i := by
      obtain ⟨o, es, ep, t, ho, rest⟩ := ts
      exact ⟨o, es, ep, t, mv.heap S _ nSw ho, rest⟩
    show wpAny _ A.in1 (holding [Value.str x t] (setAdd S (.str x t)) >>= _) _ _ z'
    refine wpAny_bind (wpAny_holding ?_)
    unfold setAdd
    refine wpAny_holding (wpAny_bind ((PySem.strKind P w).pyHash (k := x) (strKind_is _ _ _ _) ?_))
    refine wpAny_setAddHashed_of (knd := PySem.strKind P w) (s := { z' with toks := z'.toks + 1 }) (strKind_is _ _ _ _) rfl ts' (by omega) fun h' sb ts2 => ?_
    have ts3 : TxtSet P w h' S xs (i + 1) := SetOf_congr ts2 (fun k => any_take hx) (by rw [not_in_take nd hx]; rfl)
    refine wpAny_pure ⟨plainId_quiet PyProof.Rows.F.plain_set_update_loop _, ih (i + 1) _ (by omega) (by omega) (W.frame _ z' _ _ st' (Nat.le_succ _) fun b q o e => ?_) ts3 fun z2 mv2 ts4 => ?_⟩
    · rw [sb.2 b fun y => nS (y ▸ q)]
      exact e
    · refine fin z2 (Moved.trans W.gtrans ((mv.mono fun b q => List.mem_cons_of_mem _ q).then_heap (Nat.le_succ _) fun b o q e => ?_) mv2) ts4
      rw [sb.2 b fun y => q (by rw [y]; exact List.mem_cons_self)]
      exact e
theorem txts_at : ∀ {us : List Value} {xs : List Str}, StrsAre us xs → ∀ (i : Nat) (v : Value), us[i]? = some v → ∃ x t, xs[i]? = some x ∧ v = .str x t
  | _, _, .nil, i, v, q => by simp at q
  | _, _, .cons x t r, 0, v, q => by
    simp at q
    exact ⟨x, t, rfl, q.symm⟩
  | _, _, .cons x t r, i + 1, v, q => by
    rw [List.getElem?_cons_succ] at q
    obtain ⟨y, u, q1, q2⟩ := txts_at r i v q
    exact ⟨y, u, by rw [List.getElem?_cons_succ]; exact q1, q2⟩
set_option maxHeartbeats 6400000 in
theorem call_set_txt {A : Around} {E : Value → Shared → Prop} {z : Shared} {l : Addr} {its : Array Value} {xs : List Str} {Q : Value → Shared → Prop} (hh : A.handled = none) (hl : z.heap.IsList l its) (hi : StrsAre its.toList xs) (nd : xs.Nodup) (hb : xs.length + 1 < scanBound)
    (k : ∀ (h' : Heap) (tk : Nat), TxtSet P w h' z.heap.objs.size xs xs.length → (∀ b o, b < z.heap.objs.size → z.heap.get? b = some o → h'.get? b = some o) → Q (.ref z.heap.objs.size) { z with heap := h', toks := tk }) :
    wpAny (model P w) A (call (.type "set") [.ref l]) Q E z := by
  obtain ⟨c, tl, hmro⟩ := PySem.F.called_set.mro
  have f1 := PySem.F.called_set.made
  have f2 := PySem.F.called_set.sub
  have f3 := PySem.F.called_set.notType
  have f4 := PySem.F.called_set.canCreate
  have f5 := PySem.F.typeCall_set_1 (.ref l)
  refine wpAny_call (codeAny_of_tree ?_)
  show wpAny _ _ (callAny (.type "set") _) _ _ z
  refine wpAny_pure ⟨Code.quiet_builtin _ (by decide +kernel), codeAny_builtin PySem.F.entry_type_call ?_⟩
  rw [Around.under_plain (weight_type_call_type "set" [.ref l] []) rfl]
  repeat (any_goals (first | wp_step | assumption))
  refine codeAny_mono (code_set_new_1 (.ref l) (E := E) (Q₁ := fun ob z1 => ∃ led : Bool, ob = .ref z.heap.objs.size ∧ z1 = { z with heap := z.heap.push { cls := .type "set", dict := none, data := .set #[] 0 (.fresh 0 0 led) } }) fun led => ⟨led, rfl, rfl⟩) fun r z1 q => ?_
  cases r with
  | error e => exact q
  | ok fl =>
    cases fl with
    | next => exact q.elim
    | brk => exact q.elim
    | cont => exact q.elim
    | ret ob =>
      obtain ⟨led, rfl, rfl⟩ := q
      have g0 : (z.heap.push { cls := .type "set", dict := none, data := .set #[] 0 (.fresh 0 0 led) }).get? z.heap.objs.size = some { cls := .type "set", dict := none, data := .set #[] 0 (.fresh 0 0 led) } := Heap.get?_push_size _ rfl
      have gT : Shared.TypeIs { z with heap := z.heap.push { cls := .type "set", dict := none, data := .set #[] 0 (.fresh 0 0 led) } } (.ref z.heap.objs.size) "set" := ⟨_, g0, rfl⟩
      have f6 := PySem.F.called_set.init.lookup
      have f7 := PySem.F.called_set.init.bind (.ref z.heap.objs.size)
      repeat (any_goals (first | wp_step | assumption))
      refine codeAny_mono (codeAny_call_builtin (R := wants (fun r z2 => r = .none ∧ ∃ h' tk, z2 = { z with heap := h', toks := tk } ∧ TxtSet P w h' z.heap.objs.size xs xs.length ∧ (∀ b o, b < z.heap.objs.size → z.heap.get? b = some o → h'.get? b = some o)) E)
        PySem.F.called_set.init.plain PySem.F.entry_set_init (check_set_init_1 gT ?_)) fun r2 z2 q2 => ?_
      · obtain ⟨ol, hol, hcl, nl, hdl⟩ := hl
        obtain ⟨ocls, odict, odata, oslots⟩ := ol
        simp only at hcl hdl
        subst hcl hdl
        have hol' : (z.heap.push { cls := .type "set", dict := none, data := .set #[] 0 (.fresh 0 0 led) }).get? l = some { cls := .type "list", dict := odict, data := .seq its nl, slots := oslots } := Heap.get?_push_of_some _ hol
        have d1 := PySem.F.sub_list_set
        have d2 := PySem.F.sub_list_frozenset
        have d3 : (Value.type "list" == Value.type "dict") = false := by decide
        have hl1 : (z.heap.push { cls := .type "set", dict := none, data := .set #[] 0 (.fresh 0 0 led) }).IsList l its := ⟨_, hol', rfl, nl, rfl⟩
        unfold Builtin.«set.__init__» noKeywords Builtin.Frozenset.updateFrom
        generalize hPI : pyIter = PI
        wp_walk
        subst hPI
        refine wpAny_pyIter_list (s := { z with heap := z.heap.push { cls := .type "set", dict := none, data := .set #[] 0 (.fresh 0 0 led) } }) (l := l) (items := its) hl1 ?_
        refine wpAny_bind (wpAny_runValue ?_)
        have ll : l < z.heap.objs.size := Heap.lt_size hol
        have sz : (z.heap.push { cls := .type "set", dict := none, data := .set #[] 0 (.fresh 0 0 led) }).objs.size = z.heap.objs.size + 1 := Heap.size_push _ _
        have len : xs.length = its.size := by rw [← Array.length_toList]; exact (StrsAre.len_eq hi).symm
        refine txt_loop ((Walks.list (by simp [hh]) _ l (by rw [sz]; exact Nat.ne_of_lt (Nat.lt_succ_of_lt ll)) its).toS) z.heap.objs.size (by rw [sz]; exact fun q => (List.mem_cons.mp q).elim (fun y => absurd y (Nat.ne_of_lt (Nat.lt_succ_self _))) fun y => absurd (List.mem_singleton.mp y) (Nat.ne_of_gt ll)) len nd (by rw [← len]; exact hb) (fun i v q => txts_at hi i v (by rw [Array.getElem?_toList]; exact q)) (its.size - 0) 0 _ (by omega) (Nat.zero_le _)
          ⟨⟨_, Heap.get?_push_size _ rfl, rfl, rfl⟩, hl1.push _⟩ ?start ?done
        case start =>
          have g1 := Heap.get?_push_of_some { cls := .type "list_iterator", data := .fields #[.ref l, .int 0 0] } g0
          refine SetOf_congr ((setObjOf_fresh (knd := PySem.strKind P w) led).setOf g1 (by unfold scanBound; omega)) (fun _ => rfl) rfl
        case done =>
          intro z' mv ts
          obtain ⟨h', g', d', tk', os'⟩ := z'
          obtain rfl : g' = z.gens := mv.gens
          obtain rfl : d' = z.drawn := mv.drawn
          obtain rfl : os' = z.os := mv.os
          show wpAny _ _ _ _ _ _
          refine wpAny_pure ?_
          show wpAny _ _ (ret Value.none) _ _ _
          refine wpAny_pure ⟨rfl, h', tk', rfl, len ▸ ts, fun b o hb' e => ?_⟩
          refine mv.heap b o ?_ (Heap.get?_push_of_some _ (Heap.get?_push_of_some _ e))
          rw [sz]
          exact fun q => (List.mem_cons.mp q).elim (fun y => absurd y (Nat.ne_of_lt hb')) fun y => absurd (List.mem_singleton.mp y) (Nat.ne_of_lt (Nat.lt_succ_of_lt hb'))
      · cases r2 with
        | error e => exact q2
        | ok fl2 =>
          cases fl2 with
          | next => exact q2.elim
          | brk => exact q2.elim
          | cont => exact q2.elim
          | ret r =>
            obtain ⟨rfl, h', tk, rfl, ts, kp⟩ := q2
            repeat (any_goals (first | wp_step | assumption))
            exact k _ _ ts kp
end
/-- len(set(xs)) -/
def tLenSetT (K : PySem.W.Frag) (ta : TE) : TE := fun σ H Q => ta σ H fun x H1 => ∃ (l : Addr) (xs : List Str), x = .ref l ∧ SqL K H1 l (xs.map V.str) ∧ xs.Nodup ∧ xs.length ≤ 1000 ∧ Q (.int (xs.length : Nat)) H1
theorem pe_lenSetT {X : Cx} {K : PySem.W.Frag} {a : Expr} {ta : TE} {p p2 q pos : Pos} (hK : X.K = K) (hg : Gl X "len") (hm : X.mg "len" = none) (hg2 : Gl X "set") (hm2 : X.mg "set" = none) (ha : PE X a ta) (hc : X.calm = true := by rfl)
    (na : starEach [a] X.env = (false, eval a X.env) :: starEach [] X.env := by rfl) : PE X (.Call (.Name "len" p) [.Call (.Name "set" p2) [a] [] q] [] pos) (tLenSetT K ta) := by
  refine ⟨fun pn z σ H Q J h => ?_⟩
  refine Call_ (ld_blt J hg hm boot_len (callWith_builtin1 (args_cons ?_ rfl) rfl rfl))
  refine Call_ (ld_blt J hg2 hm2 boot_set (callWith_type1 (args_cons (thn (ha.run pn z σ H _ J h) fun v z1 ⟨x, H1, J1, r1, q1⟩ => args_nil ?_) na) na rfl))
  obtain ⟨l, xs, rfl, hq, nd, hl, q1⟩ := q1
  obtain rfl : v = Value.ref l := r1
  rw [← hK] at hq
  obtain ⟨its, r, pl, hz⟩ := J1.list hq
  refine call_set_txt (J1.ok.hd hc) pl.isList (by simpa using strsAre_of r) nd (by unfold scanBound; omega) fun h' tk ts kp => args_nil ?_
  obtain ⟨o, es, ep, t, ho, hex, hd, _, _, _, hf, hn⟩ := ts
  have J2 : Inv X pn σ H1 { z1 with heap := h', toks := tk } := J1.kept fun b o e => kp b o (Heap.lt_size e) e
  exact call_len_set ho hex hd hf (by rw [hn]; omega) ⟨.int xs.length, H1, J2.tok _, ⟨_, by rw [hn]⟩, q1⟩
end CR
set_option maxRecDepth 100000
set_option maxHeartbeats 4000000
/-! Cycleready: a text removed from a list, methods called with keywords, static methods, repr. -/
namespace CR
open PySem PySem.Spec PyProof.Rows L2 Evl
/-! ### xs.remove(x) -/
def eqT (x : Str) (v : Value) : Bool := match v with
  | .str y _ => decide (y = x)
  | _ => false
/-- a list without the first x -/
theorem filter_ne_of_not {x : Str} : ∀ {l : List Str}, x ∉ l → l.filter (fun y => decide (y ≠ x)) = l := fun {l} h => List.filter_eq_self.mpr fun y hy => decide_eq_true (ne_mem hy h)
theorem erase_first {x : Str} : ∀ {l : List Str}, l.Nodup → x ∈ l → ∃ j, l[j]? = some x ∧ (∀ m, m < j → l[m]? ≠ some x) ∧ l.eraseIdx j = l.filter fun y => decide (y ≠ x)
  | [], _, h => absurd h (by simp)
  | y :: l, nd, h => by
    rw [List.nodup_cons] at nd
    by_cases e : y = x
    · refine ⟨0, by rw [e]; rfl, fun m hm => absurd hm (by omega), ?_⟩
      show l = _
      rw [List.filter_cons_of_neg (by simp [e]), filter_ne_of_not (e ▸ nd.1)]
    · have hl : x ∈ l := (List.mem_cons.mp h).resolve_left fun q => e q.symm
      obtain ⟨j, j1, j2, j3⟩ := erase_first nd.2 hl
      refine ⟨j + 1, by simpa using j1, fun m hm => ?_, ?_⟩
      · cases m with
        | zero => simpa using e
        | succ m => simpa using j2 m (by omega)
      · show y :: l.eraseIdx j = _
        rw [List.filter_cons_of_pos (by simp [e]), j3]
section
variable {X : Cx}
def rRemS : V → List V → Hp → VK → Prop := fun x vs H Q => ∃ (l : Addr) (xs : List Str) (k : Str), x = .ref l ∧ vs = [.str k] ∧ H l = some (.lst (xs.map V.str)) ∧ xs.Nodup ∧ k ∈ xs ∧ Q .non (upd H l (.lst ((xs.filter fun y => decide (y ≠ k)).map V.str)))
theorem mt_removeS : MtM X "list.remove" rRemS := by
  intro pn z σ H x vs v us Q J rx rvs h
  obtain ⟨l, xs, k, rfl, rfl, hl, nd, hk, q⟩ := h
  obtain rfl : v = Value.ref l := rx
  obtain ⟨u, rfl, ru⟩ := rvs.one
  obtain ⟨t, rfl⟩ := ru
  obtain ⟨j, j1, j2, j3⟩ := erase_first nd hk
  obtain ⟨zz, its, n, r, hlen, e⟩ := J.lstM hl
  rw [List.length_map] at hlen zz
  have ta := txts_at (Vals.strs r)
  have at_ : ∀ m (hm : m < its.toArray.size), ∃ y t, xs[m]? = some y ∧ its.toArray[m] = .str y t := fun m hm => by
    obtain ⟨y, t, h1, h2⟩ := ta m its.toArray[m] (by simp)
    exact ⟨y, t, h1, h2⟩
  have hjl : j < its.toArray.size := by
    have := (List.getElem?_eq_some_iff.mp j1).1
    rw [List.size_toArray]
    omega
  refine call_meets PySem.F.slot_list_remove ⟨_, e, rfl⟩ PySem.F.entry_list_remove (PySem.F.args_list_remove_2 _ _) (MeetsSeq.list_remove l its.toArray n (.str k t) (eqT k) (fun y hy => ?_) j hjl ?_ (fun m hm hmj => ?_) (by rw [List.size_toArray]; omega)) ⟨e, ?_⟩
  · obtain ⟨i, hi, rfl⟩ := Array.mem_iff_getElem.mp hy
    obtain ⟨y, t', h1, h2⟩ := at_ i hi
    rw [h2]
    exact fun _ _ _ _ _ _ g => wpAny_eqBool_str g
  · obtain ⟨y, t', h1, h2⟩ := at_ j hjl
    rw [j1] at h1
    rw [h2, ← Option.some.inj h1]
    exact decide_eq_true rfl
  · obtain ⟨y, t', h1, h2⟩ := at_ m hm
    rw [h2]
    exact decide_eq_false fun z => j2 m hmj (by rw [h1, z])
  · have rr := r.eraseIdx j
    have e3 : (xs.map V.str).eraseIdx j = (xs.filter fun y => decide (y ≠ k)).map V.str := by rw [← DT.map_erase, j3]
    rw [e3] at rr
    refine ⟨.non, _, J.lset (its' := its.eraseIdx j) (t' := z.toks) hl e ?_ rr ?_, rfl, q⟩
    · show its.toArray.eraseIdxIfInBounds j = (its.eraseIdx j).toArray
      exact List.eraseIdxIfInBounds_toArray ..
    · rw [List.length_map]
      exact Nat.le_trans (List.length_filter_le ..) zz
end
/-! ### calls with keywords -/
/-- a def of the text that keeps its promise, all keyword-only parameters written -/
def OkdK (P : Program) (w : World) (K : PySem.W.Frag) (mg : Str → Option Value) (base : Heap) (k : Nat) (f : Addr) (ps : List Str) (n : Nat) (ks : List Str) (sp : Sp) : Prop :=
  ∃ fd : FuncData, FnOk P w K mg base CX0 k f fd ps sp ∧ KBn K fd ps n ks (fun us ws => us ++ ws) (fun vs zs => vs ++ zs)
section
variable {P : Program} {w : World} {K : PySem.W.Frag} {mg : Str → Option Value} {base : Heap}
theorem OkdK.mk {x qual : Str} {st : Stmt} {f : Addr} {fd : FuncData} {kws : List (Str × V)} {ps : List Str} {k n : Nat} {ks : List Str} {sp : Sp} (F : FunD K x qual (defArgs st) (defBody st) (defScope st) [] kws f fd) (G : FnOk P w K mg base CX0 k f fd ps sp)
    (h : ∀ (kV doc pm : Value) (an : Option Addr) (cdv ct : Value) (us ws : List Value), us.length = n → ws.length = ks.length → bindArgs (PySem.W.fnOf x qual (defArgs st) (defBody st) (defScope st) .none kV doc pm an cdv ct) ⟨us, ks.zip ws⟩ = pure (ps.zip (us ++ ws))) : OkdK P w K mg base k f ps n ks sp := by
  refine ⟨fd, G, ⟨fun z us ws _ l1 l2 => ?_, fun r1 r2 => r1.append r2⟩⟩
  obtain ⟨oc, od, dV, kV, doc, pm, an, cdv, ct, osl, rfl, lk, hcd, hD, hK⟩ := F.ex
  rcases hD with ⟨_, rfl⟩ | ⟨e, _⟩
  · exact .of_eq (h kV doc pm an cdv ct us ws l1 l2)
  · exact absurd rfl e
theorem fn_mk {x qual : Str} {st : Stmt} {f : Addr} {fd : FuncData} {kws : List (Str × V)} {N ps : List Str} {k : Nat} {sp : Sp} (F : FunD K x qual (defArgs st) (defBody st) (defScope st) [] kws f fd) (S : FnScope N ps (defScope st)) (len : ∀ vs H Q E, sp vs H Q E → vs.length = ps.length)
    (body : ∀ (cdv : Value) (A : Around) (outer : List Env) (s : Shared) (H : Hp) (vs : List V) (Q : VK) (E : XK), Room k (A.deeper (envOfC qual (defScope st) s.heap.objs.size f cdv)) → sp vs H Q E →
      ∃ t, PSs (cxOf CX0 P w K mg base N qual (defScope st) f cdv A outer s H E).nox (defBody st) t ∧ t { nx := fun _ H' => Q .non H', rt := Q } (start N vs) H) : FnOk P w K mg base CX0 (k + 1) f fd ps sp :=
  F.ok S len fun cdv A outer s H vs Q E hr h => let ⟨t, h1, h2⟩ := body cdv A outer s H vs Q E hr h; ⟨t, h1.nox, h2⟩
end
/-- o.m(.., k = v, ..) -/
def tMethK (C : Addr) (m : Str) (n l : Nat) (sp : Sp) (ta : TE) (t tk : TA) : TE := fun σ H Q => ta σ H fun x H1 => ∃ a dx fs, x = .ref a ∧ H1 a = some (.ins C dx fs) ∧ fs.lookup m = none ∧
  t σ H1 fun vs H2 => tk σ H2 fun zs H3 => vs.length = n ∧ zs.length = l ∧ sp (x :: vs ++ zs) H3 Q E0
section
variable {X : Cx} {k n : Nat} {f C : Addr} {ps ks : List Str} {sp : Sp} {m : Str} {pos apos : Pos} {e o : Expr} {es : List Expr} {kws : List Keyword} {ta : TE} {t tk : TA} {pl : Sem Bool}
theorem run_K {pn : List (Addr × Obj)} {σ : L2.St} {H : Hp} {z : Shared} {Q : VK} {us ws : List Value} {vs zs : List V} {fd : FuncData} (F : FnOk X.prog X.w X.K X.mg X.base CX0 k f fd ps sp) (hb : KBn X.K fd ps n ks (fun us ws => us ++ ws) (fun vs zs => vs ++ zs)) (hr : Room k X.A)
    (J : Inv X pn σ H z) (r : Vals vs us) (rz : Vals zs ws) (l1 : vs.length = n) (l2 : zs.length = ks.length) (h : sp (vs ++ zs) H Q E0) : wpAny (model X.prog X.w) X.A (call (.ref f) us (ks.zip ws)) (EP X pn σ Q) X.xe z :=
  run_fnN F hr hb pass0 J r rz l1 l2 h
theorem pe_methKO (he : PE X o ta) (c : Cls X.K C) (hm : Meth X.K C m f) (G : OkdK X.prog X.w X.K X.mg X.base k f ps (n + 1) ks sp) (hr : Room k X.A) (ha : PA X (e :: es) t) (hkw : PK X kws tk)
    (hall : (backToKw pos (keywordEach kws X.env)).all (·.1.isSome) = true := by rfl) (hks : (backToKw pos (keywordEach kws X.env)).filterMap (·.1) = ks := by rfl) (hst : starEach (e :: es) X.env = (false, eval e X.env) :: starEach es X.env := by rfl)
    (hpl : ((backTo pos (starEach (e :: es) X.env)).any (·.1) || (backToKw pos (keywordEach kws X.env)).any (·.1.isNone)) = false := by rfl)
    (ht : eval (.Call (.Attribute o m apos) (e :: es) kws pos) X.env = (do
      let ov ← eval o X.env
      standAt apos.atName
      let (f, first) ← holding [ov] (getMethod ov m pl)
      callWith pos f first (backTo pos (starEach (e :: es) X.env)) (backToKw pos (keywordEach kws X.env))) := by rfl) :
    PE X (.Call (.Attribute o m apos) (e :: es) kws pos) (tMethK C m n ks.length sp ta t tk) := by
  obtain ⟨fd, F, hb⟩ := G
  refine ⟨fun pn z σ H Q J h => PySem.W.methodCall_KW (pl := pl) (thn (he.run pn z σ H _ J h) fun u z1 ⟨x, H1, J1, rx, a, dx, fs, ex, ea, l, q⟩ => ?_) ht⟩
  subst ex
  obtain rfl : u = Value.ref a := rx
  refine getmeth_ok J1 ea c hm l (PySem.W.callWith_KW (first := [.ref a]) (h₀ := X.base) J.ok.mod.kin hm.kp hall (thn (ha.run pos pn z1 σ H1 _ J1 q) fun us z2 ⟨vs, H2, J2, r, q2⟩ => ?_) hpl hst)
  refine thn (hkw.run pos pn z2 σ H2 _ J2 q2) fun ws z3 ⟨zs, H3, J3, rz, l1, l2, q3⟩ => ⟨J3.kIn, ?_⟩
  rw [hks]
  exact run_K (us := .ref a :: us) (vs := .ref a :: vs) F hb hr J3 (.cons rfl r) rz (by rw [List.length_cons, l1]) l2 q3
theorem pe_methKO0 (he : PE X o ta) (c : Cls X.K C) (hm : Meth X.K C m f) (G : OkdK X.prog X.w X.K X.mg X.base k f ps 1 ks sp) (hr : Room k X.A) (hkw : PK X kws tk)
    (hall : (backToKw pos (keywordEach kws X.env)).all (·.1.isSome) = true := by rfl) (hks : (backToKw pos (keywordEach kws X.env)).filterMap (·.1) = ks := by rfl)
    (hpl : ((backTo pos (starEach [] X.env)).any (·.1) || (backToKw pos (keywordEach kws X.env)).any (·.1.isNone)) = false := by rfl)
    (ht : eval (.Call (.Attribute o m apos) [] kws pos) X.env = (do
      let ov ← eval o X.env
      standAt apos.atName
      let (f, first) ← holding [ov] (getMethod ov m pl)
      callWith pos f first (backTo pos (starEach [] X.env)) (backToKw pos (keywordEach kws X.env))) := by rfl) :
    PE X (.Call (.Attribute o m apos) [] kws pos) (tMethK C m 0 ks.length sp ta tNil tk) := by
  obtain ⟨fd, F, hb⟩ := G
  refine ⟨fun pn z σ H Q J h => PySem.W.methodCall_KW (pl := pl) (thn (he.run pn z σ H _ J h) fun u z1 ⟨x, H1, J1, rx, a, dx, fs, ex, ea, l, q⟩ => ?_) ht⟩
  subst ex
  obtain rfl : u = Value.ref a := rx
  refine getmeth_ok J1 ea c hm l (PySem.W.callWith_KW0 (first := [.ref a]) (h₀ := X.base) J.ok.mod.kin hm.kp hall (thn (hkw.run pos pn z1 σ H1 _ J1 q) fun ws z3 ⟨zs, H3, J3, rz, l1, l2, q3⟩ => ⟨J3.kIn, ?_⟩) hpl)
  rw [hks]
  exact run_K (us := [.ref a]) (vs := [.ref a]) F hb hr J3 (.cons rfl .nil) rz rfl l2 q3
end
/-! ### a static method through an instance -/
structure SInst (K : PySem.W.Frag) (C : Addr) (m : Str) (p g : Addr) : Prop where
  pg : PySem.W.plainGet K C Str.empty = true
  ic : PySem.W.isClsIn K C = true
  at_ : PySem.W.findIn K (.ref C) m = some (some (.ref p))
  ty : PySem.W.typeIn K (.ref p) = some (.type "staticmethod")
  get : PySem.W.specialIn K (.ref p) "__get__" = some (some (.builtin "staticmethod.__get__"))
  tk : PySem.W.takesIn K (.ref p) = some false
  cp : PySem.W.copiedNames.contains m = false
  rc : ∃ rest, PySem.W.recIn K p "staticmethod" = some (.ref g :: rest)
  kp : PySem.W.keepIn K (.ref g) = true
theorem getmethsm_ok {X : Cx} {pn : List (Addr × Obj)} {σ : L2.St} {H : Hp} {z : Shared} {a C p g : Addr} {m : Str} {A : Around} {E : Value → Shared → Prop} {pl : Sem Bool} {ox od : Obj} {Q : Value × List Value → Shared → Prop} (J : Inv X pn σ H z) (I : PySem.W.InstAt z.heap a ox C (some od)) (hl : PySem.W.lookIn m od = some none) (k : SInst X.K C m p g)
    (h : ∀ z', Inv X pn σ H z' → Q (.ref g, []) z') : wpAny (model X.prog X.w) A (getMethod (.ref a) m pl) Q E z := by
  obtain ⟨rest, hp⟩ := k.rc
  have pg' : PySem.W.plainGet X.K C m = true := k.pg
  refine PySem.W.method_usual (r := some (.ref p)) J.kIn I (PySem.W.plainGet_of pg').1 (PySem.W.plainGet_of pg').2 k.at_ ?_ ?_
  · show ((PySem.W.typeIn X.K (.ref p)).any fun t => t != .type "function" && t != .type "method_descriptor" && t != .type "wrapper_descriptor") = true
    rw [k.ty]
    first
    | rfl
    | decide +kernel
  · refine PySem.W.get_bind J.kIn I (PySem.W.plainGet_of pg').1 (ClX.find_cm k.ic k.at_ k.get k.tk k.cp hl) (PySem.W.plainGet_of pg').2 ?_
    exact wpAny_call (PySem.W.sm_get (s := { z with toks := z.toks + 1 }) J.kIn hp (PySem.W.handed_on rfl (h _ (J.tok _))))
def tSMeth (C : Addr) (m : Str) (sp : Sp) (ta : TE) (t : TA) : TE := fun σ H Q => ta σ H fun x H1 => ∃ a dx fs, x = .ref a ∧ H1 a = some (.ins C dx fs) ∧ fs.lookup m = none ∧ t σ H1 fun vs H2 => sp vs H2 Q E0
theorem pe_smeth {X : Cx} {k : Nat} {g C p : Addr} {ps : List Str} {sp : Sp} {m : Str} {pos apos : Pos} {e o : Expr} {es : List Expr} {ta : TE} {t : TA} {pl : Sem Bool} (he : PE X o ta) (c : SInst X.K C m p g) (G : Okd X.prog X.w X.K X.mg X.base k g ps sp) (hr : Room k X.A) (ha : PA X (e :: es) t)
    (hst : starEach (e :: es) X.env = (false, eval e X.env) :: starEach es X.env := by rfl) (hpl : (backTo pos (starEach es X.env)).any (·.1) = false := by rfl)
    (ht : eval (.Call (.Attribute o m apos) (e :: es) [] pos) X.env = (do
      let ov ← eval o X.env
      standAt apos.atName
      let (f, first) ← holding [ov] (getMethod ov m pl)
      callWith pos f first (backTo pos (starEach (e :: es) X.env)) (backToKw pos (keywordEach [] X.env))) := by rfl) :
    PE X (.Call (.Attribute o m apos) (e :: es) [] pos) (tSMeth C m sp ta t) := by
  obtain ⟨fd, ds, F, hb, hd⟩ := G
  refine ⟨fun pn z σ H Q J h => PySem.W.methodCall_KW (pl := pl) (thn (he.run pn z σ H _ J h) fun u z1 ⟨x, H1, J1, rx, a, dx, fs, ex, ea, l, q⟩ => ?_) ht⟩
  subst ex
  obtain rfl : u = Value.ref a := rx
  obtain ⟨mA, O, r, _⟩ := ins_get J1.hok ea
  have hn : mA m = none := RelO.none_of (by rw [← l]; exact r m)
  obtain ⟨od, I, hl⟩ := O.look
  refine getmethsm_ok J1 I (by rw [hl m, hn]) c fun z2 J2 => ?_
  refine PySem.W.callWith_K (first := []) (h₀ := X.base) J.ok.mod.kin c.kp (thn (ha.run pos pn z2 σ H1 _ J2 q) fun us z3 ⟨vs, H3, J3, rv, q3⟩ => ⟨J3.kIn, ?_⟩) hst hpl
  exact run_fn (us := us) (vs := vs) F hr hb hd pass0 J3 rv (by
    have e0 : ds = [] := by cases hd; rfl
    rw [List.append_nil]
    exact q3)
/-! ### d.pop(k) -/
theorem m1_pop {X : Cx} {o e : Expr} {m : Str} {apos cpos : Pos} (h1 : attributeBase o m X.env (eval o X.env) = eval o X.env := by rfl)
    (h2 : ((backTo cpos (starEach [e] X.env)).all (fun x => !x.1) && (backToKw cpos (keywordEach [] X.env)).all (fun x => x.1.isSome) && decide (([e] : List Expr).length + ([] : List Keyword).length + (if ([] : List Keyword).isEmpty then 0 else 1) < 30)) = true := by rfl)
    (h3 : (apos.endLine == cpos.line) = true := by rfl) (h4 : backTo cpos (starEach [e] X.env) = [(false, eval e X.env)] := by rfl) : M1 X o m apos e cpos := ⟨h1, h2, h3, h4⟩
/-! ### repr of what reads as data, dicts of texts and ints among it -/
mutual
inductive Rp (H : Hp) : V → PyData → Prop
  | non : Rp H .non .none
  | bl (b : Bool) : Rp H (.bl b) (.bool b)
  | int (i : Int) : Rp H (.int i) (.int i)
  | str (x : Str) : Rp H (.str x) (.str x)
  | lst {a : Addr} {xs : List V} {ds : List PyData} : H a = some (.lst xs) → RpAll H xs ds → Rp H (.ref a) (.list ds)
  | tup {a : Addr} {xs : List V} {ds : List PyData} : H a = some (.tup xs) → RpAll H xs ds → Rp H (.ref a) (.tuple ds)
  | dct {a : Addr} {l : List (Str × Int)} : H a = some (.dK (dS V.int l)) → Rp H (.ref a) (.dict (l.map fun q => (.str q.1, .int q.2)))
inductive RpAll (H : Hp) : List V → List PyData → Prop
  | nil : RpAll H [] []
  | cons {v : V} {vs : List V} {d : PyData} {ds : List PyData} : Rp H v d → RpAll H vs ds → RpAll H (v :: vs) (d :: ds)
end
mutual
theorem Rp.ex {H H' : Hp} (e : Ex H H') : ∀ {v : V} {d : PyData}, Rp H v d → Rp H' v d
  | _, _, .non => .non
  | _, _, .bl b => .bl b
  | _, _, .int i => .int i
  | _, _, .str x => .str x
  | _, _, .lst h t => .lst (e _ _ h) (RpAll.ex e t)
  | _, _, .tup h t => .tup (e _ _ h) (RpAll.ex e t)
  | _, _, .dct h => .dct (e _ _ h)
theorem RpAll.ex {H H' : Hp} (e : Ex H H') : ∀ {vs : List V} {ds : List PyData}, RpAll H vs ds → RpAll H' vs ds
  | _, _, .nil => .nil
  | _, _, .cons h t => .cons (Rp.ex e h) (RpAll.ex e t)
end
section
variable {X : Cx} {pn : List (Addr × Obj)} {σ : L2.St} {H : Hp} {z : Shared}
def encK : Key → PyData
  | .inl i => .int i
  | .inr x => .str x
theorem encK_reads {h : Heap} (k : Key) (key : Value) (e : (mixKind X.prog X.w).is k key = true) : Reads h key (encK k) [] := by
  rcases keyIs_shape e with ⟨i, t, rfl, rfl⟩ | ⟨x, t, rfl, rfl⟩
  · exact .int i t
  · exact .str x t
theorem pairs_readK {h : Heap} : ∀ {l : List (Str × Int)} {vs : List (Key × Value)}, KV (dS V.int l) vs → PyProof.V.PairsRead h encK vs (l.map fun q => (.str q.1, .int q.2)) [] := by
  intro l
  induction l with
  | nil =>
    intro vs r
    cases r
    exact .nil
  | cons q l ih =>
    intro vs r
    cases r with
    | @cons _ kv _ vs r1 r2 =>
      obtain ⟨k, v⟩ := kv
      obtain ⟨e1, t, e2⟩ := r1
      have e1 : Sum.inr q.1 = k := e1
      have e2 : v = Value.int q.2 t := e2
      subst e1 e2
      exact PyProof.V.PairsRead.cons (as := []) (bs := []) (.int q.2 t) (ih r2)
mutual
theorem Rp.reads (J : Inv X pn σ H z) (hs : H sysModules = none) : ∀ {v : V} {d : PyData} {u : Value}, Rp H v d → RelV v u → ∃ as, Reads z.heap u d as ∧ sysModules ∉ as
  | _, _, _, .non, r => ⟨[], by cases r; exact .none, by simp⟩
  | _, _, _, .bl b, r => ⟨[], by cases r; exact .bool b, by simp⟩
  | _, _, _, .int i, r => ⟨[], by obtain ⟨t, rfl⟩ := r; exact .int i t, by simp⟩
  | _, _, _, .str x, r => ⟨[], by obtain ⟨t, rfl⟩ := r; exact .str x t, by simp⟩
  | _, _, _, .lst (a := a) h t, r => by
    cases r
    obtain ⟨_, its, n, rv, ho⟩ := (show ObjOk X.prog X.w H z.heap a (.lst _) from J.hok a _ h)
    obtain ⟨as, h1, h2⟩ := RpAll.reads J hs t rv
    exact ⟨a :: as, Reads.list ho rfl rfl h1, fun q => (List.mem_cons.mp q).elim (fun e => by rw [← e, hs] at h; cases h) h2⟩
  | _, _, _, .tup (a := a) h t, r => by
    cases r
    obtain ⟨_, its, rv, o, ho, hc, n, hd⟩ := (show ObjOk X.prog X.w H z.heap a (.tup _) from J.hok a _ h)
    obtain ⟨as, h1, h2⟩ := RpAll.reads J hs t rv
    exact ⟨as, Reads.tuple ho hc hd h1, h2⟩
  | _, _, _, .dct (a := a) h, r => by
    cases r
    obtain ⟨_, _, vs, rel, dd⟩ := dk_of J.hok h
    refine ⟨[a], PyProof.V.reads_dictOf (enc := encK) (fun k key e => encK_reads k key e) dd (pairs_readK rel), fun q => ?_⟩
    rw [List.mem_singleton] at q
    rw [← q, hs] at h
    cases h
theorem RpAll.reads (J : Inv X pn σ H z) (hs : H sysModules = none) : ∀ {vs : List V} {ds : List PyData} {us : List Value}, RpAll H vs ds → Vals vs us → ∃ as, ReadsAll z.heap us ds as ∧ sysModules ∉ as
  | _, _, _, .nil, r => by
    cases r
    exact ⟨[], .nil, by simp⟩
  | _, _, _, .cons h t, r => by
    cases r with
    | cons r1 r2 =>
      obtain ⟨as, h1, h2⟩ := Rp.reads J hs h r1
      obtain ⟨bs, h3, h4⟩ := RpAll.reads J hs t r2
      exact ⟨as ++ bs, .cons h1 h3, fun q => (List.mem_append.mp q).elim h2 h4⟩
end
/-- repr(x) -/
def rRepr : List V → Hp → VK → Prop := fun vs H Q => ∃ v d, vs = [v] ∧ Rp H v d ∧ d.showable = true ∧ d.depth ≤ 60 ∧ d.shown.length ≤ sizeLine ∧ Q (.str d.shown) H
theorem cr_repr (hg : X.A.guards = some []) (hu : X.A.units + 64 < cLine) (hk : ∃ o, X.K.lookup sysModules = some o) : CallR X (.builtin "repr") rRepr := by
  intro pn z σ H xs us Q J r h
  obtain ⟨v, d, rfl, rp, sh, dp, sz, q⟩ := h
  obtain ⟨u, rfl, ru⟩ := vals1 r
  have hs : H sysModules = none := by
    obtain ⟨o, ho⟩ := hk
    exact (J.bs sysModules o (J.ok.mod.kin _ _ ho)).2
  have fin : ∀ t, EP X pn σ Q (.str d.shown t) { z with toks := z.toks + 1 } := fun t => ⟨.str d.shown, H, J.tok _, ⟨t, rfl⟩, q⟩
  have big : ∀ a, u = .ref a → wpAny (model X.prog X.w) X.A (call (.builtin "repr") [u]) (EP X pn σ Q) X.xe z := fun a e => by
    obtain ⟨as, rd, ns⟩ := Rp.reads J hs rp ru
    subst e
    exact PySem.repr_of_reads' rd sh (fun _ => ns) hg (by omega) (fun _ _ e => e) (fun h' u tk kp => ⟨.str d.shown, H, J.kept (t' := tk) kp, ⟨u, rfl⟩, q⟩) sz
  cases rp with
  | non =>
    cases ru
    exact PySem.P.repr_of_none (fin _)
  | bl b =>
    cases ru
    exact PySem.P.repr_of_bool (fin _)
  | int i =>
    obtain ⟨t, rfl⟩ := ru
    exact PySem.P.repr_of_int (of_decide_eq_true (by simpa [PyData.showable] using sh)) (fin _)
  | str x =>
    obtain ⟨t, rfl⟩ := ru
    exact PySem.P.repr_of_str (fin _) sz
  | lst h t => exact big _ ru
  | tup h t => exact big _ ru
  | dct h => exact big _ ru
end
end CR
set_option maxRecDepth 100000
set_option maxHeartbeats 4000000
/-! Cycleready: what the walk asks of the text as the top has left it. -/
namespace CR
open PySem PySem.Spec PyProof.Rows L2 Evl
def states : List Str := ["new", "running", "done", "ready", "failed"]
abbrev FunT (K : PySem.W.Frag) (f : Addr) (x qual : Str) (st : Stmt) (kws : List (Str × V) := []) : Prop := ∃ fd, FunD K x qual (defArgs st) (defBody st) (defScope st) [] kws f fd
structure Txt (K : PySem.W.Frag) (mg : Str → Option Value) : Prop where
  f_is_name : FunT K (aF K "is_name") "is_name" "is_name" (top 14)
  g_is_name : mg "is_name" = some (.ref (aF K "is_name"))
  k_is_name : PySem.W.keepIn K (.ref (aF K "is_name")) = true
  f_is_integer : FunT K (aF K "is_integer") "is_integer" "is_integer" (top 15)
  g_is_integer : mg "is_integer" = some (.ref (aF K "is_integer"))
  k_is_integer : PySem.W.keepIn K (.ref (aF K "is_integer")) = true
  f_want_names : FunT K (aF K "want_names") "want_names" "want_names" (top 18)
  g_want_names : mg "want_names" = some (.ref (aF K "want_names"))
  k_want_names : PySem.W.keepIn K (.ref (aF K "want_names")) = true
  f_are_modules : FunT K (aF K "are_modules") "are_modules" "are_modules" (top 28)
  g_are_modules : mg "are_modules" = some (.ref (aF K "are_modules"))
  k_are_modules : PySem.W.keepIn K (.ref (aF K "are_modules")) = true
  f_N_init : FunT K (aM K "Needs" "__init__") "__init__" "Needs.__init__" (inClass (top 19) 0)
  f_N_clone : FunT K (aM K "Needs" "clone") "clone" "Needs.clone" (inClass (top 19) 6)
  m_Needs_clone : Meth K (aF K "Needs") "clone" (aM K "Needs" "clone")
  f_N_pairs : FunT K (aM K "Needs" "pairs") "pairs" "Needs.pairs" (inClass (top 19) 7)
  m_Needs_pairs : Meth K (aF K "Needs") "pairs" (aM K "Needs" "pairs")
  f_N_record : FunT K (aM K "Needs" "record") "record" "Needs.record" (inClass (top 19) 8)
  m_Needs_record : Meth K (aF K "Needs") "record" (aM K "Needs" "record")
  f_N_targets : FunT K (aM K "Needs" "targets") "targets" "Needs.targets" (inClass (top 19) 9)
  m_Needs_targets : Meth K (aF K "Needs") "targets" (aM K "Needs" "targets")
  f_N_sources : FunT K (aM K "Needs" "sources") "sources" "Needs.sources" (inClass (top 19) 10)
  m_Needs_sources : Meth K (aF K "Needs") "sources" (aM K "Needs" "sources")
  f_N_delete : FunT K (aM K "Needs" "delete") "delete" "Needs.delete" (inClass (top 19) 11)
  m_Needs_delete : Meth K (aF K "Needs") "delete" (aM K "Needs" "delete")
  f_N_delete_all : FunT K (aM K "Needs" "delete_all") "delete_all" "Needs.delete_all" (inClass (top 19) 12)
  m_Needs_delete_all : Meth K (aF K "Needs") "delete_all" (aM K "Needs" "delete_all")
  f_N_paths_from : FunT K (aM K "Needs" "paths_from") "paths_from" "Needs.paths_from" (inClass (top 19) 13)
  m_Needs_paths_from : Meth K (aF K "Needs") "paths_from" (aM K "Needs" "paths_from")
  f_N_depends : FunT K (aM K "Needs" "depends") "depends" "Needs.depends" (inClass (top 19) 14)
  m_Needs_depends : Meth K (aF K "Needs") "depends" (aM K "Needs" "depends")
  f_N_closure : FunT K (aM K "Needs" "closure") "closure" "Needs.closure" (inClass (top 19) 15)
  m_Needs_closure : Meth K (aF K "Needs") "closure" (aM K "Needs" "closure")
  f_R_init : FunT K (aM K "Registry" "__init__") "__init__" "Registry.__init__" (inClass (top 29) 1)
  f_R_names : FunT K (aM K "Registry" "names") "names" "Registry.names" (inClass (top 29) 7)
  m_Registry_names : Meth K (aF K "Registry") "names" (aM K "Registry" "names")
  f_R_want_module : FunT K (aM K "Registry" "want_module") "want_module" "Registry.want_module" (inClass (top 29) 8)
  m_Registry_want_module : Meth K (aF K "Registry") "want_module" (aM K "Registry" "want_module")
  f_R_want_state : FunT K (aM K "Registry" "want_state") "want_state" "Registry.want_state" (inClass (top 29) 9)
  m_Registry_want_state : Meth K (aF K "Registry") "want_state" (aM K "Registry" "want_state")
  f_R_want_loose : FunT K (aM K "Registry" "want_loose") "want_loose" "Registry.want_loose" (inClass (top 29) 10)
  m_Registry_want_loose : Meth K (aF K "Registry") "want_loose" (aM K "Registry" "want_loose")
  f_R_state_of : FunT K (aM K "Registry" "state_of") "state_of" "Registry.state_of" (inClass (top 29) 11)
  m_Registry_state_of : Meth K (aF K "Registry") "state_of" (aM K "Registry" "state_of")
  f_R_in_state : FunT K (aM K "Registry" "in_state") "in_state" "Registry.in_state" (inClass (top 29) 12)
  m_Registry_in_state : Meth K (aF K "Registry") "in_state" (aM K "Registry" "in_state")
  f_R_needs : FunT K (aM K "Registry" "needs") "needs" "Registry.needs" (inClass (top 29) 13)
  m_Registry_needs : Meth K (aF K "Registry") "needs" (aM K "Registry" "needs")
  f_R_recorded : FunT K (aM K "Registry" "recorded") "recorded" "Registry.recorded" (inClass (top 29) 14)
  m_Registry_recorded : Meth K (aF K "Registry") "recorded" (aM K "Registry" "recorded")
  f_R_early : FunT K (aM K "Registry" "early") "early" "Registry.early" (inClass (top 29) 15)
  m_Registry_early : Meth K (aF K "Registry") "early" (aM K "Registry" "early")
  f_R_want_request : FunT K (aM K "Registry" "want_request") "want_request" "Registry.want_request" (inClass (top 29) 16)
  m_Registry_want_request : Meth K (aF K "Registry") "want_request" (aM K "Registry" "want_request")
  f_R_request : FunT K (aM K "Registry" "request") "request" "Registry.request" (inClass (top 29) 17)
  m_Registry_request : Meth K (aF K "Registry") "request" (aM K "Registry" "request")
  f_R_is_early : FunT K (aM K "Registry" "is_early") "is_early" "Registry.is_early" (inClass (top 29) 18)
  m_Registry_is_early : Meth K (aF K "Registry") "is_early" (aM K "Registry" "is_early")
  f_R_answer : FunT K (aM K "Registry" "answer") "answer" "Registry.answer" (inClass (top 29) 19)
  m_Registry_answer : Meth K (aF K "Registry") "answer" (aM K "Registry" "answer")
  f_R_access : FunT K (aM K "Registry" "access") "access" "Registry.access" (inClass (top 29) 20)
  m_Registry_access : Meth K (aF K "Registry") "access" (aM K "Registry" "access")
  f_R_export : FunT K (aM K "Registry" "export") "export" "Registry.export" (inClass (top 29) 21)
  m_Registry_export : Meth K (aF K "Registry") "export" (aM K "Registry" "export")
  f_R_exports : FunT K (aM K "Registry" "exports") "exports" "Registry.exports" (inClass (top 29) 22)
  m_Registry_exports : Meth K (aF K "Registry") "exports" (aM K "Registry" "exports")
  f_R_is_complete : FunT K (aM K "Registry" "is_complete") "is_complete" "Registry.is_complete" (inClass (top 29) 24)
  m_Registry_is_complete : Meth K (aF K "Registry") "is_complete" (aM K "Registry" "is_complete")
  f_R_finish : FunT K (aM K "Registry" "finish") "finish" "Registry.finish" (inClass (top 29) 25)
  m_Registry_finish : Meth K (aF K "Registry") "finish" (aM K "Registry" "finish")
  f_R_forget_early : FunT K (aM K "Registry" "forget_early") "forget_early" "Registry.forget_early" (inClass (top 29) 26)
  m_Registry_forget_early : Meth K (aF K "Registry") "forget_early" (aM K "Registry" "forget_early")
  f_R_mark_failed : FunT K (aM K "Registry" "mark_failed") "mark_failed" "Registry.mark_failed" (inClass (top 29) 27)
  m_Registry_mark_failed : Meth K (aF K "Registry") "mark_failed" (aM K "Registry" "mark_failed")
  f_R_accessors : FunT K (aM K "Registry" "accessors") "accessors" "Registry.accessors" (inClass (top 29) 28)
  m_Registry_accessors : Meth K (aF K "Registry") "accessors" (aM K "Registry" "accessors")
  f_R_fail : FunT K (aM K "Registry" "fail") "fail" "Registry.fail" (inClass (top 29) 29) [("because", .non)]
  m_Registry_fail : Meth K (aF K "Registry") "fail" (aM K "Registry" "fail")
  f_R_chain : FunT K (aM K "Registry" "chain") "chain" "Registry.chain" (inClass (top 29) 30)
  m_Registry_chain : Meth K (aF K "Registry") "chain" (aM K "Registry" "chain")
  f_R_is_held : FunT K (aM K "Registry" "is_held") "is_held" "Registry.is_held" (inClass (top 29) 31)
  m_Registry_is_held : Meth K (aF K "Registry") "is_held" (aM K "Registry" "is_held")
  f_R_release : FunT K (aM K "Registry" "release") "release" "Registry.release" (inClass (top 29) 32)
  m_Registry_release : Meth K (aF K "Registry") "release" (aM K "Registry" "release")
  f_R_retry : FunT K (aM K "Registry" "retry") "retry" "Registry.retry" (inClass (top 29) 33)
  m_Registry_retry : Meth K (aF K "Registry") "retry" (aM K "Registry" "retry")
  f_R_unload : FunT K (aM K "Registry" "unload") "unload" "Registry.unload" (inClass (top 29) 34)
  m_Registry_unload : Meth K (aF K "Registry") "unload" (aM K "Registry" "unload")
  f_l_pot : FunT K (aF K "_law_pot") "_law_pot" "_law_pot" (top 31)
  g__law_pot : mg "_law_pot" = some (.ref (aF K "_law_pot"))
  k__law_pot : PySem.W.keepIn K (.ref (aF K "_law_pot")) = true
  f_l_draw : FunT K (aF K "_law_draw") "_law_draw" "_law_draw" (top 32)
  g__law_draw : mg "_law_draw" = some (.ref (aF K "_law_draw"))
  k__law_draw : PySem.W.keepIn K (.ref (aF K "_law_draw")) = true
  f_l_choice : FunT K (aF K "_law_choice") "_law_choice" "_law_choice" (top 33)
  g__law_choice : mg "_law_choice" = some (.ref (aF K "_law_choice"))
  k__law_choice : PySem.W.keepIn K (.ref (aF K "_law_choice")) = true
  f_l_word : FunT K (aF K "_law_word") "_law_word" "_law_word" (top 34)
  g__law_word : mg "_law_word" = some (.ref (aF K "_law_word"))
  k__law_word : PySem.W.keepIn K (.ref (aF K "_law_word")) = true
  f_l_words : FunT K (aF K "_law_words") "_law_words" "_law_words" (top 35)
  g__law_words : mg "_law_words" = some (.ref (aF K "_law_words"))
  k__law_words : PySem.W.keepIn K (.ref (aF K "_law_words")) = true
  f_l_reach : FunT K (aF K "_law_reach") "_law_reach" "_law_reach" (top 36)
  g__law_reach : mg "_law_reach" = some (.ref (aF K "_law_reach"))
  k__law_reach : PySem.W.keepIn K (.ref (aF K "_law_reach")) = true
  f_l_answer : FunT K (aF K "_law_answer") "_law_answer" "_law_answer" (top 37)
  g__law_answer : mg "_law_answer" = some (.ref (aF K "_law_answer"))
  k__law_answer : PySem.W.keepIn K (.ref (aF K "_law_answer")) = true
  f_l_finished : FunT K (aF K "_law_finished") "_law_finished" "_law_finished" (top 38)
  g__law_finished : mg "_law_finished" = some (.ref (aF K "_law_finished"))
  k__law_finished : PySem.W.keepIn K (.ref (aF K "_law_finished")) = true
  f_l_down : FunT K (aF K "_law_down") "_law_down" "_law_down" (top 39)
  g__law_down : mg "_law_down" = some (.ref (aF K "_law_down"))
  k__law_down : PySem.W.keepIn K (.ref (aF K "_law_down")) = true
  f_l_failed : FunT K (aF K "_law_failed") "_law_failed" "_law_failed" (top 40)
  g__law_failed : mg "_law_failed" = some (.ref (aF K "_law_failed"))
  k__law_failed : PySem.W.keepIn K (.ref (aF K "_law_failed")) = true
  f_l_released : FunT K (aF K "_law_released") "_law_released" "_law_released" (top 41)
  g__law_released : mg "_law_released" = some (.ref (aF K "_law_released"))
  k__law_released : PySem.W.keepIn K (.ref (aF K "_law_released")) = true
  f_l_empty : FunT K (aF K "_law_empty") "_law_empty" "_law_empty" (top 42)
  g__law_empty : mg "_law_empty" = some (.ref (aF K "_law_empty"))
  k__law_empty : PySem.W.keepIn K (.ref (aF K "_law_empty")) = true
  f_l_in : FunT K (aF K "_law_in") "_law_in" "_law_in" (top 43)
  g__law_in : mg "_law_in" = some (.ref (aF K "_law_in"))
  k__law_in : PySem.W.keepIn K (.ref (aF K "_law_in")) = true
  f_l_asks : FunT K (aF K "_law_asks") "_law_asks" "_law_asks" (top 44)
  g__law_asks : mg "_law_asks" = some (.ref (aF K "_law_asks"))
  k__law_asks : PySem.W.keepIn K (.ref (aF K "_law_asks")) = true
  f_l_accesses : FunT K (aF K "_law_accesses") "_law_accesses" "_law_accesses" (top 45)
  g__law_accesses : mg "_law_accesses" = some (.ref (aF K "_law_accesses"))
  k__law_accesses : PySem.W.keepIn K (.ref (aF K "_law_accesses")) = true
  f_l_unloaded : FunT K (aF K "_law_unloaded") "_law_unloaded" "_law_unloaded" (top 46)
  g__law_unloaded : mg "_law_unloaded" = some (.ref (aF K "_law_unloaded"))
  k__law_unloaded : PySem.W.keepIn K (.ref (aF K "_law_unloaded")) = true
  f_l_retried : FunT K (aF K "_law_retried") "_law_retried" "_law_retried" (top 47)
  g__law_retried : mg "_law_retried" = some (.ref (aF K "_law_retried"))
  k__law_retried : PySem.W.keepIn K (.ref (aF K "_law_retried")) = true
  f_l_can_retry : FunT K (aF K "_law_can_retry") "_law_can_retry" "_law_can_retry" (top 48)
  g__law_can_retry : mg "_law_can_retry" = some (.ref (aF K "_law_can_retry"))
  k__law_can_retry : PySem.W.keepIn K (.ref (aF K "_law_can_retry")) = true
  f_l_row : FunT K (aF K "_law_row") "_law_row" "_law_row" (top 49)
  g__law_row : mg "_law_row" = some (.ref (aF K "_law_row"))
  k__law_row : PySem.W.keepIn K (.ref (aF K "_law_row")) = true
  f_l_done : FunT K (aF K "_law_done") "_law_done" "_law_done" (top 50)
  g__law_done : mg "_law_done" = some (.ref (aF K "_law_done"))
  k__law_done : PySem.W.keepIn K (.ref (aF K "_law_done")) = true
  f_l_applied : FunT K (aF K "_law_applied") "_law_applied" "_law_applied" (top 51)
  g__law_applied : mg "_law_applied" = some (.ref (aF K "_law_applied"))
  k__law_applied : PySem.W.keepIn K (.ref (aF K "_law_applied")) = true
  f_l_step : FunT K (aF K "_law_step") "_law_step" "_law_step" (top 52)
  g__law_step : mg "_law_step" = some (.ref (aF K "_law_step"))
  k__law_step : PySem.W.keepIn K (.ref (aF K "_law_step")) = true
  f_l_due : FunT K (aF K "_law_due") "_law_due" "_law_due" (top 53)
  g__law_due : mg "_law_due" = some (.ref (aF K "_law_due"))
  k__law_due : PySem.W.keepIn K (.ref (aF K "_law_due")) = true
  f_l_shown : FunT K (aF K "_law_shown") "_law_shown" "_law_shown" (top 54)
  g__law_shown : mg "_law_shown" = some (.ref (aF K "_law_shown"))
  k__law_shown : PySem.W.keepIn K (.ref (aF K "_law_shown")) = true
  f_l_answers_right : FunT K (aF K "_law_answers_right") "_law_answers_right" "_law_answers_right" (top 55)
  g__law_answers_right : mg "_law_answers_right" = some (.ref (aF K "_law_answers_right"))
  k__law_answers_right : PySem.W.keepIn K (.ref (aF K "_law_answers_right")) = true
  f_l_spoil : FunT K (aF K "_law_spoil") "_law_spoil" "_law_spoil" (top 56)
  g__law_spoil : mg "_law_spoil" = some (.ref (aF K "_law_spoil"))
  k__law_spoil : PySem.W.keepIn K (.ref (aF K "_law_spoil")) = true
  f_law : FunT K (aF K "law") "law" "law" (top 57)
  g_law : mg "law" = some (.ref (aF K "law"))
  k_law : PySem.W.keepIn K (.ref (aF K "law")) = true
  g_Needs : mg "Needs" = some (.ref (aF K "Needs"))
  cl_Needs : Cls K (aF K "Needs")
  mk_Needs : Mk K (aF K "Needs") (aM K "Needs" "__init__")
  g_Registry : mg "Registry" = some (.ref (aF K "Registry"))
  cl_Registry : Cls K (aF K "Registry")
  mk_Registry : Mk K (aF K "Registry") (aM K "Registry" "__init__")
  n_own_targets : NoAttr K (aF K "Needs") "own_targets"
  n_own_states : NoAttr K (aF K "Registry") "own_states"
  n_own_exports : NoAttr K (aF K "Registry") "own_exports"
  n_own_needs : NoAttr K (aF K "Registry") "own_needs"
  n_own_recorded : NoAttr K (aF K "Registry") "own_recorded"
  n_own_early : NoAttr K (aF K "Registry") "own_early"
  n_own_held : NoAttr K (aF K "Registry") "own_held"
  n_own_chains : NoAttr K (aF K "Registry") "own_chains"
  c_MOST_LETTERS : ∃ t, mg "MOST_LETTERS" = some (.int 8 t)
  c_MOST_MODULES : ∃ t, mg "MOST_MODULES" = some (.int 40 t)
  c_LETTERS : ∃ t, mg "LETTERS" = some (.str "abcdefghijklmnopqrstuvwxyz" t)
  c_NEW : ∃ t, mg "NEW" = some (.str "new" t)
  c_RUNNING : ∃ t, mg "RUNNING" = some (.str "running" t)
  c_DONE : ∃ t, mg "DONE" = some (.str "done" t)
  c_READY : ∃ t, mg "READY" = some (.str "ready" t)
  c_FAILED : ∃ t, mg "FAILED" = some (.str "failed" t)
  c_EARLY : ∃ t, mg "EARLY" = some (.str "early" t)
  c_WAIT : ∃ t, mg "WAIT" = some (.str "wait" t)
  b_len : mg "len" = none
  b_isinstance : mg "isinstance" = none
  b_all : mg "all" = none
  b_any : mg "any" = none
  b_sorted : mg "sorted" = none
  b_list : mg "list" = none
  b_tuple : mg "tuple" = none
  b_dict : mg "dict" = none
  b_abs : mg "abs" = none
  b_max : mg "max" = none
  b_min : mg "min" = none
  b_divmod : mg "divmod" = none
  b_repr : mg "repr" = none
  b_set : mg "set" = none
  b_range : mg "range" = none
  b_str : mg "str" = none
  b_int : mg "int" = none
  b_bool : mg "bool" = none
  f_R_is_state : FunT K (He5.wf K (aF K "Registry") "staticmethod" "is_state") "is_state" "Registry.is_state" (inClass (top 29) 6)
  sm_is_state : SInst K (aF K "Registry") "is_state" (aM K "Registry" "is_state") (He5.wf K (aF K "Registry") "staticmethod" "is_state")
  s_STATES : ∃ (a : Addr) (mc u : Value), ClX.CRead K (aF K "Registry") mc ∧ ClX.CVal K (aF K "Registry") mc "STATES" (.ref a) u ∧ ∀ H : Hp, SqT K H a (states.map .str)
  sysm : ∃ o, K.lookup sysModules = some o
end CR
set_option maxRecDepth 100000
set_option maxHeartbeats 4000000
/-! Cycleready: names. -/
namespace CR
open PySem PySem.Spec PyProof.Rows L2 Evl
local macro_rules | `(tactic| walk_at "red") => `(tactic| dsimp only [tNext, tSeq, tRet, tRetN, tDrop, tIfS, tAsg, tPar, tTest, tB, tNot, tAnd, tOr, tCB, tCons, tNil, tCall, tOp, tUn, tVar, tC, tIf])
local macro_rules | `(tactic| walk_at "nrm") => `(tactic| dsimp only [gName, tNext])
def letters : Str := "abcdefghijklmnopqrstuvwxyz"
def okName (x : Str) : Prop := 1 ≤ x.length ∧ x.length ≤ 8 ∧ ∀ c ∈ x.cps.toList, c ∈ letters.cps.toList

section
variable {P : Program} {w : World} {K : PySem.W.Frag} {mg : Str → Option Value} {base : Heap}

def sp_is_name (K : PySem.W.Frag) : Sp := Pm (fun x : Str => [.str x]) fun x H Q => okName x ∧ ∀ H', Ex H H' → Q (.bl true) H'
theorem sp_is_name_len (K : PySem.W.Frag) : ∀ vs H Q E, sp_is_name K vs H Q E → vs.length = 1 := Pm.len fun _ => rfl
abbrev s_is_name : Stmt := (top 14)
theorem sc_is_name : FnScope ["value", "letter"] ["value"] (defScope s_is_name) := ⟨rfl, rfl, rfl, by decide +kernel, rfl, by decide +kernel, by decide +kernel⟩
theorem ok_is_name (T : Txt K mg) : Okd P w K mg base 1 (aF K "is_name") ["value"] (sp_is_name K) := by
  obtain ⟨fd, F⟩ := T.f_is_name
  refine Okd.mk F sc_is_name (sp_is_name_len K) (fun _ _ _ _ _ _ us hl => match us, hl with | [_], _ => rfl) (fun cdv A outer s H vs Q E hr h => ?_)
  have hu := hu_of hr
  refine ⟨_, (pss_cons (ps_if (PW.pt (pw_or (pt_not (pt_val (pe_callB (call_isiK (K := K) rfl) (by rfl) T.b_isinstance (by decide +kernel) (pa_cons (pv 0) (pa_cons (pe_bltn rfl T.b_str (by decide +kernel) (v := .ty "str") rfl) pa_nil))))) (pw_or1 (pt_not (pt_chain op_le op_le pe_int (pe_callB call_len_str (by rfl) T.b_len (by decide +kernel) (pa_cons (pv 0) pa_nil)) (pe_gint rfl T.c_MOST_LETTERS)))))) (pss_one (ps_ret pe_bl)) pss_nil)
    (pss_one (ps_ret (pe_callB (cr_allK (K := K) rfl rfl) (by rfl) T.b_all (by decide +kernel) (pa_cons (pe_lc (own := [("letter", 1)]) rfl sc_is_name.nd (pi_str (pv 0)) (blkOk_by (own := [("letter", 1)]) (N := ["value", "letter"]) (sc := defScope s_is_name) (by decide +kernel)) (fun _ _ _ _ _ => (pg_name (i := 1) sc_is_name.nd rfl (Or.inl rfl) (Or.inr rfl))) (fun _ _ _ _ _ => pts_nil) (fun _ _ _ _ _ => (pe_cmpR op_in_sign (pv 1) (pe_gstr rfl T.c_LETTERS) (by rfl)))) pa_nil))))), ?_⟩
  obtain ⟨x, rfl, ⟨h1, h8, hc⟩, k⟩ := h
  -- not isinstance(value, str) or not 1 <= len(value) <= 8
  refine ⟨_, rfl, _, _, _, _, _, rfl, .ty _, .base (.str x), kit_str, true, rfl, ?_⟩
  refine it_f (by rfl) ?_
  refine ⟨_, rfl, x, rfl, sz_of (by omega), 1, x.length, rfl, rfl, true, congrArg V.bl (decide_eq_true (by omega)), ?_⟩
  refine it_t (by rfl) ⟨_, _, rfl, rfl, true, congrArg V.bl (decide_eq_true (by omega)), ?_⟩
  refine it_f (by rfl) ?_
  -- all([..])
  have hz : x.cps.size = x.length := rfl
  walk_at "red"
  refine lcW (J := Its x) (H1 := H) (fun R r => ⟨_, rfl, x, rfl, r⟩) walk_str (show x.cps.size < 100000 by omega) (fun _ _ => True.intro) (fun _ => true) (fun _ => .bl true) (fun i v H1 H2 hi e1 y => ?_) (fun p H' hp e h => ?_)
  · obtain ⟨rfl, c, hc1, rfl⟩ := y
    have hm : c ∈ x.cps.toList := by
      obtain ⟨hl, e⟩ := Array.getElem?_eq_some_iff.mp hc1
      rw [← e]
      exact Array.getElem_mem_toList hl
    refine ⟨_, Ex.refl _, fun Q q => q, rfl, fun H1 e Q q => q H1 (Ex.refl _), fun _ H1 e Q q => ⟨_, rfl, c, letters, rfl, rfl, ?_⟩⟩
    rw [decide_eq_true (hc c hm)]
    exact q H1 (Ex.refl _)
  · refine ⟨p, List.replicate x.cps.size true, rfl, sq_of (h.trans ?_), ?_⟩
    · congr 2
      unfold given
      rw [List.filter_eq_self.mpr fun _ _ => rfl, List.map_const', List.map_replicate, List.length_range]
    · rw [show (List.replicate x.cps.size true).all id = true by simp]
      exact k H' e

def sp_is_integer (K : PySem.W.Frag) : Sp := Pm (fun i : Int => [.int i]) fun i H Q => ∀ H', Ex H H' → Q (.bl true) H'
theorem sp_is_integer_len (K : PySem.W.Frag) : ∀ vs H Q E, sp_is_integer K vs H Q E → vs.length = 1 := Pm.len fun _ => rfl
abbrev s_is_integer : Stmt := (top 15)
theorem sc_is_integer : FnScope ["value"] ["value"] (defScope s_is_integer) := ⟨rfl, rfl, rfl, by decide +kernel, rfl, by decide +kernel, by decide +kernel⟩
theorem ok_is_integer (T : Txt K mg) : Okd P w K mg base 1 (aF K "is_integer") ["value"] (sp_is_integer K) := by
  obtain ⟨fd, F⟩ := T.f_is_integer
  refine Okd.mk F sc_is_integer (sp_is_integer_len K) (fun _ _ _ _ _ _ us hl => match us, hl with | [_], _ => rfl) (fun cdv A outer s H vs Q E hr h => ?_)
  have hu := hu_of hr
  refine ⟨_, (pss_one (ps_ret (pe_and (pe_callB (call_isiK (K := K) rfl) (by rfl) T.b_isinstance (by decide +kernel) (pa_cons (pv 0) (pa_cons (pe_bltn rfl T.b_int (by decide +kernel) (v := .ty "int") rfl) pa_nil))) (pe_one (pe_not (pe_callB (call_isiK (K := K) rfl) (by rfl) T.b_isinstance (by decide +kernel) (pa_cons (pv 0) (pa_cons (pe_bltn rfl T.b_bool (by decide +kernel) (v := .ty "bool") rfl) pa_nil)))))))), ?_⟩
  obtain ⟨i, rfl, k⟩ := h
  exact ⟨_, rfl, _, _, _, _, _, rfl, .ty _, .base (.int i), rfl, true, rfl, _, rfl, _, _, _, _, _, rfl, .ty _, .base (.int i), rfl, false, rfl, k _ (Ex.refl _)⟩

def sp_want_names (K : PySem.W.Frag) : Sp := Pm (fun x : Addr × List Str => [.ref x.1]) fun x H Q => SqL K H x.1 (x.2.map .str) ∧ (∀ n ∈ x.2, okName n) ∧ ∀ H', Ex H H' → Q .non H'
theorem sp_want_names_len (K : PySem.W.Frag) : ∀ vs H Q E, sp_want_names K vs H Q E → vs.length = 1 := Pm.len fun _ => rfl
abbrev s_want_names : Stmt := (top 18)
theorem sc_want_names : FnScope ["values", "value"] ["values"] (defScope s_want_names) := ⟨rfl, rfl, rfl, by decide +kernel, rfl, by decide +kernel, by decide +kernel⟩
theorem ok_want_names (T : Txt K mg) : Okd P w K mg base 2 (aF K "want_names") ["values"] (sp_want_names K) := by
  obtain ⟨fd, F⟩ := T.f_want_names
  refine Okd.mk F sc_want_names (sp_want_names_len K) (fun _ _ _ _ _ _ us hl => match us, hl with | [_], _ => rfl) (fun cdv A outer s H vs Q E hr h => ?_)
  have hu := hu_of hr
  refine ⟨_, (pss_one (ps_for PassesOwn.never rfl (pi_listK (K := K) rfl (pv 0)) (pg_name (i := 1) sc_want_names.nd rfl (Or.inl rfl) (Or.inl rfl))
    (pss_one (ps_if (pt_not (pt_val (pe_callO (ok_is_name (K := K) T) (hr.mono (by decide)) rfl T.g_is_name T.k_is_name (pa_cons (pv 1) pa_nil)))) (pss_one ps_never) pss_nil)))), ?_⟩
  obtain ⟨⟨a, xs⟩, rfl, hx, hok, k⟩ := h
  refine s_forLn (ev_var rfl) hx (fun i σ' H' => Ex H H' ∧ ∃ y, σ' = [some (.ref a), y]) (fun H1 e1 => ⟨e1, _, rfl⟩) (fun i σ' H' _ p => ex_l p.1 hx) (fun i x σ' H' hi p => ?_) (fun σ' H' p => k _ p.1)
  obtain ⟨e1, y, rfl⟩ := p
  obtain ⟨z, hz, rfl⟩ := at_map hi
  refine ⟨_, rfl, z, rfl, hok z (List.mem_of_getElem? hz), fun H1 e2 => ⟨true, rfl, ?_⟩⟩
  exact it_f (by rfl) ⟨e1.trans e2, _, rfl⟩

end
end CR
set_option maxRecDepth 100000
set_option maxHeartbeats 4000000
/-! Cycleready: the graph's methods. -/
namespace CR
open PySem PySem.Spec PyProof.Rows L2 Evl
local macro_rules | `(tactic| walk_at "red") => `(tactic| dsimp only [tNext, tSeq, tRet, tRetN, tDrop, tIfS, tAsg, tPar, tTest, tB, tNot, tAnd, tOr, tCB, tCons, tNil, tCall, tOp, tUn, tVar, tC, tIf])
local macro_rules | `(tactic| walk_at "nrm") => `(tactic| dsimp only [gName, tNext])
section
variable {P : Program} {w : World} {K : PySem.W.Frag} {mg : Str → Option Value} {base : Heap}

def sp_N_init (K : PySem.W.Frag) : Sp := Pm (fun x : Addr × Addr => [.ref x.1]) fun x H Q => H x.1 = some (.ins (aF K "Needs") x.2 []) ∧
  ∀ d, H d = none → Q .non (upd (upd H d (.dK [])) x.1 (.ins (aF K "Needs") x.2 [("own_targets", .ref d)]))
theorem sp_N_init_len (K : PySem.W.Frag) : ∀ vs H Q E, sp_N_init K vs H Q E → vs.length = 1 := Pm.len fun _ => rfl
abbrev s_N_init : Stmt := (inClass (top 19) 0)
theorem sc_N_init : FnScope ["self"] ["self"] (defScope s_N_init) := ⟨rfl, rfl, rfl, by decide +kernel, rfl, by decide +kernel, by decide +kernel⟩
theorem ok_N_init (T : Txt K mg) : Okd P w K mg base 1 (aM K "Needs" "__init__") ["self"] (sp_N_init K) := by
  obtain ⟨fd, F⟩ := T.f_N_init
  refine Okd.mk F sc_N_init (sp_N_init_len K) (fun _ _ _ _ _ _ us hl => match us, hl with | [_], _ => rfl) (fun cdv A outer s H vs Q E hr h => ?_)
  have hu := hu_of hr
  refine ⟨_, (pss_one (ps_fldK (K := K) rfl (pv 0) pe_dnewK rfl)), ?_⟩
  obtain ⟨⟨a, dx⟩, rfl, ha, k⟩ := h
  exact fun d hd => ⟨_, rfl, a, _, dx, [], rfl, (by rw [upd_ne (ne_of_none ha hd)]; exact ha), T.cl_Needs, T.n_own_targets, by decide, k d hd⟩

def sp_N_targets (K : PySem.W.Frag) : Sp := Pm (fun x : (NL × Graph) × Str => [.ref (x.1.1 .p), .str x.2]) fun x H Q => NAt K x.1.1 x.1.2 H ∧ GOk x.1.2 ∧ (tg x.1.2 x.2).length < 64 ∧
  RetL ((srtS (tg x.1.2 x.2)).map .str) H Q
theorem sp_N_targets_len (K : PySem.W.Frag) : ∀ vs H Q E, sp_N_targets K vs H Q E → vs.length = 2 := Pm.len fun _ => rfl
abbrev s_N_targets : Stmt := (inClass (top 19) 9)
theorem sc_N_targets : FnScope ["self", "name"] ["self", "name"] (defScope s_N_targets) := ⟨rfl, rfl, rfl, by decide +kernel, rfl, by decide +kernel, by decide +kernel⟩
theorem ok_N_targets (T : Txt K mg) : Okd P w K mg base 1 (aM K "Needs" "targets") ["self", "name"] (sp_N_targets K) := by
  obtain ⟨fd, F⟩ := T.f_N_targets
  refine Okd.mk F sc_N_targets (sp_N_targets_len K) (fun _ _ _ _ _ _ us hl => match us, hl with | [_, _], _ => rfl) (fun cdv A outer s H vs Q E hr h => ?_)
  have hu := hu_of hr
  refine ⟨_, (pss_one (ps_ret (pe_ifExp (PW.pt (pw_and (pt_val (pe_callB (call_isiK (K := K) rfl) (by rfl) T.b_isinstance (by decide +kernel) (pa_cons (pv 1) (pa_cons (pe_bltn rfl T.b_str (by decide +kernel) (v := .ty "str") rfl) pa_nil)))) (pw_and1 (pt_cmp (pc_din hu (pv 1) (pe_fldK (K := K) rfl (pv 0) rfl)))))) (pe_callB (call_sortedD rfl) (by rfl) T.b_sorted (by decide +kernel) (pa_cons (pe_dget hu (pe_fldK (K := K) rfl (pv 0) rfl) (pv 1) (fun _ _ => rfl)) pa_nil)) (pe_lst pa_nil)))), ?_⟩
  obtain ⟨⟨⟨ν, g⟩, a⟩, rfl, hN, ok, hz, k⟩ := h
  refine ⟨_, rfl, _, _, _, _, _, rfl, .ty _, .base (.str a), kit_str, true, rfl, ?_⟩
  refine it_t (by rfl) ⟨_, rfl, _, rfl, _, _, _, _, _, rfl, hN.pi, T.cl_Needs, T.n_own_targets, rfl, _, _, rfl, hN.has, ?_⟩
  cases e : lookA g a with
  | none =>
    refine ⟨_, rfl, it_f (by rfl) ⟨by decide, fun p hp => ?_⟩⟩
    have q := k p _ hp (Ex.new hp) upd_same
    rw [tg_none e, srtS_nil] at q
    exact q
  | some ts =>
    rw [tg_look e] at k hz
    refine ⟨_, rfl, it_t (by rfl) ⟨_, rfl, _, _, _, _, _, rfl, hN.pi, T.cl_Needs, T.n_own_targets, rfl, _, rfl, _, _, rfl, hN.get e, ?_⟩⟩
    refine ⟨_, _, ts, rfl, Or.inl (hN.ii e), ?_, hz, fun ys p hp hs hn => ?_⟩
    · exact keys_dU
    · rw [srtS_rule hp hs]
      exact k p _ hn (Ex.new hn) upd_same

def sp_N_pairs (K : PySem.W.Frag) : Sp := Pm (fun x : NL × Graph => [.ref (x.1 .p)]) fun x H Q => NAt K x.1 x.2 H ∧ GOk x.2 ∧ (pairsG x.2).length ≤ 10000 ∧
  ∀ bs p H', Ex H H' → H p = none → bs.map (·.2) = srtP (pairsG x.2) → Prs H' bs → H' p = some (.lst (refsB bs)) → Q (.ref p) H'
theorem sp_N_pairs_len (K : PySem.W.Frag) : ∀ vs H Q E, sp_N_pairs K vs H Q E → vs.length = 1 := Pm.len fun _ => rfl
abbrev s_N_pairs : Stmt := (inClass (top 19) 7)
theorem sc_N_pairs : FnScope ["self", "source", "targets", "target"] ["self"] (defScope s_N_pairs) := ⟨rfl, rfl, rfl, by decide +kernel, rfl, by decide +kernel, by decide +kernel⟩
theorem ok_N_pairs (T : Txt K mg) : Okd P w K mg base 1 (aM K "Needs" "pairs") ["self"] (sp_N_pairs K) := by
  obtain ⟨fd, F⟩ := T.f_N_pairs
  refine Okd.mk F sc_N_pairs (sp_N_pairs_len K) (fun _ _ _ _ _ _ us hl => match us, hl with | [_], _ => rfl) (fun cdv A outer s H vs Q E hr h => ?_)
  have hu := hu_of hr
  refine ⟨_, (pss_one (ps_ret (pe_callB (cr_sortedP2K (K := K) rfl hr.units) (by rfl) T.b_sorted (by decide +kernel) (pa_cons (pe_locks (pe_lock (pe_lc2 (own := [("source", 1), ("targets", 2), ("target", 3)]) (vs1 := [3]) rfl sc_N_pairs.nd (pi_items (pe_fldK (K := K) rfl (pv 0) rfl)) (blkOk_by (own := [("source", 1), ("targets", 2), ("target", 3)]) (N := ["self", "source", "targets", "target"]) (sc := defScope s_N_pairs) (by decide +kernel)) (by decide) (fun _ _ _ _ _ => (pg_tupK (K := K) (n := 2) rfl rfl (pgs_cons (pg_name (i := 1) sc_N_pairs.nd rfl (Or.inl rfl) (Or.inr rfl)) (pgs_cons (pg_name (i := 2) sc_N_pairs.nd rfl (Or.inl rfl) (Or.inr rfl)) pgs_nil)))) (fun _ _ _ _ _ => pts_nil) (fun _ _ _ _ _ => (pi_keys (pv 2))) (fun _ _ _ _ _ => (pg_name (i := 3) sc_N_pairs.nd rfl (Or.inl rfl) (Or.inr rfl))) (fun _ _ _ _ _ => pts_nil) (fun _ _ _ _ _ => (pe_tup (pa_cons (pv 1) (pa_cons (pv 3) pa_nil))))))) pa_nil)))), ?_⟩
  obtain ⟨⟨ν, g⟩, rfl, hN, ok, hz, k⟩ := h
  dsimp only at hN ok hz k
  obtain ⟨l1, l2, l3, l4⟩ := hN.locks ok
  have lv : ∀ q ∈ g, lookA g q.1 = some q.2 := fun q hq => lookA_of ok.nd hq
  refine ⟨inns ν g, lockAll_of _ _ _ l1 l2 fun od => ⟨ν .d, _, (if_neg l3).trans hN.di, True.intro, fun o => ?_⟩⟩
  generalize hHf : upd (frzL (inns ν g) od H) (ν .d) (.frz o (.dK (dG ν g))) = Hf
  have f1 : Hf (ν .d) = some (.frz o (.dK (dG ν g))) := by
    rw [← hHf]
    exact upd_same
  have f2 : ∀ q ∈ g, Hf (ν (.i q.1)) = some (.frz (od (ν (.i q.1))) (.dK (dU q.2))) := fun q hq => by
    have m : ν (.i q.1) ∈ inns ν g := List.mem_map.mpr ⟨q, hq, rfl⟩
    rw [← hHf, upd_ne (ne_mem m l3)]
    show (if _ then _ else _) = _
    rw [if_pos m, hN.ii (lv q hq)]
    rfl
  have f4 : ∀ a, a ∉ inns ν g → a ≠ ν .d → Hf a = H a := fun a h1 h2 => by
    rw [← hHf, upd_ne h2]
    exact if_neg h1
  have f3 : Hf (ν .p) = _ := (f4 _ l4 (ne_of hN.pi hN.di (fun z => nomatch z))).trans hN.pi
  have f5 : ∀ d ∈ inns ν g, Hf d = frzL (inns ν g) od H d := fun d hd => by
    rw [← hHf, upd_ne (ne_mem hd l3)]
  have f6 : ∀ a, Hf a = none → a ∉ inns ν g ∧ a ≠ ν .d := fun a h => by
    refine ⟨fun m => ?_, fun e => ?_⟩
    · obtain ⟨q, hq, rfl⟩ := List.mem_map.mp m
      rw [f2 q hq] at h
      cases h
    · rw [e, f1] at h
      cases h
  refine lc2P (J := Iti (ν .d) o (dG ν g)) (H1 := Hf) (fun R r => ⟨_, rfl, _, _, _, _, _, rfl, f3, T.cl_Needs, T.n_own_targets, rfl, _, o, _, rfl, f1, r⟩) walk_items fun D hD =>
    ⟨fun i H' => Ex Hf H' ∧ ∃ bs : List (Addr × Str × Str), H' D = some (.lst (refsB bs)) ∧ bs.map (·.2) = pairsG (g.take i) ∧ Prs H' bs, ⟨Ex.new hD, [], upd_same, rfl, fun b hb => nomatch hb⟩, fun i H' _ p => p.1 _ _ f1, fun i v H1 H2 hi p y => ?_, fun H' p => ?_⟩
  · obtain ⟨e1, bs, hb1, hb2, hb3⟩ := p
    rw [length_dG] at hi
    have hq : g[i]? = some g[i] := by simp [hi]
    generalize g[i] = q at hq
    have hm : q ∈ g := List.mem_of_getElem? hq
    obtain ⟨T', rfl, hT, rfl⟩ := pair_at (getG hq) y
    have e2 : Ex H1 (upd H1 T' (.tup [kV (Sum.inr q.1), .ref (ν (.i q.1))])) := Ex.new hT
    refine ⟨T', _, rfl, st_of upd_same, rfl, _, _, rfl, _, _, rfl, rfl, rfl, ?_⟩
    refine ⟨_, rfl, _, _, rfl, Or.inl ⟨_, (e1.trans e2) _ _ (f2 q hm), ?_⟩⟩
    refine turns_it (B := bodyLc _ _ _ _ _ D) walk_keys (fun j H' => Ex Hf H' ∧ ∃ cs : List (Addr × Str × Str), H' D = some (.lst (refsB cs)) ∧ cs.map (·.2) = pairsG (g.take i) ++ (q.2.take j).map (fun t => (q.1, t)) ∧ Prs H' cs) ⟨e1.trans e2, bs, e2 _ _ hb1, by rw [hb2]; simp, hb3.ex e2⟩
      (fun j H' _ p => p.1 _ _ (f2 q hm)) (fun j v H3 H4 hj p y => ?_) (fun H' p => ?_)
    · obtain ⟨e3, cs, hc1, hc2, hc3⟩ := p
      obtain ⟨rfl, k', v', hk, rfl⟩ := y
      rw [length_dU] at hj
      have ht : q.2[j]? = some q.2[j] := by simp [hj]
      generalize q.2[j] = t at ht
      rw [getU ht] at hk
      cases hk
      have hlen : cs.length < 100000 := by
        have h1 : cs.length = (pairsG (g.take i) ++ (q.2.take j).map (fun t => (q.1, t))).length := by rw [← hc2, List.length_map]
        have h2 := pairsG_len (g := g) (i + 1)
        rw [pairsG_take hq, List.length_append, List.length_map] at h2
        rw [List.length_append, List.length_map, List.length_take] at h1
        have : (pairsG g).length ≤ 10000 := hz
        omega
      refine ⟨rfl, ?_⟩
      refine ⟨_, rfl, _, rfl, sz_of (n := 2) (by decide), fun p hp => ⟨_, (Ex.new hp) _ _ hc1, sz_lt (by rw [refsB, List.length_map]; exact hlen), ?_⟩⟩
      refine ⟨Ex.mut (e3.trans (Ex.new hp)) hD, cs ++ [(p, q.1, t)], ?_, ?_, ?_⟩
      · rw [upd_same]
        unfold refsB
        rw [List.map_append]
        rfl
      · rw [List.map_append, hc2, List.take_add_one, ht, List.append_assoc]
        simp
      · refine Prs.mut (xs := refsB cs) (fun b hb => ?_) ((Ex.new hp) _ _ hc1)
        rcases List.mem_append.mp hb with z | z
        · exact (Ex.new hp) _ _ (hc3 b z)
        · rw [List.mem_singleton.mp z]
          exact upd_same
    · obtain ⟨e3, cs, hc1, hc2, hc3⟩ := p
      rw [length_dU, List.take_length] at hc2
      exact ⟨e3, cs, hc1, by rw [hc2, pairsG_take hq], hc3⟩
  · obtain ⟨e1, bs, hb1, hb2, hb3⟩ := p
    rw [length_dG, List.take_length] at hb2
    obtain ⟨d1, d2⟩ := f6 D hD
    refine ⟨e1 _ _ f1, fun d hd => ?_, D, bs, rfl, sq_of ?_, fun b hb => ?_, ?_, fun cs p hp hs hn => ?_⟩
    · rw [upd_ne (ne_mem hd l3), ← f5 d hd]
      obtain ⟨q, hq, rfl⟩ := List.mem_map.mp hd
      rw [f2 q hq]
      exact e1 _ _ (f2 q hq)
    · show (if _ then _ else _) = _
      rw [if_neg d1, upd_ne d2]
      exact hb1
    · have n1 : b.1 ∉ inns ν g := fun m => by
        obtain ⟨q, hq, e⟩ := List.mem_map.mp m
        exact ne_of (e1 _ _ (f2 q hq)) (hb3 b hb) (fun z => nomatch z) e
      show (if _ then _ else _) = _
      rw [if_neg n1, upd_ne (ne_of (hb3 b hb) (e1 _ _ f1) (fun z => nomatch z))]
      exact hb3 b hb
    · rw [← hb2, List.length_map] at hz
      exact hz
    · refine k cs p _ (fun a u ha => ?_) ?_ (hs.trans (by rw [hb2])) (fun b hb => ?_) upd_same
      · have hz : thawL (inns ν g) H (upd H' (ν .d) (.dK (dG ν g))) a = some u := by
          unfold thawL
          by_cases m : a ∈ inns ν g
          · rw [if_pos m]
            exact ha
          · rw [if_neg m]
            by_cases z : a = ν .d
            · rw [z, upd_same]
              rw [z, hN.di] at ha
              exact ha
            · rw [upd_ne z]
              exact e1 _ _ ((f4 a m z).trans ha)
        exact (Ex.new hn) _ _ hz
      · cases hh : H p with
        | none => rfl
        | some u =>
          exfalso
          unfold thawL at hn
          by_cases m : p ∈ inns ν g
          · rw [if_pos m, hh] at hn
            cases hn
          · rw [if_neg m] at hn
            by_cases z : p = ν .d
            · rw [z, upd_same] at hn
              cases hn
            · rw [upd_ne z, e1 _ _ ((f4 p m z).trans hh)] at hn
              cases hn
      · have hb2 : b ∈ bs := hp.mem_iff.mp hb
        have n1 : b.1 ∉ inns ν g := fun m => by
          obtain ⟨q, hq, e⟩ := List.mem_map.mp m
          exact ne_of (e1 _ _ (f2 q hq)) (hb3 b hb2) (fun z => nomatch z) e
        refine (Ex.new hn) _ _ ?_
        show (if _ then _ else _) = _
        rw [if_neg n1, upd_ne (ne_of (hb3 b hb2) (e1 _ _ f1) (fun z => nomatch z))]
        exact hb3 b hb2
end
end CR
set_option maxRecDepth 100000
set_option maxHeartbeats 4000000
/-! Cycleready: the graph's methods, continued. -/
namespace CR
open PySem PySem.Spec PyProof.Rows L2 Evl
local macro_rules | `(tactic| walk_at "red") => `(tactic| dsimp only [tNext, tSeq, tRet, tRetN, tDrop, tIfS, tAsg, tPar, tTest, tB, tNot, tAnd, tOr, tCB, tCons, tNil, tCall, tOp, tUn, tVar, tC, tIf])
local macro_rules | `(tactic| walk_at "nrm") => `(tactic| dsimp only [gName, tNext])
section
variable {P : Program} {w : World} {K : PySem.W.Frag} {mg : Str → Option Value} {base : Heap}

def sp_N_sources (K : PySem.W.Frag) : Sp := Pm (fun x : (NL × Graph) × Str => [.ref (x.1.1 .p), .str x.2]) fun x H Q => NAt K x.1.1 x.1.2 H ∧ GOk x.1.2 ∧ (pairsG x.1.2).length ≤ 10000 ∧
  RetL ((((srtP (pairsG x.1.2)).filter fun q => decide (q.2 = x.2)).map (·.1)).map .str) H Q
theorem sp_N_sources_len (K : PySem.W.Frag) : ∀ vs H Q E, sp_N_sources K vs H Q E → vs.length = 2 := Pm.len fun _ => rfl
abbrev s_N_sources : Stmt := (inClass (top 19) 10)
theorem sc_N_sources : FnScope ["self", "name", "source", "target"] ["self", "name"] (defScope s_N_sources) := ⟨rfl, rfl, rfl, by decide +kernel, rfl, by decide +kernel, by decide +kernel⟩
theorem ok_N_sources (T : Txt K mg) : Okd P w K mg base 2 (aM K "Needs" "sources") ["self", "name"] (sp_N_sources K) := by
  obtain ⟨fd, F⟩ := T.f_N_sources
  refine Okd.mk F sc_N_sources (sp_N_sources_len K) (fun _ _ _ _ _ _ us hl => match us, hl with | [_, _], _ => rfl) (fun cdv A outer s H vs Q E hr h => ?_)
  have hu := hu_of hr
  refine ⟨_, (pss_one (ps_ret (pe_lc (own := [("source", 2), ("target", 3)]) rfl sc_N_sources.nd (pi_listK (K := K) rfl (pe_methO0 (pv 0) T.cl_Needs T.m_Needs_pairs (ok_N_pairs (K := K) T) (hr.mono (by decide)))) (blkOk_by (own := [("source", 2), ("target", 3)]) (N := ["self", "name", "source", "target"]) (sc := defScope s_N_sources) (by decide +kernel)) (fun _ _ _ _ _ => (pg_tupK (K := K) (n := 2) rfl rfl (pgs_cons (pg_name (i := 2) sc_N_sources.nd rfl (Or.inl rfl) (Or.inr rfl)) (pgs_cons (pg_name (i := 3) sc_N_sources.nd rfl (Or.inl rfl) (Or.inr rfl)) pgs_nil)))) (fun _ _ _ _ _ => (pts_one (pt_cmpR op_eq (pv 3) (pv 1) (nomark _)))) (fun _ _ _ _ _ => (pv 2))))), ?_⟩
  obtain ⟨⟨⟨ν, g⟩, a⟩, rfl, hN, ok, hz, k⟩ := h
  dsimp only at hN ok hz k
  refine lcWi (ι := {z : (List (Addr × Str × Str) × Addr) × Hp // Ex H z.2 ∧ z.1.1.map (·.2) = srtP (pairsG g) ∧ Prs z.2 z.1.1 ∧ z.2 z.1.2 = some (.lst (refsB z.1.1))}) (J := fun z => Itl K z.1.1.2) (H1 := fun z => z.1.2) (n := fun z => (refsB z.1.1.1).length)
    (fun z i => (z.1.1.1[i]?.map fun b => decide (b.2.2 = a)).getD false) (fun z i => (z.1.1.1[i]?.map fun b => V.str b.2.1).getD .non)
    (fun R r => ⟨_, rfl, _, _, _, rfl, hN.pi, rfl, (ν, g), rfl, hN, ok, hz, fun bs p H' e hp hs hb hl => ⟨p, rfl, ⟨_, sq_of hl⟩, r ⟨((bs, p), H'), e, hs, hb, hl⟩⟩⟩) (fun z => walk_list) (fun z => ?_) (fun z H' e => sq_of (e _ _ z.2.2.2.2))
    (fun z i x H1 H2 hi e1 y => ?_) (fun z p H' hp e h => ?_)
  · obtain ⟨⟨⟨bs, p⟩, H'⟩, e, hs, hb, hl⟩ := z
    have h1 : (bs.map (·.2)).length = (srtP (pairsG g)).length := congrArg List.length hs
    rw [List.length_map, length_srtP] at h1
    show (refsB bs).length < 100000
    unfold refsB
    rw [List.length_map]
    omega
  · obtain ⟨⟨⟨bs, p⟩, H'⟩, e, hs, hb, hl⟩ := z
    obtain ⟨rfl, hx⟩ := y
    obtain ⟨b, hb1, rfl⟩ := at_map hx
    have hbt := e1 _ _ (hb b (List.mem_of_getElem? hb1))
    refine ⟨_, Ex.refl _, fun Q q => ⟨_, _, rfl, st_of hbt, rfl, _, _, rfl, _, _, rfl, rfl, q⟩, rfl, ?_, fun _ => ?_⟩
    · show EvT _ _ _ ((bs[i]?.map fun b => decide (b.2.2 = a)).getD false)
      rw [hb1]
      refine et_is (et_test (ev_op (ev_var rfl) (ev_var rfl) (rv_eq rfl))) ?_
      show decide (V.str b.2.2 = V.str a) = decide (b.2.2 = a)
      rw [decide_eq_decide]
      exact ⟨fun z => V.str.inj z, fun z => by rw [z]⟩
    · show Ev _ _ _ ((bs[i]?.map fun b => V.str b.2.1).getD .non)
      rw [hb1]
      exact ev_var rfl
  · obtain ⟨⟨⟨bs, p'⟩, H''⟩, e', hs, hb, hl⟩ := z
    have hH : H p = none := fresh_back e' hp
    refine k p H' hH (e'.trans e) (h.trans ?_)
    have hn : (refsB bs).length = bs.length := by
      unfold refsB
      rw [List.length_map]
    show some (HO.lst (given (refsB bs).length _ _)) = _
    rw [hn, given_filter bs (fun b => decide (b.2.2 = a)) (fun b => V.str b.2.1) _ _ (fun i x hx => ⟨by show (bs[i]?.map _).getD false = _; rw [hx]; rfl, by show (bs[i]?.map _).getD _ = _; rw [hx]; rfl⟩)]
    congr 2
    rw [← hs, List.filter_map, List.map_map, List.map_map]
    rfl

def sp_N_delete (K : PySem.W.Frag) : Sp := Pm (fun x : (NL × Graph) × Str × Str => [.ref (x.1.1 .p), .str x.2.1, .str x.2.2]) fun x H Q => NAt K x.1.1 x.1.2 H ∧ GOk x.1.2 ∧ (tg x.1.2 x.2.1).length < 64 ∧ x.2.2 ∈ tg x.1.2 x.2.1 ∧
  ∀ H', NAt K x.1.1 (delG x.1.2 x.2.1 x.2.2) H' → Stp x.1.1 (CN K x.1.1 x.1.2) H x.1.1 (CN K x.1.1 (delG x.1.2 x.2.1 x.2.2)) H' → Q .non H'
theorem sp_N_delete_len (K : PySem.W.Frag) : ∀ vs H Q E, sp_N_delete K vs H Q E → vs.length = 3 := Pm.len fun _ => rfl
abbrev s_N_delete : Stmt := (inClass (top 19) 11)
theorem sc_N_delete : FnScope ["self", "source", "target"] ["self", "source", "target"] (defScope s_N_delete) := ⟨rfl, rfl, rfl, by decide +kernel, rfl, by decide +kernel, by decide +kernel⟩
theorem ok_N_delete (T : Txt K mg) : Okd P w K mg base 2 (aM K "Needs" "delete") ["self", "source", "target"] (sp_N_delete K) := by
  obtain ⟨fd, F⟩ := T.f_N_delete
  refine Okd.mk F sc_N_delete (sp_N_delete_len K) (fun _ _ _ _ _ _ us hl => match us, hl with | [_, _, _], _ => rfl) (fun cdv A outer s H vs Q E hr h => ?_)
  have hu := hu_of hr
  refine ⟨_, (pss_cons (ps_if (PW.pt (pw_or (pt_not (pt_val (pe_callB (call_isiK (K := K) rfl) (by rfl) T.b_isinstance (by decide +kernel) (pa_cons (pv 2) (pa_cons (pe_bltn rfl T.b_str (by decide +kernel) (v := .ty "str") rfl) pa_nil))))) (pw_or1 (pt_cmpR (op_notIn_seqK (K := K) rfl) (pv 2) (pe_methO (pv 0) T.cl_Needs T.m_Needs_targets (ok_N_targets (K := K) T) (hr.mono (by decide)) (pa_cons (pv 1) pa_nil)) (by rfl))))) (pss_one ps_never) pss_nil)
    (pss_one (ps_ddel (pe_dget hu (pe_fldK (K := K) rfl (pv 0) rfl) (pv 1) (fun _ _ => rfl)) (pv 2)))), ?_⟩
  obtain ⟨⟨⟨ν, g⟩, s, t⟩, rfl, hN, ok, hz, ht, k⟩ := h
  dsimp only at hN ok hz ht k
  obtain ⟨ts, e⟩ : ∃ ts, lookA g s = some ts := by
    cases e : lookA g s with
    | none =>
      rw [tg_none e] at ht
      exact absurd ht (by simp)
    | some ts => exact ⟨ts, rfl⟩
  refine ⟨_, rfl, _, _, _, _, _, rfl, .ty _, .base (.str t), kit_str, true, rfl, ?_⟩
  refine it_f (by rfl) ⟨_, rfl, _, rfl, _, _, _, rfl, hN.pi, rfl, _, rfl, ((ν, g), s), rfl, hN, ok, hz, fun p H1 hp e1 hl => ⟨p, _, rfl, Or.inl (sq_of hl), rfl, by simp [flatV], _, rfl, ?_⟩⟩
  refine it_f ?_ ?_
  · show (!inV (V.str t) _) = false
    rw [inV_str, decide_eq_true (mem_srtS.mpr ht)]
    rfl
  have hN1 : NAt K ν g H1 := At.ex hN e1
  obtain ⟨a1, a2⟩ := hN1.inner e (ts.filter fun x => decide (x ≠ t))
  have ee : delG g s t = putA g s (ts.filter fun x => decide (x ≠ t)) := by
    unfold delG
    rw [tg_look e]
  rw [ee] at k
  rw [tg_look e] at ht
  refine ⟨_, rfl, _, _, _, _, _, rfl, hN1.pi, T.cl_Needs, T.n_own_targets, rfl, _, rfl, _, _, rfl, hN1.get e, _, rfl, _, _, Sum.inr t, rfl, hN1.ii e, rfl, ?_, ?_⟩
  · unfold dU
    rw [valV_dS, lookU, if_pos ht]
    rfl
  · have e3 : dropK (dU ts) (Sum.inr t) = dU (ts.filter fun x => decide (x ≠ t)) := by
      unfold dU
      rw [dropK_dS]
      congr 1
      unfold dropA
      rw [List.filter_map]
      rfl
    rw [e3]
    exact k _ a1 ((Stp.ex e1).trans a2)

def sp_N_delete_all (K : PySem.W.Frag) : Sp := Pm (fun x : (NL × Graph) × Str => [.ref (x.1.1 .p), .str x.2]) fun x H Q => NAt K x.1.1 x.1.2 H ∧ GOk x.1.2 ∧ (tg x.1.2 x.2).length < 64 ∧ x.1.2.length < 1000 ∧
  ∀ ν' H' v, NAt K ν' (delAllG x.1.2 x.2) H' → Stp x.1.1 (CN K x.1.1 x.1.2) H ν' (CN K ν' (delAllG x.1.2 x.2)) H' → ν' .p = x.1.1 .p → Q v H'
theorem sp_N_delete_all_len (K : PySem.W.Frag) : ∀ vs H Q E, sp_N_delete_all K vs H Q E → vs.length = 2 := Pm.len fun _ => rfl
abbrev s_N_delete_all : Stmt := (inClass (top 19) 12)
theorem sc_N_delete_all : FnScope ["self", "source", "number"] ["self", "source"] (defScope s_N_delete_all) := ⟨rfl, rfl, rfl, by decide +kernel, rfl, by decide +kernel, by decide +kernel⟩
theorem ok_N_delete_all (T : Txt K mg) : Okd P w K mg base 2 (aM K "Needs" "delete_all") ["self", "source"] (sp_N_delete_all K) := by
  obtain ⟨fd, F⟩ := T.f_N_delete_all
  refine Okd.mk F sc_N_delete_all (sp_N_delete_all_len K) (fun _ _ _ _ _ _ us hl => match us, hl with | [_, _], _ => rfl) (fun cdv A outer s H vs Q E hr h => ?_)
  have hu := hu_of hr
  refine ⟨_, (pss_cons (ps_set (i := 2) sc_N_delete_all.nd rfl (Or.inl rfl) (pe_callB (call_len_seqK (K := K) rfl) (by rfl) T.b_len (by decide +kernel) (pa_cons (pe_methO (pv 0) T.cl_Needs T.m_Needs_targets (ok_N_targets (K := K) T) (hr.mono (by decide)) (pa_cons (pv 1) pa_nil)) pa_nil)))
    (pss_cut (ps_if (pt_cmpR op_gt (pv 2) pe_int (nomark _)) (pss_one (ps_dput hu (pe_fldK (K := K) rfl (pv 0) rfl) (pv 1) pe_dnewK rfl)) pss_nil)
    (pss_one (ps_ret (pv 2))))), ?_⟩
  obtain ⟨⟨⟨ν, g⟩, a⟩, rfl, hN, ok, hz, hg, k⟩ := h
  dsimp only at hN ok hz hg k
  refine ⟨_, rfl, _, _, _, rfl, hN.pi, rfl, _, rfl, ((ν, g), a), rfl, hN, ok, hz, fun p H1 hp e1 hl => ⟨p, _, rfl, Or.inl (sq_of hl), ?_⟩⟩
  have hN1 : NAt K ν g H1 := At.ex hN e1
  have hn : ((srtS (tg g a)).map V.str).length = (tg g a).length := by rw [List.length_map, length_srtS]
  rw [hn]
  refine ⟨fun σ' H' => σ' = [some (.ref (ν .p)), some (.str a), some (.int ((tg g a).length : Nat))] ∧ ∃ ν', NAt K ν' (delAllG g a) H' ∧ Stp ν (CN K ν g) H ν' (CN K ν' (delAllG g a)) H' ∧ ν' .p = ν .p, ?_, ?_⟩
  · refine ⟨_, rfl, _, _, rfl, rfl, _, rfl, ?_⟩
    refine it_c (fun hb => ?_) (fun hb => ?_)
    · have hne : tg g a ≠ [] := fun z => by
        rw [z] at hb
        exact absurd (of_decide_eq_true hb) (by simp)
      have ee : delAllG g a = putA g a [] := if_neg hne
      refine fun p2 hp2 => ⟨_, rfl, _, _, _, _, _, rfl, (Ex.new hp2) _ _ hN1.pi, T.cl_Needs, T.n_own_targets, rfl, _, rfl, _, _, rfl, Or.inl ⟨_, Sum.inr a, (Ex.new hp2) _ _ hN1.di, rfl, by rw [length_dG]; exact sz_lt (by omega), rfl⟩, rfl, putN ν a p2, ?_⟩
      obtain ⟨a1, a2⟩ := hN1.outer hp2 a []
      rw [ee]
      exact ⟨a1, (Stp.ex e1).trans a2, rfl⟩
    · have hne : tg g a = [] := by
        have := of_decide_eq_false hb
        cases hh : tg g a with
        | nil => rfl
        | cons x xs => rw [hh] at this; simp at this
      have ee : delAllG g a = g := if_pos hne
      refine ⟨rfl, ν, ?_⟩
      rw [ee]
      exact ⟨hN1, Stp.ex e1, rfl⟩
  · rintro σ' H' ⟨rfl, ν', a1, a2, a3⟩
    exact ⟨_, rfl, k ν' H' _ a1 a2 a3⟩

def sp_N_record (K : PySem.W.Frag) : Sp := Pm (fun x : (NL × Graph) × Str × Str => [.ref (x.1.1 .p), .str x.2.1, .str x.2.2]) fun x H Q => NAt K x.1.1 x.1.2 H ∧ GOk x.1.2 ∧ okName x.2.1 ∧ okName x.2.2 ∧ (tg x.1.2 x.2.1).length < 1000 ∧ x.1.2.length < 1000 ∧
  ∀ ν' H' v, NAt K ν' (recG x.1.2 x.2.1 x.2.2) H' → Stp x.1.1 (CN K x.1.1 x.1.2) H ν' (CN K ν' (recG x.1.2 x.2.1 x.2.2)) H' → ν' .p = x.1.1 .p → Q v H'
theorem sp_N_record_len (K : PySem.W.Frag) : ∀ vs H Q E, sp_N_record K vs H Q E → vs.length = 3 := Pm.len fun _ => rfl
abbrev s_N_record : Stmt := (inClass (top 19) 8)
theorem sc_N_record : FnScope ["self", "source", "target", "is_new"] ["self", "source", "target"] (defScope s_N_record) := ⟨rfl, rfl, rfl, by decide +kernel, rfl, by decide +kernel, by decide +kernel⟩
theorem ok_N_record (T : Txt K mg) : Okd P w K mg base 3 (aM K "Needs" "record") ["self", "source", "target"] (sp_N_record K) := by
  obtain ⟨fd, F⟩ := T.f_N_record
  refine Okd.mk F sc_N_record (sp_N_record_len K) (fun _ _ _ _ _ _ us hl => match us, hl with | [_, _, _], _ => rfl) (fun cdv A outer s H vs Q E hr h => ?_)
  have hu := hu_of hr
  refine ⟨_, (pss_cons (ps_expr (pe_callO (ok_want_names (K := K) T) (hr.mono (by decide)) rfl T.g_want_names T.k_want_names (pa_cons (pe_lst (pa_cons (pv 1) (pa_cons (pv 2) pa_nil))) pa_nil)))
    (pss_cut (ps_if (pt_cmp (pc_dnotin hu (pv 1) (pe_fldK (K := K) rfl (pv 0) rfl))) (pss_one (ps_dput hu (pe_fldK (K := K) rfl (pv 0) rfl) (pv 1) pe_dnewK rfl)) pss_nil)
    (pss_cons (ps_set (i := 3) sc_N_record.nd rfl (Or.inl rfl) (pe_cmp (pc_dnotin hu (pv 2) (pe_dget hu (pe_fldK (K := K) rfl (pv 0) rfl) (pv 1) (fun _ _ => rfl)))))
    (pss_cons (ps_dput hu (pe_dget hu (pe_fldK (K := K) rfl (pv 0) rfl) (pv 1) (fun _ _ => rfl)) (pv 2) pe_bl rfl)
    (pss_one (ps_ret (pv 3))))))), ?_⟩
  obtain ⟨⟨⟨ν, g⟩, s, t⟩, rfl, hN, ok, hs, ht, hz, hg, k⟩ := h
  dsimp only at hN ok hz hs ht hg k
  refine ⟨_, rfl, _, rfl, sz_of (n := 2) (by decide), fun l hl => ⟨(l, [s, t]), rfl, sq_of upd_same, ?_, fun H1 e1 => ?_⟩⟩
  · intro n hn
    rcases List.mem_cons.mp hn with z | z
    · rw [z]
      exact hs
    · rw [List.mem_singleton.mp z]
      exact ht
  have e1 : Ex H H1 := (Ex.new hl).trans e1
  have hN1 : NAt K ν g H1 := At.ex hN e1
  refine ⟨fun σ' H' => ∃ ν' g', σ' = [some (.ref (ν' .p)), some (.str s), some (.str t), none] ∧ NAt K ν' g' H' ∧ Stp ν (CN K ν g) H ν' (CN K ν' g') H' ∧ ν' .p = ν .p ∧ lookA g' s = some (tg g s) ∧ putA g' s (addT (tg g s) t) = recG g s t, ?_, ?_⟩
  · refine ⟨_, rfl, _, rfl, _, _, _, _, _, rfl, hN1.pi, T.cl_Needs, T.n_own_targets, rfl, _, _, rfl, hN1.has, _, rfl, ?_⟩
    refine it_c (fun hb => ?_) (fun hb => ?_)
    · have hne : lookA g s = none := by
        cases hh : lookA g s with
        | none => rfl
        | some x => rw [hh] at hb; cases hb
      refine fun p2 hp2 => ⟨_, rfl, _, _, _, _, _, rfl, (Ex.new hp2) _ _ hN1.pi, T.cl_Needs, T.n_own_targets, rfl, _, rfl, _, _, rfl, Or.inl ⟨_, Sum.inr s, (Ex.new hp2) _ _ hN1.di, rfl, by rw [length_dG]; exact sz_lt (by omega), rfl⟩, putN ν s p2, putA g s [], rfl, ?_⟩
      obtain ⟨a1, a2⟩ := hN1.outer hp2 s []
      refine ⟨a1, (Stp.ex e1).trans a2, rfl, ?_, ?_⟩
      · rw [lookA_putA, if_pos rfl, tg_none hne]
      · unfold recG
        rw [tg_none hne]
        exact putA_putA
    · cases hh : lookA g s with
      | none => rw [hh] at hb; cases hb
      | some x => exact ⟨ν, g, rfl, hN1, Stp.ex e1, rfl, by rw [hh, tg_look hh], rfl⟩
  · rintro σ' H' ⟨ν', g', rfl, a1, a2, a3, a4, a5⟩
    refine ⟨_, rfl, _, rfl, _, _, _, _, _, rfl, a1.pi, T.cl_Needs, T.n_own_targets, rfl, _, rfl, _, _, rfl, a1.get a4, _, _, rfl, Or.inl ⟨_, Sum.inr t, Or.inl (a1.ii a4), rfl, rfl⟩, ?_⟩
    obtain ⟨b1, b2⟩ := a1.inner a4 (addT (tg g s) t)
    rw [a5] at b1 b2
    refine ⟨_, rfl, _, _, _, _, _, rfl, a1.pi, T.cl_Needs, T.n_own_targets, rfl, _, rfl, _, _, rfl, a1.get a4, _, rfl, _, _, rfl, Or.inl ⟨_, Sum.inr t, a1.ii a4, rfl, by rw [length_dU]; exact sz_lt (by omega), rfl⟩, ?_⟩
    rw [putK_dU]
    exact ⟨_, rfl, k ν' _ _ b1 (a2.trans b2) a3⟩

def sp_N_clone (K : PySem.W.Frag) : Sp := Pm (fun x : NL × Graph => [.ref (x.1 .p)]) fun x H Q => NAt K x.1 x.2 H ∧ GOk x.2 ∧ x.2.length ≤ 1000 ∧
  ∀ ν' H', Ex H H' → NAt K ν' x.2 H' → (∀ a, own ν' (CN K ν' x.2) a → H a = none) → Q (.ref (ν' .p)) H'
theorem sp_N_clone_len (K : PySem.W.Frag) : ∀ vs H Q E, sp_N_clone K vs H Q E → vs.length = 1 := Pm.len fun _ => rfl
abbrev s_N_clone : Stmt := (inClass (top 19) 6)
theorem sc_N_clone : FnScope ["self", "found", "source", "targets"] ["self"] (defScope s_N_clone) := ⟨rfl, rfl, rfl, by decide +kernel, rfl, by decide +kernel, by decide +kernel⟩
theorem ok_N_clone (T : Txt K mg) : Okd P w K mg base 3 (aM K "Needs" "clone") ["self"] (sp_N_clone K) := by
  obtain ⟨fd, F⟩ := T.f_N_clone
  refine Okd.mk F sc_N_clone (sp_N_clone_len K) (fun _ _ _ _ _ _ us hl => match us, hl with | [_], _ => rfl) (fun cdv A outer s H vs Q E hr h => ?_)
  have hu := hu_of hr
  refine ⟨_, (pss_cons (ps_set (i := 1) sc_N_clone.nd rfl (Or.inl rfl) (pe_makeO0 T.mk_Needs (ok_N_init (K := K) T) (hr.mono (by decide)) rfl T.g_Needs))
    (pss_cons (ps_fldK (K := K) rfl (pv 1) (pe_lock (pe_dc (own := [("source", 2), ("targets", 3)]) rfl sc_N_clone.nd (pi_items (pe_fldK (K := K) rfl (pv 0) rfl)) (blkOk_by (own := [("source", 2), ("targets", 3)]) (N := ["self", "found", "source", "targets"]) (sc := defScope s_N_clone) (by decide +kernel)) (fun _ _ _ _ _ => (pg_tupK (K := K) (n := 2) rfl rfl (pgs_cons (pg_name (i := 2) sc_N_clone.nd rfl (Or.inl rfl) (Or.inr rfl)) (pgs_cons (pg_name (i := 3) sc_N_clone.nd rfl (Or.inl rfl) (Or.inr rfl)) pgs_nil)))) (fun _ _ _ _ _ => pts_nil) (fun _ _ _ _ _ => (pv 2)) (fun _ _ _ _ _ => (pe_callTy call_dictD (by rfl) T.b_dict (by decide +kernel) (pa_cons (pv 3) pa_nil))))) rfl)
    (pss_one (ps_ret (pv 1))))), ?_⟩
  obtain ⟨⟨ν, g⟩, rfl, hN, ok, hg, k⟩ := h
  dsimp only at hN ok hg k
  intro x dx hx hdx hne
  refine ⟨(x, dx), rfl, upd_same, fun d0 hd0 => ⟨rfl, ?_⟩⟩
  have hx' : upd H dx (.own x) x = none := by
    rw [upd_ne (fun z => hne z.symm)]
    exact hx
  generalize hHa : upd (upd (upd (upd H dx (HO.own x)) x (HO.ins (aF K "Needs") dx [])) d0 (HO.dK [])) x (HO.ins (aF K "Needs") dx [("own_targets", V.ref d0)]) = Ha
  have hxd : d0 ≠ x := fun z => by
    rw [z, upd_same] at hd0
    cases hd0
  have eHa : Ex H Ha := by
    rw [← hHa]
    exact Ex.mut (((Ex.new hdx).trans (Ex.new hx')).trans (Ex.new hd0)) hx
  have hax : Ha x = some (.ins (aF K "Needs") dx [("own_targets", V.ref d0)]) := by
    rw [← hHa]
    exact upd_same
  have hadx : Ha dx = some (.own x) := by
    rw [← hHa, upd_ne hne]
    exact ((Ex.new hx').trans (Ex.new hd0)) _ _ upd_same
  have hN1 : NAt K ν g Ha := At.ex hN eHa
  have lv : ∀ q ∈ g, lookA g q.1 = some q.2 := fun q hq => lookA_of ok.nd hq
  refine ⟨ν .d, _, hN1.di, True.intro, fun od => ?_⟩
  have f1 : upd Ha (ν .d) (.frz od (.dK (dG ν g))) (ν .d) = some (.frz od (.dK (dG ν g))) := upd_same
  have f2 : ∀ q ∈ g, upd Ha (ν .d) (.frz od (.dK (dG ν g))) (ν (.i q.1)) = some (.dK (dU q.2)) := fun q hq => by
    have lvq : (CN K ν g (.i q.1)).isSome = true := by
      show ((lookA g q.1).map _).isSome = true
      rw [lv q hq]
      rfl
    rw [upd_ne (fun z => nomatch hN1.inj _ .d lvq rfl z)]
    exact hN1.ii (lv q hq)
  have f3 : upd Ha (ν .d) (.frz od (.dK (dG ν g))) (ν .p) = _ := frz_other hN1.pi (ne_of hN1.pi hN1.di (fun z => nomatch z))
  refine dcP (J := Iti (ν .d) od (dG ν g)) (H1 := upd Ha (ν .d) (.frz od (.dK (dG ν g)))) (fun R r => ⟨_, rfl, _, _, _, _, _, rfl, f3, T.cl_Needs, T.n_own_targets, rfl, _, od, _, rfl, f1, r⟩) walk_items fun D hD =>
    ⟨fun i H' => Ex (upd Ha (ν .d) (.frz od (.dK (dG ν g)))) H' ∧ ∃ inn : Str → Addr, H' D = some (.dK ((g.take i).map fun q => (Sum.inr q.1, V.ref (inn q.1)))) ∧ (∀ q ∈ g.take i, H' (inn q.1) = some (.dK (dU q.2)) ∧ upd Ha (ν .d) (.frz od (.dK (dG ν g))) (inn q.1) = none ∧ inn q.1 ≠ D) ∧
      ∀ q ∈ g.take i, ∀ r ∈ g.take i, inn q.1 = inn r.1 → q.1 = r.1, ⟨Ex.new hD, fun _ => 0, upd_same, fun q hq => absurd hq (by simp), fun q hq => absurd hq (by simp)⟩, fun i H' _ p => p.1 _ _ f1, fun i v H1 H2 hi p y => ?_, fun H' p => ?_⟩
  · obtain ⟨e1, inn, i1, i2, i3⟩ := p
    rw [length_dG] at hi
    have hq : g[i]? = some g[i] := by simp [hi]
    generalize g[i] = q at hq
    have hm : q ∈ g := List.mem_of_getElem? hq
    obtain ⟨T', rfl, hT, rfl⟩ := pair_at (getG hq) y
    obtain ⟨H2, hH2, e2, hT2⟩ : ∃ H2, upd H1 T' (.tup [kV (Sum.inr q.1), .ref (ν (.i q.1))]) = H2 ∧ Ex H1 H2 ∧ H2 T' = some (.tup [kV (Sum.inr q.1), .ref (ν (.i q.1))]) := ⟨_, rfl, Ex.new hT, upd_same⟩
    rw [hH2]
    have nt : ∀ r ∈ g.take i, r.1 ≠ q.1 := not_take ok.nd hq
    refine ⟨T', _, rfl, st_of hT2, rfl, _, _, rfl, _, _, rfl, rfl, rfl, ?_⟩
    refine ⟨_, rfl, _, rfl, ν (.i q.1), _, rfl, Rd.of ((e1.trans e2) _ _ (f2 q hm)), fun p hp => ⟨_, Sum.inr q.1, rfl, (Ex.new hp) _ _ (e2 _ _ i1), ?_, ?_⟩⟩
    · rw [List.length_map, List.length_take]
      exact sz_lt (by omega)
    have hpD : p ≠ D := fun z => by
      rw [z, e2 _ _ i1] at hp
      cases hp
    have u1 : ∀ r ∈ g.take i, upd1 inn q.1 p r.1 = inn r.1 := fun r hr => upd1_ne (nt r hr)
    have u2 : upd1 inn q.1 p q.1 = p := upd1_same
    have tk : g.take (i + 1) = g.take i ++ [q] := by
      rw [List.take_add_one, hq]
      rfl
    have inp : ∀ r ∈ g.take i, inn r.1 ≠ p := fun r hr => ne_of_none (e2 _ _ (i2 r hr).1) hp
    refine ⟨Ex.mut ((e1.trans e2).trans (Ex.new hp)) hD, upd1 inn q.1 p, ?_, fun r hr => ?_, fun r hr r' hr' e => ?_⟩
    · rw [upd_same, putK_new, tk, List.map_append]
      · congr 3
        · exact List.map_congr_left fun r hr => by rw [u1 r hr]
        · show [((Sum.inr q.1 : Key), V.ref p)] = [(Sum.inr q.1, V.ref (upd1 inn q.1 p q.1))]
          rw [u2]
      · exact valV_not nt
    · rw [tk] at hr
      rcases List.mem_append.mp hr with z | z
      · rw [u1 r z]
        obtain ⟨j1, j2, j3⟩ := i2 r z
        exact ⟨by rw [upd_ne j3]; exact (Ex.new hp) _ _ (e2 _ _ j1), j2, j3⟩
      · rw [List.mem_singleton.mp z, u2]
        exact ⟨by rw [upd_ne hpD]; exact upd_same, fresh_back (e1.trans e2) hp, hpD⟩
    · rw [tk] at hr hr'
      rcases List.mem_append.mp hr with z | z
      · rcases List.mem_append.mp hr' with z' | z'
        · rw [u1 r z, u1 r' z'] at e
          exact i3 r z r' z' e
        · rw [List.mem_singleton.mp z', u1 r z, u2] at e
          exact absurd e (inp r z)
      · rcases List.mem_append.mp hr' with z' | z'
        · rw [List.mem_singleton.mp z, u1 r' z', u2] at e
          exact absurd e.symm (inp r' z')
        · rw [List.mem_singleton.mp z, List.mem_singleton.mp z']
  · obtain ⟨e1, inn, i1, i2, i3⟩ := p
    rw [length_dG, List.take_length] at i1 i2 i3
    have eb : Ex Ha (upd H' (ν .d) (.dK (dG ν g))) := Ex.unlock hN1.di e1
    have hDx : D ≠ x := fun z => by
      rw [z, frz_other hax (ne_of hax hN1.di (fun z => nomatch z))] at hD
      cases hD
    obtain ⟨hDd, hD2⟩ := frz_none hD
    refine ⟨e1 _ _ f1, _, rfl, x, _, dx, _, rfl, eb _ _ hax, T.cl_Needs, T.n_own_targets, (show 1 < 1000 by decide), _, rfl, ?_⟩
    have il : ∀ a ts, lookA g a = some ts → upd H' (ν .d) (.dK (dG ν g)) (inn a) = some (.dK (dU ts)) ∧ Ha (inn a) = none ∧ inn a ≠ D ∧ inn a ≠ x := fun a ts e => by
      obtain ⟨j1, j2, j3⟩ := i2 (a, ts) (lookA_mem e)
      obtain ⟨k1, k2⟩ := frz_none j2
      exact ⟨by rw [upd_ne k1]; exact j1, k2, j3, fun z => by rw [show inn (a, ts).1 = inn a from rfl, z, hax] at k2; cases k2⟩
    refine k (fun r => match r with | .p => x | .pD => dx | .d => D | .i a => inn a) _ (Ex.mut (eHa.trans eb) hx) (NAt.of upd_same ?_ ?_ (fun a ts e => ?_) fun a b ts us ea eb' e => ?_) ?_
    · rw [upd_ne hne]
      exact eb _ _ hadx
    · show upd _ x _ D = _
      rw [upd_ne hDx, upd_ne hDd, i1, dG_eq]
    · obtain ⟨j1, j2, j3, j4⟩ := il a ts e
      exact ⟨by show upd _ x _ (inn a) = _; rw [upd_ne j4]; exact j1, j3⟩
    · exact i3 _ (lookA_mem ea) _ (lookA_mem eb') e
    · rintro a ⟨r, lr, rfl⟩
      cases r with
      | p => exact hx
      | pD => exact hdx
      | d => exact fresh_back eHa hD2
      | i b =>
        cases e : lookA g b with
        | none =>
          have lr : ((lookA g b).map fun ts => HO.dK (dU ts)).isSome = true := lr
          rw [e] at lr
          cases lr
        | some ts => exact fresh_back eHa (il b ts e).2.1
end
end CR
set_option maxRecDepth 100000
set_option maxHeartbeats 4000000
/-! Cycleready: what is reached in a graph. -/
namespace CR
open PySem PySem.Spec PyProof.Rows L2 Evl
local macro_rules | `(tactic| walk_at "red") => `(tactic| dsimp only [tNext, tSeq, tRet, tRetN, tDrop, tIfS, tAsg, tPar, tTest, tB, tNot, tAnd, tOr, tCB, tCons, tNil, tCall, tOp, tUn, tVar, tC, tIf])
local macro_rules | `(tactic| walk_at "nrm") => `(tactic| dsimp only [gName, tNext])
/-! ### calls of methods -/
section
variable {σ : L2.St} {H : Hp} {ta : TE} {t : TA} {C a dx : Addr} {m : Str} {sp : Sp} {dvs vs xs : List V} {E : XK} {z : V} {fs : List (Str × V)}
theorem el_meth (h : Ev ta σ H (.ref a)) (ha : H a = some (.ins C dx fs)) (hm : fs.lookup m = none) (hv : EvA t σ H vs) (hs : SpL sp (.ref a :: (vs ++ dvs)) H xs) : EvL (tMeth C m sp dvs E ta t) σ H xs := fun H1 e Q q =>
  h H1 e _ fun H2 e2 => ⟨a, dx, fs, rfl, (e.trans e2) _ _ ha, hm, hv H2 (e.trans e2) _ fun H3 e3 => hs H3 ((e.trans e2).trans e3) Q (fun p H4 hp e4 h4 => q p H4 (fresh_back (e2.trans e3) hp) ((e2.trans e3).trans e4) h4) E⟩
theorem ev_meth (h : Ev ta σ H (.ref a)) (ha : H a = some (.ins C dx fs)) (hm : fs.lookup m = none) (hv : EvA t σ H vs) (hs : SpV sp (.ref a :: (vs ++ dvs)) H z) : Ev (tMeth C m sp dvs E ta t) σ H z := fun H1 e Q q =>
  h H1 e _ fun H2 e2 => ⟨a, dx, fs, rfl, (e.trans e2) _ _ ha, hm, hv H2 (e.trans e2) _ fun H3 e3 => hs H3 ((e.trans e2).trans e3) Q (fun H4 e4 => q H4 ((e2.trans e3).trans e4)) E⟩
end
/-! ### texts as data -/
theorem dpAll_strs {K : PySem.W.Frag} {H : Hp} : ∀ xs : List Str, DpAll K H (xs.map .str) (xs.map .str)
  | [] => .nil
  | x :: xs => .cons (.str x) (dpAll_strs xs)
theorem ok_str {x : Str} (h : okName x) : PyData.strOk x = true := by
  have hl : ∀ c ∈ letters.cps.toList, c < 1114112 := by decide +kernel
  unfold PyData.strOk
  rw [Array.all_eq_true']
  intro c hc
  exact decide_eq_true (hl c (h.2.2 c (Array.mem_toList_iff.mpr hc)))
theorem canLay_strs : ∀ xs : List Str, (∀ x ∈ xs, okName x) → PyData.canLayAll0 (xs.map .str) = true
  | [], _ => by simp [PyData.canLayAll0]
  | x :: xs, h => by
    rw [List.map_cons, PyData.canLayAll0, canLay_strs xs fun y hy => h y (List.mem_cons_of_mem _ hy), PyData.canLay0, ok_str (h x List.mem_cons_self)]
    rfl
theorem depth_strs : ∀ xs : List Str, PyData.depthAll (xs.map .str) = 0
  | [] => by simp [PyData.depthAll]
  | x :: xs => by
    rw [List.map_cons, PyData.depthAll, depth_strs xs]
    simp [PyData.depth]
theorem shaped_strs (xs : List Str) (h : ∀ x ∈ xs, okName x) : SeqAt.shaped (.list (xs.map .str)) = true := by
  unfold SeqAt.shaped
  rw [PyData.depth, depth_strs, PyData.canLay0, canLay_strs xs h]
  decide
theorem eqv_nil (xs : List Str) : PyData.eqv (.list (xs.map .str)) (.list []) = xs.isEmpty := by
  cases xs with
  | nil => simp [PyData.eqv, PyData.eqvAll]
  | cons x xs => simp [PyData.eqv, PyData.eqvAll]
/-- xs != [] -/
theorem et_ne_nil {K : PySem.W.Frag} {σ : L2.St} {H : Hp} {ta : TE} {p : Addr} {xs : List Str} (h : Ev ta σ H (.ref p)) (hp : SqL K H p (xs.map .str)) (hok : ∀ x ∈ xs, okName x) : EvT (tTest (tOp (rNeD K) ta (tLst tNil))) σ H (!xs.isEmpty) :=
  et_test (ev_opL h (el_lst ea_nil (by decide)) fun q H1 hq e1 H2 e2 Q k => ⟨.list (xs.map .str), .list (([] : List Str).map .str), .lst (ex_l (e1.trans e2) hp) (dpAll_strs xs), .lst (sq_of (e2 _ _ hq)) (dpAll_strs []), shaped_strs xs hok, shaped_strs [] (by simp), by
    have := k H2 (Ex.refl _)
    rw [← eqv_nil] at this
    exact this⟩)
/-! ### a dict of lists by text -/
def dF (f : Str → Addr) (ks : List Str) : List (Key × V) := ks.map fun x => (Sum.inr x, V.ref (f x))
theorem valV_dF {f : Str → Addr} {x : Str} : ∀ {ks : List Str}, valV (dF f ks) (Sum.inr x) = if x ∈ ks then some (.ref (f x)) else none
  | [] => rfl
  | k :: ks => by
    show valV ((Sum.inr k, V.ref (f k)) :: dF f ks) (Sum.inr x) = _
    by_cases e : k = x
    · rw [valV_pos (p := (Sum.inr k, V.ref (f k))) (by rw [e]), if_pos (by rw [e]; exact List.mem_cons_self), e]
    · rw [valV_neg (p := (Sum.inr k, V.ref (f k))) (fun z => e (Sum.inr.inj z)), valV_dF]
      by_cases m : x ∈ ks
      · rw [if_pos m, if_pos (List.mem_cons_of_mem _ m)]
      · rw [if_neg m, if_neg (fun z => (List.mem_cons.mp z).elim (fun q => e q.symm) m)]
theorem putK_dF {f : Str → Addr} {x : Str} {p : Addr} {ks : List Str} (h : x ∉ ks) : putK (dF f ks) (Sum.inr x) (.ref p) = dF (upd1 f x p) (ks ++ [x]) := by
  rw [putK_new _ (by rw [valV_dF, if_neg h])]
  unfold dF
  rw [List.map_append]
  congr 1
  · refine List.map_congr_left fun y hy => ?_
    rw [upd1_ne (ne_mem hy h)]
  · show [((Sum.inr x : Key), V.ref p)] = [(Sum.inr x, V.ref (upd1 f x p x))]
    rw [upd1_same]
theorem length_dF {f : Str → Addr} {ks : List Str} : (dF f ks).length = ks.length := List.length_map _
/-! ### the search's word -/
structure PInv (g : Graph) (U : List Str) (a : Str) (ks ws : List Str) (h : Option Str) : Prop where
  nd : ks.Nodup
  sub : ∀ x ∈ ks, x ∈ U
  inn : ∀ x ∈ ws, x ∈ ks
  rch : ∀ x ∈ ks, Rch (Eg g) a x
  st : a ∈ ks
  hm : ∀ x, h = some x → x ∈ ks
  cl : ∀ x ∈ ks, h ≠ some x → x ∉ ws → ∀ y, Eg g x y → y ∈ ks
structure PLists (H' : Hp) (L : Addr) (f : Str → Addr) (ks : List Str) : Prop where
  l : ∀ x ∈ ks, ∃ zs, H' (f x) = some (.lst zs) ∧ zs.length ≤ ks.length ∧ f x ≠ L
section
variable {P : Program} {w : World} {K : PySem.W.Frag} {mg : Str → Option Value} {base : Heap}
def sp_N_paths_from (K : PySem.W.Frag) : Sp := Pm (fun x : (NL × Graph × List Str) × Str => [.ref (x.1.1 .p), .str x.2]) fun x H Q => NAt K x.1.1 x.1.2.1 H ∧ GOk x.1.2.1 ∧ GIn x.1.2.2 x.1.2.1 ∧ x.2 ∈ x.1.2.2 ∧ x.1.2.2.length ≤ 50 ∧ (∀ y ∈ x.1.2.2, okName y) ∧
  ∀ F H' f ks, H F = none → Ex H H' → H' F = some (.dK (dF f ks)) → ks.Nodup → ks.length ≤ 50 → (∀ y, y ∈ ks ↔ Rch (Eg x.1.2.1) x.2 y) → Q (.ref F) H'
theorem sp_N_paths_from_len (K : PySem.W.Frag) : ∀ vs H Q E, sp_N_paths_from K vs H Q E → vs.length = 2 := Pm.len fun _ => rfl
abbrev s_N_paths_from : Stmt := (inClass (top 19) 13)
theorem sc_N_paths_from : FnScope ["self", "name", "found", "waiting", "here", "target"] ["self", "name"] (defScope s_N_paths_from) := ⟨rfl, rfl, rfl, by decide +kernel, rfl, by decide +kernel, by decide +kernel⟩
theorem ok_N_paths_from (T : Txt K mg) : Okd P w K mg base 2 (aM K "Needs" "paths_from") ["self", "name"] (sp_N_paths_from K) := by
  obtain ⟨fd, F⟩ := T.f_N_paths_from
  refine Okd.mk F sc_N_paths_from (sp_N_paths_from_len K) (fun _ _ _ _ _ _ us hl => match us, hl with | [_, _], _ => rfl) (fun cdv A outer s H vs Q E hr h => ?_)
  have hu := hu_of hr
  refine ⟨_, (pss_cons (ps_set (i := 2) sc_N_paths_from.nd rfl (Or.inl rfl) (pe_disp (pps_cons (pv 1) (pe_lst (pa_cons (pv 1) pa_nil)) pps_nil) (by rfl) (by rfl) (fun z => by cases z) (by decide)))
    (pss_cons (ps_set (i := 3) sc_N_paths_from.nd rfl (Or.inl rfl) (pe_lst (pa_cons (pv 1) pa_nil)))
    (pss_cons (ps_while PassesOwn.never (pt_cmpR (op_neDK (K := K) rfl hr.units) (pv 3) (pe_lst pa_nil) (nomark _)) (pss_cons (ps_set (i := 4) sc_N_paths_from.nd rfl (Or.inl rfl) (pe_bm PySem.F.plainAttrs_list PySem.F.slot_list_pop PySem.F.type_list_pop mt_popAt (pv 3) (pa_cons pe_int pa_nil)))
    (pss_one (ps_for PassesOwn.never rfl (pi_listK (K := K) rfl (pe_methO (pv 0) T.cl_Needs T.m_Needs_targets (ok_N_targets (K := K) T) (hr.mono (by decide)) (pa_cons (pv 4) pa_nil))) (pg_name (i := 5) sc_N_paths_from.nd rfl (Or.inl rfl) (Or.inl rfl))
    (pss_one (ps_if (pt_cmp (pc_dnotin hu (pv 5) (pv 2))) (pss_cons (ps_dput hu (pv 2) (pv 5) (pe_op op_cat (pe_dget hu (pv 2) (pv 4) (fun _ _ => rfl)) (pe_lst (pa_cons (pv 5) pa_nil))) rfl)
    (pss_one (ps_expr (pe_bm PySem.F.plainAttrs_list PySem.F.slot_list_append PySem.F.type_list_append mt_append (pv 3) (pa_cons (pv 5) pa_nil))))) pss_nil))))))
    (pss_one (ps_ret (pv 2)))))), ?_⟩
  obtain ⟨⟨⟨ν, g, U⟩, a⟩, rfl, hN, ok, gi, ha, hU, hok, k⟩ := h
  dsimp only at hN ok gi ha hU k
  have lenU : ∀ ks : List Str, ks.Nodup → (∀ x ∈ ks, x ∈ U) → ks.length ≤ U.length := fun ks nd h => nd.length_le_of_subset h
  -- found = {name: [name]}; waiting = [name]
  intro F hF
  refine ⟨_, rfl, ⟨_, rfl, sz_of (n := 1) (by decide), fun q hq => ⟨(Ex.new hq) _ _ upd_same, [(Sum.inr a, .ref q)], rfl, (by decide : 1 ≤ 15), ?_⟩⟩⟩
  refine ⟨_, rfl, sz_of (n := 1) (by decide), fun L hL => ?_⟩
  walk_at "nrm"
  generalize hHa : upd (upd (upd (upd H F (HO.dK [])) q (HO.lst [V.str a])) F (HO.dK (mergeK [] [(Sum.inr a, V.ref q)]))) L (HO.lst [V.str a]) = Ha
  have nqF : q ≠ F := fun z => by
    rw [z, upd_same] at hq
    cases hq
  have nLF : L ≠ F := fun z => by
    rw [z, upd_same] at hL
    cases hL
  have nLq : L ≠ q := fun z => by
    rw [z, upd_ne nqF, upd_same] at hL
    cases hL
  have hL0 : H L = none := fresh_back (Ex.mut ((Ex.new hF).trans (Ex.new hq)) hF) hL
  have e0 : Ex H Ha := by
    rw [← hHa]
    exact (Ex.mut ((Ex.new hF).trans (Ex.new hq)) hF).trans (Ex.new hL)
  have f0 : Ha F = some (.dK (dF (fun _ => q) [a])) := by
    rw [← hHa, upd_ne (fun z => nLF z.symm), upd_same]
    rfl
  have f1 : Ha L = some (.lst ([a].map .str)) := by
    rw [← hHa]
    exact upd_same
  have f2 : Ha q = some (.lst ([a].map .str)) := by
    rw [← hHa, upd_ne (fun z => nLq z.symm), upd_ne nqF, upd_same]
    rfl
  refine q_while (fun m σ' H' => ∃ ks ws f hv tv, σ' = [some (.ref (ν .p)), some (.str a), some (.ref F), some (.ref L), hv, tv] ∧ Ex H H' ∧ H' F = some (.dK (dF f ks)) ∧ H' L = some (.lst (ws.map .str)) ∧ PInv g U a ks ws none ∧ PLists H' L f ks ∧ m ≤ 101 ∧ m = 2 * (U.length - ks.length) + ws.length) _
    ⟨[a], [a], fun _ => q, none, none, rfl, e0, f0, f1, ⟨by simp, fun x hx => by rw [List.mem_singleton.mp hx]; exact ha, fun x hx => hx, fun x hx => by rw [List.mem_singleton.mp hx]; exact .refl, List.mem_singleton.mpr rfl, fun x z => (nomatch z), fun x hx _ hn => absurd hx hn⟩, ⟨fun x hx => ⟨_, f2, by simp, fun z => nLq z.symm⟩⟩, (by show 2 * (U.length - 1) + 1 ≤ 101; omega), rfl⟩ ?_
  rintro m σ' H' ⟨ks, ws, f, hv, tv, rfl, e1, g1, g2, inv, ls, hm1, hm⟩
  have hokw : ∀ x ∈ ws, okName x := fun x hx => hok x (inv.sub x (inv.inn x hx))
  refine ⟨_, et_ne_nil (ev_var rfl) (sq_of g2) hokw, fun hb H1 e2 => ?_, fun hb H1 e2 => ?_⟩
  · cases ws with
    | nil => cases hb
    | cons h wt =>
      have hk : h ∈ ks := inv.inn h List.mem_cons_self
      refine ⟨_, fun σ2 H2 (p : ∃ ks' ws' f' hv' tv', σ2 = [some (.ref (ν .p)), some (.str a), some (.ref F), some (.ref L), hv', tv'] ∧ Ex H H2 ∧ H2 F = some (.dK (dF f' ks')) ∧ H2 L = some (.lst (ws'.map .str)) ∧ PInv g U a ks' ws' none ∧ PLists H2 L f' ks' ∧ 2 * (U.length - ks'.length) + ws'.length < m) => ?_, ?_⟩
      · obtain ⟨ks', ws', f', hv', tv', p1, p2, p3, p4, p5, p6, p7⟩ := p
        exact ⟨_, p7, ks', ws', f', hv', tv', p1, p2, p3, p4, p5, p6, by omega, rfl⟩
      -- here = waiting.pop(0)
      refine ⟨_, rfl, Or.inl ⟨rfl, _, sq_of (e2 _ _ g2)⟩, L, _, 0, 0, .str h, rfl, rfl, e2 _ _ g2, by decide, by decide, (by unfold seqIndex?; simp), rfl, ?_⟩
      walk_at "nrm"
      have g3 : upd H1 L (.lst (((h :: wt).map V.str).eraseIdx 0)) L = some (.lst (wt.map .str)) := upd_same
      have nFL : F ≠ L := fun z => by
        rw [z, g2] at g1
        cases g1
      have g4 : upd H1 L (.lst (((h :: wt).map V.str).eraseIdx 0)) F = some (.dK (dF f ks)) := by
        rw [upd_ne nFL]
        exact e2 _ _ g1
      have g5 : Ex H (upd H1 L (.lst (((h :: wt).map V.str).eraseIdx 0))) := Ex.mut (e1.trans e2) hL0
      have g6 : PLists (upd H1 L (.lst (((h :: wt).map V.str).eraseIdx 0))) L f ks := ⟨fun x hx => by
        obtain ⟨zs, z1, z2, z3⟩ := ls.l x hx
        exact ⟨zs, by rw [upd_ne z3]; exact e2 _ _ z1, z2, z3⟩⟩
      generalize upd H1 L (.lst (((h :: wt).map V.str).eraseIdx 0)) = Hb at g3 g4 g5 g6 ⊢
      have hNb : NAt K ν g Hb := At.ex hN g5
      have hks := lenU ks inv.nd inv.sub
      refine s_forNL (xs := (srtS (tg g h)).map .str) (el_meth (ev_var rfl) hNb.pi rfl (ea_cons (ev_var rfl) ea_nil) fun H2 e3 Q2 q2 E2 => ⟨((ν, g), h), rfl, hNb.ex e3, ok, ?_, q2⟩)
        (fun t j σ2 H2 => ∃ ks' ws' f' tv', σ2 = [some (.ref (ν .p)), some (.str a), some (.ref F), some (.ref L), some (.str h), tv'] ∧ Ex H H2 ∧ (H2 t = some (.lst ((srtS (tg g h)).map .str)) ∧ t ≠ F ∧ t ≠ L) ∧ H2 F = some (.dK (dF f' ks')) ∧ H2 L = some (.lst (ws'.map .str)) ∧
          PInv g U a ks' ws' (some h) ∧ PLists H2 L f' ks' ∧ (∀ y ∈ (srtS (tg g h)).take j, y ∈ ks') ∧ 2 * (U.length - ks'.length) + ws'.length < m)
        (fun t H2 ht e3 h3 => ⟨ks, wt, f, tv, rfl, g5.trans e3, ⟨h3, ne_of_none g4 ht |>.symm, ne_of_none g3 ht |>.symm⟩, e3 _ _ g4, e3 _ _ g3, ⟨inv.nd, inv.sub, fun x hx => inv.inn x (List.mem_cons_of_mem _ hx), inv.rch, inv.st, fun x z => Option.some.inj z ▸ hk, fun x hx hn hw => inv.cl x hx (fun z => nomatch z) fun z => (List.mem_cons.mp z).elim (fun y => hn (by rw [y])) hw⟩,
          ⟨fun x hx => let ⟨zs, z1, z2, z3⟩ := g6.l x hx; ⟨zs, e3 _ _ z1, z2, z3⟩⟩, fun y hy => absurd hy (by simp), by rw [hm, List.length_cons]; omega⟩)
        (fun t j σ2 H2 _ ⟨_, _, _, _, _, _, q3, _⟩ => sq_of q3.1) (fun t j x σ2 H2 hx p => ?_) (fun t σ2 H2 p => ?_)
      · show (tg g h).length < 64
        have := lenU _ (ok.tg_nodup h) fun x hx => (gi.tg hx).2
        omega
      · obtain ⟨ks', ws', f', tv', rfl, p1, ⟨p2, p2F, p2L⟩, p3, p4, inv', ls', pt, pm⟩ := p
        obtain ⟨y, hy, rfl⟩ := at_map hx
        have hyt : y ∈ tg g h := mem_srtS.mp (List.mem_of_getElem? hy)
        have tk : (srtS (tg g h)).take (j + 1) = (srtS (tg g h)).take j ++ [y] := by
          rw [List.take_add_one, hy]
          rfl
        have hks' := lenU ks' inv'.nd inv'.sub
        refine ⟨_, rfl, _, rfl, F, _, rfl, Or.inl ⟨_, Sum.inr y, Or.inl p3, rfl, rfl⟩, _, rfl, ?_⟩
        rw [valV_dF]
        refine it_c (fun hb => ?_) (fun hb => ?_)
        · have hn : y ∉ ks' := fun z => by
            rw [if_pos z] at hb
            cases hb
          have hkh : h ∈ ks' := inv'.hm h rfl
          obtain ⟨zs, z1, z2, z3⟩ := ls'.l h hkh
          refine ⟨_, rfl, _, rfl, F, _, rfl, Or.inl ⟨_, Sum.inr h, Or.inl p3, rfl, (by rw [valV_dF, if_pos hkh])⟩, _, rfl, sz_of (n := 1) (by decide), fun q2 hq2 => ⟨f' h, q2, zs, _, rfl, rfl, (Ex.new hq2) _ _ z1, upd_same, sz_of (n := zs.length + 1) (by omega), fun p2' hp2 => ?_⟩⟩
          have e4 := (Ex.new (o := HO.lst [V.str y]) hq2).trans (Ex.new (o := HO.lst (zs ++ [V.str y])) hp2)
          refine ⟨_, rfl, _, rfl, F, _, rfl, Or.inl ⟨_, Sum.inr y, e4 _ _ p3, rfl, by rw [length_dF]; exact sz_lt (by omega), rfl⟩, ?_⟩
          have u0 : upd (upd H2 q2 (.lst [.str y])) p2' (.lst (zs ++ [.str y])) p2' = some (.lst (zs ++ [.str y])) := upd_same
          have hn2 : H2 p2' = none := fresh_back (Ex.new hq2) hp2
          generalize upd (upd H2 q2 (.lst [.str y])) p2' (.lst (zs ++ [.str y])) = H3 at e4 u0 ⊢
          have hF0 : H F = none := hF
          have nFL' : F ≠ L := nFL
          have v4 : upd H3 F (.dK (putK (dF f' ks') (Sum.inr y) (.ref p2'))) L = some (.lst (ws'.map .str)) := by
            rw [upd_ne (fun z => nFL z.symm)]
            exact e4 _ _ p4
          refine ⟨_, rfl, Or.inl ⟨rfl, _, sq_of v4⟩, _, rfl, L, _, _, rfl, rfl, v4, ?_, ?_⟩
          · rw [List.length_map]
            exact sz_lt (by omega)
          have wsl : ws'.map V.str ++ [V.str y] = (ws' ++ [y]).map V.str := by rw [List.map_append]; rfl
          have nd' : (ks' ++ [y]).Nodup := by
            rw [List.nodup_append]
            exact ⟨inv'.nd, by simp, fun u hu v hv => by rw [List.mem_singleton.mp hv]; exact ne_mem hu hn⟩
          have sub' : ∀ x ∈ ks' ++ [y], x ∈ U := fun x hx => by
            rcases List.mem_append.mp hx with z | z
            · exact inv'.sub x z
            · rw [List.mem_singleton.mp z]
              exact (gi.tg hyt).2
          have hk1 := lenU _ nd' sub'
          rw [List.length_append] at hk1
          have hk1 : ks'.length + 1 ≤ U.length := hk1
          have np : ∀ o, H2 p2' = some o → False := fun o z => by
            rw [hn2] at z
            cases z
          refine ⟨ks' ++ [y], ws' ++ [y], upd1 f' y p2', some (.str y), rfl, Ex.mut (Ex.mut (p1.trans e4) hF) hL0, ⟨?_, p2F, p2L⟩, ?_, ?_, ⟨nd', sub', fun x hx => ?_, fun x hx => ?_, List.mem_append_left _ inv'.st, fun x z => List.mem_append_left _ (inv'.hm x z), fun x hx hnh hnw c hc => ?_⟩, ⟨fun x hx => ?_⟩, fun x hx => ?_, ?_⟩
          · rw [upd_ne p2L, upd_ne p2F]
            exact e4 _ _ p2
          · rw [upd_ne nFL, upd_same, putK_dF hn]
          · rw [upd_same, wsl]
          · rcases List.mem_append.mp hx with z | z
            · exact List.mem_append_left _ (inv'.inn x z)
            · exact List.mem_append_right _ z
          · rcases List.mem_append.mp hx with z | z
            · exact inv'.rch x z
            · rw [List.mem_singleton.mp z]
              exact (inv'.rch h hkh).step hyt
          · rcases List.mem_append.mp hx with z | z
            · exact List.mem_append_left _ (inv'.cl x z hnh (fun q => hnw (List.mem_append_left _ q)) c hc)
            · exact absurd (List.mem_append_right _ z) hnw
          · rw [List.length_append]
            rcases List.mem_append.mp hx with z | z
            · obtain ⟨us, u1, u2, u3⟩ := ls'.l x z
              rw [upd1_ne (ne_mem z hn)]
              exact ⟨us, by rw [upd_ne u3, upd_ne (ne_of u1 p3 (fun z => nomatch z))]; exact e4 _ _ u1, by omega, u3⟩
            · rw [List.mem_singleton.mp z, upd1_same]
              refine ⟨zs ++ [V.str y], ?_, ?_, fun q => np _ (q ▸ p4)⟩
              · rw [upd_ne (fun q => np _ (q ▸ p4)), upd_ne (fun q => np _ (q ▸ p3))]
                exact u0
              · rw [List.length_append]
                show zs.length + 1 ≤ ks'.length + 1
                omega
          · rw [tk] at hx
            rcases List.mem_append.mp hx with z | z
            · exact List.mem_append_left _ (pt x z)
            · exact List.mem_append_right _ z
          · rw [List.length_append, List.length_append]
            show 2 * (U.length - (ks'.length + 1)) + (ws'.length + 1) < m
            omega
        · have hn : y ∈ ks' := by
            by_cases z : y ∈ ks'
            · exact z
            · rw [if_neg z] at hb
              cases hb
          refine ⟨ks', ws', f', some (.str y), rfl, p1, ⟨p2, p2F, p2L⟩, p3, p4, inv', ls', fun x hx => ?_, pm⟩
          rw [tk] at hx
          rcases List.mem_append.mp hx with z | z
          · exact pt x z
          · rw [List.mem_singleton.mp z]
            exact hn
      · obtain ⟨ks', ws', f', tv', rfl, p1, ⟨p2, p2F, p2L⟩, p3, p4, inv', ls', pt, pm⟩ := p
        rw [List.length_map, List.take_length] at pt
        refine ⟨ks', ws', f', some (.str h), tv', rfl, p1, p3, p4, ⟨inv'.nd, inv'.sub, inv'.inn, inv'.rch, inv'.st, fun x z => (nomatch z), fun x hx _ hw y hy => ?_⟩, ls', pm⟩
        by_cases z : x = h
        · rw [z] at hy
          exact pt y (mem_srtS.mpr hy)
        · exact inv'.cl x hx (fun q => z (Option.some.inj q).symm) hw y hy
  · have hws : ws = [] := by
      cases ws with
      | nil => rfl
      | cons x xs => cases hb
    subst hws
    refine ⟨_, rfl, k F H1 f ks hF (e1.trans e2) (e2 _ _ g1) inv.nd (Nat.le_trans (lenU ks inv.nd inv.sub) hU) fun y => ⟨inv.rch y, fun hr => hr.closed inv.st fun b c hb hbc => inv.cl b hb (by simp) (by simp) c hbc⟩⟩

def sp_N_depends (K : PySem.W.Frag) : Sp := Pm (fun x : (NL × Graph × List Str) × Str × Str => [.ref (x.1.1 .p), .str x.2.1, .str x.2.2]) fun x H Q => NAt K x.1.1 x.1.2.1 H ∧ GOk x.1.2.1 ∧ GIn x.1.2.2 x.1.2.1 ∧ x.2.1 ∈ x.1.2.2 ∧ okName x.2.2 ∧ x.1.2.2.length ≤ 50 ∧ (∀ y ∈ x.1.2.2, okName y) ∧
  RetV (.bl (rchB (Eg x.1.2.1) x.2.1 x.2.2)) H Q
theorem sp_N_depends_len (K : PySem.W.Frag) : ∀ vs H Q E, sp_N_depends K vs H Q E → vs.length = 3 := Pm.len fun _ => rfl
abbrev s_N_depends : Stmt := (inClass (top 19) 14)
theorem sc_N_depends : FnScope ["self", "one", "other"] ["self", "one", "other"] (defScope s_N_depends) := ⟨rfl, rfl, rfl, by decide +kernel, rfl, by decide +kernel, by decide +kernel⟩
theorem ok_N_depends (T : Txt K mg) : Okd P w K mg base 3 (aM K "Needs" "depends") ["self", "one", "other"] (sp_N_depends K) := by
  obtain ⟨fd, F⟩ := T.f_N_depends
  refine Okd.mk F sc_N_depends (sp_N_depends_len K) (fun _ _ _ _ _ _ us hl => match us, hl with | [_, _, _], _ => rfl) (fun cdv A outer s H vs Q E hr h => ?_)
  have hu := hu_of hr
  refine ⟨_, (pss_cons (ps_expr (pe_callO (ok_want_names (K := K) T) (hr.mono (by decide)) rfl T.g_want_names T.k_want_names (pa_cons (pe_lst (pa_cons (pv 1) (pa_cons (pv 2) pa_nil))) pa_nil)))
    (pss_one (ps_ret (pe_cmp (pc_din hu (pv 2) (pe_methO (pv 0) T.cl_Needs T.m_Needs_paths_from (ok_N_paths_from (K := K) T) (hr.mono (by decide)) (pa_cons (pv 1) pa_nil))))))), ?_⟩
  obtain ⟨⟨⟨ν, g, U⟩, a, b⟩, rfl, hN, ok, gi, ha, hb, hU, hok, k⟩ := h
  dsimp only at hN ok gi ha hb hU hok k
  refine ⟨_, rfl, _, rfl, sz_of (n := 2) (by decide), fun l hl => ⟨(l, [a, b]), rfl, sq_of upd_same, ?_, fun H1 e1 => ?_⟩⟩
  · intro n hn
    rcases List.mem_cons.mp hn with z | z
    · rw [z]
      exact hok a ha
    · rw [List.mem_singleton.mp z]
      exact hb
  have e1 : Ex H H1 := (Ex.new hl).trans e1
  have hN1 : NAt K ν g H1 := At.ex hN e1
  refine ⟨_, rfl, _, rfl, _, _, _, rfl, hN1.pi, rfl, _, rfl, ((ν, g, U), a), rfl, hN1, ok, gi, ha, hU, hok, fun F H2 f ks hF e2 h2 nd hn hr => ⟨F, _, rfl, Or.inl ⟨_, Sum.inr b, Or.inl h2, rfl, rfl⟩, ?_⟩⟩
  rw [valV_dF]
  have e : (if b ∈ ks then some (V.ref (f b)) else none).isSome = rchB (Eg g) a b := by
    by_cases m : b ∈ ks
    · rw [if_pos m, rchB_t ((hr b).mp m)]
      rfl
    · rw [if_neg m, rchB_f (fun z => m ((hr b).mpr z))]
      rfl
  rw [e]
  exact k _ (e1.trans e2)

def sp_N_closure (K : PySem.W.Frag) : Sp := Pm (fun x : (NL × Graph × List Str) × Str => [.ref (x.1.1 .p), .str x.2]) fun x H Q => NAt K x.1.1 x.1.2.1 H ∧ GOk x.1.2.1 ∧ GIn x.1.2.2 x.1.2.1 ∧ x.2 ∈ x.1.2.2 ∧ x.1.2.2.length ≤ 50 ∧ (∀ y ∈ x.1.2.2, okName y) ∧
  ∀ ks, ks.Nodup → ks.length ≤ 50 → (∀ y, y ∈ ks ↔ Rch (Eg x.1.2.1) x.2 y) → RetL ((srtS ks).map .str) H Q
theorem sp_N_closure_len (K : PySem.W.Frag) : ∀ vs H Q E, sp_N_closure K vs H Q E → vs.length = 2 := Pm.len fun _ => rfl
abbrev s_N_closure : Stmt := (inClass (top 19) 15)
theorem sc_N_closure : FnScope ["self", "name"] ["self", "name"] (defScope s_N_closure) := ⟨rfl, rfl, rfl, by decide +kernel, rfl, by decide +kernel, by decide +kernel⟩
theorem ok_N_closure (T : Txt K mg) : Okd P w K mg base 3 (aM K "Needs" "closure") ["self", "name"] (sp_N_closure K) := by
  obtain ⟨fd, F⟩ := T.f_N_closure
  refine Okd.mk F sc_N_closure (sp_N_closure_len K) (fun _ _ _ _ _ _ us hl => match us, hl with | [_, _], _ => rfl) (fun cdv A outer s H vs Q E hr h => ?_)
  have hu := hu_of hr
  refine ⟨_, (pss_cons (ps_expr (pe_callO (ok_want_names (K := K) T) (hr.mono (by decide)) rfl T.g_want_names T.k_want_names (pa_cons (pe_lst (pa_cons (pv 1) pa_nil)) pa_nil)))
    (pss_one (ps_ret (pe_callB (call_sortedD rfl) (by rfl) T.b_sorted (by decide +kernel) (pa_cons (pe_methO (pv 0) T.cl_Needs T.m_Needs_paths_from (ok_N_paths_from (K := K) T) (hr.mono (by decide)) (pa_cons (pv 1) pa_nil)) pa_nil))))), ?_⟩
  obtain ⟨⟨⟨ν, g, U⟩, a⟩, rfl, hN, ok, gi, ha, hU, hok, k⟩ := h
  dsimp only at hN ok gi ha hU hok k
  refine ⟨_, rfl, sz_of (n := 1) (by decide), fun l hl => ⟨(l, [a]), rfl, sq_of upd_same, ?_, fun H1 e1 => ?_⟩⟩
  · intro n hn
    rw [List.mem_singleton.mp hn]
    exact hok a ha
  have e1 : Ex H H1 := (Ex.new hl).trans e1
  have hN1 : NAt K ν g H1 := At.ex hN e1
  refine ⟨_, rfl, _, _, _, rfl, hN1.pi, rfl, _, rfl, ((ν, g, U), a), rfl, hN1, ok, gi, ha, hU, hok, fun F H2 f ks hF e2 h2 nd hn hr => ⟨F, _, ks, rfl, Or.inl h2, ?_, Nat.lt_of_le_of_lt hn (by decide), fun ys p hp hs hnn => ?_⟩⟩
  · unfold dF
    rw [List.map_map]
    rfl
  · rw [srtS_rule hp hs]
    exact k ks nd hn hr p _ (fresh_back (e1.trans e2) hnn) ((e1.trans e2).trans (Ex.new hnn)) upd_same
end
end CR
set_option maxRecDepth 100000
set_option maxHeartbeats 4000000
/-! Cycleready: a registry's objects. -/
namespace CR
open PySem PySem.Spec PyProof.Rows L2 Evl
inductive Ro where
  | reg | regD | sts | exd | ear | hel | chd | nd (b : Bool) (r : NR) | exi (n : Str)
  deriving DecidableEq
abbrev Lay := Ro → Addr
/-- the names of exports -/
def exN : List Str := ["x", "y", "need"]
/-- what holds of a state whatever the calls were; B bounds the chains -/
structure ROk (B : Nat) (sn : List Str) (c : Core) (g r : Graph) : Prop where
  nd : sn.Nodup
  srt : srtS sn = sn
  len : sn.length ≤ 40
  nm : ∀ n ∈ sn, okName n
  gok : GOk g
  rok : GOk r
  gin : GIn sn g
  rin : GIn sn r
  end_ : c.early.Nodup
  ein : ∀ p ∈ c.early, p.1 ∈ sn ∧ p.2 ∈ sn
  hnd : c.held.Nodup
  hin : ∀ n ∈ c.held, n ∈ sn
  cnd : (c.ch.map (·.1)).Nodup
  cin : ∀ q ∈ c.ch, q.1 ∈ sn
  cst : ∀ n ∈ sn, c.st n = "failed" → n ∈ c.ch.map (·.1)
  cln : ∀ q ∈ c.ch, q.2.length ≤ B
  xnd : ∀ n ∈ sn, ((c.ex n).map (·.1)).Nodup
  xin : ∀ n ∈ sn, ∀ q ∈ c.ex n, q.1 ∈ exN ∧ q.2.natAbs ≤ 10 ^ 30
  hst : ∀ n ∈ c.held, c.st n = "failed"
theorem ROk.xln {B : Nat} {sn : List Str} {c : Core} {g r : Graph} (h : ROk B sn c g r) (n : Str) (hn : n ∈ sn) : (c.ex n).length ≤ 3 := by
  have := (h.xnd n hn).length_le_of_subset (l₂ := exN) fun a ha => by
    obtain ⟨q, hq, rfl⟩ := List.mem_map.mp ha
    exact (h.xin n hn q hq).1
  rwa [List.length_map] at this
structure RX where
  ρ : Lay
  τ : Str → Addr
  B : Nat
  sn : List Str
  c : Core
  g : Graph
  r : Graph
def RX.gr (x : RX) (b : Bool) : Graph := if b = true then x.r else x.g
abbrev RX.nl (x : RX) (b : Bool) : NL := fun r => x.ρ (.nd b r)
def stsD (sn : List Str) (st : Str → Str) : List (Key × V) := dS V.str (sn.map fun n => (n, st n))
def exdD (sn : List Str) (ρ : Lay) : List (Key × V) := dS (fun n => V.ref (ρ (.exi n))) (sn.map fun n => (n, n))
def earD (l : List (Str × Str)) : List (List Key × V) := l.map fun p => (k2 p, V.bl true)
def chdD (τ : Str → Addr) (ch : List (Str × List Str)) : List (Key × V) := dS (fun n => V.ref (τ n)) (ch.map fun q => (q.1, q.1))
def regF (ρ : Lay) : List (Str × V) := [("own_states", .ref (ρ .sts)), ("own_exports", .ref (ρ .exd)), ("own_needs", .ref (ρ (.nd false .p))), ("own_recorded", .ref (ρ (.nd true .p))), ("own_early", .ref (ρ .ear)), ("own_held", .ref (ρ .hel)), ("own_chains", .ref (ρ .chd))]
def CRg (K : PySem.W.Frag) (x : RX) : Ro → Option HO
  | .reg => some (.ins (aF K "Registry") (x.ρ .regD) (regF x.ρ))
  | .regD => some (.own (x.ρ .reg))
  | .sts => some (.dK (stsD x.sn x.c.st))
  | .exd => some (.dK (exdD x.sn x.ρ))
  | .ear => some (.dT (earD x.c.early))
  | .hel => some (.dK (dU x.c.held))
  | .chd => some (.dK (chdD x.τ x.c.ch))
  | .nd b r => CN K (x.nl b) (x.gr b) r
  | .exi n => if n ∈ x.sn then some (.dK (dS V.int (x.c.ex n))) else none
/-- its objects -/
structure RegO (K : PySem.W.Frag) (x : RX) (H : Hp) : Prop where
  is : At x.ρ (CRg K x) H
  tup : ∀ q ∈ x.c.ch, H (x.τ q.1) = some (.tup (q.2.map .str))
/-- .. and a state that is in order -/
structure RegAt (K : PySem.W.Frag) (x : RX) (H : Hp) : Prop extends RegO K x H where
  ok : ROk x.B x.sn x.c x.g x.r
structure RStp (K : PySem.W.Frag) (x : RX) (H : Hp) (x' : RX) (H' : Hp) : Prop where
  s : Stp x.ρ (CRg K x) H x'.ρ (CRg K x') H'
  r : x'.ρ .reg = x.ρ .reg
  n : x'.sn = x.sn
section
variable {K : PySem.W.Frag} {x x' x'' : RX} {H H' H'' : Hp}
theorem CRg_ntup {i : Ro} {xs : List V} : CRg K x i ≠ some (.tup xs) := by
  intro e
  cases i with
  | nd b r =>
    cases r with
    | i a =>
      have e : (lookA (x.gr b) a).map (fun ts => HO.dK (dU ts)) = some (.tup xs) := e
      cases h : lookA (x.gr b) a with
      | none => rw [h] at e; cases e
      | some ts => rw [h] at e; cases e
    | _ => cases e
  | exi n =>
    have e : (if n ∈ x.sn then some (HO.dK (dS V.int (x.c.ex n))) else none) = some (.tup xs) := e
    split at e <;> cases e
  | _ => cases e
theorem CRg_nlst {i : Ro} {xs : List V} : CRg K x i ≠ some (.lst xs) := by
  intro e
  cases i with
  | nd b r =>
    cases r with
    | i a =>
      have e : (lookA (x.gr b) a).map (fun ts => HO.dK (dU ts)) = some (.lst xs) := e
      cases h : lookA (x.gr b) a with
      | none => rw [h] at e; cases e
      | some ts => rw [h] at e; cases e
    | _ => cases e
  | exi n =>
    have e : (if n ∈ x.sn then some (HO.dK (dS V.int (x.c.ex n))) else none) = some (.lst xs) := e
    split at e <;> cases e
  | _ => cases e
theorem RegO.ntup (h : RegO K x H) {a : Addr} {xs : List V} (e : H a = some (.tup xs)) : ¬ own x.ρ (CRg K x) a := fun ⟨i, l, q⟩ => by
  obtain ⟨o, h1, h2⟩ := h.is.live l
  rw [q, e] at h2
  exact CRg_ntup (h1.trans h2.symm)
theorem RegO.nlst (h : RegO K x H) {a : Addr} {xs : List V} (e : H a = some (.lst xs)) : ¬ own x.ρ (CRg K x) a := fun ⟨i, l, q⟩ => by
  obtain ⟨o, h1, h2⟩ := h.is.live l
  rw [q, e] at h2
  exact CRg_nlst (h1.trans h2.symm)
theorem RegO.ex (h : RegO K x H) (e : Ex H H') : RegO K x H' := ⟨h.is.ex e, fun q hq => e _ _ (h.tup q hq)⟩
theorem RegAt.ex (h : RegAt K x H) (e : Ex H H') : RegAt K x H' := ⟨h.toRegO.ex e, h.ok⟩
theorem RStp.refl : RStp K x H x H := ⟨Stp.refl, rfl, rfl⟩
theorem RStp.ex (e : Ex H H') : RStp K x H x H' := ⟨Stp.ex e, rfl, rfl⟩
theorem RStp.trans (s : RStp K x H x' H') (t : RStp K x' H' x'' H'') : RStp K x H x'' H'' := ⟨s.s.trans t.s, t.r.trans s.r, t.n.trans s.n⟩
/-- a role's object is written -/
theorem RegO.set (h : RegO K x H) {i : Ro} (l : (CRg K x i).isSome = true) (o : HO) (hρ : x'.ρ = x.ρ) (hn : x'.sn = x.sn) (hC : ∀ j, CRg K x' j = if j = i then some o else CRg K x j)
    (ht : ∀ q ∈ x'.c.ch, H (x'.τ q.1) = some (.tup (q.2.map .str))) : RegO K x' (upd H (x.ρ i) o) ∧ RStp K x H x' (upd H (x.ρ i) o) := by
  obtain ⟨o', h1, h2⟩ := h.is.live l
  refine ⟨⟨?_, fun q hq => ?_⟩, ?_, by rw [hρ], hn⟩
  · rw [hρ]
    exact h.is.set l o hC
  · rw [upd_ne (fun z => h.ntup (ht q hq) ⟨i, l, z.symm⟩)]
    exact ht q hq
  · rw [hρ]
    exact Stp.put l o hC
/-- a role gets a new object at p, then the object that leads to it is written -/
theorem RegO.move (h : RegO K x H) {i k : Ro} {p : Addr} (hp : H p = none) (o u : HO) (hk : i ≠ k) (l : (CRg K x k).isSome = true) (hρ : ∀ j, x'.ρ j = if j = i then p else x.ρ j) (hr : i ≠ .reg) (hn : x'.sn = x.sn)
    (hC : ∀ j, CRg K x' j = if j = k then some u else if j = i then some o else CRg K x j)
    (ht : ∀ q ∈ x'.c.ch, H (x'.τ q.1) = some (.tup (q.2.map .str))) : RegO K x' (upd (upd H p o) (x.ρ k) u) ∧ RStp K x H x' (upd (upd H p o) (x.ρ k) u) := by
  have a1 := At.add (C' := fun j => if j = i then some o else CRg K x j) (A' := x'.ρ) h.is hp i o (fun _ => rfl) hρ
  have s1 := Stp.add (A := x.ρ) (C := CRg K x) (C1 := fun j => if j = i then some o else CRg K x j) (A1 := x'.ρ) hp i o (fun _ => rfl) hρ
  have lk : ((fun j => if j = i then some o else CRg K x j) k).isSome = true := by
    show (if k = i then some o else CRg K x k).isSome = true
    rw [if_neg (fun z => hk z.symm)]
    exact l
  have ek : x'.ρ k = x.ρ k := by rw [hρ, if_neg (fun z => hk z.symm)]
  rw [← ek]
  refine ⟨⟨a1.set lk u hC, fun q hq => ?_⟩, ⟨s1.trans (Stp.put (A := x'.ρ) (C := fun j => if j = i then some o else CRg K x j) (C1 := CRg K x') (i := k) lk u hC), by rw [hρ, if_neg (fun z => hr z.symm)], hn⟩⟩
  rw [ek, upd_ne (fun z => h.ntup (ht q hq) ⟨k, l, z.symm⟩)]
  exact (Ex.new hp) _ _ (ht q hq)
theorem RegO.needs (h : RegO K x H) (b : Bool) : NAt K (x.nl b) (x.gr b) H :=
  ⟨fun i o e => h.is.is (.nd b i) o e, fun i j li lj e => by
    have := h.is.inj (.nd b i) (.nd b j) li lj e
    injection this⟩
/-- one of the two graphs changes -/
theorem RegO.graph (h : RegO K x H) (b : Bool) {ν' : NL} {g' : Graph} (hN : NAt K ν' g' H') (hs : Stp (x.nl b) (CN K (x.nl b) (x.gr b)) H ν' (CN K ν' g') H') (hp : ν' .p = x.nl b .p)
    (hρ : ∀ j, x'.ρ j = match j with | .nd b' r => if b' = b then ν' r else x.ρ (.nd b' r) | j => x.ρ j) (hg : x'.gr b = g') (hg2 : x'.gr (!b) = x.gr (!b)) (hn : x'.sn = x.sn) (hc : x'.c = x.c) (ht : x'.τ = x.τ) :
    RegO K x' H' ∧ RStp K x H x' H' := by
  have nl : x'.nl b = ν' := funext fun r => by
    show x'.ρ (.nd b r) = ν' r
    rw [hρ]
    exact if_pos rfl
  have nb : ∀ b', b' ≠ b → x'.nl b' = x.nl b' ∧ x'.gr b' = x.gr b' := fun b' hb => by
    refine ⟨funext fun r => ?_, ?_⟩
    · show x'.ρ (.nd b' r) = x.ρ (.nd b' r)
      rw [hρ]
      exact if_neg hb
    · have : b' = !b := by cases b <;> cases b' <;> first | rfl | exact absurd rfl hb
      rw [this]
      exact hg2
  have ρo : ∀ j, (∀ r, j ≠ .nd b r) → x'.ρ j = x.ρ j := fun j hj => by
    rw [hρ]
    cases j with
    | nd b' r =>
      have : b' ≠ b := fun z => hj r (by rw [z])
      exact if_neg this
    | _ => rfl
  have np : ∀ b', x'.ρ (.nd b' .p) = x.ρ (.nd b' .p) := fun b' => by
    rw [hρ]
    show (if b' = b then ν' .p else x.ρ (.nd b' .p)) = _
    by_cases z : b' = b
    · rw [if_pos z, hp, z]
    · rw [if_neg z]
  have Co : ∀ j, (∀ r, j ≠ .nd b r) → CRg K x' j = CRg K x j := fun j hj => by
    cases j with
    | reg =>
      show some (HO.ins _ (x'.ρ .regD) (regF x'.ρ)) = some (HO.ins _ (x.ρ .regD) (regF x.ρ))
      unfold regF
      rw [np, np, ρo .regD (fun _ z => nomatch z), ρo .sts (fun _ z => nomatch z), ρo .exd (fun _ z => nomatch z), ρo .ear (fun _ z => nomatch z), ρo .hel (fun _ z => nomatch z), ρo .chd (fun _ z => nomatch z)]
    | regD =>
      show some (HO.own (x'.ρ .reg)) = some (HO.own (x.ρ .reg))
      rw [ρo .reg (fun _ z => nomatch z)]
    | sts =>
      show some (HO.dK (stsD x'.sn x'.c.st)) = some (HO.dK (stsD x.sn x.c.st))
      rw [hn, hc]
    | exd =>
      show some (HO.dK (exdD x'.sn x'.ρ)) = some (HO.dK (exdD x.sn x.ρ))
      rw [hn]
      have e : (fun n => V.ref (x'.ρ (Ro.exi n))) = fun n => V.ref (x.ρ (Ro.exi n)) := funext fun n => by rw [ρo (.exi n) (fun _ z => nomatch z)]
      unfold exdD
      rw [e]
    | ear =>
      show some (HO.dT (earD x'.c.early)) = some (HO.dT (earD x.c.early))
      rw [hc]
    | hel =>
      show some (HO.dK (dU x'.c.held)) = some (HO.dK (dU x.c.held))
      rw [hc]
    | chd =>
      show some (HO.dK (chdD x'.τ x'.c.ch)) = some (HO.dK (chdD x.τ x.c.ch))
      rw [hc, ht]
    | nd b' r =>
      have hb : b' ≠ b := fun z => hj r (by rw [z])
      show CN K (x'.nl b') (x'.gr b') r = CN K (x.nl b') (x.gr b') r
      rw [(nb b' hb).1, (nb b' hb).2]
    | exi n =>
      show (if n ∈ x'.sn then some (HO.dK (dS V.int (x'.c.ex n))) else none) = if n ∈ x.sn then some (HO.dK (dS V.int (x.c.ex n))) else none
      rw [hn, hc]
  have Cb : ∀ r, CRg K x' (.nd b r) = CN K ν' g' r := fun r => by
    show CN K (x'.nl b) (x'.gr b) r = _
    rw [nl, hg]
  have ρb : ∀ r, x'.ρ (.nd b r) = ν' r := fun r => congrFun nl r
  have sub : ∀ a, own (x.nl b) (CN K (x.nl b) (x.gr b)) a → own x.ρ (CRg K x) a := fun a ⟨r, l, e⟩ => ⟨.nd b r, l, e⟩
  -- another role's object stands apart from the graph's
  have apart : ∀ j, (∀ r, j ≠ .nd b r) → (CRg K x j).isSome = true → ¬ own (x.nl b) (CN K (x.nl b) (x.gr b)) (x.ρ j) := fun j hj l ⟨r, lr, e⟩ => hj r (h.is.inj _ _ l (show (CRg K x (.nd b r)).isSome = true from lr) e.symm)
  have cases_ : ∀ j : Ro, (∃ r, j = .nd b r) ∨ ∀ r, j ≠ .nd b r := fun j => by
    by_cases z : ∃ r, j = .nd b r
    · exact Or.inl z
    · exact Or.inr fun r q => z ⟨r, q⟩
  refine ⟨⟨⟨fun j o e => ?_, fun j k lj lk e => ?_⟩, fun q hq => ?_⟩, ⟨⟨fun a o ha hn => hs.fr a o ha fun z => hn (sub a z), fun a ⟨j, lj, e⟩ => ?_⟩, ρo .reg (fun _ z => nomatch z), hn⟩⟩
  · rcases cases_ j with ⟨r, rfl⟩ | hj
    · rw [Cb] at e
      rw [ρb]
      exact hN.is r o e
    · rw [Co j hj] at e
      rw [ρo j hj]
      exact hs.fr _ _ (h.is.is j o e) (apart j hj (by rw [e]; rfl))
  · have mixed : ∀ r k, (∀ r, k ≠ .nd b r) → (CRg K x' (.nd b r)).isSome = true → (CRg K x' k).isSome = true → x'.ρ (.nd b r) ≠ x'.ρ k := fun r k hk lr lk e => by
      rw [Cb] at lr
      rw [Co k hk] at lk
      rw [ρb, ρo k hk] at e
      rcases hs.nw (ν' r) ⟨r, lr, rfl⟩ with z | z
      · rw [e] at z
        exact apart k hk lk z
      · obtain ⟨o, _, h2⟩ := h.is.live lk
        rw [e, h2] at z
        cases z
    rcases cases_ j with ⟨r, rfl⟩ | hj
    · rcases cases_ k with ⟨r', rfl⟩ | hk
      · rw [Cb] at lj lk
        rw [ρb, ρb] at e
        rw [hN.inj r r' lj lk e]
      · exact absurd e (mixed r k hk lj lk)
    · rcases cases_ k with ⟨r', rfl⟩ | hk
      · exact absurd e.symm (mixed r' j hj lk lj)
      · rw [Co j hj] at lj
        rw [Co k hk] at lk
        rw [ρo j hj, ρo k hk] at e
        exact h.is.inj j k lj lk e
  · rw [ht]
    rw [hc] at hq
    exact hs.fr _ _ (h.tup q hq) fun z => h.ntup (h.tup q hq) (sub _ z)
  · rcases cases_ j with ⟨r, rfl⟩ | hj
    · rw [Cb] at lj
      rw [ρb] at e
      exact (hs.nw a ⟨r, lj, e⟩).imp (sub a) id
    · rw [Co j hj] at lj
      rw [ρo j hj] at e
      exact Or.inl ⟨j, lj, e⟩
end
end CR
set_option maxRecDepth 100000
set_option maxHeartbeats 4000000
/-! Cycleready: the registry's methods that only look. -/
namespace CR
open PySem PySem.Spec PyProof.Rows L2 Evl
local macro_rules | `(tactic| walk_at "red") => `(tactic| dsimp only [tNext, tSeq, tRet, tRetN, tDrop, tIfS, tAsg, tPar, tTest, tB, tNot, tAnd, tOr, tCB, tCons, tNil, tCall, tOp, tUn, tVar, tC, tIf])
local macro_rules | `(tactic| walk_at "nrm") => `(tactic| dsimp only [gName, tNext])
theorem lookM {α : Type} {f : Str → α} {m : Str} : ∀ {l : List Str}, lookA (l.map fun n => (n, f n)) m = if m ∈ l then some (f m) else none
  | [] => rfl
  | n :: l => by
    rw [List.map_cons, lookA_cons, lookM (l := l)]
    by_cases e : n = m
    · rw [if_pos e, if_pos (by rw [e]; exact List.mem_cons_self)]
      show some (f n) = _
      rw [e]
    · rw [if_neg e]
      by_cases h : m ∈ l
      · rw [if_pos h, if_pos (List.mem_cons_of_mem _ h)]
      · rw [if_neg h, if_neg (fun z => (List.mem_cons.mp z).elim (fun q => e q.symm) h)]
section
variable {K : PySem.W.Frag} {x : RX} {H : Hp} {m : Str}
theorem RegO.reg (h : RegO K x H) : H (x.ρ .reg) = some (.ins (aF K "Registry") (x.ρ .regD) (regF x.ρ)) := h.is.is .reg _ rfl
theorem RegO.sts (h : RegO K x H) : H (x.ρ .sts) = some (.dK (stsD x.sn x.c.st)) := h.is.is .sts _ rfl
theorem RegO.hel (h : RegO K x H) : H (x.ρ .hel) = some (.dK (dU x.c.held)) := h.is.is .hel _ rfl
theorem RegO.ear (h : RegO K x H) : H (x.ρ .ear) = some (.dT (earD x.c.early)) := h.is.is .ear _ rfl
theorem RegO.exd (h : RegO K x H) : H (x.ρ .exd) = some (.dK (exdD x.sn x.ρ)) := h.is.is .exd _ rfl
theorem RegO.chd (h : RegO K x H) : H (x.ρ .chd) = some (.dK (chdD x.τ x.c.ch)) := h.is.is .chd _ rfl
theorem RegO.exi (h : RegO K x H) (hm : m ∈ x.sn) : H (x.ρ (.exi m)) = some (.dK (dS V.int (x.c.ex m))) := h.is.is (.exi m) _ (if_pos hm)
theorem RegO.gst (h : RegO K x H) (hm : m ∈ x.sn) : DGet H (x.ρ .sts) (.str m) (some (.str (x.c.st m))) := dg_s (f := V.str) h.sts (v := x.c.st m) (by rw [lookM, if_pos hm])
theorem RegO.hst (h : RegO K x H) : DGet H (x.ρ .sts) (.str m) (if m ∈ x.sn then some (.str (x.c.st m)) else none) := by
  have k := dg_in (f := V.str) (k := m) h.sts
  rw [lookM] at k
  by_cases z : m ∈ x.sn
  · rw [if_pos z] at k ⊢
    exact k
  · rw [if_neg z] at k ⊢
    exact k
theorem RegO.gex (h : RegO K x H) (hm : m ∈ x.sn) : DGet H (x.ρ .exd) (.str m) (some (.ref (x.ρ (.exi m)))) := dg_s (f := fun n => V.ref (x.ρ (.exi n))) h.exd (v := m) (by rw [lookM (f := fun n => n), if_pos hm])
theorem RegO.hhe (h : RegO K x H) : DGet H (x.ρ .hel) (.str m) (if m ∈ x.c.held then some (.bl true) else none) := by
  have k := dg_in (f := V.bl) (k := m) h.hel
  rw [lookU] at k
  by_cases z : m ∈ x.c.held
  · rw [if_pos z] at k ⊢
    exact k
  · rw [if_neg z] at k ⊢
    exact k
theorem RegO.gch (h : RegO K x H) {l : List Str} (e : lookA x.c.ch m = some l) : DGet H (x.ρ .chd) (.str m) (some (.ref (x.τ m))) ∧ H (x.τ m) = some (.tup (l.map .str)) :=
  ⟨dg_s (f := fun n => V.ref (x.τ n)) h.chd (v := m) (by rw [lookG, e]; rfl), h.tup (m, l) (lookA_mem e)⟩
theorem isSome_if {α : Type} {c : Prop} [Decidable c] {a : α} : (if c then some a else none).isSome = decide c := by
  by_cases h : c
  · rw [if_pos h, decide_eq_true h]
    rfl
  · rw [if_neg h, decide_eq_false h]
    rfl
theorem valV_ear {s t : Str} : ∀ {l : List (Str × Str)}, valV (earD l) (k2 (s, t)) = if (s, t) ∈ l then some (.bl true) else none
  | [] => rfl
  | p :: l => by
    show valV ((k2 p, V.bl true) :: earD l) (k2 (s, t)) = _
    by_cases e : p = (s, t)
    · rw [valV_pos (p := (k2 p, V.bl true)) (by rw [e]), if_pos (by rw [e]; exact List.mem_cons_self)]
    · have ne : ¬ (k2 p, V.bl true).1 = k2 (s, t) := fun z => e (by
        have z : [Sum.inr p.1, Sum.inr p.2] = ([Sum.inr s, Sum.inr t] : List Key) := z
        injection z with z1 z2
        injection z2 with z2 _
        exact Prod.ext (Sum.inr.inj z1) (Sum.inr.inj z2))
      rw [valV_neg ne, valV_ear (l := l)]
      by_cases m : (s, t) ∈ l
      · rw [if_pos m, if_pos (List.mem_cons_of_mem _ m)]
      · rw [if_neg m, if_neg (fun z => (List.mem_cons.mp z).elim (fun q => e q.symm) m)]
theorem mergeK_app : ∀ (l acc : List (Key × V)), (l.map (·.1)).Nodup → (∀ q ∈ l, valV acc q.1 = none) → mergeK acc l = acc ++ l
  | [], acc, _, _ => (List.append_nil _).symm
  | q :: l, acc, nd, h => by
    rw [List.map_cons, List.nodup_cons] at nd
    show mergeK (putK acc q.1 q.2) l = _
    rw [putK_new _ (h q List.mem_cons_self), mergeK_app l _ nd.2 fun r hr => ?_, List.append_assoc]
    · rfl
    · have ne : r.1 ≠ q.1 := fun z => nd.1 (z ▸ List.mem_map.mpr ⟨r, hr, rfl⟩)
      rw [valV_snoc q.1 r.1 q.2 acc (h q List.mem_cons_self), if_neg ne]
      exact h r (List.mem_cons_of_mem _ hr)
theorem mergeK_dS {α : Type} {f : α → V} {l : List (Str × α)} (nd : (l.map (·.1)).Nodup) : mergeK [] (dS f l) = dS f l :=
  mergeK_app _ [] (by rw [keys_dS]; exact List.Pairwise.map _ (fun a b h z => h (Sum.inr.inj z)) nd) fun _ _ => rfl
theorem complB_iff {st : Str → Str} {E : Str → Str → Prop} {n : Str} : complB st E n = true ↔ ∀ y, Rch E n y → st y = "done" ∨ st y = "ready" :=
  ⟨fun h => @of_decide_eq_true _ (Classical.propDecidable _) h, fun h => @decide_eq_true _ (Classical.propDecidable _) h⟩
theorem dec_V {a b : Str} : decide (V.str a = V.str b) = decide (a = b) := by
  rw [decide_eq_decide]
  exact ⟨V.str.inj, fun z => by rw [z]⟩
end
section
variable {P : Program} {w : World} {K : PySem.W.Frag} {mg : Str → Option Value} {base : Heap}
abbrev vO : Option Str → V
  | none => .non
  | some s => .str s

def sp_R_names (K : PySem.W.Frag) : Sp := Pm (fun x : RX => [.ref (x.ρ .reg)]) fun x H Q => RegAt K x H ∧ RetL (x.sn.map .str) H Q
theorem sp_R_names_len (K : PySem.W.Frag) : ∀ vs H Q E, sp_R_names K vs H Q E → vs.length = 1 := Pm.len fun _ => rfl
abbrev s_R_names : Stmt := (inClass (top 29) 7)
theorem sc_R_names : FnScope ["self"] ["self"] (defScope s_R_names) := ⟨rfl, rfl, rfl, by decide +kernel, rfl, by decide +kernel, by decide +kernel⟩
theorem ok_R_names (T : Txt K mg) : Okd P w K mg base 1 (aM K "Registry" "names") ["self"] (sp_R_names K) := by
  obtain ⟨fd, F⟩ := T.f_R_names
  refine Okd.mk F sc_R_names (sp_R_names_len K) (fun _ _ _ _ _ _ us hl => match us, hl with | [_], _ => rfl) (fun cdv A outer s H vs Q E hr h => ?_)
  have hu := hu_of hr
  refine ⟨_, (pss_one (ps_ret (pe_callTy (call_listD rfl) (by rfl) T.b_list (by decide +kernel) (pa_cons (pe_fldK (K := K) rfl (pv 0) rfl) pa_nil)))), ?_⟩
  obtain ⟨x, rfl, hR, k⟩ := h
  refine ⟨_, rfl, _, _, _, _, _, rfl, hR.reg, T.cl_Registry, T.n_own_states, rfl, _, _, rfl, Or.inl hR.sts, fun p hp => ?_⟩
  have e : ((stsD x.sn x.c.st).map fun kv => kV kv.1) = x.sn.map .str := by
    unfold stsD
    rw [kVs_dS]
    congr 1
    rw [List.map_map]
    exact List.map_id x.sn
  rw [e]
  exact k p _ hp (Ex.new hp) upd_same

def sp_R_want_module (K : PySem.W.Frag) : Sp := Pm (fun x : RX × Str => [.ref (x.1.ρ .reg), .str x.2]) fun x H Q => RegAt K x.1 H ∧ x.2 ∈ x.1.sn ∧ RetV .non H Q
theorem sp_R_want_module_len (K : PySem.W.Frag) : ∀ vs H Q E, sp_R_want_module K vs H Q E → vs.length = 2 := Pm.len fun _ => rfl
abbrev s_R_want_module : Stmt := (inClass (top 29) 8)
theorem sc_R_want_module : FnScope ["self", "value"] ["self", "value"] (defScope s_R_want_module) := ⟨rfl, rfl, rfl, by decide +kernel, rfl, by decide +kernel, by decide +kernel⟩
theorem ok_R_want_module (T : Txt K mg) : Okd P w K mg base 1 (aM K "Registry" "want_module") ["self", "value"] (sp_R_want_module K) := by
  obtain ⟨fd, F⟩ := T.f_R_want_module
  refine Okd.mk F sc_R_want_module (sp_R_want_module_len K) (fun _ _ _ _ _ _ us hl => match us, hl with | [_, _], _ => rfl) (fun cdv A outer s H vs Q E hr h => ?_)
  have hu := hu_of hr
  refine ⟨_, (pss_one (ps_if (PW.pt (pw_or (pt_not (pt_val (pe_callB (call_isiK (K := K) rfl) (by rfl) T.b_isinstance (by decide +kernel) (pa_cons (pv 1) (pa_cons (pe_bltn rfl T.b_str (by decide +kernel) (v := .ty "str") rfl) pa_nil))))) (pw_or1 (pt_cmp (pc_dnotin hu (pv 1) (pe_fldK (K := K) rfl (pv 0) rfl)))))) (pss_one ps_never) pss_nil)), ?_⟩
  obtain ⟨⟨x, m⟩, rfl, hR, hm, k⟩ := h
  dsimp only at hR hm k
  refine ⟨_, rfl, _, _, _, _, _, rfl, .ty _, .base (.str m), kit_str, true, rfl, ?_⟩
  refine it_f (by rfl) ⟨_, rfl, _, rfl, _, _, _, _, _, rfl, hR.reg, T.cl_Registry, T.n_own_states, rfl, _, _, rfl, hR.hst, _, rfl, ?_⟩
  rw [isSome_if, decide_eq_true hm]
  exact it_f (by rfl) (k _ (Ex.refl _))

def sp_R_want_state (K : PySem.W.Frag) : Sp := Pm (fun x : RX × Str × Str => [.ref (x.1.ρ .reg), .str x.2.1, .str x.2.2]) fun x H Q => RegAt K x.1 H ∧ x.2.1 ∈ x.1.sn ∧ x.1.c.st x.2.1 = x.2.2 ∧ RetV .non H Q
theorem sp_R_want_state_len (K : PySem.W.Frag) : ∀ vs H Q E, sp_R_want_state K vs H Q E → vs.length = 3 := Pm.len fun _ => rfl
abbrev s_R_want_state : Stmt := (inClass (top 29) 9)
theorem sc_R_want_state : FnScope ["self", "module", "state"] ["self", "module", "state"] (defScope s_R_want_state) := ⟨rfl, rfl, rfl, by decide +kernel, rfl, by decide +kernel, by decide +kernel⟩
theorem ok_R_want_state (T : Txt K mg) : Okd P w K mg base 2 (aM K "Registry" "want_state") ["self", "module", "state"] (sp_R_want_state K) := by
  obtain ⟨fd, F⟩ := T.f_R_want_state
  refine Okd.mk F sc_R_want_state (sp_R_want_state_len K) (fun _ _ _ _ _ _ us hl => match us, hl with | [_, _, _], _ => rfl) (fun cdv A outer s H vs Q E hr h => ?_)
  have hu := hu_of hr
  refine ⟨_, (pss_cons (ps_expr (pe_methO (pv 0) T.cl_Registry T.m_Registry_want_module (ok_R_want_module (K := K) T) (hr.mono (by decide)) (pa_cons (pv 1) pa_nil)))
    (pss_one (ps_if (pt_cmpR op_ne (pe_dget hu (pe_fldK (K := K) rfl (pv 0) rfl) (pv 1) (fun _ _ => rfl)) (pv 2) (nomark _)) (pss_one ps_never) pss_nil))), ?_⟩
  obtain ⟨⟨x, m, st⟩, rfl, hR, hm, hs, k⟩ := h
  dsimp only at hR hm hs k
  refine ⟨_, rfl, _, _, _, rfl, hR.reg, rfl, _, rfl, (x, m), rfl, hR, hm, fun H1 e1 => ?_⟩
  have hR1 := hR.ex e1
  refine ⟨_, rfl, _, _, _, _, _, rfl, hR1.reg, T.cl_Registry, T.n_own_states, rfl, _, rfl, _, _, rfl, hR1.gst hm, _, rfl, rfl, _, rfl, ?_⟩
  rw [dec_V, decide_eq_true hs]
  exact it_f (by rfl) (k _ e1)

def sp_R_want_loose (K : PySem.W.Frag) : Sp := Pm (fun x : RX × Str => [.ref (x.1.ρ .reg), .str x.2]) fun x H Q => RegAt K x.1 H ∧ x.2 ∈ x.1.sn ∧ x.1.c.st x.2 = "failed" ∧ x.2 ∉ x.1.c.held ∧ RetV .non H Q
theorem sp_R_want_loose_len (K : PySem.W.Frag) : ∀ vs H Q E, sp_R_want_loose K vs H Q E → vs.length = 2 := Pm.len fun _ => rfl
abbrev s_R_want_loose : Stmt := (inClass (top 29) 10)
theorem sc_R_want_loose : FnScope ["self", "module"] ["self", "module"] (defScope s_R_want_loose) := ⟨rfl, rfl, rfl, by decide +kernel, rfl, by decide +kernel, by decide +kernel⟩
theorem ok_R_want_loose (T : Txt K mg) : Okd P w K mg base 3 (aM K "Registry" "want_loose") ["self", "module"] (sp_R_want_loose K) := by
  obtain ⟨fd, F⟩ := T.f_R_want_loose
  refine Okd.mk F sc_R_want_loose (sp_R_want_loose_len K) (fun _ _ _ _ _ _ us hl => match us, hl with | [_, _], _ => rfl) (fun cdv A outer s H vs Q E hr h => ?_)
  have hu := hu_of hr
  refine ⟨_, (pss_cons (ps_expr (pe_methO (pv 0) T.cl_Registry T.m_Registry_want_state (ok_R_want_state (K := K) T) (hr.mono (by decide)) (pa_cons (pv 1) (pa_cons (pe_gstr rfl T.c_FAILED) pa_nil))))
    (pss_one (ps_if (pt_cmp (pc_din hu (pv 1) (pe_fldK (K := K) rfl (pv 0) rfl))) (pss_one ps_never) pss_nil))), ?_⟩
  obtain ⟨⟨x, m⟩, rfl, hR, hm, hs, hh, k⟩ := h
  dsimp only at hR hm hs hh k
  refine ⟨_, rfl, _, _, _, rfl, hR.reg, rfl, _, rfl, (x, m, "failed"), rfl, hR, hm, hs, fun H1 e1 => ?_⟩
  have hR1 := hR.ex e1
  refine ⟨_, rfl, _, rfl, _, _, _, _, _, rfl, hR1.reg, T.cl_Registry, T.n_own_held, rfl, _, _, rfl, hR1.hhe, _, rfl, ?_⟩
  rw [isSome_if, decide_eq_false hh]
  exact it_f (by rfl) (k _ e1)

def sp_R_state_of (K : PySem.W.Frag) : Sp := Pm (fun x : RX × Str => [.ref (x.1.ρ .reg), .str x.2]) fun x H Q => RegAt K x.1 H ∧ x.2 ∈ x.1.sn ∧ RetV (.str (x.1.c.st x.2)) H Q
theorem sp_R_state_of_len (K : PySem.W.Frag) : ∀ vs H Q E, sp_R_state_of K vs H Q E → vs.length = 2 := Pm.len fun _ => rfl
abbrev s_R_state_of : Stmt := (inClass (top 29) 11)
theorem sc_R_state_of : FnScope ["self", "module"] ["self", "module"] (defScope s_R_state_of) := ⟨rfl, rfl, rfl, by decide +kernel, rfl, by decide +kernel, by decide +kernel⟩
theorem ok_R_state_of (T : Txt K mg) : Okd P w K mg base 2 (aM K "Registry" "state_of") ["self", "module"] (sp_R_state_of K) := by
  obtain ⟨fd, F⟩ := T.f_R_state_of
  refine Okd.mk F sc_R_state_of (sp_R_state_of_len K) (fun _ _ _ _ _ _ us hl => match us, hl with | [_, _], _ => rfl) (fun cdv A outer s H vs Q E hr h => ?_)
  have hu := hu_of hr
  refine ⟨_, (pss_cons (ps_expr (pe_methO (pv 0) T.cl_Registry T.m_Registry_want_module (ok_R_want_module (K := K) T) (hr.mono (by decide)) (pa_cons (pv 1) pa_nil)))
    (pss_one (ps_ret (pe_dget hu (pe_fldK (K := K) rfl (pv 0) rfl) (pv 1) (fun _ _ => rfl))))), ?_⟩
  obtain ⟨⟨x, m⟩, rfl, hR, hm, k⟩ := h
  dsimp only at hR hm k
  refine ⟨_, rfl, _, _, _, rfl, hR.reg, rfl, _, rfl, (x, m), rfl, hR, hm, fun H1 e1 => ?_⟩
  have hR1 := hR.ex e1
  exact ⟨_, rfl, _, _, _, _, _, rfl, hR1.reg, T.cl_Registry, T.n_own_states, rfl, _, rfl, _, _, rfl, hR1.gst hm, k _ e1⟩

def sp_R_is_held (K : PySem.W.Frag) : Sp := Pm (fun x : RX × Str => [.ref (x.1.ρ .reg), .str x.2]) fun x H Q => RegAt K x.1 H ∧ x.2 ∈ x.1.sn ∧ RetV (.bl (decide (x.2 ∈ x.1.c.held))) H Q
theorem sp_R_is_held_len (K : PySem.W.Frag) : ∀ vs H Q E, sp_R_is_held K vs H Q E → vs.length = 2 := Pm.len fun _ => rfl
abbrev s_R_is_held : Stmt := (inClass (top 29) 31)
theorem sc_R_is_held : FnScope ["self", "module"] ["self", "module"] (defScope s_R_is_held) := ⟨rfl, rfl, rfl, by decide +kernel, rfl, by decide +kernel, by decide +kernel⟩
theorem ok_R_is_held (T : Txt K mg) : Okd P w K mg base 2 (aM K "Registry" "is_held") ["self", "module"] (sp_R_is_held K) := by
  obtain ⟨fd, F⟩ := T.f_R_is_held
  refine Okd.mk F sc_R_is_held (sp_R_is_held_len K) (fun _ _ _ _ _ _ us hl => match us, hl with | [_, _], _ => rfl) (fun cdv A outer s H vs Q E hr h => ?_)
  have hu := hu_of hr
  refine ⟨_, (pss_cons (ps_expr (pe_methO (pv 0) T.cl_Registry T.m_Registry_want_module (ok_R_want_module (K := K) T) (hr.mono (by decide)) (pa_cons (pv 1) pa_nil)))
    (pss_one (ps_ret (pe_cmp (pc_din hu (pv 1) (pe_fldK (K := K) rfl (pv 0) rfl)))))), ?_⟩
  obtain ⟨⟨x, m⟩, rfl, hR, hm, k⟩ := h
  dsimp only at hR hm k
  refine ⟨_, rfl, _, _, _, rfl, hR.reg, rfl, _, rfl, (x, m), rfl, hR, hm, fun H1 e1 => ?_⟩
  have hR1 := hR.ex e1
  refine ⟨_, rfl, _, rfl, _, _, _, _, _, rfl, hR1.reg, T.cl_Registry, T.n_own_held, rfl, _, _, rfl, hR1.hhe, ?_⟩
  rw [isSome_if]
  exact k _ e1

def sp_R_chain (K : PySem.W.Frag) : Sp := Pm (fun x : RX × Str => [.ref (x.1.ρ .reg), .str x.2]) fun x H Q => RegAt K x.1 H ∧ x.2 ∈ x.1.sn ∧ x.1.c.st x.2 = "failed" ∧ RetL ((chainC x.1.c x.2).map .str) H Q
theorem sp_R_chain_len (K : PySem.W.Frag) : ∀ vs H Q E, sp_R_chain K vs H Q E → vs.length = 2 := Pm.len fun _ => rfl
theorem ROk.chain {B : Nat} {sn : List Str} {c : Core} {g r : Graph} (h : ROk B sn c g r) {m : Str} (hm : m ∈ sn) (hs : c.st m = "failed") : lookA c.ch m = some (chainC c m) ∧ (chainC c m).length ≤ B := by
  have k := h.cst m hm hs
  cases e : lookA c.ch m with
  | none => exact absurd k (lookA_none.mp e)
  | some l =>
    unfold chainC
    rw [e]
    exact ⟨rfl, h.cln _ (lookA_mem e)⟩
abbrev s_R_chain : Stmt := (inClass (top 29) 30)
theorem sc_R_chain : FnScope ["self", "module"] ["self", "module"] (defScope s_R_chain) := ⟨rfl, rfl, rfl, by decide +kernel, rfl, by decide +kernel, by decide +kernel⟩
theorem ok_R_chain (T : Txt K mg) : Okd P w K mg base 3 (aM K "Registry" "chain") ["self", "module"] (sp_R_chain K) := by
  obtain ⟨fd, F⟩ := T.f_R_chain
  refine Okd.mk F sc_R_chain (sp_R_chain_len K) (fun _ _ _ _ _ _ us hl => match us, hl with | [_, _], _ => rfl) (fun cdv A outer s H vs Q E hr h => ?_)
  have hu := hu_of hr
  refine ⟨_, (pss_cons (ps_expr (pe_methO (pv 0) T.cl_Registry T.m_Registry_want_state (ok_R_want_state (K := K) T) (hr.mono (by decide)) (pa_cons (pv 1) (pa_cons (pe_gstr rfl T.c_FAILED) pa_nil))))
    (pss_one (ps_ret (pe_callTy (call_list_ofK (K := K) rfl) (by rfl) T.b_list (by decide +kernel) (pa_cons (pe_dget hu (pe_fldK (K := K) rfl (pv 0) rfl) (pv 1) (fun _ _ => rfl)) pa_nil))))), ?_⟩
  obtain ⟨⟨x, m⟩, rfl, hR, hm, hs, k⟩ := h
  dsimp only at hR hm hs k
  refine ⟨_, rfl, _, _, _, rfl, hR.reg, rfl, _, rfl, (x, m, "failed"), rfl, hR, hm, hs, fun H1 e1 => ?_⟩
  have hR1 := hR.ex e1
  obtain ⟨g1, g2⟩ := hR1.gch (hR.ok.chain hm hs).1
  exact ⟨_, rfl, _, _, _, _, _, rfl, hR1.reg, T.cl_Registry, T.n_own_chains, rfl, _, rfl, _, _, rfl, g1, _, _, rfl, Or.inr (st_of g2), fun p hp => k p _ (fresh_back e1 hp) (e1.trans (Ex.new hp)) upd_same⟩

def sp_R_needs (K : PySem.W.Frag) : Sp := Pm (fun x : RX => [.ref (x.ρ .reg)]) fun x H Q => RegAt K x H ∧
  ∀ ν' H', Ex H H' → NAt K ν' x.g H' → (∀ a, own ν' (CN K ν' x.g) a → H a = none) → Q (.ref (ν' .p)) H'
theorem sp_R_needs_len (K : PySem.W.Frag) : ∀ vs H Q E, sp_R_needs K vs H Q E → vs.length = 1 := Pm.len fun _ => rfl
theorem gin_len {U : List Str} {g : Graph} (h : GIn U g) (ok : GOk g) : g.length ≤ U.length ∧ (∀ a, (tg g a).length ≤ U.length) ∧ (pairsG g).length ≤ U.length * U.length := by
  have l1 : g.length ≤ U.length := by
    have := ok.nd.length_le_of_subset (l₂ := U) fun a ha => by
      obtain ⟨q, hq, rfl⟩ := List.mem_map.mp ha
      exact (h q hq).1
    rwa [List.length_map] at this
  have l2 : ∀ q ∈ g, q.2.length ≤ U.length := fun q hq => (ok.ndi q hq).length_le_of_subset (h q hq).2
  refine ⟨l1, fun a => (ok.tg_nodup a).length_le_of_subset fun t ht => (GIn.tg h ht).2, ?_⟩
  have go : ∀ l : Graph, (∀ q ∈ l, q.2.length ≤ U.length) → (pairsG l).length ≤ l.length * U.length := by
    intro l
    induction l with
    | nil => intro _; exact Nat.zero_le _
    | cons q l ih =>
      intro hl
      have h1 := ih fun q' hq' => hl q' (List.mem_cons_of_mem _ hq')
      have h2 := hl q List.mem_cons_self
      have e : pairsG (q :: l) = q.2.map (fun t => (q.1, t)) ++ pairsG l := rfl
      rw [e, List.length_append, List.length_map, List.length_cons, Nat.succ_mul]
      omega
  exact Nat.le_trans (go g l2) (Nat.mul_le_mul_right _ l1)
abbrev s_R_needs : Stmt := (inClass (top 29) 13)
theorem sc_R_needs : FnScope ["self"] ["self"] (defScope s_R_needs) := ⟨rfl, rfl, rfl, by decide +kernel, rfl, by decide +kernel, by decide +kernel⟩
theorem ok_R_needs (T : Txt K mg) : Okd P w K mg base 4 (aM K "Registry" "needs") ["self"] (sp_R_needs K) := by
  obtain ⟨fd, F⟩ := T.f_R_needs
  refine Okd.mk F sc_R_needs (sp_R_needs_len K) (fun _ _ _ _ _ _ us hl => match us, hl with | [_], _ => rfl) (fun cdv A outer s H vs Q E hr h => ?_)
  have hu := hu_of hr
  refine ⟨_, (pss_one (ps_ret (pe_methO0 (pe_fldK (K := K) rfl (pv 0) rfl) T.cl_Needs T.m_Needs_clone (ok_N_clone (K := K) T) (hr.mono (by decide))))), ?_⟩
  obtain ⟨x, rfl, hR, k⟩ := h
  have l := gin_len hR.ok.gin hR.ok.gok
  have := hR.ok.len
  exact ⟨_, rfl, _, _, _, _, _, rfl, hR.reg, T.cl_Registry, T.n_own_needs, rfl, _, _, _, rfl, (hR.needs false).pi, rfl, (x.nl false, x.g), rfl, hR.needs false, hR.ok.gok, by show x.g.length ≤ 1000; omega, k⟩

def sp_R_recorded (K : PySem.W.Frag) : Sp := Pm (fun x : RX => [.ref (x.ρ .reg)]) fun x H Q => RegAt K x H ∧
  ∀ ν' H', Ex H H' → NAt K ν' x.r H' → (∀ a, own ν' (CN K ν' x.r) a → H a = none) → Q (.ref (ν' .p)) H'
theorem sp_R_recorded_len (K : PySem.W.Frag) : ∀ vs H Q E, sp_R_recorded K vs H Q E → vs.length = 1 := Pm.len fun _ => rfl
abbrev s_R_recorded : Stmt := (inClass (top 29) 14)
theorem sc_R_recorded : FnScope ["self"] ["self"] (defScope s_R_recorded) := ⟨rfl, rfl, rfl, by decide +kernel, rfl, by decide +kernel, by decide +kernel⟩
theorem ok_R_recorded (T : Txt K mg) : Okd P w K mg base 4 (aM K "Registry" "recorded") ["self"] (sp_R_recorded K) := by
  obtain ⟨fd, F⟩ := T.f_R_recorded
  refine Okd.mk F sc_R_recorded (sp_R_recorded_len K) (fun _ _ _ _ _ _ us hl => match us, hl with | [_], _ => rfl) (fun cdv A outer s H vs Q E hr h => ?_)
  have hu := hu_of hr
  refine ⟨_, (pss_one (ps_ret (pe_methO0 (pe_fldK (K := K) rfl (pv 0) rfl) T.cl_Needs T.m_Needs_clone (ok_N_clone (K := K) T) (hr.mono (by decide))))), ?_⟩
  obtain ⟨x, rfl, hR, k⟩ := h
  have l := gin_len hR.ok.rin hR.ok.rok
  have := hR.ok.len
  exact ⟨_, rfl, _, _, _, _, _, rfl, hR.reg, T.cl_Registry, T.n_own_recorded, rfl, _, _, _, rfl, (hR.needs true).pi, rfl, (x.nl true, x.r), rfl, hR.needs true, hR.ok.rok, by show x.r.length ≤ 1000; omega, k⟩

def sp_R_early (K : PySem.W.Frag) : Sp := Pm (fun x : RX => [.ref (x.ρ .reg)]) fun x H Q => RegAt K x H ∧
  ∀ bs p H', Ex H H' → H p = none → bs.map (·.2) = srtP x.c.early → Prs H' bs → H' p = some (.lst (refsB bs)) → Q (.ref p) H'
theorem sp_R_early_len (K : PySem.W.Frag) : ∀ vs H Q E, sp_R_early K vs H Q E → vs.length = 1 := Pm.len fun _ => rfl
theorem ROk.elen {B : Nat} {sn : List Str} {c : Core} {g r : Graph} (h : ROk B sn c g r) : c.early.length ≤ 10000 := by
  have h1 := h.end_.length_le_of_subset (l₂ := sn.flatMap fun a => sn.map fun b => (a, b)) fun p hp => by
    obtain ⟨h1, h2⟩ := h.ein p hp
    exact List.mem_flatMap.mpr ⟨p.1, h1, List.mem_map.mpr ⟨p.2, h2, rfl⟩⟩
  have h2 : (sn.flatMap fun a => sn.map fun b => (a, b)).length = sn.length * sn.length := by
    rw [List.length_flatMap]
    have : (fun a : Str => (sn.map fun b => (a, b)).length) = fun _ => sn.length := funext fun a => List.length_map _
    rw [this, List.map_const', List.sum_replicate_nat]
  have h3 := h.len
  have h4 : sn.length * sn.length ≤ 40 * 40 := Nat.mul_le_mul h3 h3
  omega
abbrev s_R_early : Stmt := (inClass (top 29) 15)
theorem sc_R_early : FnScope ["self"] ["self"] (defScope s_R_early) := ⟨rfl, rfl, rfl, by decide +kernel, rfl, by decide +kernel, by decide +kernel⟩
theorem ok_R_early (T : Txt K mg) : Okd P w K mg base 1 (aM K "Registry" "early") ["self"] (sp_R_early K) := by
  obtain ⟨fd, F⟩ := T.f_R_early
  refine Okd.mk F sc_R_early (sp_R_early_len K) (fun _ _ _ _ _ _ us hl => match us, hl with | [_], _ => rfl) (fun cdv A outer s H vs Q E hr h => ?_)
  have hu := hu_of hr
  refine ⟨_, (pss_one (ps_ret (pe_callB (cr_sortedDT rfl hr.units) (by rfl) T.b_sorted (by decide +kernel) (pa_cons (pe_fldK (K := K) rfl (pv 0) rfl) pa_nil)))), ?_⟩
  obtain ⟨x, rfl, hR, k⟩ := h
  refine ⟨_, rfl, _, _, _, _, _, rfl, hR.reg, T.cl_Registry, T.n_own_early, rfl, _, _, x.c.early, rfl, Or.inl hR.ear, ?_, hR.ok.elen, fun cs p hs hb hp => k cs p _ (Ex.new hp) hp hs (fun b hb' => (Ex.new hp) _ _ (hb b hb')) upd_same⟩
  unfold earD
  rw [List.map_map]
  rfl

def sp_R_want_request (K : PySem.W.Frag) : Sp := Pm (fun x : RX × Option Str × Str => [.ref (x.1.ρ .reg), vO x.2.1, .str x.2.2]) fun x H Q => RegAt K x.1 H ∧ x.2.2 ∈ x.1.sn ∧ (∀ s, x.2.1 = some s → s ∈ x.1.sn ∧ x.1.c.st s = "running") ∧ RetV .non H Q
theorem sp_R_want_request_len (K : PySem.W.Frag) : ∀ vs H Q E, sp_R_want_request K vs H Q E → vs.length = 3 := Pm.len fun _ => rfl
abbrev s_R_want_request : Stmt := (inClass (top 29) 16)
theorem sc_R_want_request : FnScope ["self", "source", "target"] ["self", "source", "target"] (defScope s_R_want_request) := ⟨rfl, rfl, rfl, by decide +kernel, rfl, by decide +kernel, by decide +kernel⟩
theorem ok_R_want_request (T : Txt K mg) : Okd P w K mg base 3 (aM K "Registry" "want_request") ["self", "source", "target"] (sp_R_want_request K) := by
  obtain ⟨fd, F⟩ := T.f_R_want_request
  refine Okd.mk F sc_R_want_request (sp_R_want_request_len K) (fun _ _ _ _ _ _ us hl => match us, hl with | [_, _, _], _ => rfl) (fun cdv A outer s H vs Q E hr h => ?_)
  have hu := hu_of hr
  refine ⟨_, (pss_cut (ps_if (pt_cmp (pc_notN (pv 1))) (pss_one (ps_expr (pe_methO (pv 0) T.cl_Registry T.m_Registry_want_module (ok_R_want_module (K := K) T) (hr.mono (by decide)) (pa_cons (pv 1) pa_nil)))) pss_nil)
    (pss_cons (ps_expr (pe_methO (pv 0) T.cl_Registry T.m_Registry_want_module (ok_R_want_module (K := K) T) (hr.mono (by decide)) (pa_cons (pv 2) pa_nil)))
    (pss_one (ps_if (pt_cmp (pc_notN (pv 1))) (pss_one (ps_expr (pe_methO (pv 0) T.cl_Registry T.m_Registry_want_state (ok_R_want_state (K := K) T) (hr.mono (by decide)) (pa_cons (pv 1) (pa_cons (pe_gstr rfl T.c_RUNNING) pa_nil))))) pss_nil)))), ?_⟩
  obtain ⟨⟨x, s, t⟩, rfl, hR, ht, hs, k⟩ := h
  dsimp only at hR ht hs k
  refine ⟨fun σ' H' => σ' = [some (.ref (x.ρ .reg)), some (vO s), some (.str t)] ∧ Ex H H', ?_, ?_⟩
  · cases s with
    | none => exact ⟨_, rfl, _, rfl, it_f (by rfl) ⟨rfl, Ex.refl H⟩⟩
    | some s => exact ⟨_, rfl, _, rfl, it_t (by rfl) ⟨_, rfl, _, _, _, rfl, hR.reg, rfl, _, rfl, (x, s), rfl, hR, (hs s rfl).1, fun H1 e1 => ⟨rfl, e1⟩⟩⟩
  · rintro σ' H1 ⟨rfl, e1⟩
    have hR1 := hR.ex e1
    refine ⟨_, rfl, _, _, _, rfl, hR1.reg, rfl, _, rfl, (x, t), rfl, hR1, ht, fun H2 e2 => ?_⟩
    have hR2 := hR1.ex e2
    cases s with
    | none => exact ⟨_, rfl, _, rfl, it_f (by rfl) (k _ (e1.trans e2))⟩
    | some s => exact ⟨_, rfl, _, rfl, it_t (by rfl) ⟨_, rfl, _, _, _, rfl, hR2.reg, rfl, _, rfl, (x, s, "running"), rfl, hR2, (hs s rfl).1, (hs s rfl).2, fun H3 e3 => k _ ((e1.trans e2).trans e3)⟩⟩

def sp_R_is_early (K : PySem.W.Frag) : Sp := Pm (fun x : RX × Option Str × Str => [.ref (x.1.ρ .reg), vO x.2.1, .str x.2.2]) fun x H Q => RegAt K x.1 H ∧ x.2.2 ∈ x.1.sn ∧ (∀ s, x.2.1 = some s → s ∈ x.1.sn) ∧
  RetV (.bl (match x.2.1 with | none => false | some s => decide ((s, x.2.2) ∈ x.1.c.early) || rchB (Eg x.1.g) x.2.2 s)) H Q
theorem sp_R_is_early_len (K : PySem.W.Frag) : ∀ vs H Q E, sp_R_is_early K vs H Q E → vs.length = 3 := Pm.len fun _ => rfl
abbrev s_R_is_early : Stmt := (inClass (top 29) 18)
theorem sc_R_is_early : FnScope ["self", "source", "target"] ["self", "source", "target"] (defScope s_R_is_early) := ⟨rfl, rfl, rfl, by decide +kernel, rfl, by decide +kernel, by decide +kernel⟩
theorem ok_R_is_early (T : Txt K mg) : Okd P w K mg base 4 (aM K "Registry" "is_early") ["self", "source", "target"] (sp_R_is_early K) := by
  obtain ⟨fd, F⟩ := T.f_R_is_early
  refine Okd.mk F sc_R_is_early (sp_R_is_early_len K) (fun _ _ _ _ _ _ us hl => match us, hl with | [_, _, _], _ => rfl) (fun cdv A outer s H vs Q E hr h => ?_)
  have hu := hu_of hr
  refine ⟨_, (pss_cons (ps_if (pt_cmp (pc_isN (pv 1))) (pss_one (ps_ret pe_bl)) pss_nil)
    (pss_one (ps_ret (pe_or (pe_cmp (pc_din hu (pe_tup (pa_cons (pv 1) (pa_cons (pv 2) pa_nil))) (pe_fldK (K := K) rfl (pv 0) rfl))) (pe_one (pe_methO (pe_fldK (K := K) rfl (pv 0) rfl) T.cl_Needs T.m_Needs_depends (ok_N_depends (K := K) T) (hr.mono (by decide)) (pa_cons (pv 2) (pa_cons (pv 1) pa_nil)))))))), ?_⟩
  obtain ⟨⟨x, s, t⟩, rfl, hR, ht, hs, k⟩ := h
  dsimp only at hR ht hs k
  cases s with
  | none => exact ⟨_, rfl, _, rfl, it_t (by rfl) (k _ (Ex.refl _))⟩
  | some s =>
    refine ⟨_, rfl, _, rfl, it_f (by rfl) ?_⟩
    refine ⟨_, rfl, _, rfl, sz_of (n := 2) (by decide), fun p hp => ?_⟩
    have e1 := Ex.new (o := HO.tup [vO (some s), V.str t]) hp
    have hR1 := hR.ex e1
    refine ⟨_, rfl, _, _, _, _, _, rfl, hR1.reg, T.cl_Registry, T.n_own_early, rfl, _, _, rfl, Or.inr ⟨_, k2 (s, t), p, Or.inl hR1.ear, rfl, upd_same, rfl⟩, _, rfl, ?_⟩
    rw [valV_ear, isSome_if]
    by_cases m : (s, t) ∈ x.c.early
    · rw [decide_eq_true m]
      have := k _ e1
      dsimp only at this
      rw [decide_eq_true m, Bool.true_or] at this
      exact it_t (by rfl) this
    · rw [decide_eq_false m]
      refine it_f (by rfl) ⟨_, rfl, _, _, _, _, _, rfl, hR1.reg, T.cl_Registry, T.n_own_needs, rfl, _, _, _, rfl, (hR1.needs false).pi, rfl, _, rfl, _, rfl, ((x.nl false, x.g, x.sn), t, s), rfl, hR1.needs false, hR.ok.gok, hR.ok.gin, ht, hR.ok.nm s (hs s rfl), Nat.le_trans hR.ok.len (by decide), hR.ok.nm, fun H2 e2 => ?_⟩
      have := k _ (e1.trans e2)
      dsimp only at this
      rw [decide_eq_false m, Bool.false_or] at this
      exact this

def sp_R_answer (K : PySem.W.Frag) : Sp := Pm (fun x : RX × Option Str × Str => [.ref (x.1.ρ .reg), vO x.2.1, .str x.2.2]) fun x H Q => RegAt K x.1 H ∧ x.2.2 ∈ x.1.sn ∧ (∀ s, x.2.1 = some s → s ∈ x.1.sn ∧ x.1.c.st s = "running" ∧ x.2.2 ∈ tg x.1.g s) ∧
  RetV (.str (ansC x.1.c (Eg x.1.g) x.2.1 x.2.2)) H Q
theorem sp_R_answer_len (K : PySem.W.Frag) : ∀ vs H Q E, sp_R_answer K vs H Q E → vs.length = 3 := Pm.len fun _ => rfl
abbrev s_R_answer : Stmt := (inClass (top 29) 19)
theorem sc_R_answer : FnScope ["self", "source", "target"] ["self", "source", "target"] (defScope s_R_answer) := ⟨rfl, rfl, rfl, by decide +kernel, rfl, by decide +kernel, by decide +kernel⟩
theorem ok_R_answer (T : Txt K mg) : Okd P w K mg base 5 (aM K "Registry" "answer") ["self", "source", "target"] (sp_R_answer K) := by
  obtain ⟨fd, F⟩ := T.f_R_answer
  refine Okd.mk F sc_R_answer (sp_R_answer_len K) (fun _ _ _ _ _ _ us hl => match us, hl with | [_, _, _], _ => rfl) (fun cdv A outer s H vs Q E hr h => ?_)
  have hu := hu_of hr
  refine ⟨_, (pss_cons (ps_expr (pe_methO (pv 0) T.cl_Registry T.m_Registry_want_request (ok_R_want_request (K := K) T) (hr.mono (by decide)) (pa_cons (pv 1) (pa_cons (pv 2) pa_nil))))
    (pss_cons (ps_if (PW.pt (pw_and (pt_cmp (pc_notN (pv 1))) (pw_and1 (pt_cmpR (op_notIn_seqK (K := K) rfl) (pv 2) (pe_methO (pe_fldK (K := K) rfl (pv 0) rfl) T.cl_Needs T.m_Needs_targets (ok_N_targets (K := K) T) (hr.mono (by decide)) (pa_cons (pv 1) pa_nil)) (by rfl))))) (pss_one ps_never) pss_nil)
    (pss_cons (ps_if (pt_cmpR (op_in_seqK (K := K) rfl) (pe_dget hu (pe_fldK (K := K) rfl (pv 0) rfl) (pv 2) (fun _ _ => rfl)) (pe_tup (pa_cons (pe_gstr rfl T.c_READY) (pa_cons (pe_gstr rfl T.c_FAILED) pa_nil))) (by rfl)) (pss_one (ps_ret (pe_dget hu (pe_fldK (K := K) rfl (pv 0) rfl) (pv 2) (fun _ _ => rfl)))) pss_nil)
    (pss_one (ps_ret (pe_ifExp (pt_val (pe_methO (pv 0) T.cl_Registry T.m_Registry_is_early (ok_R_is_early (K := K) T) (hr.mono (by decide)) (pa_cons (pv 1) (pa_cons (pv 2) pa_nil)))) (pe_gstr rfl T.c_EARLY) (pe_gstr rfl T.c_WAIT))))))), ?_⟩
  obtain ⟨⟨x, s, t⟩, rfl, hR, ht, hs, k⟩ := h
  dsimp only at hR ht hs k
  refine ⟨_, rfl, _, _, _, rfl, hR.reg, rfl, _, rfl, _, rfl, (x, s, t), rfl, hR, ht, fun s' e => ⟨(hs s' e).1, (hs s' e).2.1⟩, fun H1 e1 => ?_⟩
  have hR1 := hR.ex e1
  have rest : ∀ H2, Ex H H2 → tSeq (tIfS (tTest (tOp (rIn K false) (tDGet (tFld K (tVar 0) "own_states") (tVar 2)) (tTup (tCons (tC (V.str "ready")) (tCons (tC (V.str "failed")) tNil)))))
          (tRet (tDGet (tFld K (tVar 0) "own_states") (tVar 2))) tNext)
        (tRet (tIf (tB (tMeth (aF K "Registry") "is_early" (sp_R_is_early K) [] E0 (tVar 0) (tCons (tVar 1) (tCons (tVar 2) tNil)))) (tC (V.str "early")) (tC (V.str "wait"))))
        { nx := fun x H' => Q V.non H', rt := Q } [some (.ref (x.ρ .reg)), some (vO s), some (.str t)] H2 := fun H2 e2 => by
    have hR2 := hR.ex e2
    refine ⟨_, rfl, _, _, _, _, _, rfl, hR2.reg, T.cl_Registry, T.n_own_states, rfl, _, rfl, _, _, rfl, hR2.gst ht, sz_of (n := 2) (by decide), fun p hp => ⟨p, [V.str "ready", V.str "failed"], rfl, Or.inr (st_of upd_same), rfl, rfl, _, rfl, ?_⟩⟩
    have e3 := Ex.new (o := HO.tup [V.str "ready", V.str "failed"]) hp
    have hR3 := hR2.ex e3
    have ei : inV (V.str (x.c.st t)) [V.str "ready", V.str "failed"] = decide (x.c.st t = "ready" ∨ x.c.st t = "failed") := by
      rw [show [V.str "ready", V.str "failed"] = (["ready", "failed"] : List Str).map V.str from rfl, inV_str, decide_eq_decide]
      simp
    rw [if_neg Bool.false_ne_true, ei]
    by_cases m : x.c.st t = "ready" ∨ x.c.st t = "failed"
    · have := k _ (e2.trans e3)
      unfold ansC at this
      rw [if_pos m] at this
      exact it_t (decide_eq_true m) ⟨_, rfl, _, _, _, _, _, rfl, hR3.reg, T.cl_Registry, T.n_own_states, rfl, _, rfl, _, _, rfl, hR3.gst ht, this⟩
    · refine it_f (decide_eq_false m) ⟨_, rfl, _, _, _, rfl, hR3.reg, rfl, _, rfl, _, rfl, (x, s, t), rfl, hR3, ht, fun s' e => (hs s' e).1, fun H4 e4 => ⟨_, rfl, ?_⟩⟩
      have := k _ ((e2.trans e3).trans e4)
      unfold ansC at this
      rw [if_neg m] at this
      cases s with
      | none => exact it_f (by rfl) this
      | some s =>
        dsimp only at this
        by_cases m2 : (s, t) ∈ x.c.early ∨ Rch (Eg x.g) t s
        · rw [if_pos m2] at this
          refine it_t ?_ this
          rw [Bool.or_eq_true, decide_eq_true_eq, rchB_iff]
          exact m2
        · rw [if_neg m2] at this
          refine it_f ?_ this
          rw [not_or] at m2
          show (decide ((s, t) ∈ x.c.early) || rchB (Eg x.g) t s) = false
          rw [decide_eq_false m2.1, rchB_f m2.2]
          rfl
  cases s with
  | none => exact ⟨_, rfl, _, rfl, it_f (by rfl) (it_f (by rfl) (rest H1 e1))⟩
  | some s =>
    have hl := (gin_len hR.ok.gin hR.ok.gok).2.1 s
    have hn := hR.ok.len
    refine ⟨_, rfl, _, rfl, it_t (by rfl) ⟨_, rfl, _, rfl, _, _, _, _, _, rfl, hR1.reg, T.cl_Registry, T.n_own_needs, rfl, _, _, _, rfl, (hR1.needs false).pi, rfl, _, rfl, ((x.nl false, x.g), s), rfl, hR1.needs false, hR.ok.gok, (by show (tg x.g s).length < 64; omega), fun p H2 hp e2 hl => ⟨p, _, rfl, Or.inl (sq_of hl), rfl, by simp [flatV], _, rfl, ?_⟩⟩⟩
    refine it_f ?_ (rest H2 (e1.trans e2))
    show (!inV (V.str t) _) = false
    rw [inV_str, decide_eq_true (mem_srtS.mpr (hs s rfl).2.2)]
    rfl

def sp_R_is_complete (K : PySem.W.Frag) : Sp := Pm (fun x : RX × Str => [.ref (x.1.ρ .reg), .str x.2]) fun x H Q => RegAt K x.1 H ∧ x.2 ∈ x.1.sn ∧ RetV (.bl (complB x.1.c.st (Eg x.1.g) x.2)) H Q
theorem sp_R_is_complete_len (K : PySem.W.Frag) : ∀ vs H Q E, sp_R_is_complete K vs H Q E → vs.length = 2 := Pm.len fun _ => rfl
abbrev s_R_is_complete : Stmt := (inClass (top 29) 24)
theorem sc_R_is_complete : FnScope ["self", "module", "name"] ["self", "module"] (defScope s_R_is_complete) := ⟨rfl, rfl, rfl, by decide +kernel, rfl, by decide +kernel, by decide +kernel⟩
theorem ok_R_is_complete (T : Txt K mg) : Okd P w K mg base 4 (aM K "Registry" "is_complete") ["self", "module"] (sp_R_is_complete K) := by
  obtain ⟨fd, F⟩ := T.f_R_is_complete
  refine Okd.mk F sc_R_is_complete (sp_R_is_complete_len K) (fun _ _ _ _ _ _ us hl => match us, hl with | [_, _], _ => rfl) (fun cdv A outer s H vs Q E hr h => ?_)
  have hu := hu_of hr
  refine ⟨_, (pss_one (ps_ret (pe_callB (cr_allK (K := K) rfl rfl) (by rfl) T.b_all (by decide +kernel) (pa_cons (pe_lc (own := [("name", 2)]) rfl sc_R_is_complete.nd (pi_listK (K := K) rfl (pe_methO (pe_fldK (K := K) rfl (pv 0) rfl) T.cl_Needs T.m_Needs_closure (ok_N_closure (K := K) T) (hr.mono (by decide)) (pa_cons (pv 1) pa_nil))) (blkOk_by (own := [("name", 2)]) (N := ["self", "module", "name"]) (sc := defScope s_R_is_complete) (by decide +kernel)) (fun _ _ _ _ _ => (pg_name (i := 2) sc_R_is_complete.nd rfl (Or.inl rfl) (Or.inr rfl))) (fun _ _ _ _ _ => pts_nil) (fun _ _ _ _ _ => (pe_cmpR (op_in_seqK (K := K) rfl) (pe_dget hu (pe_fldK (K := K) rfl (pv 0) rfl) (pv 2) (fun _ _ => rfl)) (pe_tup (pa_cons (pe_gstr rfl T.c_DONE) (pa_cons (pe_gstr rfl T.c_READY) pa_nil))) (by rfl)))) pa_nil)))), ?_⟩
  obtain ⟨⟨x, m⟩, rfl, hR, hm, k⟩ := h
  dsimp only at hR hm k
  have hz : x.sn.length ≤ 50 := Nat.le_trans hR.ok.len (by decide)
  walk_at "red"
  refine lcWi (ι := {z : (List Str × Addr) × Hp // Ex H z.2 ∧ z.1.1.length ≤ 50 ∧ (∀ y, y ∈ z.1.1 ↔ Rch (Eg x.g) m y) ∧ z.2 z.1.2 = some (.lst ((srtS z.1.1).map .str))}) (J := fun z => Itl K z.1.1.2) (H1 := fun z => z.1.2) (n := fun z => ((srtS z.1.1.1).map V.str).length)
    (fun z i => true) (fun z i => ((srtS z.1.1.1)[i]?.map fun b => V.bl (decide (x.c.st b = "done" ∨ x.c.st b = "ready"))).getD .non)
    (fun R r => ⟨_, rfl, _, _, _, _, _, rfl, hR.reg, T.cl_Registry, T.n_own_needs, rfl, _, _, _, rfl, (hR.needs false).pi, rfl, _, rfl, ((x.nl false, x.g, x.sn), m), rfl, hR.needs false, hR.ok.gok, hR.ok.gin, hm, hz, hR.ok.nm, fun ks nd hl hr p H' hp e hl2 => ⟨p, rfl, ⟨_, sq_of hl2⟩, r ⟨((ks, p), H'), e, hl, hr, hl2⟩⟩⟩) (fun z => walk_list) (fun z => ?_) (fun z H' e => sq_of (e _ _ z.2.2.2.2))
    (fun z i y H1 H2 hi e1 yy => ?_) (fun z p H' hp e h => ?_)
  · obtain ⟨⟨⟨ks, p⟩, H'⟩, e, hl, hr, hl2⟩ := z
    have hl : ks.length ≤ 50 := hl
    show ((srtS ks).map V.str).length < 100000
    rw [List.length_map, length_srtS]
    omega
  · obtain ⟨⟨⟨ks, p⟩, H'⟩, e, hl, hr, hl2⟩ := z
    obtain ⟨rfl, hx⟩ := yy
    obtain ⟨b, hb1, rfl⟩ := at_map hx
    have hbs : b ∈ x.sn := by
      have hb2 := (hr b).mp (mem_srtS.mp (List.mem_of_getElem? hb1))
      exact hb2.closed hm fun c d hc hd => (GIn.tg hR.ok.gin hd).2
    refine ⟨_, Ex.refl _, fun Q q => q, rfl, fun H3 e3 Q q => q H3 (Ex.refl _), fun _ => ?_⟩
    show Ev _ _ _ (((srtS ks)[i]?.map fun b => V.bl (decide (x.c.st b = "done" ∨ x.c.st b = "ready"))).getD .non)
    rw [hb1]
    intro H3 e3 Q q
    have hR3 := hR.ex ((e.trans e1).trans e3)
    refine ⟨_, rfl, _, _, _, _, _, rfl, hR3.reg, T.cl_Registry, T.n_own_states, rfl, _, rfl, _, _, rfl, hR3.gst hbs, sz_of (n := 2) (by decide), fun p hp => ⟨p, [V.str "done", V.str "ready"], rfl, Or.inr (st_of upd_same), rfl, rfl, ?_⟩⟩
    have ei : inV (V.str (x.c.st b)) [V.str "done", V.str "ready"] = decide (x.c.st b = "done" ∨ x.c.st b = "ready") := by
      rw [show [V.str "done", V.str "ready"] = (["done", "ready"] : List Str).map V.str from rfl, inV_str, decide_eq_decide]
      simp
    rw [if_neg Bool.false_ne_true, ei]
    exact q _ (Ex.new hp)
  · obtain ⟨⟨⟨ks, p'⟩, H''⟩, e', hl, hr, hl2⟩ := z
    have hr : ∀ y, y ∈ ks ↔ Rch (Eg x.g) m y := hr
    have eg : given ((srtS ks).map V.str).length (fun _ => true) (fun i => ((srtS ks)[i]?.map fun b => V.bl (decide (x.c.st b = "done" ∨ x.c.st b = "ready"))).getD .non) = ((srtS ks).map fun b => decide (x.c.st b = "done" ∨ x.c.st b = "ready")).map V.bl := by
      rw [List.length_map, given_map (srtS ks) (fun b => V.bl (decide (x.c.st b = "done" ∨ x.c.st b = "ready"))) _ _ (fun i y hy => ⟨rfl, by rw [hy]; rfl⟩), List.map_map]
      rfl
    refine ⟨p, _, rfl, sq_of (h.trans (congrArg (fun l => some (HO.lst l)) eg)), ?_⟩
    have eb : ((srtS ks).map fun b => decide (x.c.st b = "done" ∨ x.c.st b = "ready")).all id = complB x.c.st (Eg x.g) m := by
      rw [List.all_map, Bool.eq_iff_iff, List.all_eq_true, complB_iff]
      constructor
      · intro h y hy
        exact of_decide_eq_true (h y (mem_srtS.mpr ((hr y).mpr hy)))
      · intro h y hy
        exact decide_eq_true (h y ((hr y).mp (mem_srtS.mp hy)))
    rw [eb]
    exact k _ (e'.trans e)

def sp_R_exports (K : PySem.W.Frag) : Sp := Pm (fun x : RX × Str => [.ref (x.1.ρ .reg), .str x.2]) fun x H Q => RegAt K x.1 H ∧ x.2 ∈ x.1.sn ∧
  ∀ p H', Ex H H' → H p = none → H' p = some (.dK (dS V.int (srtI (x.1.c.ex x.2)))) → Q (.ref p) H'
theorem sp_R_exports_len (K : PySem.W.Frag) : ∀ vs H Q E, sp_R_exports K vs H Q E → vs.length = 2 := Pm.len fun _ => rfl
abbrev s_R_exports : Stmt := (inClass (top 29) 22)
theorem sc_R_exports : FnScope ["self", "module"] ["self", "module"] (defScope s_R_exports) := ⟨rfl, rfl, rfl, by decide +kernel, rfl, by decide +kernel, by decide +kernel⟩
theorem ok_R_exports (T : Txt K mg) : Okd P w K mg base 2 (aM K "Registry" "exports") ["self", "module"] (sp_R_exports K) := by
  obtain ⟨fd, F⟩ := T.f_R_exports
  refine Okd.mk F sc_R_exports (sp_R_exports_len K) (fun _ _ _ _ _ _ us hl => match us, hl with | [_, _], _ => rfl) (fun cdv A outer s H vs Q E hr h => ?_)
  have hu := hu_of hr
  refine ⟨_, (pss_cons (ps_expr (pe_methO (pv 0) T.cl_Registry T.m_Registry_want_module (ok_R_want_module (K := K) T) (hr.mono (by decide)) (pa_cons (pv 1) pa_nil)))
    (pss_one (ps_ret (pe_callTy (call_dictPK (K := K) rfl rfl) (by rfl) T.b_dict (by decide +kernel) (pa_cons (pe_callB (cr_sortedIt rfl hr.units) (by rfl) T.b_sorted (by decide +kernel) (pa_cons (pe_bm0 PySem.F.plainAttrs_dict PySem.F.slot_dict_items PySem.F.type_dict_items mt_itemsK (pe_dget hu (pe_fldK (K := K) rfl (pv 0) rfl) (pv 1) (fun _ _ => rfl))) pa_nil)) pa_nil))))), ?_⟩
  obtain ⟨⟨x, m⟩, rfl, hR, hm, k⟩ := h
  dsimp only at hR hm k
  refine ⟨_, rfl, _, _, _, rfl, hR.reg, rfl, _, rfl, (x, m), rfl, hR, hm, fun H1 e1 => ?_⟩
  have hR1 := hR.ex e1
  have hxl := hR.ok.xln m hm
  refine ⟨_, rfl, _, _, _, _, _, rfl, hR1.reg, T.cl_Registry, T.n_own_exports, rfl, _, rfl, _, _, rfl, hR1.gex hm, Or.inr (Or.inr (Or.inl ⟨rfl, Or.inl ⟨_, hR1.exi hm⟩⟩)), _, _, rfl, rfl, Or.inl (hR1.exi hm), fun p hp =>
    ⟨p, _, x.c.ex m, rfl, upd_same, Or.inl ((Ex.new hp) _ _ (hR1.exi hm)), hR.ok.xnd m hm, by omega, fun H2 t cs e2 ht hs hl hb => ⟨t, cs.map (·.1), dS V.int (cs.map (·.2)), rfl, sq_of (hl.trans (by rw [List.map_map]; rfl)), ?_, fun p2 hp2 => ?_⟩⟩⟩
  · unfold dS
    rw [List.map_map]
    clear hl hs
    induction cs with
    | nil => exact .nil
    | cons c cs ih => exact .cons (st_of (hb c List.mem_cons_self)) (ih fun b hb' => hb b (List.mem_cons_of_mem _ hb'))
  · rw [hs, mergeK_dS (((srtI_perm _).map _).nodup_iff.mpr (hR.ok.xnd m hm))]
    have e3 := (e1.trans (Ex.new hp)).trans e2
    exact k p2 _ (e3.trans (Ex.new hp2)) (fresh_back e3 hp2) upd_same
end
end CR
set_option maxRecDepth 100000
set_option maxHeartbeats 4000000
/-! Cycleready: a registry's objects change. -/
namespace CR
open PySem PySem.Spec PyProof.Rows L2 Evl
theorem putA_M {α : Type} {l : List Str} {f : Str → α} {m : Str} {v : α} (h : m ∈ l) : putA (l.map fun n => (n, f n)) m v = l.map fun n => (n, upd1 f m v n) := by
  have : (l.map fun n => (n, f n)).map (·.1) = l := by
    rw [List.map_map]
    exact List.map_id l
  unfold putA
  rw [if_pos (anyA.mpr (by rw [this]; exact h)), List.map_map]
  refine List.map_congr_left fun n _ => ?_
  show (if n = m then (n, v) else (n, f n)) = (n, if n = m then v else f n)
  split <;> rfl
theorem stsD_put {sn : List Str} {st : Str → Str} {m v : Str} (h : m ∈ sn) : putK (stsD sn st) (Sum.inr m) (.str v) = stsD sn (upd1 st m v) := by
  unfold stsD
  rw [putK_dS, putA_M h]
def putR (ρ : Lay) (i : Ro) (p : Addr) : Lay := fun j => if j = i then p else ρ j
theorem exdD_eq {sn : List Str} {ρ : Lay} : exdD sn ρ = sn.map fun n => (Sum.inr n, V.ref (ρ (.exi n))) := by
  unfold exdD dS
  rw [List.map_map]
  rfl
theorem exdD_put {sn : List Str} {ρ : Lay} {m : Str} {p : Addr} (h : m ∈ sn) : putK (exdD sn ρ) (Sum.inr m) (.ref p) = exdD sn (putR ρ (.exi m) p) := by
  rw [exdD_eq, exdD_eq]
  unfold putK
  rw [if_pos, List.map_map]
  · refine List.map_congr_left fun n _ => ?_
    show (if (Sum.inr n : Key) = Sum.inr m then ((Sum.inr n : Key), V.ref p) else (Sum.inr n, V.ref (ρ (.exi n)))) = (Sum.inr n, V.ref (if Ro.exi n = .exi m then p else ρ (.exi n)))
    by_cases z : n = m
    · rw [if_pos (by rw [z]), if_pos (by rw [z])]
    · rw [if_neg (fun y => z (Sum.inr.inj y)), if_neg (fun y => z (Ro.exi.inj y))]
  · rw [List.any_eq_true]
    exact ⟨(Sum.inr m, V.ref (ρ (.exi m))), List.mem_map.mpr ⟨m, h, rfl⟩, decide_eq_true rfl⟩
def addE (l : List (Str × Str)) (p : Str × Str) : List (Str × Str) := if p ∈ l then l else l ++ [p]
theorem earD_put {l : List (Str × Str)} {p : Str × Str} : putK (earD l) (k2 p) (.bl true) = earD (addE l p) := by
  have e : valV (earD l) (k2 p) = if p ∈ l then some (.bl true) else none := valV_ear (s := p.1) (t := p.2)
  unfold addE
  by_cases m : p ∈ l
  · rw [if_pos m] at e ⊢
    unfold putK
    rw [if_pos (by rw [valV_any, e]; rfl)]
    unfold earD
    rw [List.map_map]
    refine List.map_congr_left fun q _ => ?_
    show (if k2 q = k2 p then (k2 q, V.bl true) else (k2 q, V.bl true)) = _
    split <;> rfl
  · rw [if_neg m] at e ⊢
    rw [putK_new _ e]
    unfold earD
    rw [List.map_append]
    rfl
theorem dropK_dU {ts : List Str} {t : Str} : dropK (dU ts) (Sum.inr t) = dU (ts.filter fun x => decide (x ≠ t)) := by
  unfold dU
  rw [dropK_dS]
  congr 1
  unfold dropA
  rw [List.filter_map]
  rfl
theorem chdD_eq {τ : Str → Addr} {ch : List (Str × List Str)} : chdD τ ch = ch.map fun q => (Sum.inr q.1, V.ref (τ q.1)) := by
  unfold chdD dS
  rw [List.map_map]
  rfl
theorem any_ch {τ : Str → Addr} {ch : List (Str × List Str)} {m : Str} : ((chdD τ ch).any fun kv => decide (kv.1 = (Sum.inr m : Key))) = ch.any fun q => decide (q.1 = m) := by
  rw [chdD_eq, List.any_map]
  congr 1
  funext q
  show decide ((Sum.inr q.1 : Key) = Sum.inr m) = decide (q.1 = m)
  rw [key_rr]
theorem chdD_put {τ : Str → Addr} {ch : List (Str × List Str)} {m : Str} {t : Addr} {l : List Str} : putK (chdD τ ch) (Sum.inr m) (.ref t) = chdD (upd1 τ m t) (putA ch m l) := by
  unfold putK putA
  rw [any_ch]
  split
  · rw [chdD_eq, chdD_eq, List.map_map, List.map_map]
    refine List.map_congr_left fun q _ => ?_
    show (if (Sum.inr q.1 : Key) = Sum.inr m then ((Sum.inr q.1 : Key), V.ref t) else (Sum.inr q.1, V.ref (τ q.1))) = (Sum.inr (if q.1 = m then (q.1, l) else q).1, V.ref (upd1 τ m t (if q.1 = m then (q.1, l) else q).1))
    by_cases z : q.1 = m
    · rw [if_pos (by rw [z]), if_pos z]
      show _ = (Sum.inr q.1, V.ref (upd1 τ m t q.1))
      rw [z, upd1_same]
    · rw [if_neg (fun y => z (Sum.inr.inj y)), if_neg z, upd1_ne z]
  · rename_i hn
    rw [chdD_eq, chdD_eq, List.map_append]
    congr 1
    · refine List.map_congr_left fun q hq => ?_
      have z : q.1 ≠ m := fun z => hn (anyA.mpr (List.mem_map.mpr ⟨q, hq, z⟩))
      rw [upd1_ne z]
    · show [((Sum.inr m : Key), V.ref t)] = [(Sum.inr m, V.ref (upd1 τ m t m))]
      rw [upd1_same]
theorem chdD_drop {τ : Str → Addr} {ch : List (Str × List Str)} {m : Str} : dropK (chdD τ ch) (Sum.inr m) = chdD τ (dropA ch m) := by
  unfold dropK dropA
  rw [chdD_eq, chdD_eq, List.filter_map]
  congr 1
  refine List.filter_congr fun q _ => ?_
  show decide (¬ (Sum.inr q.1 : Key) = Sum.inr m) = decide (¬ q.1 = m)
  rw [decide_eq_decide]
  exact ⟨fun h z => h (by rw [z]), fun h z => h (Sum.inr.inj z)⟩
section
variable {K : PySem.W.Frag} {x : RX} {H : Hp}
def RX.setSt (x : RX) (m v : Str) : RX := { x with c := { x.c with st := upd1 x.c.st m v } }
theorem RegO.setSt (h : RegO K x H) {m : Str} (hm : m ∈ x.sn) (v : Str) : RegO K (x.setSt m v) (upd H (x.ρ .sts) (.dK (putK (stsD x.sn x.c.st) (Sum.inr m) (.str v)))) ∧ RStp K x H (x.setSt m v) (upd H (x.ρ .sts) (.dK (putK (stsD x.sn x.c.st) (Sum.inr m) (.str v)))) := by
  refine h.set (i := .sts) rfl _ rfl rfl (fun j => ?_) h.tup
  cases j with
  | sts =>
    show some (HO.dK (stsD x.sn (upd1 x.c.st m v))) = some (HO.dK (putK (stsD x.sn x.c.st) (Sum.inr m) (.str v)))
    rw [stsD_put hm]
  | _ => rfl
def RX.setEx (x : RX) (m n : Str) (v : Int) : RX := { x with c := expC x.c m n v }
theorem RegO.setEx (h : RegO K x H) {m : Str} (hm : m ∈ x.sn) (n : Str) (v : Int) : RegO K (x.setEx m n v) (upd H (x.ρ (.exi m)) (.dK (putK (dS V.int (x.c.ex m)) (Sum.inr n) (.int v)))) ∧ RStp K x H (x.setEx m n v) (upd H (x.ρ (.exi m)) (.dK (putK (dS V.int (x.c.ex m)) (Sum.inr n) (.int v)))) := by
  have l : (CRg K x (.exi m)).isSome = true := by
    show (if m ∈ x.sn then some _ else none).isSome = true
    rw [if_pos hm]
    rfl
  refine h.set (i := .exi m) l _ rfl rfl (fun j => ?_) h.tup
  cases j with
  | exi k =>
    show (if k ∈ x.sn then some (HO.dK (dS V.int (upd1 x.c.ex m (putA (x.c.ex m) n v) k))) else none) = if Ro.exi k = .exi m then _ else if k ∈ x.sn then some (HO.dK (dS V.int (x.c.ex k))) else none
    by_cases z : k = m
    · rw [z, if_pos hm, if_pos rfl, upd1_same, putK_dS]
    · rw [if_neg (fun y => z (Ro.exi.inj y)), upd1_ne z]
  | _ => rfl
def RX.clrEx (x : RX) (m : Str) (p : Addr) : RX := { x with ρ := putR x.ρ (.exi m) p, c := { x.c with ex := upd1 x.c.ex m [] } }
theorem RegO.clrEx (h : RegO K x H) {m : Str} (hm : m ∈ x.sn) {p : Addr} (hp : H p = none) : RegO K (x.clrEx m p) (upd (upd H p (.dK [])) (x.ρ .exd) (.dK (putK (exdD x.sn x.ρ) (Sum.inr m) (.ref p)))) ∧
    RStp K x H (x.clrEx m p) (upd (upd H p (.dK [])) (x.ρ .exd) (.dK (putK (exdD x.sn x.ρ) (Sum.inr m) (.ref p)))) := by
  refine h.move (i := .exi m) (k := .exd) hp _ _ (fun z => nomatch z) rfl (fun j => rfl) (fun z => nomatch z) rfl (fun j => ?_) h.tup
  cases j with
  | exi k =>
    show (if k ∈ x.sn then some (HO.dK (dS V.int (upd1 x.c.ex m [] k))) else none) = if Ro.exi k = .exi m then some (.dK []) else if k ∈ x.sn then some (HO.dK (dS V.int (x.c.ex k))) else none
    by_cases z : k = m
    · rw [z, if_pos hm, if_pos rfl, upd1_same]
      rfl
    · rw [if_neg (fun y => z (Ro.exi.inj y)), upd1_ne z]
  | exd =>
    show some (HO.dK (exdD x.sn (putR x.ρ (.exi m) p))) = some (HO.dK (putK (exdD x.sn x.ρ) (Sum.inr m) (.ref p)))
    rw [exdD_put hm]
  | _ => rfl
def RX.earAdd (x : RX) (q : Str × Str) : RX := { x with c := { x.c with early := addE x.c.early q } }
theorem RegO.earAdd (h : RegO K x H) (q : Str × Str) : RegO K (x.earAdd q) (upd H (x.ρ .ear) (.dT (putK (earD x.c.early) (k2 q) (.bl true)))) ∧ RStp K x H (x.earAdd q) (upd H (x.ρ .ear) (.dT (putK (earD x.c.early) (k2 q) (.bl true)))) := by
  refine h.set (i := .ear) rfl _ rfl rfl (fun j => ?_) h.tup
  cases j with
  | ear =>
    show some (HO.dT (earD (addE x.c.early q))) = some (HO.dT (putK (earD x.c.early) (k2 q) (.bl true)))
    rw [earD_put]
  | _ => rfl
def RX.earNew (x : RX) (p : Addr) (l : List (Str × Str)) : RX := { x with ρ := putR x.ρ .ear p, c := { x.c with early := l } }
theorem RegO.earNew (h : RegO K x H) {p : Addr} (hp : H p = none) (l : List (Str × Str)) : RegO K (x.earNew p l) (upd (upd H p (.dT (earD l))) (x.ρ .reg) (.ins (aF K "Registry") (x.ρ .regD) (putF "own_early" (.ref p) (regF x.ρ)))) ∧
    RStp K x H (x.earNew p l) (upd (upd H p (.dT (earD l))) (x.ρ .reg) (.ins (aF K "Registry") (x.ρ .regD) (putF "own_early" (.ref p) (regF x.ρ)))) := by
  refine h.move (i := .ear) (k := .reg) hp _ _ (fun z => nomatch z) rfl (fun j => rfl) (fun z => nomatch z) rfl (fun j => ?_) h.tup
  cases j <;> rfl
def RX.helSet (x : RX) (l : List Str) : RX := { x with c := { x.c with held := l } }
theorem RegO.helAdd (h : RegO K x H) (m : Str) : RegO K (x.helSet (addT x.c.held m)) (upd H (x.ρ .hel) (.dK (putK (dU x.c.held) (Sum.inr m) (.bl true)))) ∧ RStp K x H (x.helSet (addT x.c.held m)) (upd H (x.ρ .hel) (.dK (putK (dU x.c.held) (Sum.inr m) (.bl true)))) := by
  refine h.set (i := .hel) rfl _ rfl rfl (fun j => ?_) h.tup
  cases j with
  | hel =>
    show some (HO.dK (dU (addT x.c.held m))) = some (HO.dK (putK (dU x.c.held) (Sum.inr m) (.bl true)))
    rw [putK_dU]
  | _ => rfl
theorem RegO.helDel (h : RegO K x H) (m : Str) : RegO K (x.helSet (x.c.held.filter fun y => decide (y ≠ m))) (upd H (x.ρ .hel) (.dK (dropK (dU x.c.held) (Sum.inr m)))) ∧ RStp K x H (x.helSet (x.c.held.filter fun y => decide (y ≠ m))) (upd H (x.ρ .hel) (.dK (dropK (dU x.c.held) (Sum.inr m)))) := by
  refine h.set (i := .hel) rfl _ rfl rfl (fun j => ?_) h.tup
  cases j with
  | hel =>
    show some (HO.dK (dU (x.c.held.filter fun y => decide (y ≠ m)))) = some (HO.dK (dropK (dU x.c.held) (Sum.inr m)))
    rw [dropK_dU]
  | _ => rfl
def RX.chPut (x : RX) (m : Str) (t : Addr) (l : List Str) : RX := { x with τ := upd1 x.τ m t, c := { x.c with ch := putA x.c.ch m l } }
theorem RegO.chPut (h : RegO K x H) (m : Str) {t : Addr} {l : List Str} (ht : H t = some (.tup (l.map .str))) : RegO K (x.chPut m t l) (upd H (x.ρ .chd) (.dK (putK (chdD x.τ x.c.ch) (Sum.inr m) (.ref t)))) ∧ RStp K x H (x.chPut m t l) (upd H (x.ρ .chd) (.dK (putK (chdD x.τ x.c.ch) (Sum.inr m) (.ref t)))) := by
  refine h.set (i := .chd) rfl _ rfl rfl (fun j => ?_) (fun q hq => ?_)
  · cases j with
    | chd =>
      show some (HO.dK (chdD (upd1 x.τ m t) (putA x.c.ch m l))) = some (HO.dK (putK (chdD x.τ x.c.ch) (Sum.inr m) (.ref t)))
      rw [chdD_put]
    | _ => rfl
  · show H (upd1 x.τ m t q.1) = _
    rcases mem_putA hq with e | ⟨e, ne⟩
    · rw [e, upd1_same]
      exact ht
    · rw [upd1_ne ne]
      exact h.tup q e
def RX.chDel (x : RX) (m : Str) : RX := { x with c := { x.c with ch := dropA x.c.ch m } }
theorem RegO.chDel (h : RegO K x H) (m : Str) : RegO K (x.chDel m) (upd H (x.ρ .chd) (.dK (dropK (chdD x.τ x.c.ch) (Sum.inr m)))) ∧ RStp K x H (x.chDel m) (upd H (x.ρ .chd) (.dK (dropK (chdD x.τ x.c.ch) (Sum.inr m)))) := by
  refine h.set (i := .chd) rfl _ rfl rfl (fun j => ?_) (fun q hq => h.tup q (List.mem_filter.mp hq).1)
  cases j with
  | chd =>
    show some (HO.dK (chdD x.τ (dropA x.c.ch m))) = some (HO.dK (dropK (chdD x.τ x.c.ch) (Sum.inr m)))
    rw [chdD_drop]
  | _ => rfl
/-- one of the graphs is another one -/
def RX.setG (x : RX) (b : Bool) (ν' : NL) (g' : Graph) : RX :=
  { x with ρ := (fun j => match j with | .nd b' r => if b' = b then ν' r else x.ρ (.nd b' r) | j => x.ρ j), g := if b = true then x.g else g', r := if b = true then g' else x.r }
theorem RegO.setG (h : RegO K x H) (b : Bool) {ν' : NL} {g' : Graph} {H' : Hp} (hN : NAt K ν' g' H') (hs : Stp (x.nl b) (CN K (x.nl b) (x.gr b)) H ν' (CN K ν' g') H') (hp : ν' .p = x.nl b .p) : RegO K (x.setG b ν' g') H' ∧ RStp K x H (x.setG b ν' g') H' := by
  refine h.graph b hN hs hp (fun j => ?_) ?_ ?_ rfl rfl rfl
  · cases j <;> rfl
  · cases b <;> rfl
  · cases b <;> rfl
end
end CR
set_option maxRecDepth 100000
set_option maxHeartbeats 4000000
/-! Cycleready: the registry's methods that change it, the first ones. -/
namespace CR
open PySem PySem.Spec PyProof.Rows L2 Evl
local macro_rules | `(tactic| walk_at "red") => `(tactic| dsimp only [tNext, tSeq, tRet, tRetN, tDrop, tIfS, tAsg, tPar, tTest, tB, tNot, tAnd, tOr, tCB, tCons, tNil, tCall, tOp, tUn, tVar, tC, tIf])
local macro_rules | `(tactic| walk_at "nrm") => `(tactic| dsimp only [gName, tNext])
/-! ### what stays in order -/
section
variable {B B' : Nat} {sn : List Str} {c : Core} {g r : Graph} {m : Str}
theorem ROk.mono (h : ROk B sn c g r) (l : B ≤ B') : ROk B' sn c g r := { h with cln := fun q hq => Nat.le_trans (h.cln q hq) l }
theorem ROk.nheld (h : ROk B sn c g r) (hs : c.st m ≠ "failed") : m ∉ c.held := fun z => hs (h.hst m z)
theorem ROk.graphs (h : ROk B sn c g r) {g' r' : Graph} (a1 : GOk g') (a2 : GIn sn g') (a3 : GOk r') (a4 : GIn sn r') : ROk B sn c g' r' := { h with gok := a1, gin := a2, rok := a3, rin := a4 }
theorem ROk.st (h : ROk B sn c g r) {v : Str} (hv : v ≠ "failed") (hm : m ∉ c.held) : ROk B sn { c with st := upd1 c.st m v } g r :=
  { h with
    cst := fun n hn e => by
      by_cases z : n = m
      · rw [z] at e
        exact absurd (upd1_same.symm.trans e) hv
      · exact h.cst n hn ((upd1_ne z).symm.trans e)
    hst := fun n hn => (upd1_ne (ne_mem hn hm)).trans (h.hst n hn) }
theorem ROk.exp (h : ROk B sn c g r) {n : Str} {v : Int} (hn : n ∈ exN) (hv : v.natAbs ≤ 10 ^ 30) : ROk B sn (expC c m n v) g r :=
  { h with
    xnd := fun k hk => by
      show ((upd1 c.ex m (putA (c.ex m) n v) k).map (·.1)).Nodup
      by_cases z : k = m
      · rw [z, upd1_same]
        exact nodup_putA _ _ (h.xnd m (z ▸ hk))
      · rw [upd1_ne z]
        exact h.xnd k hk
    xin := fun k hk q hq => by
      have hq : q ∈ upd1 c.ex m (putA (c.ex m) n v) k := hq
      by_cases z : k = m
      · rw [z, upd1_same] at hq
        rcases mem_putA hq with e | ⟨e, _⟩
        · rw [e]
          exact ⟨hn, hv⟩
        · exact h.xin m (z ▸ hk) q e
      · rw [upd1_ne z] at hq
        exact h.xin k hk q hq }
theorem ROk.clr (h : ROk B sn c g r) : ROk B sn { c with ex := upd1 c.ex m [] } g r :=
  { h with
    xnd := fun k hk => by
      show ((upd1 c.ex m [] k).map (·.1)).Nodup
      by_cases z : k = m
      · rw [z, upd1_same]
        exact List.nodup_nil
      · rw [upd1_ne z]
        exact h.xnd k hk
    xin := fun k hk q hq => by
      have hq : q ∈ upd1 c.ex m [] k := hq
      by_cases z : k = m
      · rw [z, upd1_same] at hq
        cases hq
      · rw [upd1_ne z] at hq
        exact h.xin k hk q hq }
theorem ROk.early (h : ROk B sn c g r) {l : List (Str × Str)} (nd : l.Nodup) (hl : ∀ p ∈ l, p.1 ∈ sn ∧ p.2 ∈ sn) : ROk B sn { c with early := l } g r := { h with end_ := nd, ein := hl }
theorem ROk.addE (h : ROk B sn c g r) {p : Str × Str} (h1 : p.1 ∈ sn) (h2 : p.2 ∈ sn) : ROk B sn { c with early := addE c.early p } g r := by
  refine h.early ?_ fun q hq => ?_
  · unfold CR.addE
    split
    · exact h.end_
    · rename_i hn
      rw [List.nodup_append]
      exact ⟨h.end_, by simp, fun a ha b hb => by rw [List.mem_singleton.mp hb]; exact ne_mem ha hn⟩
  · unfold CR.addE at hq
    split at hq
    · exact h.ein q hq
    · rcases List.mem_append.mp hq with z | z
      · exact h.ein q z
      · rw [List.mem_singleton.mp z]
        exact ⟨h1, h2⟩
theorem ROk.forg (h : ROk B sn c g r) (xs : List Str) : ROk B sn (forgC c xs) g r := h.early (h.end_.sublist List.filter_sublist) fun p hp => h.ein p (List.mem_filter.mp hp).1
theorem ROk.rel (h : ROk B sn c g r) : ROk B sn (relC c m) g r :=
  { h with
    hnd := h.hnd.sublist List.filter_sublist
    hin := fun n hn => h.hin n (List.mem_filter.mp hn).1
    hst := fun n hn => h.hst n (List.mem_filter.mp hn).1 }
theorem ROk.ret (h : ROk B sn c g r) (hm : m ∉ c.held) : ROk B sn (retC c m) g r :=
  { h.st (v := "new") (by decide) hm with
    cnd := nodup_dropA _ h.cnd
    cin := fun q hq => h.cin q (List.mem_filter.mp hq).1
    cst := fun n hn e => by
      have e : upd1 c.st m "new" n = "failed" := e
      by_cases z : n = m
      · rw [z, upd1_same] at e
        exact absurd e (by decide)
      · rw [upd1_ne z] at e
        show n ∈ (dropA c.ch m).map (·.1)
        rw [keys_dropA]
        exact List.mem_filter.mpr ⟨h.cst n hn e, decide_eq_true z⟩
    cln := fun q hq => h.cln q (List.mem_filter.mp hq).1 }
theorem ROk.down (h : ROk B sn c g r) (hm : m ∈ sn) {l : List Str} (hl : l.length ≤ B') (hB : B ≤ B') : ROk B' sn (downC c m l) g r :=
  { (h.clr (m := m)).mono hB with
    hnd := by
      show (if c.st m = "running" then c.held ++ [m] else c.held).Nodup
      split
      · rename_i e
        rw [List.nodup_append]
        exact ⟨h.hnd, by simp, fun a ha b hb => by rw [List.mem_singleton.mp hb]; exact ne_mem ha (h.nheld (by rw [e]; decide))⟩
      · exact h.hnd
    hin := fun n hn => by
      have hn : n ∈ (if c.st m = "running" then c.held ++ [m] else c.held) := hn
      split at hn
      · rcases List.mem_append.mp hn with z | z
        · exact h.hin n z
        · rw [List.mem_singleton.mp z]
          exact hm
      · exact h.hin n hn
    cnd := nodup_putA _ _ h.cnd
    cin := fun q hq => by
      rcases mem_putA hq with e | ⟨e, _⟩
      · rw [e]
        exact hm
      · exact h.cin q e
    cst := fun n hn e => by
      show n ∈ (putA c.ch m l).map (·.1)
      have e : upd1 c.st m "failed" n = "failed" := e
      rw [keys_putA]
      by_cases z : n = m
      · rw [z]
        split
        · assumption
        · simp
      · rw [upd1_ne z] at e
        have := h.cst n hn e
        split
        · exact this
        · exact List.mem_append_left _ this
    cln := fun q hq => by
      rcases mem_putA hq with e | ⟨e, _⟩
      · rw [e]
        exact hl
      · exact Nat.le_trans (h.cln q e) hB
    hst := fun n hn => by
      show upd1 c.st m "failed" n = "failed"
      by_cases z : n = m
      · rw [z, upd1_same]
      · rw [upd1_ne z]
        have hn : n ∈ (if c.st m = "running" then c.held ++ [m] else c.held) := hn
        split at hn
        · exact h.hst n ((List.mem_append.mp hn).resolve_right fun y => z (List.mem_singleton.mp y))
        · exact h.hst n hn }
end
section
variable {P : Program} {w : World} {K : PySem.W.Frag} {mg : Str → Option Value} {base : Heap}
def sp_R_is_state (K : PySem.W.Frag) : Sp := Pm (fun v : V => [v]) fun v H Q => (∃ st, v = .str st ∧ RetV (.bl (decide (st ∈ states))) H Q) ∨ ∃ t, TyX K H v t ∧ PySem.W.kitOne K t (.type "str") = some false ∧ RetV (.bl false) H Q
theorem sp_R_is_state_len (K : PySem.W.Frag) : ∀ vs H Q E, sp_R_is_state K vs H Q E → vs.length = 1 := Pm.len fun _ => rfl
abbrev s_R_is_state : Stmt := (inClass (top 29) 6)
theorem sc_R_is_state : FnScope ["value"] ["value"] (defScope s_R_is_state) := ⟨rfl, rfl, rfl, by decide +kernel, rfl, by decide +kernel, by decide +kernel⟩
theorem ok_R_is_state (T : Txt K mg) : Okd P w K mg base 1 (He5.wf K (aF K "Registry") "staticmethod" "is_state") ["value"] (sp_R_is_state K) := by
  obtain ⟨fd, F⟩ := T.f_R_is_state
  refine Okd.mk F sc_R_is_state (sp_R_is_state_len K) (fun _ _ _ _ _ _ us hl => match us, hl with | [_], _ => rfl) (fun cdv A outer s H vs Q E hr h => ?_)
  have hu := hu_of hr
  refine ⟨_, (pss_one (ps_ret (pe_and (pe_callB (call_isiK (K := K) rfl) (by rfl) T.b_isinstance (by decide +kernel) (pa_cons (pv 0) (pa_cons (pe_bltn rfl T.b_str (by decide +kernel) (v := .ty "str") rfl) pa_nil))) (pe_one (pe_cmpR (op_in_seqK (K := K) rfl) (pv 0) (pe_cvalK (K := K) rfl (pe_cls rfl T.g_Registry)) (by rfl)))))), ?_⟩
  obtain ⟨v, rfl, h⟩ := h
  obtain ⟨a, mc, u, s1, s2, s3⟩ := T.s_STATES
  rcases h with ⟨st, rfl, k⟩ | ⟨t, ht, hk, k⟩
  · refine ⟨_, rfl, _, _, _, _, _, rfl, .ty _, .base (.str st), kit_str, true, rfl, it_t (by rfl) ?_⟩
    refine ⟨_, rfl, _, mc, _, u, rfl, s1, s2, a, states.map .str, rfl, Or.inr (s3 H), rfl, rfl, ?_⟩
    rw [if_neg Bool.false_ne_true, inV_str]
    exact k _ (Ex.refl _)
  · exact ⟨_, rfl, _, _, _, _, _, rfl, .ty _, ht, hk, false, rfl, it_f (by rfl) (k _ (Ex.refl _))⟩

def inC (sn : List Str) (c : Core) (st : Str) : List Str := sn.filter fun n => decide (c.st n = st)
def sp_R_in_state (K : PySem.W.Frag) : Sp := Pm (fun x : RX × V => [.ref (x.1.ρ .reg), x.2]) fun x H Q => RegAt K x.1 H ∧
  ((∃ st, x.2 = .str st ∧ st ∈ states ∧ RetL ((inC x.1.sn x.1.c st).map .str) H Q) ∨ (((∃ st, x.2 = .str st ∧ st ∉ states) ∨ ∃ t, TyX K H x.2 t ∧ PySem.W.kitOne K t (.type "str") = some false) ∧ RetL [] H Q))
theorem sp_R_in_state_len (K : PySem.W.Frag) : ∀ vs H Q E, sp_R_in_state K vs H Q E → vs.length = 2 := Pm.len fun _ => rfl
theorem getM {α : Type} {sn : List Str} {f : Str → α} {v : α → V} {i : Nat} {n : Str} (h : sn[i]? = some n) : (dS v (sn.map fun n => (n, f n)))[i]? = some (Sum.inr n, v (f n)) := by
  unfold dS
  rw [List.getElem?_map, List.getElem?_map, h]
  rfl
abbrev s_R_in_state : Stmt := (inClass (top 29) 12)
theorem sc_R_in_state : FnScope ["self", "state", "name", "present"] ["self", "state"] (defScope s_R_in_state) := ⟨rfl, rfl, rfl, by decide +kernel, rfl, by decide +kernel, by decide +kernel⟩
theorem ok_R_in_state (T : Txt K mg) : Okd P w K mg base 2 (aM K "Registry" "in_state") ["self", "state"] (sp_R_in_state K) := by
  obtain ⟨fd, F⟩ := T.f_R_in_state
  refine Okd.mk F sc_R_in_state (sp_R_in_state_len K) (fun _ _ _ _ _ _ us hl => match us, hl with | [_, _], _ => rfl) (fun cdv A outer s H vs Q E hr h => ?_)
  have hu := hu_of hr
  refine ⟨_, (pss_cons (ps_if (pt_not (pt_val (pe_smeth (pv 0) T.sm_is_state (ok_R_is_state (K := K) T) (hr.mono (by decide)) (pa_cons (pv 1) pa_nil)))) (pss_one (ps_ret (pe_lst pa_nil))) pss_nil)
    (pss_one (ps_ret (pe_lock (pe_lc (own := [("name", 2), ("present", 3)]) rfl sc_R_in_state.nd (pi_items (pe_fldK (K := K) rfl (pv 0) rfl)) (blkOk_by (own := [("name", 2), ("present", 3)]) (N := ["self", "state", "name", "present"]) (sc := defScope s_R_in_state) (by decide +kernel)) (fun _ _ _ _ _ => (pg_tupK (K := K) (n := 2) rfl rfl (pgs_cons (pg_name (i := 2) sc_R_in_state.nd rfl (Or.inl rfl) (Or.inr rfl)) (pgs_cons (pg_name (i := 3) sc_R_in_state.nd rfl (Or.inl rfl) (Or.inr rfl)) pgs_nil)))) (fun _ _ _ _ _ => (pts_one (pt_cmpR op_eq (pv 3) (pv 1) (nomark _)))) (fun _ _ _ _ _ => (pv 2))))))), ?_⟩
  obtain ⟨⟨x, v⟩, rfl, hR, h⟩ := h
  dsimp only at hR h
  rcases h with ⟨st, rfl, hs, k⟩ | ⟨hv, k⟩
  · refine ⟨_, rfl, _, _, _, rfl, hR.reg, rfl, _, rfl, _, rfl, Or.inl ⟨st, rfl, fun H1 e1 => ⟨_, rfl, ?_⟩⟩⟩
    rw [decide_eq_true hs]
    refine it_f (by rfl) ?_
    have hR1 := hR.ex e1
    refine ⟨x.ρ .sts, _, hR1.sts, True.intro, fun od => ?_⟩
    have f1 : upd H1 (x.ρ .sts) (.frz od (.dK (stsD x.sn x.c.st))) (x.ρ .sts) = some (.frz od (.dK (stsD x.sn x.c.st))) := upd_same
    have f3 := frz_other (od := od) (u := .dK (stsD x.sn x.c.st)) hR1.reg (ne_of hR1.reg hR1.sts (fun z => nomatch z))
    have hl : (stsD x.sn x.c.st).length = x.sn.length := by
      unfold stsD
      rw [length_dS, List.length_map]
    refine lcW (J := Iti (x.ρ .sts) od (stsD x.sn x.c.st)) (H1 := upd H1 (x.ρ .sts) (.frz od (.dK (stsD x.sn x.c.st)))) (fun R r => ⟨_, rfl, _, _, _, _, _, rfl, f3, T.cl_Registry, T.n_own_states, rfl, _, od, _, rfl, f1, r⟩) walk_items
      (by rw [hl]; exact Nat.lt_of_le_of_lt hR.ok.len (by decide)) (fun H' e => e _ _ f1) (fun i => (x.sn[i]?.map fun n => decide (x.c.st n = st)).getD false) (fun i => (x.sn[i]?.map V.str).getD .non) (fun i v H2 H3 hi e2 y => ?_) (fun p H' hp e h => ?_)
    · rw [hl] at hi
      have hn : x.sn[i]? = some x.sn[i] := by simp [hi]
      generalize x.sn[i] = n at hn
      obtain ⟨T', rfl, hT, rfl⟩ := pair_at (getM hn) y
      refine ⟨_, Ex.new hT, fun Q q => ⟨T', _, rfl, st_of upd_same, rfl, _, _, rfl, _, _, rfl, rfl, q⟩, rfl, ?_, fun _ => ?_⟩
      · rw [hn]
        refine et_is (et_test (ev_op (ev_var rfl) (ev_var rfl) (rv_eq rfl))) ?_
        exact dec_V
      · rw [hn]
        exact ev_var rfl
    · refine ⟨e _ _ f1, ?_⟩
      obtain ⟨hpd, hp2⟩ := frz_none hp
      have e3 := Ex.unlock hR1.sts e
      refine k p _ (fresh_back e1 hp2) (e1.trans e3) ?_
      rw [upd_ne hpd, h, hl, given_filter x.sn (fun n => decide (x.c.st n = st)) V.str _ _ (fun i n hn => ⟨by rw [hn]; rfl, by rw [hn]; rfl⟩)]
      rfl
  · rcases hv with ⟨st, rfl, hs⟩ | ⟨t, ht, hk⟩
    · refine ⟨_, rfl, _, _, _, rfl, hR.reg, rfl, _, rfl, _, rfl, Or.inl ⟨st, rfl, fun H1 e1 => ⟨_, rfl, ?_⟩⟩⟩
      rw [decide_eq_false hs]
      exact it_t (by rfl) ⟨sz_of (n := 0) (by decide), fun p hp => k p _ (fresh_back e1 hp) (e1.trans (Ex.new hp)) upd_same⟩
    · exact ⟨_, rfl, _, _, _, rfl, hR.reg, rfl, _, rfl, _, rfl, Or.inr ⟨t, ht, hk, fun H1 e1 => ⟨_, rfl, it_t (by rfl) ⟨sz_of (n := 0) (by decide), fun p hp => k p _ (fresh_back e1 hp) (e1.trans (Ex.new hp)) upd_same⟩⟩⟩⟩

/-- behind a step: the registry, its state, its graphs -/
def Go (K : PySem.W.Frag) (x : RX) (H : Hp) (B : Nat) (c : Core) (g r : Graph) (v : V) (Q : VK) : Prop := ∀ x' H', RegAt K x' H' → RStp K x H x' H' → x'.B = B → x'.c = c → x'.g = g → x'.r = r → Q v H'

def sp_R_export (K : PySem.W.Frag) : Sp := Pm (fun x : RX × Str × Str × Int => [.ref (x.1.ρ .reg), .str x.2.1, .str x.2.2.1, .int x.2.2.2]) fun x H Q => RegAt K x.1 H ∧ x.2.1 ∈ x.1.sn ∧ x.1.c.st x.2.1 = "running" ∧ x.2.2.1 ∈ exN ∧ x.2.2.2.natAbs ≤ 10 ^ 30 ∧
  Go K x.1 H x.1.B (expC x.1.c x.2.1 x.2.2.1 x.2.2.2) x.1.g x.1.r .non Q
theorem sp_R_export_len (K : PySem.W.Frag) : ∀ vs H Q E, sp_R_export K vs H Q E → vs.length = 4 := Pm.len fun _ => rfl
theorem exN_ok : ∀ n ∈ exN, okName n := by
  intro n hn
  have : n = "x" ∨ n = "y" ∨ n = "need" := by simpa [exN] using hn
  rcases this with rfl | rfl | rfl <;> exact ⟨by decide, by decide, by decide +kernel⟩
abbrev s_R_export : Stmt := (inClass (top 29) 21)
theorem sc_R_export : FnScope ["self", "module", "name", "value"] ["self", "module", "name", "value"] (defScope s_R_export) := ⟨rfl, rfl, rfl, by decide +kernel, rfl, by decide +kernel, by decide +kernel⟩
theorem ok_R_export (T : Txt K mg) : Okd P w K mg base 3 (aM K "Registry" "export") ["self", "module", "name", "value"] (sp_R_export K) := by
  obtain ⟨fd, F⟩ := T.f_R_export
  refine Okd.mk F sc_R_export (sp_R_export_len K) (fun _ _ _ _ _ _ us hl => match us, hl with | [_, _, _, _], _ => rfl) (fun cdv A outer s H vs Q E hr h => ?_)
  have hu := hu_of hr
  refine ⟨_, (pss_cons (ps_expr (pe_methO (pv 0) T.cl_Registry T.m_Registry_want_state (ok_R_want_state (K := K) T) (hr.mono (by decide)) (pa_cons (pv 1) (pa_cons (pe_gstr rfl T.c_RUNNING) pa_nil))))
    (pss_cons (ps_if (pt_not (pt_val (pe_callO (ok_is_name (K := K) T) (hr.mono (by decide)) rfl T.g_is_name T.k_is_name (pa_cons (pv 2) pa_nil)))) (pss_one ps_never) pss_nil)
    (pss_cons (ps_if (pt_not (pt_val (pe_callO (ok_is_integer (K := K) T) (hr.mono (by decide)) rfl T.g_is_integer T.k_is_integer (pa_cons (pv 3) pa_nil)))) (pss_one ps_never) pss_nil)
    (pss_one (ps_dput hu (pe_dget hu (pe_fldK (K := K) rfl (pv 0) rfl) (pv 1) (fun _ _ => rfl)) (pv 2) (pv 3) rfl))))), ?_⟩
  obtain ⟨⟨x, m, n, i⟩, rfl, hR, hm, hs, hn, hi, k⟩ := h
  dsimp only at hR hm hs hn hi k
  refine ⟨_, rfl, _, _, _, rfl, hR.reg, rfl, _, rfl, (x, m, "running"), rfl, hR, hm, hs, fun H1 e1 => ⟨_, rfl, n, rfl, exN_ok n hn, fun H2 e2 => ⟨_, rfl, it_f (by rfl) ⟨_, rfl, i, rfl, fun H3 e3 => ⟨_, rfl, it_f (by rfl) ?_⟩⟩⟩⟩⟩
  have e := (e1.trans e2).trans e3
  have hR3 := hR.ex e
  have l := hR.ok.xln m hm
  obtain ⟨b1, b2⟩ := hR3.setEx hm n i
  exact ⟨_, rfl, _, rfl, _, _, _, _, _, rfl, hR3.reg, T.cl_Registry, T.n_own_exports, rfl, _, rfl, _, _, rfl, hR3.gex hm, _, rfl, _, _, rfl, Or.inl ⟨_, Sum.inr n, hR3.exi hm, rfl, by rw [length_dS]; exact sz_lt (Nat.lt_of_le_of_lt l (by decide)), rfl⟩, k _ _ ⟨b1, hR.ok.exp hn hi⟩ ((RStp.ex e).trans b2) rfl rfl rfl rfl⟩

def sp_R_release (K : PySem.W.Frag) : Sp := Pm (fun x : RX × Str => [.ref (x.1.ρ .reg), .str x.2]) fun x H Q => RegAt K x.1 H ∧ x.2 ∈ x.1.c.held ∧
  Go K x.1 H x.1.B (relC x.1.c x.2) (delAllG x.1.g x.2) x.1.r .non Q
theorem sp_R_release_len (K : PySem.W.Frag) : ∀ vs H Q E, sp_R_release K vs H Q E → vs.length = 2 := Pm.len fun _ => rfl
abbrev s_R_release : Stmt := (inClass (top 29) 32)
theorem sc_R_release : FnScope ["self", "module"] ["self", "module"] (defScope s_R_release) := ⟨rfl, rfl, rfl, by decide +kernel, rfl, by decide +kernel, by decide +kernel⟩
theorem ok_R_release (T : Txt K mg) : Okd P w K mg base 3 (aM K "Registry" "release") ["self", "module"] (sp_R_release K) := by
  obtain ⟨fd, F⟩ := T.f_R_release
  refine Okd.mk F sc_R_release (sp_R_release_len K) (fun _ _ _ _ _ _ us hl => match us, hl with | [_, _], _ => rfl) (fun cdv A outer s H vs Q E hr h => ?_)
  have hu := hu_of hr
  refine ⟨_, (pss_cons (ps_expr (pe_methO (pv 0) T.cl_Registry T.m_Registry_want_state (ok_R_want_state (K := K) T) (hr.mono (by decide)) (pa_cons (pv 1) (pa_cons (pe_gstr rfl T.c_FAILED) pa_nil))))
    (pss_cons (ps_if (pt_cmp (pc_dnotin hu (pv 1) (pe_fldK (K := K) rfl (pv 0) rfl))) (pss_one ps_never) pss_nil)
    (pss_cons (ps_ddel (pe_fldK (K := K) rfl (pv 0) rfl) (pv 1))
    (pss_one (ps_expr (pe_methO (pe_fldK (K := K) rfl (pv 0) rfl) T.cl_Needs T.m_Needs_delete_all (ok_N_delete_all (K := K) T) (hr.mono (by decide)) (pa_cons (pv 1) pa_nil))))))), ?_⟩
  obtain ⟨⟨x, m⟩, rfl, hR, hh, k⟩ := h
  dsimp only at hR hh k
  have hm := hR.ok.hin m hh
  have hs := hR.ok.hst m hh
  have l := gin_len hR.ok.gin hR.ok.gok
  have l1 := l.1
  have l2 := l.2.1 m
  have hn := hR.ok.len
  refine ⟨_, rfl, _, _, _, rfl, hR.reg, rfl, _, rfl, (x, m, "failed"), rfl, hR, hm, hs, fun H1 e1 => ?_⟩
  have hR1 := hR.ex e1
  refine ⟨_, rfl, _, rfl, _, _, _, _, _, rfl, hR1.reg, T.cl_Registry, T.n_own_held, rfl, _, _, rfl, hR1.hhe, _, rfl, ?_⟩
  rw [isSome_if, decide_eq_true hh]
  refine it_f (by rfl) ⟨_, rfl, _, _, _, _, _, rfl, hR1.reg, T.cl_Registry, T.n_own_held, rfl, _, rfl, _, _, Sum.inr m, rfl, hR1.hel, rfl, ?_, ?_⟩
  · unfold dU
    rw [valV_dS, lookU, if_pos hh]
    rfl
  obtain ⟨b1, b2⟩ := hR1.helDel m
  refine ⟨_, rfl, _, _, _, _, _, rfl, b1.reg, T.cl_Registry, T.n_own_needs, rfl, _, _, _, rfl, (b1.needs false).pi, rfl, _, rfl, ((_, x.g), m), rfl, b1.needs false, hR.ok.gok, by show (tg x.g m).length < 64; omega, by show x.g.length < 1000; omega, fun ν' H2 v n1 n2 n3 => ?_⟩
  obtain ⟨c1, c2⟩ := b1.setG false n1 n2 n3
  exact k _ _ ⟨c1, (hR.ok.rel).graphs (hR.ok.gok.delAllG m) (GIn.delAllG hR.ok.gin hm) hR.ok.rok hR.ok.rin⟩ (((RStp.ex e1).trans b2).trans c2) rfl rfl rfl rfl

def sp_R_retry (K : PySem.W.Frag) : Sp := Pm (fun x : RX × Str => [.ref (x.1.ρ .reg), .str x.2]) fun x H Q => RegAt K x.1 H ∧ x.2 ∈ x.1.sn ∧ x.1.c.st x.2 = "failed" ∧ x.2 ∉ x.1.c.held ∧ (∀ a, x.2 ∉ tg x.1.g a) ∧
  Go K x.1 H x.1.B (retC x.1.c x.2) x.1.g x.1.r .non Q
theorem sp_R_retry_len (K : PySem.W.Frag) : ∀ vs H Q E, sp_R_retry K vs H Q E → vs.length = 2 := Pm.len fun _ => rfl
abbrev s_R_retry : Stmt := (inClass (top 29) 33)
theorem sc_R_retry : FnScope ["self", "module"] ["self", "module"] (defScope s_R_retry) := ⟨rfl, rfl, rfl, by decide +kernel, rfl, by decide +kernel, by decide +kernel⟩
theorem ok_R_retry (T : Txt K mg) : Okd P w K mg base 4 (aM K "Registry" "retry") ["self", "module"] (sp_R_retry K) := by
  obtain ⟨fd, F⟩ := T.f_R_retry
  refine Okd.mk F sc_R_retry (sp_R_retry_len K) (fun _ _ _ _ _ _ us hl => match us, hl with | [_, _], _ => rfl) (fun cdv A outer s H vs Q E hr h => ?_)
  have hu := hu_of hr
  refine ⟨_, (pss_cons (ps_expr (pe_methO (pv 0) T.cl_Registry T.m_Registry_want_loose (ok_R_want_loose (K := K) T) (hr.mono (by decide)) (pa_cons (pv 1) pa_nil)))
    (pss_cons (ps_if (pt_cmpR (op_neDK (K := K) rfl hr.units) (pe_methO (pe_fldK (K := K) rfl (pv 0) rfl) T.cl_Needs T.m_Needs_sources (ok_N_sources (K := K) T) (hr.mono (by decide)) (pa_cons (pv 1) pa_nil)) (pe_lst pa_nil) (nomark _)) (pss_one ps_never) pss_nil)
    (pss_cons (ps_dput hu (pe_fldK (K := K) rfl (pv 0) rfl) (pv 1) (pe_gstr rfl T.c_NEW) rfl)
    (pss_one (ps_ddel (pe_fldK (K := K) rfl (pv 0) rfl) (pv 1)))))), ?_⟩
  obtain ⟨⟨x, m⟩, rfl, hR, hm, hs, hh, hg, k⟩ := h
  dsimp only at hR hm hs hh hg k
  have l := (gin_len hR.ok.gin hR.ok.gok).2.2
  have hn := hR.ok.len
  have l4 : x.sn.length * x.sn.length ≤ 40 * 40 := Nat.mul_le_mul hn hn
  refine ⟨_, rfl, _, _, _, rfl, hR.reg, rfl, _, rfl, (x, m), rfl, hR, hm, hs, hh, fun H1 e1 => ?_⟩
  have hR1 := hR.ex e1
  have e0 : (srtP (pairsG x.g)).filter (fun q => decide (q.2 = m)) = [] := List.filter_eq_nil_iff.mpr fun q hq e => by
    have h1 := (mem_pairsG hR.ok.gok (a := q.1) (b := q.2)).mp (mem_srtP.mp hq)
    rw [of_decide_eq_true e] at h1
    exact hg _ h1
  refine ⟨_, rfl, _, _, _, _, _, rfl, hR1.reg, T.cl_Registry, T.n_own_needs, rfl, _, _, _, rfl, (hR1.needs false).pi, rfl, _, rfl, ((x.nl false, x.g), m), rfl, hR1.needs false, hR.ok.gok, by show (pairsG x.g).length ≤ 10000; omega, fun p H2 hp e2 hl => ?_⟩
  have hl : H2 p = some (.lst (([] : List Str).map .str)) := by
    rw [hl]
    show some (HO.lst ((((srtP (pairsG x.g)).filter fun q => decide (q.2 = m)).map (·.1)).map V.str)) = _
    rw [e0]
    rfl
  refine ⟨sz_of (n := 0) (by decide), fun q hq => ⟨.list (([] : List Str).map .str), .list (([] : List Str).map .str), .lst (sq_of ((Ex.new hq) _ _ hl)) (dpAll_strs []), .lst (sq_of upd_same) (dpAll_strs []), shaped_strs [] (by simp), shaped_strs [] (by simp), _, rfl, ?_⟩⟩
  have ez : PyData.eqv (.list (([] : List Str).map .str)) (.list (([] : List Str).map .str)) = true := eqv_nil []
  have e := (e1.trans e2).trans (Ex.new (o := HO.lst []) hq)
  have hR3 := hR.ex e
  obtain ⟨b1, b2⟩ := hR3.setSt hm "new"
  obtain ⟨lc, _⟩ := hR.ok.chain hm hs
  obtain ⟨c1, c2⟩ := b1.chDel m
  refine it_f (by rw [ez]; rfl) ⟨_, rfl, _, _, _, _, _, rfl, hR3.reg, T.cl_Registry, T.n_own_states, rfl, _, rfl, _, _, rfl, Or.inl ⟨_, Sum.inr m, hR3.sts, rfl, ?_, rfl⟩, _, rfl, _, _, _, _, _, rfl, b1.reg, T.cl_Registry, T.n_own_chains, rfl, _, rfl, _, _, Sum.inr m, rfl, b1.chd, rfl, ?_, ?_⟩
  · unfold stsD
    rw [length_dS, List.length_map]
    exact sz_lt (by omega)
  · show (valV (chdD x.τ x.c.ch) (Sum.inr m)).isSome = true
    unfold chdD
    rw [valV_dS, lookG, lc]
    rfl
  · exact k _ _ ⟨c1, hR.ok.ret hh⟩ (((RStp.ex e).trans b2).trans c2) rfl rfl rfl rfl
end
end CR
set_option maxRecDepth 100000
set_option maxHeartbeats 4000000
/-! Cycleready: the registry's methods that change it: request, access, what is forgotten, what goes down. -/
namespace CR
open PySem PySem.Spec PyProof.Rows L2 Evl
local macro_rules | `(tactic| walk_at "red") => `(tactic| dsimp only [tNext, tSeq, tRet, tRetN, tDrop, tIfS, tAsg, tPar, tTest, tB, tNot, tAnd, tOr, tCB, tCons, tNil, tCall, tOp, tUn, tVar, tC, tIf])
local macro_rules | `(tactic| walk_at "nrm") => `(tactic| dsimp only [gName, tNext])
/-- a heap without what stands at p -/
def wo (H : Hp) (p : Addr) : Hp := fun a => if a = p then none else H a
theorem wo_ex {H H' : Hp} {p : Addr} (e : Ex H H') (hp : H p = none) : Ex H (wo H' p) := fun a o h => by
  have : a ≠ p := ne_of_none h hp
  unfold wo
  rw [if_neg this]
  exact e a o h
theorem wo_same {H : Hp} {p : Addr} : wo H p p = none := if_pos rfl
theorem wo_upd {H : Hp} {p : Addr} {o : HO} (h : H p = some o) : upd (wo H p) p o = H := by
  funext a
  unfold upd wo
  by_cases z : a = p
  · rw [if_pos z, z, h]
  · rw [if_neg z, if_neg z]
def reqC (c : Core) (t : Str) : Core := if c.st t = "new" then { c with st := upd1 c.st t "running" } else c
def reqG (g : Graph) (s : Option Str) (t : Str) : Graph := match s with
  | none => g
  | some s => recG g s t
theorem stsD_len {sn : List Str} {st : Str → Str} : (stsD sn st).length = sn.length := by
  unfold stsD
  rw [length_dS, List.length_map]
section
variable {P : Program} {w : World} {K : PySem.W.Frag} {mg : Str → Option Value} {base : Heap}
def sp_R_request (K : PySem.W.Frag) : Sp := Pm (fun x : RX × Option Str × Str => [.ref (x.1.ρ .reg), vO x.2.1, .str x.2.2]) fun x H Q => RegAt K x.1 H ∧ x.2.2 ∈ x.1.sn ∧ (∀ s, x.2.1 = some s → s ∈ x.1.sn ∧ x.1.c.st s = "running") ∧
  Go K x.1 H x.1.B (reqC x.1.c x.2.2) (reqG x.1.g x.2.1 x.2.2) (reqG x.1.r x.2.1 x.2.2) (.bl (decide (x.1.c.st x.2.2 = "new"))) Q
theorem sp_R_request_len (K : PySem.W.Frag) : ∀ vs H Q E, sp_R_request K vs H Q E → vs.length = 3 := Pm.len fun _ => rfl
abbrev s_R_request : Stmt := (inClass (top 29) 17)
theorem sc_R_request : FnScope ["self", "source", "target", "is_new"] ["self", "source", "target"] (defScope s_R_request) := ⟨rfl, rfl, rfl, by decide +kernel, rfl, by decide +kernel, by decide +kernel⟩
theorem ok_R_request (T : Txt K mg) : Okd P w K mg base 4 (aM K "Registry" "request") ["self", "source", "target"] (sp_R_request K) := by
  obtain ⟨fd, F⟩ := T.f_R_request
  refine Okd.mk F sc_R_request (sp_R_request_len K) (fun _ _ _ _ _ _ us hl => match us, hl with | [_, _, _], _ => rfl) (fun cdv A outer s H vs Q E hr h => ?_)
  have hu := hu_of hr
  refine ⟨_, (pss_cons (ps_expr (pe_methO (pv 0) T.cl_Registry T.m_Registry_want_request (ok_R_want_request (K := K) T) (hr.mono (by decide)) (pa_cons (pv 1) (pa_cons (pv 2) pa_nil))))
    (pss_cut (ps_if (pt_cmp (pc_notN (pv 1))) (pss_cons (ps_expr (pe_methO (pe_fldK (K := K) rfl (pv 0) rfl) T.cl_Needs T.m_Needs_record (ok_N_record (K := K) T) (hr.mono (by decide)) (pa_cons (pv 1) (pa_cons (pv 2) pa_nil))))
    (pss_one (ps_expr (pe_methO (pe_fldK (K := K) rfl (pv 0) rfl) T.cl_Needs T.m_Needs_record (ok_N_record (K := K) T) (hr.mono (by decide)) (pa_cons (pv 1) (pa_cons (pv 2) pa_nil)))))) pss_nil)
    (pss_cons (ps_set (i := 3) sc_R_request.nd rfl (Or.inl rfl) (pe_cmpR op_eq (pe_dget hu (pe_fldK (K := K) rfl (pv 0) rfl) (pv 2) (fun _ _ => rfl)) (pe_gstr rfl T.c_NEW) (nomark _)))
    (pss_cut (ps_if (pt_val (pv 3)) (pss_one (ps_dput hu (pe_fldK (K := K) rfl (pv 0) rfl) (pv 2) (pe_gstr rfl T.c_RUNNING) rfl)) pss_nil)
    (pss_one (ps_ret (pv 3))))))), ?_⟩
  obtain ⟨⟨x, s, t⟩, rfl, hR, ht, hs, k⟩ := h
  dsimp only at hR ht hs k
  have hn := hR.ok.len
  refine ⟨_, rfl, _, _, _, rfl, hR.reg, rfl, _, rfl, _, rfl, (x, s, t), rfl, hR, ht, hs, fun H1 e1 => ?_⟩
  have hR1 := hR.ex e1
  refine ⟨fun σ' H' => ∃ x', σ' = [some (.ref (x'.ρ .reg)), some (vO s), some (.str t), none] ∧ RegAt K x' H' ∧ RStp K x H x' H' ∧ x'.B = x.B ∧ x'.c = x.c ∧ x'.g = reqG x.g s t ∧ x'.r = reqG x.r s t, ?_, ?_⟩
  · cases s with
    | none => exact ⟨_, rfl, _, rfl, it_f (by rfl) ⟨x, rfl, hR1, RStp.ex e1, rfl, rfl, rfl, rfl⟩⟩
    | some s =>
      obtain ⟨hss, hsr⟩ := hs s rfl
      have l := gin_len hR.ok.gin hR.ok.gok
      have l1 := l.1
      have l2 := l.2.1 s
      have r := gin_len hR.ok.rin hR.ok.rok
      have r1 := r.1
      have r2 := r.2.1 s
      refine ⟨_, rfl, _, rfl, it_t (by rfl) ?_⟩
      refine ⟨_, rfl, _, _, _, _, _, rfl, hR1.reg, T.cl_Registry, T.n_own_needs, rfl, _, _, _, rfl, (hR1.needs false).pi, rfl, _, rfl, _, rfl, ((_, x.g), s, t), rfl, hR1.needs false, hR.ok.gok, hR.ok.nm s hss, hR.ok.nm t ht, by show (tg x.g s).length < 1000; omega, by show x.g.length < 1000; omega, fun ν' H2 v n1 n2 n3 => ?_⟩
      obtain ⟨c1, c2⟩ := hR1.setG false n1 n2 n3
      refine ⟨_, rfl, _, _, _, _, _, rfl, c1.reg, T.cl_Registry, T.n_own_recorded, rfl, _, _, _, rfl, (c1.needs true).pi, rfl, _, rfl, _, rfl, ((_, x.r), s, t), rfl, c1.needs true, hR.ok.rok, hR.ok.nm s hss, hR.ok.nm t ht, by show (tg x.r s).length < 1000; omega, by show x.r.length < 1000; omega, fun ν2 H3 v2 m1 m2 m3 => ?_⟩
      obtain ⟨d1, d2⟩ := c1.setG true m1 m2 m3
      exact ⟨((x.setG false ν' _).setG true ν2 _), rfl, ⟨d1, hR.ok.graphs (hR.ok.gok.recG s t) (GIn.recG hR.ok.gin hss ht) (hR.ok.rok.recG s t) (GIn.recG hR.ok.rin hss ht)⟩, ((RStp.ex e1).trans c2).trans d2, rfl, rfl, rfl, rfl⟩
  · rintro σ' H2 ⟨x', rfl, hX, st, eB, ec, eg, er⟩
    have ht' : t ∈ x'.sn := by rw [st.n]; exact ht
    refine ⟨_, rfl, _, _, _, _, _, rfl, hX.reg, T.cl_Registry, T.n_own_states, rfl, _, rfl, _, _, rfl, hX.gst ht', rfl, ?_⟩
    rw [dec_V]
    refine ⟨fun σ' H' => ∃ x2, σ' = [some (.ref (x2.ρ .reg)), some (vO s), some (.str t), some (.bl (decide (x.c.st t = "new")))] ∧ RegAt K x2 H' ∧ RStp K x H x2 H' ∧ x2.B = x.B ∧ x2.c = reqC x.c t ∧ x2.g = reqG x.g s t ∧ x2.r = reqG x.r s t, ?_, ?_⟩
    · refine ⟨_, rfl, _, rfl, ?_⟩
      rw [ec]
      unfold reqC
      by_cases m : x.c.st t = "new"
      · rw [if_pos m, decide_eq_true m]
        obtain ⟨b1, b2⟩ := hX.setSt ht' "running"
        refine it_t (by rfl) ⟨_, rfl, _, _, _, _, _, rfl, hX.reg, T.cl_Registry, T.n_own_states, rfl, _, rfl, _, _, rfl, Or.inl ⟨_, Sum.inr t, hX.sts, rfl, by rw [stsD_len, st.n]; exact sz_lt (by omega), rfl⟩, x'.setSt t "running", rfl, ⟨b1, ?_⟩, st.trans b2, eB, by show ({ x'.c with st := upd1 x'.c.st t "running" } : Core) = _; rw [ec], eg, er⟩
        exact hX.ok.st (by decide) (hX.ok.nheld (by rw [ec, m]; decide))
      · rw [if_neg m, decide_eq_false m]
        exact it_f (by rfl) ⟨x', rfl, hX, st, eB, ec, eg, er⟩
    · rintro σ' H3 ⟨x2, rfl, hX2, st2, eB2, ec2, eg2, er2⟩
      exact ⟨_, rfl, k x2 H3 hX2 st2 eB2 ec2 eg2 er2⟩

/-- the graph of needs behind an access -/
def accG (g : Graph) (s t a : Str) : Graph := if a = "failed" then delG g s t else g
def sp_R_access (K : PySem.W.Frag) : Sp := Pm (fun x : RX × Str × Str => [.ref (x.1.ρ .reg), .str x.2.1, .str x.2.2]) fun x H Q => RegAt K x.1 H ∧ x.2.1 ∈ x.1.sn ∧ x.2.2 ∈ x.1.sn ∧ x.1.c.st x.2.1 = "running" ∧ x.2.2 ∈ tg x.1.g x.2.1 ∧ ansC x.1.c (Eg x.1.g) (some x.2.1) x.2.2 ≠ "wait" ∧
  Go K x.1 H x.1.B (accC x.1.c x.2.1 x.2.2 (ansC x.1.c (Eg x.1.g) (some x.2.1) x.2.2)) (accG x.1.g x.2.1 x.2.2 (ansC x.1.c (Eg x.1.g) (some x.2.1) x.2.2)) x.1.r (.str (ansC x.1.c (Eg x.1.g) (some x.2.1) x.2.2)) Q
theorem sp_R_access_len (K : PySem.W.Frag) : ∀ vs H Q E, sp_R_access K vs H Q E → vs.length = 3 := Pm.len fun _ => rfl
theorem accC_early {c : Core} {s t : Str} : accC c s t "early" = { c with early := addE c.early (s, t) } := by
  unfold accC addE
  by_cases m : (s, t) ∈ c.early
  · rw [if_pos m, if_neg (fun z => z.2 m)]
  · rw [if_neg m, if_pos ⟨rfl, m⟩]
theorem accC_other {c : Core} {s t a : Str} (h : a ≠ "early") : accC c s t a = c := if_neg fun z => h z.1
abbrev s_R_access : Stmt := (inClass (top 29) 20)
theorem sc_R_access : FnScope ["self", "source", "target", "answer"] ["self", "source", "target"] (defScope s_R_access) := ⟨rfl, rfl, rfl, by decide +kernel, rfl, by decide +kernel, by decide +kernel⟩
theorem ok_R_access (T : Txt K mg) : Okd P w K mg base 6 (aM K "Registry" "access") ["self", "source", "target"] (sp_R_access K) := by
  obtain ⟨fd, F⟩ := T.f_R_access
  refine Okd.mk F sc_R_access (sp_R_access_len K) (fun _ _ _ _ _ _ us hl => match us, hl with | [_, _, _], _ => rfl) (fun cdv A outer s H vs Q E hr h => ?_)
  have hu := hu_of hr
  refine ⟨_, (pss_cons (ps_set (i := 3) sc_R_access.nd rfl (Or.inl rfl) (pe_methO (pv 0) T.cl_Registry T.m_Registry_answer (ok_R_answer (K := K) T) (hr.mono (by decide)) (pa_cons (pv 1) (pa_cons (pv 2) pa_nil))))
    (pss_cons (ps_if (pt_cmpR op_eq (pv 3) (pe_gstr rfl T.c_WAIT) (nomark _)) (pss_one ps_never) pss_nil)
    (pss_cut (ps_if (pt_cmpR op_eq (pv 3) (pe_gstr rfl T.c_EARLY) (nomark _)) (pss_one (ps_dput hu (pe_fldK (K := K) rfl (pv 0) rfl) (pe_tup (pa_cons (pv 1) (pa_cons (pv 2) pa_nil))) pe_bl rfl)) pss_nil)
    (pss_cut (ps_if (PW.pt (pw_and (pt_cmpR op_eq (pv 3) (pe_gstr rfl T.c_FAILED) (nomark _)) (pw_and1 (pt_cmp (pc_notN (pv 1)))))) (pss_one (ps_expr (pe_methO (pe_fldK (K := K) rfl (pv 0) rfl) T.cl_Needs T.m_Needs_delete (ok_N_delete (K := K) T) (hr.mono (by decide)) (pa_cons (pv 1) (pa_cons (pv 2) pa_nil))))) pss_nil)
    (pss_one (ps_ret (pv 3))))))), ?_⟩
  obtain ⟨⟨x, s, t⟩, rfl, hR, hs, ht, hr', hg, hw, k⟩ := h
  dsimp only at hR hs ht hr' hg hw k
  have hn := hR.ok.len
  refine ⟨_, rfl, _, _, _, rfl, hR.reg, rfl, _, rfl, _, rfl, (x, some s, t), rfl, hR, ht, fun s' e => ?_, fun H1 e1 => ?_⟩
  · cases e
    exact ⟨hs, hr', hg⟩
  have hR1 := hR.ex e1
  dsimp only
  generalize ha : ansC x.c (Eg x.g) (some s) t = a at k hw ⊢
  refine ⟨_, rfl, rfl, _, rfl, ?_⟩
  rw [dec_V, decide_eq_false hw]
  refine it_f (by rfl) ?_
  refine ⟨fun σ' H' => ∃ x', σ' = [some (.ref (x'.ρ .reg)), some (.str s), some (.str t), some (.str a)] ∧ RegAt K x' H' ∧ RStp K x H x' H' ∧ x'.B = x.B ∧ x'.c = accC x.c s t a ∧ x'.g = x.g ∧ x'.r = x.r, ?_, ?_⟩
  · refine ⟨_, rfl, rfl, _, rfl, ?_⟩
    rw [dec_V]
    by_cases m : a = "early"
    · rw [decide_eq_true m]
      have he := hR.ok.elen
      refine it_t (by rfl) ⟨_, rfl, _, _, _, _, _, rfl, hR1.reg, T.cl_Registry, T.n_own_early, rfl, _, rfl, _, rfl, sz_of (n := 2) (by decide), fun p hp => ?_⟩
      have e2 := Ex.new (o := HO.tup [V.str s, V.str t]) hp
      have hR2 := hR1.ex e2
      obtain ⟨b1, b2⟩ := hR2.earAdd (s, t)
      refine ⟨_, _, rfl, Or.inr ⟨_, k2 (s, t), p, hR2.ear, rfl, upd_same, ?_, rfl⟩, x.earAdd (s, t), rfl, ⟨b1, hR.ok.addE hs ht⟩, (RStp.ex (e1.trans e2)).trans b2, rfl, ?_, rfl, rfl⟩
      · unfold earD
        rw [List.length_map]
        exact sz_lt (by omega)
      · rw [m, accC_early]
        rfl
    · rw [decide_eq_false m]
      exact it_f (by rfl) ⟨x, rfl, hR1, RStp.ex e1, rfl, (accC_other m).symm, rfl, rfl⟩
  · rintro σ' H2 ⟨x', rfl, hX, st, eB, ec, eg, er⟩
    refine ⟨fun σ' H' => ∃ x2, σ' = [some (.ref (x2.ρ .reg)), some (.str s), some (.str t), some (.str a)] ∧ RegAt K x2 H' ∧ RStp K x H x2 H' ∧ x2.B = x.B ∧ x2.c = accC x.c s t a ∧ x2.g = accG x.g s t a ∧ x2.r = x.r, ?_, ?_⟩
    · refine ⟨_, rfl, rfl, _, rfl, ?_⟩
      rw [dec_V]
      unfold accG
      by_cases m : a = "failed"
      · rw [decide_eq_true m, if_pos m]
        refine it_t (by rfl) ⟨_, rfl, _, rfl, it_t (by rfl) ?_⟩
        have hsX : s ∈ x'.sn := by rw [st.n]; exact hs
        have l2 := (gin_len hX.ok.gin hX.ok.gok).2.1 s
        have ln := hX.ok.len
        refine ⟨_, rfl, _, _, _, _, _, rfl, hX.reg, T.cl_Registry, T.n_own_needs, rfl, _, _, _, rfl, (hX.needs false).pi, rfl, _, rfl, _, rfl, ((_, x'.g), s, t), rfl, hX.needs false, hX.ok.gok, by show (tg x'.g s).length < 64; omega, by show t ∈ tg x'.g s; rw [eg]; exact hg, fun H3 n1 n2 => ?_⟩
        obtain ⟨c1, c2⟩ := hX.setG false n1 n2 rfl
        exact ⟨x'.setG false _ _, rfl, ⟨c1, hX.ok.graphs (hX.ok.gok.delG s t) (GIn.delG hX.ok.gin hsX) hX.ok.rok hX.ok.rin⟩, st.trans c2, eB, ec, by show delG x'.g s t = _; rw [eg], er⟩
      · rw [decide_eq_false m, if_neg m]
        exact it_f (by rfl) (it_f (by rfl) ⟨x', rfl, hX, st, eB, ec, eg, er⟩)
    · rintro σ' H3 ⟨x2, rfl, hX2, st2, eB2, ec2, eg2, er2⟩
      exact ⟨_, rfl, k x2 H3 hX2 st2 eB2 ec2 eg2 er2⟩

def sp_R_forget_early (K : PySem.W.Frag) : Sp := Pm (fun x : RX × Addr × List Str => [.ref (x.1.ρ .reg), .ref x.2.1]) fun x H Q => RegAt K x.1 H ∧ SqL K H x.2.1 (x.2.2.map .str) ∧
  Go K x.1 H x.1.B (forgC x.1.c x.2.2) x.1.g x.1.r .non Q
theorem sp_R_forget_early_len (K : PySem.W.Frag) : ∀ vs H Q E, sp_R_forget_early K vs H Q E → vs.length = 2 := Pm.len fun _ => rfl
theorem getE {l : List (Str × Str)} {i : Nat} {p : Str × Str} (h : l[i]? = some p) : (earD l)[i]? = some (k2 p, V.bl true) := by
  unfold earD
  rw [List.getElem?_map, h]
  rfl
theorem flat_strs2 (xs : List Str) : (xs.map V.str).all flatV = true := by
  rw [List.all_map, List.all_eq_true]
  intro x _
  rfl
abbrev s_R_forget_early : Stmt := (inClass (top 29) 26)
theorem sc_R_forget_early : FnScope ["self", "sources", "pair"] ["self", "sources"] (defScope s_R_forget_early) := ⟨rfl, rfl, rfl, by decide +kernel, rfl, by decide +kernel, by decide +kernel⟩
theorem ok_R_forget_early (T : Txt K mg) : Okd P w K mg base 1 (aM K "Registry" "forget_early") ["self", "sources"] (sp_R_forget_early K) := by
  obtain ⟨fd, F⟩ := T.f_R_forget_early
  refine Okd.mk F sc_R_forget_early (sp_R_forget_early_len K) (fun _ _ _ _ _ _ us hl => match us, hl with | [_, _], _ => rfl) (fun cdv A outer s H vs Q E hr h => ?_)
  have hu := hu_of hr
  refine ⟨_, (pss_one (ps_fldK (K := K) rfl (pv 0) (pe_lock (pe_dcT hu (own := [("pair", 2)]) rfl sc_R_forget_early.nd (pi_keys (pe_fldK (K := K) rfl (pv 0) rfl)) (blkOk_by (own := [("pair", 2)]) (N := ["self", "sources", "pair"]) (sc := defScope s_R_forget_early) (by decide +kernel)) (fun _ _ _ _ _ => (pg_name (i := 2) sc_R_forget_early.nd rfl (Or.inl rfl) (Or.inr rfl))) (fun _ _ _ _ _ => (pts_one (pt_cmpR (op_notIn_seqK (K := K) rfl) (pe_ix (ix_tupK (K := K) rfl) (pv 2) pe_int (fun _ _ => rfl)) (pv 1) (by rfl)))) (fun _ _ _ _ _ => (pv 2)) (fun _ _ _ _ _ => pe_bl))) rfl)), ?_⟩
  obtain ⟨⟨x, a, xs⟩, rfl, hR, hx, k⟩ := h
  dsimp only at hR hx k
  have he := hR.ok.elen
  refine ⟨x.ρ .ear, _, hR.ear, True.intro, fun od => ?_⟩
  have f1 : upd H (x.ρ .ear) (.frz od (.dT (earD x.c.early))) (x.ρ .ear) = some (.frz od (.dT (earD x.c.early))) := upd_same
  have f3 := frz_other (od := od) (u := .dT (earD x.c.early)) hR.reg (ne_of hR.reg hR.ear (fun z => nomatch z))
  have hx' : SqL K (upd H (x.ρ .ear) (.frz od (.dT (earD x.c.early)))) a (xs.map .str) := by
    rcases hx with (h | ⟨o, h⟩) | h
    · exact Or.inl (Or.inl (frz_other h (ne_of h hR.ear (fun z => nomatch z))))
    · exact Or.inl (Or.inr ⟨o, frz_other h (ne_of h hR.ear (fun z => nomatch z))⟩)
    · exact Or.inr h
  have hl : (earD x.c.early).length = x.c.early.length := List.length_map _
  refine dxP (J := Itkt (x.ρ .ear) od (earD x.c.early)) (H1 := upd H (x.ρ .ear) (.frz od (.dT (earD x.c.early)))) (fun R r => ⟨_, rfl, _, _, _, _, _, rfl, f3, T.cl_Registry, T.n_own_early, rfl, _, od, rfl, Or.inr ⟨_, f1, r⟩⟩) walk_keysT fun D hD =>
    ⟨fun i H' => Ex (upd H (x.ρ .ear) (.frz od (.dT (earD x.c.early)))) H' ∧ H' D = some (.dT (earD ((x.c.early.take i).filter fun p => decide (p.1 ∉ xs)))), ⟨Ex.new hD, upd_same⟩, fun i H' _ p => p.1 _ _ f1, fun i v H1 H2 hi p y => ?_, fun H' p => ?_⟩
  · obtain ⟨e1, hDD⟩ := p
    obtain ⟨rfl, kk, vv, q, hk, rfl, hq⟩ := y
    rw [hl] at hi
    have hp : x.c.early[i]? = some x.c.early[i] := by simp [hi]
    generalize x.c.early[i] = p at hp
    rw [getE hp] at hk
    cases hk
    have tk : x.c.early.take (i + 1) = x.c.early.take i ++ [p] := by
      rw [List.take_add_one, hp]
      rfl
    refine ⟨rfl, _, rfl, q, _, 0, .str p.1, rfl, rfl, st_of hq, rfl, _, rfl, a, _, rfl, Or.inl (ex_l e1 hx'), rfl, flat_strs2 xs, _, rfl, ?_⟩
    rw [if_pos rfl, inV_str]
    by_cases m : p.1 ∈ xs
    · rw [decide_eq_true m]
      refine it_f (by rfl) ⟨e1, ?_⟩
      rw [hDD, tk, List.filter_append, List.filter_cons_of_neg (by simp [m])]
      simp
    · rw [decide_eq_false m]
      refine it_t (by rfl) ⟨_, rfl, _, Or.inr ⟨_, k2 p, q, hDD, rfl, hq, ?_, rfl⟩, Ex.mut e1 hD, ?_⟩
      · unfold earD
        rw [List.length_map]
        have := List.length_filter_le (fun p : Str × Str => decide (p.1 ∉ xs)) (x.c.early.take i)
        rw [List.length_take] at this
        exact sz_lt (by omega)
      · rw [upd_same, earD_put, tk, List.filter_append, List.filter_cons_of_pos (by simp [m])]
        unfold addE
        rw [if_neg]
        · simp
        · intro z
          have z := (List.mem_filter.mp z).1
          obtain ⟨j, hj⟩ := List.mem_iff_getElem?.mp z
          have hji : j < i := by
            have := (List.getElem?_eq_some_iff.mp hj).1
            rw [List.length_take] at this
            omega
          rw [List.getElem?_take_of_lt hji] at hj
          have := (List.getElem?_inj (List.getElem?_eq_some_iff.mp hj).1 hR.ok.end_).mp (hj.trans hp.symm)
          omega
  · obtain ⟨e1, hDD⟩ := p
    rw [hl, List.take_length] at hDD
    obtain ⟨hDd, hD2⟩ := frz_none hD
    have e2 := Ex.unlock hR.ear e1
    have hR2 := hR.ex e2
    have hDv : upd H' (x.ρ .ear) (.dT (earD x.c.early)) D = some (.dT (earD (forgC x.c xs).early)) := by
      rw [upd_ne hDd]
      exact hDD
    have hR3 := hR.ex (wo_ex e2 hD2)
    obtain ⟨b1, b2⟩ := hR3.earNew wo_same (forgC x.c xs).early
    rw [wo_upd hDv] at b1 b2
    refine ⟨e1 _ _ f1, _, rfl, _, _, _, _, rfl, hR2.reg, T.cl_Registry, T.n_own_early, (show 7 < 1000 by decide), k _ _ ⟨b1, hR.ok.forg xs⟩ ((RStp.ex (wo_ex e2 hD2)).trans b2) rfl rfl rfl rfl⟩

def sp_R_mark_failed (K : PySem.W.Frag) : Sp := Pm (fun x : RX × Str × Addr × List Str => [.ref (x.1.ρ .reg), .str x.2.1, .ref x.2.2.1]) fun x H Q => RegAt K x.1 H ∧ x.2.1 ∈ x.1.sn ∧ H x.2.2.1 = some (.tup (x.2.2.2.map .str)) ∧ x.2.2.2.length ≤ x.1.B + 1 ∧
  Go K x.1 H (x.1.B + 1) (downC x.1.c x.2.1 x.2.2.2) x.1.g x.1.r .non Q
theorem sp_R_mark_failed_len (K : PySem.W.Frag) : ∀ vs H Q E, sp_R_mark_failed K vs H Q E → vs.length = 3 := Pm.len fun _ => rfl
abbrev s_R_mark_failed : Stmt := (inClass (top 29) 27)
theorem sc_R_mark_failed : FnScope ["self", "module", "chain"] ["self", "module", "chain"] (defScope s_R_mark_failed) := ⟨rfl, rfl, rfl, by decide +kernel, rfl, by decide +kernel, by decide +kernel⟩
theorem ok_R_mark_failed (T : Txt K mg) : Okd P w K mg base 1 (aM K "Registry" "mark_failed") ["self", "module", "chain"] (sp_R_mark_failed K) := by
  obtain ⟨fd, F⟩ := T.f_R_mark_failed
  refine Okd.mk F sc_R_mark_failed (sp_R_mark_failed_len K) (fun _ _ _ _ _ _ us hl => match us, hl with | [_, _, _], _ => rfl) (fun cdv A outer s H vs Q E hr h => ?_)
  have hu := hu_of hr
  refine ⟨_, (pss_cut (ps_if (pt_cmpR op_eq (pe_dget hu (pe_fldK (K := K) rfl (pv 0) rfl) (pv 1) (fun _ _ => rfl)) (pe_gstr rfl T.c_RUNNING) (nomark _)) (pss_one (ps_dput hu (pe_fldK (K := K) rfl (pv 0) rfl) (pv 1) pe_bl rfl)) pss_nil)
    (pss_cons (ps_dput hu (pe_fldK (K := K) rfl (pv 0) rfl) (pv 1) (pe_gstr rfl T.c_FAILED) rfl)
    (pss_cons (ps_dput hu (pe_fldK (K := K) rfl (pv 0) rfl) (pv 1) pe_dnewK rfl)
    (pss_one (ps_dput hu (pe_fldK (K := K) rfl (pv 0) rfl) (pv 1) (pe_callTy (call_tupleTK (K := K) rfl) (by rfl) T.b_tuple (by decide +kernel) (pa_cons (pv 2) pa_nil)) rfl))))), ?_⟩
  obtain ⟨⟨x, m, t, l⟩, rfl, hR, hm, ht, hl, k⟩ := h
  dsimp only at hR hm ht hl k
  have hn := hR.ok.len
  have hhn : x.c.held.length ≤ x.sn.length := hR.ok.hnd.length_le_of_subset hR.ok.hin
  have hcn : x.c.ch.length ≤ x.sn.length := by
    have := hR.ok.cnd.length_le_of_subset (l₂ := x.sn) fun a ha => by
      obtain ⟨q, hq, rfl⟩ := List.mem_map.mp ha
      exact hR.ok.cin q hq
    rwa [List.length_map] at this
  refine ⟨fun σ' H' => ∃ x', σ' = [some (.ref (x'.ρ .reg)), some (.str m), some (.ref t)] ∧ RegO K x' H' ∧ RStp K x H x' H' ∧ H' t = some (.tup (l.map .str)) ∧ x'.τ = x.τ ∧ x'.B = x.B ∧ x'.g = x.g ∧ x'.r = x.r ∧ x'.c = { x.c with held := if x.c.st m = "running" then x.c.held ++ [m] else x.c.held }, ?_, ?_⟩
  · refine ⟨_, rfl, _, _, _, _, _, rfl, hR.reg, T.cl_Registry, T.n_own_states, rfl, _, rfl, _, _, rfl, hR.gst hm, rfl, _, rfl, ?_⟩
    rw [dec_V]
    by_cases e : x.c.st m = "running"
    · rw [decide_eq_true e]
      obtain ⟨b1, b2⟩ := hR.helAdd m
      have nh : addT x.c.held m = x.c.held ++ [m] := if_neg (hR.ok.nheld (by rw [e]; decide))
      refine it_t (by rfl) ⟨_, rfl, _, _, _, _, _, rfl, hR.reg, T.cl_Registry, T.n_own_held, rfl, _, rfl, _, _, rfl, Or.inl ⟨_, Sum.inr m, hR.hel, rfl, by rw [length_dU]; exact sz_lt (by omega), rfl⟩, x.helSet (addT x.c.held m), rfl, b1, b2, ?_, rfl, rfl, rfl, rfl, ?_⟩
      · rw [upd_ne (ne_of ht hR.hel (fun z => nomatch z))]
        exact ht
      · rw [if_pos e, ← nh]
        rfl
    · rw [decide_eq_false e]
      refine it_f (by rfl) ⟨x, rfl, hR.toRegO, RStp.refl, ht, rfl, rfl, rfl, rfl, ?_⟩
      rw [if_neg e]
  · rintro σ' H1 ⟨x', rfl, hX, st, ht1, eτ, eB, eg, er, ec⟩
    have hm' : m ∈ x'.sn := by rw [st.n]; exact hm
    obtain ⟨a1, a2⟩ := hX.setSt hm' "failed"
    refine ⟨_, rfl, _, _, _, _, _, rfl, hX.reg, T.cl_Registry, T.n_own_states, rfl, _, rfl, _, _, rfl, Or.inl ⟨_, Sum.inr m, hX.sts, rfl, by rw [stsD_len, st.n]; exact sz_lt (by omega), rfl⟩, ?_⟩
    have ht2 := a2.s.fr _ _ ht1 (hX.ntup ht1)
    have ht2 : upd H1 (x'.ρ .sts) (.dK (putK (stsD x'.sn x'.c.st) (Sum.inr m) (.str "failed"))) t = some (.tup (l.map .str)) := by
      rw [upd_ne (ne_of ht1 hX.sts (fun z => nomatch z))]
      exact ht1
    intro p hp
    have e2 := Ex.new (o := HO.dK []) hp
    have a1' := a1.ex e2
    obtain ⟨b1, b2⟩ := a1.clrEx hm' hp
    refine ⟨_, rfl, _, _, _, _, _, rfl, a1'.reg, T.cl_Registry, T.n_own_exports, rfl, _, rfl, _, _, rfl, Or.inl ⟨_, Sum.inr m, a1'.exd, rfl, ?_, rfl⟩, ?_⟩
    · show (exdD x'.sn x'.ρ).length < sizeLine
      unfold exdD
      rw [length_dS, List.length_map, st.n]
      exact sz_lt (by omega)
    have ht3 := e2 _ _ ht2
    have ht4 : upd (upd (upd H1 (x'.ρ .sts) (.dK (putK (stsD x'.sn x'.c.st) (Sum.inr m) (.str "failed")))) p (.dK [])) ((x'.setSt m "failed").ρ .exd) (.dK (putK (exdD (x'.setSt m "failed").sn (x'.setSt m "failed").ρ) (Sum.inr m) (.ref p))) t = some (.tup (l.map .str)) := by
      rw [upd_ne (ne_of ht3 a1'.exd (fun z => nomatch z))]
      exact ht3
    obtain ⟨c1, c2⟩ := b1.chPut m ht4
    refine ⟨_, rfl, t, _, rfl, st_of ht4, _, rfl, _, _, _, _, _, rfl, b1.reg, T.cl_Registry, T.n_own_chains, rfl, _, rfl, _, _, rfl, Or.inl ⟨_, Sum.inr m, b1.chd, rfl, ?_, rfl⟩, ?_⟩
    · show (chdD x'.τ x'.c.ch).length < sizeLine
      unfold chdD
      rw [length_dS, List.length_map, ec]
      exact sz_lt (by show x.c.ch.length < 100000; omega)
    · refine k { (((x'.setSt m "failed").clrEx m p).chPut m t l) with B := x.B + 1 } _ ⟨⟨c1.is, c1.tup⟩, ?_⟩ ⟨((st.trans a2).trans (b2.trans c2)).s, ((st.trans a2).trans (b2.trans c2)).r, ((st.trans a2).trans (b2.trans c2)).n⟩ rfl ?_ eg er
      · have hd := hR.ok.down hm hl (Nat.le_succ _)
        have e1 : ({ (((x'.setSt m "failed").clrEx m p).chPut m t l).c with } : Core) = downC x.c m l := by
          show ({ st := upd1 x'.c.st m "failed", ex := upd1 x'.c.ex m [], early := x'.c.early, held := x'.c.held, ch := putA x'.c.ch m l } : Core) = _
          rw [ec]
          rfl
        show ROk (x.B + 1) x'.sn (((x'.setSt m "failed").clrEx m p).chPut m t l).c x'.g x'.r
        rw [show (((x'.setSt m "failed").clrEx m p).chPut m t l).c = downC x.c m l from e1, st.n, eg, er]
        exact hd
      · show ({ st := upd1 x'.c.st m "failed", ex := upd1 x'.c.ex m [], early := x'.c.early, held := x'.c.held, ch := putA x'.c.ch m l } : Core) = _
        rw [ec]
        rfl
end
end CR
set_option maxRecDepth 100000
set_option maxHeartbeats 4000000
/-! Cycleready: the registry's failures. -/
namespace CR
open PySem PySem.Spec PyProof.Rows L2 Evl
local macro_rules | `(tactic| walk_at "red") => `(tactic| dsimp only [tNext, tSeq, tRet, tRetN, tDrop, tIfS, tAsg, tPar, tTest, tB, tNot, tAnd, tOr, tCB, tCons, tNil, tCall, tOp, tUn, tVar, tC, tIf])
local macro_rules | `(tactic| walk_at "nrm") => `(tactic| dsimp only [gName, tNext])
/-- the accessors behind some early accesses -/
def accF (c : Core) (cur : List Str) (l : List (Str × Str)) : List (Str × Str) :=
  l.foldl (fun acc p => if p.2 ∈ cur ∧ (c.st p.1 = "running" ∨ c.st p.1 = "done") ∧ p.1 ∉ acc.map (·.1) then acc ++ [p] else acc) []
theorem accF_snoc {c : Core} {cur : List Str} {l : List (Str × Str)} {p : Str × Str} : accF c cur (l ++ [p]) =
    if p.2 ∈ cur ∧ (c.st p.1 = "running" ∨ c.st p.1 = "done") ∧ p.1 ∉ (accF c cur l).map (·.1) then accF c cur l ++ [p] else accF c cur l := by
  unfold accF
  rw [List.foldl_append]
  rfl
theorem accF_snocRec {α : Type} {C : List α → Prop} (h0 : C []) (hs : ∀ l p, C l → C (l ++ [p])) (l : List α) : C l := by
  have : ∀ n (l : List α), l.length = n → C l := fun n => by
    induction n with
    | zero => intro l e; rw [List.eq_nil_of_length_eq_zero e]; exact h0
    | succ n ih =>
      intro l e
      have hne : l ≠ [] := fun z => by rw [z] at e; cases e
      rw [← List.dropLast_concat_getLast hne]
      exact hs _ _ (ih _ (by rw [List.length_dropLast, e]; rfl))
  exact this _ l rfl
theorem accF_ok {c : Core} {cur : List Str} (l : List (Str × Str)) : ((accF c cur l).map (·.1)).Nodup ∧ (accF c cur l).length ≤ l.length ∧ ∀ q ∈ accF c cur l, q ∈ l ∧ q.2 ∈ cur ∧ (c.st q.1 = "running" ∨ c.st q.1 = "done") := by
  induction l using accF_snocRec with
  | h0 => exact ⟨List.nodup_nil, Nat.le_refl _, fun q hq => absurd hq (by simp [accF])⟩
  | hs l p ih =>
    obtain ⟨h1, h2, h3⟩ := ih
    rw [accF_snoc]
    split
    · rename_i m
      refine ⟨?_, ?_, fun q hq => ?_⟩
      · rw [List.map_append, List.nodup_append]
        exact ⟨h1, by simp, fun a ha b hb => by rw [List.mem_singleton.mp hb]; exact ne_mem ha m.2.2⟩
      · rw [List.length_append, List.length_append]
        exact Nat.add_le_add_right h2 1
      · rcases List.mem_append.mp hq with z | z
        · exact ⟨List.mem_append_left _ (h3 q z).1, (h3 q z).2⟩
        · rw [List.mem_singleton.mp z]
          exact ⟨List.mem_append_right _ (List.mem_singleton.mpr rfl), m.1, m.2.1⟩
    · refine ⟨h1, ?_, fun q hq => ⟨List.mem_append_left _ (h3 q hq).1, (h3 q hq).2⟩⟩
      rw [List.length_append]
      omega
theorem downs_snoc {c : Core} {fo : List (Str × Str)} {p : Str × Str} : downsC c (fo ++ [p]) = downC (downsC c fo) p.1 (p.1 :: chainC (downsC c fo) p.2) := by
  unfold downsC
  rw [List.foldl_append]
  rfl
theorem downs_st {c : Core} (fo : List (Str × Str)) : (downsC c fo).st = updAll c.st (fo.map (·.1)) "failed" := by
  induction fo using accF_snocRec with
  | h0 => exact (updAll_nil _ _).symm
  | hs l p ih =>
    rw [downs_snoc, List.map_append]
    show upd1 (downsC c l).st p.1 "failed" = _
    rw [ih, updAll_snoc]
    rfl
def live (sn : List Str) (c : Core) : List Str := sn.filter fun n => decide (c.st n = "running" ∨ c.st n = "done")
theorem live_downs {sn : List Str} {c : Core} {ks : List Str} {st' : Str → Str} (nd : sn.Nodup) (hk : ks.Nodup) (hs : ∀ k ∈ ks, k ∈ sn ∧ (c.st k = "running" ∨ c.st k = "done")) (e : st' = updAll c.st ks "failed") (c' : Core) (e' : c'.st = st') :
    (live sn c').length + ks.length ≤ (live sn c).length := by
  have hl : ∀ y, y ∈ live sn c' → y ∈ live sn c ∧ y ∉ ks := fun y hy => by
    obtain ⟨h1, h2⟩ := List.mem_filter.mp hy
    have h2 := of_decide_eq_true h2
    rw [e', e] at h2
    unfold updAll at h2
    by_cases z : y ∈ ks
    · rw [if_pos z] at h2
      exact absurd h2 (by decide)
    · rw [if_neg z] at h2
      exact ⟨List.mem_filter.mpr ⟨h1, decide_eq_true h2⟩, z⟩
  have hn : (live sn c' ++ ks).Nodup := by
    rw [List.nodup_append]
    exact ⟨nd.sublist List.filter_sublist, hk, fun a ha b hb z => (hl a ha).2 (z ▸ hb)⟩
  have := hn.length_le_of_subset (l₂ := live sn c) fun y hy => by
    rcases List.mem_append.mp hy with z | z
    · exact (hl y z).1
    · exact List.mem_filter.mpr ⟨(hs y z).1, decide_eq_true (hs y z).2⟩
  rwa [List.length_append] at this
theorem rounds_nil (n : Nat) (c : Core) (f : List Str) : roundsC n c [] f = (c, f) := by
  cases n with
  | zero => rfl
  | succ n => exact if_pos rfl
theorem rounds_go {n : Nat} {c : Core} {cur f : List Str} (h : cur ≠ []) : roundsC (n + 1) c cur f = roundsC n (downsC c (accsC c cur)) ((accsC c cur).map (·.1)) (f ++ (accsC c cur).map (·.1)) := if_neg h
/-- the graph behind a failure -/
def failG (held : List Str) (g : Graph) (fnd : List Str) : Graph := fnd.foldl (fun g n => if n ∈ held then g else delAllG g n) g
theorem failG_snoc {held : List Str} {g : Graph} {l : List Str} {n : Str} : failG held g (l ++ [n]) = if n ∈ held then failG held g l else delAllG (failG held g l) n := by
  unfold failG
  rw [List.foldl_append]
  rfl
section
variable {K : PySem.W.Frag} {x x' x1 : RX} {H H' H1 : Hp} {L p : Addr} {o : HO}
theorem RegO.nfrz (h : RegO K x H) {a : Addr} {od : Obj} {u : HO} (e : H a = some (.frz od u)) : ¬ own x.ρ (CRg K x) a := fun ⟨i, l, q⟩ => by
  obtain ⟨o, h1, h2⟩ := h.is.live l
  rw [q, e] at h2
  have h1 : CRg K x i = some (.frz od u) := h1.trans h2.symm
  cases i with
  | nd b r =>
    cases r with
    | i a =>
      have e : (lookA (x.gr b) a).map (fun ts => HO.dK (dU ts)) = some (.frz od u) := h1
      cases h : lookA (x.gr b) a with
      | none => rw [h] at e; cases e
      | some ts => rw [h] at e; cases e
    | _ => cases h1
  | exi n =>
    have e : (if n ∈ x.sn then some (HO.dK (dS V.int (x.c.ex n))) else none) = some (.frz od u) := h1
    split at e <;> cases e
  | _ => cases h1
theorem RegO.off (h : RegO K x H) (hL : ¬ own x.ρ (CRg K x) L) (ht : ∀ xs, H L ≠ some (.tup xs)) : RegO K x (upd H L o) :=
  ⟨⟨fun i o e => by
    rw [upd_ne (fun z => hL ⟨i, by rw [e]; rfl, z⟩)]
    exact h.is.is i o e, h.is.inj⟩, fun q hq => by
    rw [upd_ne (fun z => ht _ (z ▸ h.tup q hq))]
    exact h.tup q hq⟩
theorem RStp.fresh (s : RStp K x H x1 H1) (hp : H1 p = none) : ∀ o, H p = some o → own x.ρ (CRg K x) p := fun o ho => by
  by_cases z : own x.ρ (CRg K x) p
  · exact z
  · rw [s.s.fr p o ho z] at hp
    cases hp
theorem RStp.off (s : RStp K x H x' H') (hL : ∀ o, H L = some o → own x.ρ (CRg K x) L) : RStp K x H x' (upd H' L o) :=
  ⟨⟨fun a o ha hn => by
    rw [upd_ne (fun z => hn (by rw [z] at ha ⊢; exact hL _ ha))]
    exact s.s.fr a o ha hn, s.s.nw⟩, s.r, s.n⟩
end
section
variable {P : Program} {w : World} {K : PySem.W.Frag} {mg : Str → Option Value} {base : Heap}
def sp_R_accessors (K : PySem.W.Frag) : Sp := Pm (fun x : RX × Addr × List Str => [.ref (x.1.ρ .reg), .ref x.2.1]) fun x H Q => RegAt K x.1 H ∧ SqL K H x.2.1 (x.2.2.map .str) ∧
  ∀ p H', Ex H H' → H p = none → H' p = some (.dK (dS V.str (accsC x.1.c x.2.2))) → Q (.ref p) H'
theorem sp_R_accessors_len (K : PySem.W.Frag) : ∀ vs H Q E, sp_R_accessors K vs H Q E → vs.length = 2 := Pm.len fun _ => rfl
abbrev s_R_accessors : Stmt := (inClass (top 29) 28)
theorem sc_R_accessors : FnScope ["self", "modules", "found", "source", "target"] ["self", "modules"] (defScope s_R_accessors) := ⟨rfl, rfl, rfl, by decide +kernel, rfl, by decide +kernel, by decide +kernel⟩
theorem ok_R_accessors (T : Txt K mg) : Okd P w K mg base 2 (aM K "Registry" "accessors") ["self", "modules"] (sp_R_accessors K) := by
  obtain ⟨fd, F⟩ := T.f_R_accessors
  refine Okd.mk F sc_R_accessors (sp_R_accessors_len K) (fun _ _ _ _ _ _ us hl => match us, hl with | [_, _], _ => rfl) (fun cdv A outer s H vs Q E hr h => ?_)
  have hu := hu_of hr
  refine ⟨_, (pss_cons (ps_set (i := 2) sc_R_accessors.nd rfl (Or.inl rfl) pe_dnewK)
    (pss_cons (ps_for PassesOwn.never rfl (pi_listK (K := K) rfl (pe_methO0 (pv 0) T.cl_Registry T.m_Registry_early (ok_R_early (K := K) T) (hr.mono (by decide)))) (pg_tupK (K := K) (n := 2) rfl rfl (pgs_cons (pg_name (i := 3) sc_R_accessors.nd rfl (Or.inl rfl) (Or.inl rfl)) (pgs_cons (pg_name (i := 4) sc_R_accessors.nd rfl (Or.inl rfl) (Or.inl rfl)) pgs_nil)))
    (pss_one (ps_if (PW.pt (pw_and (pt_cmpR (op_in_seqK (K := K) rfl) (pv 4) (pv 1) (by rfl)) (pw_and (pt_cmp (pc_dnotin hu (pv 3) (pv 2))) (pw_and1 (pt_cmpR (op_in_seqK (K := K) rfl) (pe_dget hu (pe_fldK (K := K) rfl (pv 0) rfl) (pv 3) (fun _ _ => rfl)) (pe_tup (pa_cons (pe_gstr rfl T.c_RUNNING) (pa_cons (pe_gstr rfl T.c_DONE) pa_nil))) (by rfl)))))) (pss_one (ps_dput hu (pv 2) (pv 3) (pv 4) rfl)) pss_nil)))
    (pss_one (ps_ret (pv 2))))), ?_⟩
  obtain ⟨⟨x, a, cur⟩, rfl, hR, ha, k⟩ := h
  dsimp only at hR ha k
  intro F hF
  walk_at "nrm"
  have e0 := Ex.new (o := HO.dK []) hF
  have hR0 := hR.ex e0
  have hen := hR.ok.elen
  refine ⟨_, rfl, _, _, _, rfl, hR0.reg, rfl, x, rfl, hR0, fun bs p H1 e1 hp1 hb hP h1 => ⟨p, rfl, ⟨refsB bs, sq_of h1⟩,
    for_list (xs := refsB bs) (fun j σ' H' => ∃ y1 y2, σ' = [some (.ref (x.ρ .reg)), some (.ref a), some (.ref F), y1, y2] ∧ Ex H H' ∧ H' p = some (.lst (refsB bs)) ∧ Prs H' bs ∧ H' F = some (.dK (dS V.str (accF x.c cur ((bs.map (·.2)).take j)))))
      ⟨_, _, rfl, e0.trans e1, h1, hP, e1 _ _ upd_same⟩ (fun i σ' H' _ ⟨_, _, _, _, q, _⟩ => sq_of q) (fun i v σ' H' hi pr => ?_) (fun σ' H' pr => ?_)⟩⟩
  · obtain ⟨y1, y2, rfl, e2, h2, hP2, hF2⟩ := pr
    obtain ⟨b, hb2, rfl⟩ := at_map hi
    have hp2 : (bs.map (·.2))[i]? = some b.2 := by
      rw [List.getElem?_map, hb2]
      rfl
    have tk : (bs.map (·.2)).take (i + 1) = (bs.map (·.2)).take i ++ [b.2] := by
      rw [List.take_add_one, hp2]
      rfl
    have hbe : b.2 ∈ x.c.early := mem_srtP.mp (by rw [← hb]; exact List.mem_of_getElem? hp2)
    obtain ⟨hs1, hs2⟩ := hR.ok.ein _ hbe
    have hR2 := hR.ex e2
    refine ⟨_, _, rfl, st_of (hP2 _ (List.mem_of_getElem? hb2)), rfl, _, _, rfl, _, _, rfl, ⟨rfl, ?_⟩⟩
    have hl : (accF x.c cur ((bs.map (·.2)).take i)).length < 100000 := by
      have h3 := (accF_ok (c := x.c) (cur := cur) ((bs.map (·.2)).take i)).2.1
      have h4 : (bs.map (·.2)).length = x.c.early.length := by
        rw [hb]
        exact (srtP_perm x.c.early).length_eq
      rw [List.length_take] at h3
      omega
    rw [tk, accF_snoc]
    generalize hacc : accF x.c cur ((bs.map (·.2)).take i) = acc at hF2 hl ⊢
    refine ⟨_, rfl, _, rfl, a, _, rfl, Or.inl (ex_l e2 ha), rfl, flat_strs2 cur, _, rfl, ?_⟩
    rw [if_neg Bool.false_ne_true, inV_str]
    by_cases m1 : b.2.2 ∈ cur
    · refine it_t (decide_eq_true m1) ?_
      refine ⟨_, rfl, _, rfl, F, _, rfl, dg_in (f := V.str) hF2, _, rfl, ?_⟩
      rw [Option.isSome_map, in_isSome]
      by_cases m2 : b.2.1 ∈ acc.map (·.1)
      · rw [decide_eq_true m2, if_neg (fun z => z.2.2 m2)]
        exact it_f (by rfl) (it_f (by rfl) ⟨_, _, rfl, e2, h2, hP2, hF2⟩)
      · rw [decide_eq_false m2]
        refine it_t (by rfl) ⟨_, rfl, _, _, _, _, _, rfl, hR2.reg, T.cl_Registry, T.n_own_states, rfl, _, rfl, _, _, rfl, hR2.gst hs1, sz_of (n := 2) (by decide), fun q hq => ⟨q, [V.str "running", V.str "done"], rfl, Or.inr (st_of upd_same), rfl, rfl, _, rfl, ?_⟩⟩
        have e3 := Ex.new (o := HO.tup [V.str "running", V.str "done"]) hq
        have ei : inV (V.str (x.c.st b.2.1)) [V.str "running", V.str "done"] = decide (x.c.st b.2.1 = "running" ∨ x.c.st b.2.1 = "done") := by
          rw [show [V.str "running", V.str "done"] = (["running", "done"] : List Str).map V.str from rfl, inV_str, decide_eq_decide]
          simp
        rw [if_neg Bool.false_ne_true, ei]
        by_cases m3 : x.c.st b.2.1 = "running" ∨ x.c.st b.2.1 = "done"
        · rw [if_pos ⟨m1, m3, m2⟩]
          have pF : p ≠ F := ne_of h2 hF2 (fun z => nomatch z)
          refine it_t (decide_eq_true m3) ⟨_, rfl, _, rfl, _, rfl, F, _, rfl, Or.inl ⟨_, Sum.inr b.2.1, e3 _ _ hF2, rfl, by rw [length_dS]; exact sz_lt hl, rfl⟩, _, _, rfl, Ex.mut (e2.trans e3) hF, ?_, fun c hc => ?_, ?_⟩
          · rw [upd_ne pF]
            exact e3 _ _ h2
          · rw [upd_ne (ne_of (hP2 c hc) hF2 (fun z => nomatch z))]
            exact e3 _ _ (hP2 c hc)
          · rw [upd_same, putK_dS, putA_new _ m2]
        · rw [if_neg (fun z => m3 z.2.1)]
          exact it_f (decide_eq_false m3) ⟨_, _, rfl, e2.trans e3, e3 _ _ h2, hP2.ex e3, e3 _ _ hF2⟩
    · rw [if_neg (fun z => m1 z.1)]
      exact it_f (decide_eq_false m1) (it_f (by rfl) ⟨_, _, rfl, e2, h2, hP2, hF2⟩)
  · obtain ⟨y1, y2, rfl, e2, h2, hP2, hF2⟩ := pr
    refine ⟨_, rfl, k F _ e2 hF ?_⟩
    rw [hF2]
    unfold accsC accF
    rw [show (refsB bs).length = (bs.map (·.2)).length by rw [List.length_map]; exact List.length_map _, List.take_length, hb]
theorem mark_cat {σ : L2.St} {H : Hp} {ta tm tc : TE} {x : RX} {m : Str} {l : List Str} {t : Addr} {Q : VK} (ha : Ev ta σ H (.ref (x.ρ .reg))) (hm : Ev tm σ H (.str m)) (hc : Ev tc σ H (.ref t)) (hR : RegAt K x H) (hms : m ∈ x.sn)
    (ht : H t = some (.tup (l.map .str))) (hl : l.length ≤ x.B) (hB : x.B ≤ 50000)
    (k : ∀ x' H', RegAt K x' H' → RStp K x H x' H' → x'.B = x.B + 1 → x'.c = downC x.c m (m :: l) → x'.g = x.g → x'.r = x.r → Q .non H') :
    tMeth (aF K "Registry") "mark_failed" (sp_R_mark_failed K) [] E0 ta (tCons tm (tCons (tOp (rCatT K) (tTup (tCons tm tNil)) tc) tNil)) σ H Q := by
  have key : ∀ H5 q, Ex H H5 → H5 q = some (.tup ((m :: l).map .str)) → sp_R_mark_failed K [.ref (x.ρ .reg), .str m, .ref q] H5 Q E0 := fun H5 q e hq =>
    ⟨(x, m, q, m :: l), rfl, hR.ex e, hms, hq, Nat.succ_le_succ hl, fun x' H' a1 a2 a3 a4 a5 a6 => k x' H' a1 ((RStp.ex e).trans a2) a3 a4 a5 a6⟩
  refine ha H (Ex.refl H) _ fun H1 e1 => ⟨_, _, _, rfl, (hR.ex e1).reg, rfl, hm H1 e1 _ fun H2 e2 => hm H2 (e1.trans e2) _ fun H3 e3 => ⟨sz_of (n := 1) (by decide), fun q hq => hc _ (((e1.trans e2).trans e3).trans (Ex.new hq)) _ fun H4 e4 => ?_⟩⟩
  have e5 := (((e1.trans e2).trans e3).trans (Ex.new (o := HO.tup [V.str m]) hq)).trans e4
  refine ⟨q, t, [.str m], l.map .str, rfl, rfl, st_of (e4 _ _ upd_same), st_of (e5 _ _ ht), by simp, ?_, fun z => ?_, fun z p hp => ?_⟩
  · rw [List.length_map]
    exact sz_of (n := 1 + l.length) (by omega)
  · have : l = [] := List.map_eq_nil_iff.mp z
    refine key _ _ e5 ?_
    rw [this]
    exact e4 _ _ upd_same
  · exact key _ _ (e5.trans (Ex.new hp)) upd_same
def sp_R_fail (K : PySem.W.Frag) : Sp := Pm (fun x : RX × Str × Option Str => [.ref (x.1.ρ .reg), .str x.2.1, vO x.2.2]) fun x H Q => RegAt K x.1 H ∧ x.2.1 ∈ x.1.sn ∧ x.1.c.st x.2.1 = "running" ∧ (∀ b, x.2.2 = some b → b ∈ x.1.sn ∧ x.1.c.st b = "failed") ∧ x.1.B ≤ 10000 ∧
  ∀ x' H' p, RegAt K x' H' → RStp K x.1 H x' H' → x'.B = x.1.B + 50 → x'.c = failC (x.1.sn.length + 2) x.1.c x.2.1 x.2.2 →
    x'.g = failG (failC (x.1.sn.length + 2) x.1.c x.2.1 x.2.2).held x.1.g (failedC (x.1.sn.length + 2) x.1.c x.2.1 x.2.2).2 → x'.r = x.1.r →
    H' p = some (.lst ((srtS (failedC (x.1.sn.length + 2) x.1.c x.2.1 x.2.2).2).map .str)) → Q (.ref p) H'
theorem sp_R_fail_len (K : PySem.W.Frag) : ∀ vs H Q E, sp_R_fail K vs H Q E → vs.length = 3 := Pm.len fun _ => rfl
abbrev s_R_fail : Stmt := (inClass (top 29) 29)
theorem sc_R_fail : FnScope ["self", "module", "because", "rest", "found", "current", "following", "source", "target", "name"] ["self", "module", "because"] (defScope s_R_fail) := ⟨rfl, rfl, rfl, by decide +kernel, rfl, by decide +kernel, by decide +kernel⟩
theorem ok_R_fail (T : Txt K mg) : ∃ fd : FuncData, FunD K "fail" "Registry.fail" (defArgs s_R_fail) (defBody s_R_fail) (defScope s_R_fail) [] [("because", .non)] (aM K "Registry" "fail") fd ∧ FnOk P w K mg base CX0 3 (aM K "Registry" "fail") fd ["self", "module", "because"] (sp_R_fail K) := by
  obtain ⟨fd, F⟩ := T.f_R_fail
  refine ⟨fd, F, fn_mk F sc_R_fail (sp_R_fail_len K) (fun cdv A outer s H vs Q E hr h => ?_)⟩
  have hu := hu_of hr
  refine ⟨_, (pss_cons (ps_expr (pe_methO (pv 0) T.cl_Registry T.m_Registry_want_state (ok_R_want_state (K := K) T) (hr.mono (by decide)) (pa_cons (pv 1) (pa_cons (pe_gstr rfl T.c_RUNNING) pa_nil))))
    (pss_cons (ps_set (i := 3) sc_R_fail.nd rfl (Or.inl rfl) (pe_tup pa_nil))
    (pss_cut (ps_if (pt_cmp (pc_notN (pv 2))) (pss_cons (ps_expr (pe_methO (pv 0) T.cl_Registry T.m_Registry_want_state (ok_R_want_state (K := K) T) (hr.mono (by decide)) (pa_cons (pv 2) (pa_cons (pe_gstr rfl T.c_FAILED) pa_nil))))
    (pss_one (ps_set (i := 3) sc_R_fail.nd rfl (Or.inl rfl) (pe_dget hu (pe_fldK (K := K) rfl (pv 0) rfl) (pv 2) (fun _ _ => rfl))))) pss_nil)
    (pss_cons (ps_expr (pe_methO (pv 0) T.cl_Registry T.m_Registry_mark_failed (ok_R_mark_failed (K := K) T) (hr.mono (by decide)) (pa_cons (pv 1) (pa_cons (pe_op (op_catTK (K := K) rfl) (pe_tup (pa_cons (pv 1) pa_nil)) (pv 3)) pa_nil))))
    (pss_cons (ps_set (i := 4) sc_R_fail.nd rfl (Or.inl rfl) (pe_lst (pa_cons (pv 1) pa_nil)))
    (pss_cons (ps_set (i := 5) sc_R_fail.nd rfl (Or.inl rfl) (pe_lst (pa_cons (pv 1) pa_nil)))
    (pss_cons (ps_while PassesOwn.never (pt_cmpR (op_neDK (K := K) rfl hr.units) (pv 5) (pe_lst pa_nil) (nomark _)) (pss_cons (ps_set (i := 6) sc_R_fail.nd rfl (Or.inl rfl) (pe_methO (pv 0) T.cl_Registry T.m_Registry_accessors (ok_R_accessors (K := K) T) (hr.mono (by decide)) (pa_cons (pv 5) pa_nil)))
    (pss_cons (ps_lock (ps_for PassesOwn.never rfl (pi_items (pv 6)) (pg_tupK (K := K) (n := 2) rfl rfl (pgs_cons (pg_name (i := 7) sc_R_fail.nd rfl (Or.inl rfl) (Or.inl rfl)) (pgs_cons (pg_name (i := 8) sc_R_fail.nd rfl (Or.inl rfl) (Or.inl rfl)) pgs_nil)))
    (pss_one (ps_expr (pe_methO (pv 0) T.cl_Registry T.m_Registry_mark_failed (ok_R_mark_failed (K := K) T) (hr.mono (by decide)) (pa_cons (pv 7) (pa_cons (pe_op (op_catTK (K := K) rfl) (pe_tup (pa_cons (pv 7) pa_nil)) (pe_dget hu (pe_fldK (K := K) rfl (pv 0) rfl) (pv 8) (fun _ _ => rfl))) pa_nil)))))))
    (pss_cons (ps_set (i := 5) sc_R_fail.nd rfl (Or.inl rfl) (pe_callTy (call_listD rfl) (by rfl) T.b_list (by decide +kernel) (pa_cons (pv 6) pa_nil)))
    (pss_one (ps_expr (pe_bm PySem.F.plainAttrs_list PySem.F.slot_list_extend PySem.F.type_list_extend mt_extend (pv 4) (pa_cons (pv 5) pa_nil))))))))
    (pss_cons (ps_expr (pe_methO (pv 0) T.cl_Registry T.m_Registry_forget_early (ok_R_forget_early (K := K) T) (hr.mono (by decide)) (pa_cons (pv 4) pa_nil)))
    (pss_cons (ps_for PassesOwn.never rfl (pi_listK (K := K) rfl (pv 4)) (pg_name (i := 9) sc_R_fail.nd rfl (Or.inl rfl) (Or.inl rfl))
    (pss_one (ps_if (pt_cmp (pc_dnotin hu (pv 9) (pe_fldK (K := K) rfl (pv 0) rfl))) (pss_one (ps_expr (pe_methO (pe_fldK (K := K) rfl (pv 0) rfl) T.cl_Needs T.m_Needs_delete_all (ok_N_delete_all (K := K) T) (hr.mono (by decide)) (pa_cons (pv 9) pa_nil)))) pss_nil)))
    (pss_one (ps_ret (pe_callB (cr_sortedSK (K := K) rfl) (by rfl) T.b_sorted (by decide +kernel) (pa_cons (pv 4) pa_nil))))))))))))), ?_⟩
  obtain ⟨⟨x, m, cause⟩, rfl, hR, hm, hst, hca, hB, k⟩ := h
  dsimp only at hR hm hst hca hB k
  have hnl := hR.ok.len
  refine ⟨_, rfl, _, _, _, rfl, hR.reg, rfl, _, rfl, (x, m, "running"), rfl, hR, hm, hst, fun H1 e1 => ?_⟩
  refine ⟨sz_of (n := 0) (by decide), fun q1 hq1 => ?_⟩
  walk_at "nrm"
  have e2 := Ex.new (o := HO.tup []) hq1
  refine ⟨fun σ' H' => ∃ t, σ' = [some (.ref (x.ρ .reg)), some (.str m), some (vO cause), some (.ref t), none, none, none, none, none, none] ∧ Ex H H' ∧ H' t = some (.tup ((restC x.c cause).map .str)) ∧ (restC x.c cause).length ≤ x.B, ?_, ?_⟩
  · cases cause with
    | none => exact ⟨_, rfl, _, rfl, it_f (by rfl) ⟨q1, rfl, e1.trans e2, upd_same, Nat.zero_le _⟩⟩
    | some b =>
      obtain ⟨hb1, hb2⟩ := hca b rfl
      have hR2 := hR.ex (e1.trans e2)
      obtain ⟨c1, c2⟩ := hR.ok.chain hb1 hb2
      refine ⟨_, rfl, _, rfl, it_t (by rfl) ⟨_, rfl, _, _, _, rfl, hR2.reg, rfl, _, rfl, (x, b, "failed"), rfl, hR2, hb1, hb2, fun H3 e3 => ?_⟩⟩
      have hR3 := hR2.ex e3
      obtain ⟨g1, g2⟩ := hR3.gch c1
      exact ⟨_, rfl, _, _, _, _, _, rfl, hR3.reg, T.cl_Registry, T.n_own_chains, rfl, _, rfl, _, _, rfl, g1, _, rfl, (e1.trans e2).trans e3, g2, c2⟩
  rintro σ' H2 ⟨t, rfl, e3, ht, hrl⟩
  have hR2 := hR.ex e3
  refine mark_cat (ev_var rfl) (ev_var rfl) (ev_var rfl) hR2 hm ht hrl (by omega) fun x1 H3 hX1 s1 b1 c1 g1 r1 => ?_
  have s1 := (RStp.ex e3).trans s1
  have b1 : x1.B = x.B + 1 := b1
  have n1 : x1.sn = x.sn := s1.n
  refine ⟨_, rfl, sz_of (n := 1) (by decide), fun L hL => ⟨_, rfl, sz_of (n := 1) (by decide), fun C hC => ?_⟩⟩
  walk_at "nrm"
  have eL := Ex.new (o := HO.lst [V.str m]) hL
  have eC := Ex.new (o := HO.lst [V.str m]) hC
  have hLC : (upd (upd H3 L (.lst [V.str m])) C (.lst [V.str m])) L = some (.lst ([m].map .str)) := eC _ _ upd_same
  have hCC : (upd (upd H3 L (.lst [V.str m])) C (.lst [V.str m])) C = some (.lst ([m].map .str)) := upd_same
  have neLC : L ≠ C := fun z => by
    rw [← z, upd_same] at hC
    cases hC
  have oL := s1.fresh hL
  have oC : ∀ o, H C = some o → own x.ρ (CRg K x) C := s1.fresh (by
    rw [upd_ne (fun z => neLC z.symm)] at hC
    exact hC)
  have hX2 := (hX1.ex eL).ex eC
  have s2 := s1.trans ((RStp.ex eL).trans (RStp.ex eC))
  have hlv := live_downs (sn := x.sn) (c := x.c) (ks := [m]) hR.ok.nd (by simp) (fun y hy => by rw [List.mem_singleton.mp hy]; exact ⟨hm, Or.inl hst⟩) rfl (downC x.c m (m :: restC x.c cause)) (by
    show upd1 x.c.st m "failed" = _
    have := updAll_snoc x.c.st [] m "failed"
    rw [updAll_nil] at this
    exact this)
  have hlv0 : (live x.sn x.c).length ≤ x.sn.length := List.length_filter_le _ _
  generalize upd (upd H3 L (.lst [V.str m])) C (.lst [V.str m]) = H4 at hLC hCC hX2 s2 ⊢
  refine q_while (fun mm σ' H' => ∃ x2 C cur fnd n y6 y7 y8, σ' = [some (.ref (x.ρ .reg)), some (.str m), some (vO cause), some (.ref t), some (.ref L), some (.ref C), y6, y7, y8, none] ∧ RegAt K x2 H' ∧ RStp K x H x2 H' ∧ x2.g = x.g ∧ x2.r = x.r ∧ x2.B = x.B + fnd.length ∧
      H' L = some (.lst (fnd.map .str)) ∧ H' C = some (.lst (cur.map .str)) ∧ (∀ y ∈ fnd, y ∈ x.sn) ∧ (∀ y ∈ cur, y ∈ x.sn ∧ x2.c.st y = "failed") ∧ roundsC n x2.c cur fnd = failedC (x.sn.length + 2) x.c m cause ∧ (cur = [] ∨ (live x.sn x2.c).length < n) ∧ fnd.length + (live x.sn x2.c).length ≤ x.sn.length ∧ mm = n) (x.sn.length + 2)
    ⟨x1, C, [m], [m], x.sn.length + 2, none, none, none, rfl, hX2, s2, g1, r1, b1, hLC, hCC, fun y hy => by rw [List.mem_singleton.mp hy]; exact hm, fun y hy => by rw [List.mem_singleton.mp hy]; exact ⟨hm, by rw [c1]; exact upd1_same⟩, by rw [c1]; rfl, Or.inr (by rw [c1]; have := List.length_filter_le (fun n => decide ((downC x.c m (m :: restC x.c cause)).st n = "running" ∨ (downC x.c m (m :: restC x.c cause)).st n = "done")) x.sn; show (live x.sn _).length < _; unfold live; omega), by rw [c1]; show 1 + _ ≤ _; simp only [List.length_singleton] at hlv; omega, rfl⟩ ?_
  rintro mm σ' H5 ⟨x2, C2, cur, fnd, n, y6, y7, y8, rfl, hX, st, eg, er, eB, f1, f2, hf, hc, hrd, hlt, hsz, rfl⟩
  have hokc : ∀ y ∈ cur, okName y := fun y hy => hR.ok.nm y (hc y hy).1
  refine ⟨_, et_ne_nil (ev_var rfl) (sq_of f2) hokc, fun hb H6 e6 => ?_, fun hb H6 e6 => ?_⟩
  · have hne : cur ≠ [] := fun z => by
      rw [z] at hb
      cases hb
    obtain ⟨n, rfl⟩ : ∃ n', mm = n' + 1 := ⟨mm - 1, by rcases hlt with z | z; exact absurd z hne; omega⟩
    have hlt : (live x.sn x2.c).length < n + 1 := hlt.resolve_left hne
    have hX6 := hX.ex e6
    have st6 := st.trans (RStp.ex e6)
    have nx2 : x2.sn = x.sn := st.n
    have rg : x2.ρ .reg = x.ρ .reg := st.r
    rw [rounds_go hne] at hrd
    have afo : ((accsC x2.c cur).map (·.1)).Nodup ∧ ∀ q ∈ accsC x2.c cur, q ∈ x2.c.early ∧ q.2 ∈ cur ∧ (x2.c.st q.1 = "running" ∨ x2.c.st q.1 = "done") := by
      have := accF_ok (c := x2.c) (cur := cur) (srtP x2.c.early)
      exact ⟨this.1, fun q hq => ⟨mem_srtP.mp (this.2.2 q hq).1, (this.2.2 q hq).2⟩⟩
    generalize hfo : accsC x2.c cur = fo at hrd afo
    have hks : ∀ y ∈ fo.map (·.1), y ∈ x.sn ∧ (x2.c.st y = "running" ∨ x2.c.st y = "done") := fun y hy => by
      obtain ⟨q, hq, rfl⟩ := List.mem_map.mp hy
      obtain ⟨z1, z2, z3⟩ := afo.2 q hq
      exact ⟨nx2 ▸ (hX.ok.ein q z1).1, z3⟩
    have hlv2 := live_downs (sn := x.sn) (c := x2.c) hR.ok.nd afo.1 hks rfl (downsC x2.c fo) (downs_st fo)
    rw [List.length_map] at hlv2
    refine ⟨_, fun σ2 H2 (p : ∃ x2 C cur fnd y6 y7 y8, σ2 = [some (.ref (x.ρ .reg)), some (.str m), some (vO cause), some (.ref t), some (.ref L), some (.ref C), y6, y7, y8, none] ∧ RegAt K x2 H2 ∧ RStp K x H x2 H2 ∧ x2.g = x.g ∧ x2.r = x.r ∧ x2.B = x.B + fnd.length ∧
      H2 L = some (.lst (fnd.map .str)) ∧ H2 C = some (.lst (cur.map .str)) ∧ (∀ y ∈ fnd, y ∈ x.sn) ∧ (∀ y ∈ cur, y ∈ x.sn ∧ x2.c.st y = "failed") ∧ roundsC n x2.c cur fnd = failedC (x.sn.length + 2) x.c m cause ∧ (cur = [] ∨ (live x.sn x2.c).length < n) ∧ fnd.length + (live x.sn x2.c).length ≤ x.sn.length) => ?_, ?_⟩
    · obtain ⟨x3, C3, cur3, fnd3, z6, z7, z8, p1, p2, p3, p4, p5, p6, p7, p8, p9, p10, p11, p12, p13⟩ := p
      exact ⟨n, Nat.lt_succ_self n, x3, C3, cur3, fnd3, n, z6, z7, z8, p1, p2, p3, p4, p5, p6, p7, p8, p9, p10, p11, p12, p13, rfl⟩
    -- following = self.accessors(current)
    rw [← rg]
    refine ⟨_, rfl, _, _, _, rfl, hX6.reg, rfl, _, rfl, (x2, C2, cur), rfl, hX6, sq_of (e6 _ _ f2), fun F H7 e7 hF hF7 => ?_⟩
    rw [hfo] at hF7
    walk_at "nrm"
    have oF := st6.fresh hF
    have hX7 := hX6.ex e7
    have st7 := st6.trans (RStp.ex e7)
    have f1' := (e6.trans e7) _ _ f1
    -- the loop, the dict locked
    have nF : ¬ own x2.ρ (CRg K x2) F := fun ⟨i, l, q⟩ => by
      obtain ⟨o, z1, z2⟩ := hX6.is.live l
      rw [q, hF] at z2
      cases z2
    refine ⟨F, _, hF7, True.intro, fun od => ?_⟩
    have hX8 : RegAt K x2 (upd H7 F (.frz od (.dK (dS V.str fo)))) := ⟨hX7.toRegO.off nF (fun xs z => by rw [hF7] at z; cases z), hX7.ok⟩
    have st8 : RStp K x H x2 (upd H7 F (.frz od (.dK (dS V.str fo)))) := st7.off oF
    have nLF : L ≠ F := ne_of f1' hF7 (fun z => nomatch z)
    have f1'' : upd H7 F (.frz od (.dK (dS V.str fo))) L = some (.lst (fnd.map .str)) := frz_other f1' nLF
    have fF : upd H7 F (.frz od (.dK (dS V.str fo))) F = some (.frz od (.dK (dS V.str fo))) := upd_same
    refine ⟨_, rfl, _, od, _, rfl, fF, for_it walk_items (fun j σ' H' => ∃ x3 y7 y8, σ' = [some (.ref (x.ρ .reg)), some (.str m), some (vO cause), some (.ref t), some (.ref L), some (.ref C2), some (.ref F), y7, y8, none] ∧ RegAt K x3 H' ∧ RStp K x H x3 H' ∧ x3.g = x.g ∧ x3.r = x.r ∧ x3.B = x2.B + j ∧
      H' L = some (.lst (fnd.map .str)) ∧ H' F = some (.frz od (.dK (dS V.str fo))) ∧ x3.c = downsC x2.c (fo.take j)) ⟨x2, _, _, by rw [rg]; rfl, hX8, st8, eg, er, rfl, f1'', fF, rfl⟩ (fun i σ' H' _ ⟨_, _, _, p⟩ => p.2.2.2.2.2.2.2.1) (fun i v σ' H' H'' hi pr y => ?_) (fun σ' H' pr => ?_)⟩
    · obtain ⟨x3, y7, y8, rfl, hX9, st9, g9, r9, b9, l9, F9, c9⟩ := pr
      obtain ⟨T0, u1, u2, rfl, hT, rfl, hi1, hi2⟩ := y
      have hi : i < fo.length := by rwa [length_dS] at hi
      have hq : fo[i]? = some fo[i] := by simp [hi]
      generalize fo[i] = q at hq
      have tk : fo.take (i + 1) = fo.take i ++ [q] := by
        rw [List.take_add_one, hq]
        rfl
      have hd : (dS V.str fo)[i]? = some (Sum.inr q.1, V.str q.2) := by
        unfold dS
        rw [List.getElem?_map, hq]
        rfl
      dsimp only at hi1 hi2
      rw [hd] at hi1 hi2
      cases hi1
      cases hi2
      have hqf := List.mem_of_getElem? hq
      obtain ⟨z1, z2, z3⟩ := afo.2 q hqf
      have nx3 : x3.sn = x.sn := st9.n
      have rg3 : x3.ρ .reg = x.ρ .reg := st9.r
      have eT := Ex.new (o := HO.tup [V.str q.1, V.str q.2]) hT
      have hX10 := hX9.ex eT
      have hs1 : q.1 ∈ x3.sn := by rw [nx3]; exact (hks _ (List.mem_map_of_mem hqf)).1
      have ht1 : q.2 ∈ x3.sn := by rw [nx3]; exact (hc _ z2).1
      have ht2 : x3.c.st q.2 = "failed" := by
        rw [c9, downs_st]
        unfold updAll
        split
        · rfl
        · exact (hc _ z2).2
      obtain ⟨k1, k2⟩ := hX9.ok.chain ht1 ht2
      obtain ⟨g1', g2'⟩ := hX10.gch k1
      have hfn : fo.length ≤ x.sn.length := by have := List.length_filter_le (fun n => decide (x2.c.st n = "running" ∨ x2.c.st n = "done")) x.sn; have : (live x.sn x2.c).length ≤ x.sn.length := this; omega
      refine ⟨T0, _, rfl, st_of upd_same, rfl, _, _, rfl, _, _, rfl, ⟨rfl, ?_⟩⟩
      rw [← rg3]
      refine mark_cat (ev_var rfl) (ev_var rfl) (fun H9 e9 Q9 q9 => ⟨_, rfl, _, _, _, _, _, rfl, (hX10.ex e9).reg, T.cl_Registry, T.n_own_chains, rfl, _, rfl, _, _, rfl, ((hX10.ex e9).gch k1).1, q9 _ (Ex.refl _)⟩) hX10 hs1 g2' k2 (by omega) fun x4 H9 hX11 s11 b11 c11 g11 r11 => ?_
      have s11 := (RStp.ex eT).trans s11
      refine ⟨x4, _, _, by rw [rg3]; rfl, hX11, st9.trans s11, g11.trans g9, r11.trans r9, by rw [b11, b9]; rfl, s11.s.fr _ _ l9 (hX9.nlst l9), s11.s.fr _ _ F9 (hX9.nfrz F9), ?_⟩
      rw [c11, c9, tk, downs_snoc]
    · obtain ⟨x3, y7, y8, rfl, hX9, st9, g9, r9, b9, l9, F9, c9⟩ := pr
      rw [length_dS] at b9 c9
      rw [List.take_length] at c9
      have nF9 := hX9.nfrz F9
      have hX10 : RegAt K x3 (upd H' F (.dK (dS V.str fo))) := ⟨hX9.toRegO.off nF9 (fun xs z => by rw [F9] at z; cases z), hX9.ok⟩
      have st10 : RStp K x H x3 (upd H' F (.dK (dS V.str fo))) := st9.off oF
      have l10 : upd H' F (.dK (dS V.str fo)) L = some (.lst (fnd.map .str)) := by
        rw [upd_ne nLF]
        exact l9
      refine ⟨F9, _, rfl, F, _, rfl, Or.inl upd_same, fun C3 hC3 => ?_⟩
      have eC3 := Ex.new (o := HO.lst ((dS V.str fo).map fun kv => kV kv.1)) hC3
      have l11 := eC3 _ _ l10
      have hX11 := hX10.ex eC3
      have st11 := st10.trans (RStp.ex eC3)
      have c11 : upd (upd H' F (.dK (dS V.str fo))) C3 (.lst ((dS V.str fo).map fun kv => kV kv.1)) C3 = some (.lst ((fo.map (·.1)).map .str)) := by
        rw [upd_same, kVs_dS]
      have nLC : L ≠ C3 := fun z => by
        rw [← z, l10] at hC3
        cases hC3
      generalize upd (upd H' F (.dK (dS V.str fo))) C3 (.lst ((dS V.str fo).map fun kv => kV kv.1)) = H11 at l11 hX11 st11 c11 ⊢
      walk_at "nrm"
      refine ⟨_, rfl, Or.inl ⟨rfl, _, sq_of l11⟩, _, rfl, L, C3, _, _, rfl, rfl, l11, c11, ?_, ?_⟩
      · rw [List.length_map, List.length_map, List.length_map]
        exact sz_of (n := fnd.length + fo.length) (by omega)
      · have nL := hX11.nlst l11
        have e12 : fnd.map V.str ++ (fo.map (·.1)).map V.str = (fnd ++ fo.map (·.1)).map V.str := (List.map_append ..).symm
        rw [e12]
        refine ⟨x3, C3, fo.map (·.1), fnd ++ fo.map (·.1), _, _, _, by rw [rg]; rfl, ⟨hX11.toRegO.off nL (fun xs z => by rw [l11] at z; cases z), hX11.ok⟩, st11.off oL, g9, r9, ?_, upd_same, ?_, ?_, ?_, ?_, ?_, ?_⟩
        · rw [b9, eB, List.length_append, List.length_map]
          omega
        · rw [upd_ne (fun z => nLC z.symm)]
          exact c11
        · intro y hy
          rcases List.mem_append.mp hy with z | z
          · exact hf y z
          · exact (hks y z).1
        · intro y hy
          refine ⟨(hks y hy).1, ?_⟩
          rw [c9, downs_st]
          exact if_pos hy
        · rw [c9]
          exact hrd
        · rw [c9]
          cases fo with
          | nil => exact Or.inl rfl
          | cons p fo =>
            rw [List.length_cons] at hlv2
            exact Or.inr (by omega)
        · rw [c9, List.length_append, List.length_map]
          omega
  · have hcn : cur = [] := by
      cases cur with
      | nil => rfl
      | cons c cs => cases hb
    rw [hcn, rounds_nil] at hrd
    have hX6 := hX.ex e6
    have st6 := st.trans (RStp.ex e6)
    have nx2 : x2.sn = x.sn := st.n
    have rg : x2.ρ .reg = x.ρ .reg := st.r
    rw [← rg]
    refine ⟨_, rfl, _, _, _, rfl, hX6.reg, rfl, _, rfl, (x2, L, fnd), rfl, hX6, sq_of (e6 _ _ f1), fun x3 H7 hX7 s7 b7 c7 g7 r7 => ?_⟩
    dsimp only at b7 c7 g7 r7
    have f7 := s7.s.fr _ _ (e6 _ _ f1) (hX6.nlst (e6 _ _ f1))
    have st7 := st6.trans s7
    have hc0 : x3.c = failC (x.sn.length + 2) x.c m cause := by
      rw [c7]
      unfold failC
      rw [← hrd]
    have hfd : (failedC (x.sn.length + 2) x.c m cause).2 = fnd := by rw [← hrd]
    rw [← hc0, hfd] at k
    refine q_forLn (ev_var rfl) (sq_of f7) (fun i σ' H' => ∃ x4 y, σ' = [some (.ref (x2.ρ .reg)), some (.str m), some (vO cause), some (.ref t), some (.ref L), some (.ref C2), y6, y7, y8, y] ∧ RegAt K x4 H' ∧ RStp K x H x4 H' ∧ x4.c = x3.c ∧ x4.g = failG x3.c.held x.g (fnd.take i) ∧ x4.r = x.r ∧ x4.B = x.B + fnd.length ∧ H' L = some (.lst (fnd.map .str)))
      (fun H8 e8 => ⟨x3, _, rfl, hX7.ex e8, st7.trans (RStp.ex e8), rfl, g7.trans eg, r7.trans er, b7.trans eB, e8 _ _ f7⟩) (fun i σ' H' _ ⟨_, _, p⟩ => sq_of p.2.2.2.2.2.2.2) (fun i v σ' H' hi pr => ?_) (fun σ' H' pr => ?_)
    · obtain ⟨x4, y, rfl, hX8, st8, c8, g8, r8, b8, l8⟩ := pr
      obtain ⟨n, hn, rfl⟩ := at_map hi
      have tk : fnd.take (i + 1) = fnd.take i ++ [n] := by
        rw [List.take_add_one, hn]
        rfl
      have hns : n ∈ x4.sn := by rw [st8.n]; exact hf n (List.mem_of_getElem? hn)
      have rg4 : x4.ρ .reg = x2.ρ .reg := st8.r.trans rg.symm
      have l2 := (gin_len hX8.ok.gin hX8.ok.gok).2.1 n
      have l1 := (gin_len hX8.ok.gin hX8.ok.gok).1
      have ln := hX8.ok.len
      rw [tk, failG_snoc]
      rw [← rg4]
      refine ⟨_, rfl, _, rfl, _, _, _, _, _, rfl, hX8.reg, T.cl_Registry, T.n_own_held, rfl, _, _, rfl, hX8.hhe, _, rfl, ?_⟩
      rw [c8]
      by_cases m1 : n ∈ x3.c.held
      · rw [if_pos m1, if_pos m1]
        exact it_f (by rfl) ⟨x4, _, rfl, hX8, st8, c8, g8, r8, b8, l8⟩
      · rw [if_neg m1, if_neg m1]
        refine it_t (by rfl) ⟨_, rfl, _, _, _, _, _, rfl, hX8.reg, T.cl_Registry, T.n_own_needs, rfl, _, _, _, rfl, (hX8.needs false).pi, rfl, _, rfl, ((_, x4.g), n), rfl, hX8.needs false, hX8.ok.gok, by show (tg x4.g n).length < 64; omega, by show x4.g.length < 1000; omega, fun ν' H9 v n1 n2 n3 => ?_⟩
        obtain ⟨d1, d2⟩ := hX8.setG false n1 n2 n3
        exact ⟨x4.setG false ν' _, _, rfl, ⟨d1, hX8.ok.graphs (hX8.ok.gok.delAllG n) (GIn.delAllG hX8.ok.gin hns) hX8.ok.rok hX8.ok.rin⟩, st8.trans d2, c8, by show delAllG x4.g n = _; rw [g8], r8, b8, d2.s.fr _ _ l8 (hX8.nlst l8)⟩
    · obtain ⟨x4, y, rfl, hX8, st8, c8, g8, r8, b8, l8⟩ := pr
      rw [List.length_map, List.take_length] at g8
      have hfn : fnd.length ≤ x.sn.length := by omega
      refine ⟨_, rfl, L, fnd, rfl, sq_of l8, by omega, fun ys p hpm hs hp => ?_⟩
      rw [srtS_rule hpm hs]
      have eP := Ex.new (o := HO.lst ((srtS fnd).map V.str)) hp
      have hX9 := hX8.ex eP
      have st9 := st8.trans (RStp.ex eP)
      exact k { x4 with B := x.B + 50 } _ p ⟨⟨hX9.is, hX9.tup⟩, hX9.ok.mono (by show x4.B ≤ x.B + 50; omega)⟩ ⟨st9.s, st9.r, st9.n⟩ rfl c8 g8 r8 upd_same
theorem ok_R_fail0 (T : Txt K mg) : Okd P w K mg base 3 (aM K "Registry" "fail") ["self", "module", "because"] (sp_R_fail K) [.non] := by
  obtain ⟨fd, F, G⟩ := ok_R_fail (P := P) (w := w) (base := base) T
  obtain ⟨ds, h1, h2⟩ := F.binds0 (ps := ["self", "module", "because"]) 2 (by simp) rfl (fun D doc pm an cdv ct us ks h1 h2 => match us, ks, h1, h2 with
    | [_, _], [_], _, _ => ⟨_, _, _, _, _, _, rfl, rfl, rfl⟩)
  exact ⟨fd, ds, G, h2, h1⟩
theorem ok_R_failK (T : Txt K mg) : OkdK P w K mg base 3 (aM K "Registry" "fail") ["self", "module", "because"] 2 ["because"] (sp_R_fail K) := by
  obtain ⟨fd, F, G⟩ := ok_R_fail (P := P) (w := w) (base := base) T
  exact OkdK.mk F G fun kV doc pm an cdv ct us ws h1 h2 => match us, ws, h1, h2 with
    | [_, _], [_], _, _ => rfl
end
end CR
set_option maxRecDepth 100000
set_option maxHeartbeats 4000000
/-! Cycleready: the registry's endings, its unloading, its making. -/
namespace CR
open PySem PySem.Spec PyProof.Rows L2 Evl
local macro_rules | `(tactic| walk_at "red") => `(tactic| dsimp only [tNext, tSeq, tRet, tRetN, tDrop, tIfS, tAsg, tPar, tTest, tB, tNot, tAnd, tOr, tCB, tCons, tNil, tCall, tOp, tUn, tVar, tC, tIf])
local macro_rules | `(tactic| walk_at "nrm") => `(tactic| dsimp only [gName, tNext])
section
variable {P : Program} {w : World} {K : PySem.W.Frag} {mg : Str → Option Value} {base : Heap}
/-- a comprehension over a list of texts: which stay -/
theorem lcS {σ : L2.St} {H : Hp} {Q : VK} {wi : TI} {tt : TT} {te : TE} {j : Nat} {vs : List Nat} (l : List Str) (P : Str → Bool) (hl : l.length < 100000)
    (hwi : ∀ R : It → Hp → Prop, (∀ p H', Ex H H' → H' p = some (.lst (l.map .str)) → R (Itl K p) H') → wi σ H R)
    (hw : ∀ v, wipe ((wipe σ vs).set j v) vs = wipe σ vs)
    (ht : ∀ n ∈ l, ∀ H', Ex H H' → EvT tt ((wipe σ vs).set j (some (.str n))) H' (P n))
    (he : ∀ n ∈ l, ∀ H', Ex H H' → Ev te ((wipe σ vs).set j (some (.str n))) H' (.str n))
    (hQ : ∀ p H', H p = none → Ex H H' → H' p = some (.lst ((l.filter P).map .str)) → Q (.ref p) H') : tLc wi (gName j) tt te vs σ H Q := by
  refine lcWi (ι := {z : Addr × Hp // Ex H z.2 ∧ z.2 z.1 = some (.lst (l.map .str))}) (J := fun z => Itl K z.1.1) (H1 := fun z => z.1.2) (n := fun _ => (l.map V.str).length) (fun _ i => (l[i]?.map P).getD false) (fun _ i => (l[i]?.map V.str).getD .non)
    (fun R r => hwi R fun p H' e h => r ⟨(p, H'), e, h⟩) (fun z => walk_list) (fun z => by rw [List.length_map]; exact hl) (fun z H' e => sq_of (e _ _ z.2.2)) (fun z i x H1 H2 hi e1 y => ?_) (fun z p H' hp e h => ?_)
  · obtain ⟨⟨p, H'⟩, e, h⟩ := z
    obtain ⟨rfl, hx⟩ := y
    obtain ⟨b, hb1, rfl⟩ := at_map hx
    have hb := List.mem_of_getElem? hb1
    refine ⟨_, Ex.refl _, fun Q q => q, hw _, ?_, fun _ => ?_⟩
    · show EvT _ _ _ ((l[i]?.map P).getD false)
      rw [hb1]
      exact ht b hb _ (e.trans e1)
    · show Ev _ _ _ ((l[i]?.map V.str).getD .non)
      rw [hb1]
      exact he b hb _ (e.trans e1)
  · obtain ⟨⟨p', H''⟩, e', h'⟩ := z
    refine hQ p H' (fresh_back e' hp) (e'.trans e) (h.trans ?_)
    rw [List.length_map, given_filter l P V.str _ _ (fun i x hx => ⟨by show (l[i]?.map P).getD false = _; rw [hx]; rfl, by show (l[i]?.map V.str).getD _ = _; rw [hx]; rfl⟩)]
def sp_R_finish (K : PySem.W.Frag) : Sp := Pm (fun x : RX × Str => [.ref (x.1.ρ .reg), .str x.2]) fun x H Q => RegAt K x.1 H ∧ x.2 ∈ x.1.sn ∧ x.1.c.st x.2 = "running" ∧
  ∀ x' H' p, RegAt K x' H' → RStp K x.1 H x' H' → x'.B = x.1.B → x'.c = finC x.1.sn x.1.c (Eg x.1.g) x.2 → x'.g = x.1.g → x'.r = x.1.r → H' p = some (.lst ((finL x.1.sn x.1.c (Eg x.1.g) x.2).map .str)) → Q (.ref p) H'
theorem sp_R_finish_len (K : PySem.W.Frag) : ∀ vs H Q E, sp_R_finish K vs H Q E → vs.length = 2 := Pm.len fun _ => rfl
abbrev s_R_finish : Stmt := (inClass (top 29) 25)
theorem sc_R_finish : FnScope ["self", "module", "found", "name"] ["self", "module"] (defScope s_R_finish) := ⟨rfl, rfl, rfl, by decide +kernel, rfl, by decide +kernel, by decide +kernel⟩
theorem ok_R_finish (T : Txt K mg) : Okd P w K mg base 5 (aM K "Registry" "finish") ["self", "module"] (sp_R_finish K) := by
  obtain ⟨fd, F⟩ := T.f_R_finish
  refine Okd.mk F sc_R_finish (sp_R_finish_len K) (fun _ _ _ _ _ _ us hl => match us, hl with | [_, _], _ => rfl) (fun cdv A outer s H vs Q E hr h => ?_)
  have hu := hu_of hr
  refine ⟨_, (pss_cons (ps_expr (pe_methO (pv 0) T.cl_Registry T.m_Registry_want_state (ok_R_want_state (K := K) T) (hr.mono (by decide)) (pa_cons (pv 1) (pa_cons (pe_gstr rfl T.c_RUNNING) pa_nil))))
    (pss_cons (ps_dput hu (pe_fldK (K := K) rfl (pv 0) rfl) (pv 1) (pe_gstr rfl T.c_DONE) rfl)
    (pss_cons (ps_setLc (own := [("name", 3)]) (i := 2) rfl sc_R_finish.nd rfl rfl (sw_true rfl rfl rfl (by decide +kernel)) (pi_listK (K := K) rfl (pe_methO (pv 0) T.cl_Registry T.m_Registry_in_state (ok_R_in_state (K := K) T) (hr.mono (by decide)) (pa_cons (pe_gstr rfl T.c_DONE) pa_nil))) (blkOk_by (own := [("name", 3)]) (N := ["self", "module", "found", "name"]) (sc := defScope s_R_finish) (by decide +kernel)) (fun _ _ _ _ _ => (pg_name (i := 3) sc_R_finish.nd rfl (Or.inl rfl) (Or.inr rfl))) (fun _ _ _ _ _ => (pts_one (pt_val (pe_methO (pv 0) T.cl_Registry T.m_Registry_is_complete (ok_R_is_complete (K := K) T) (hr.mono (by decide)) (pa_cons (pv 3) pa_nil))))) (fun _ _ _ _ _ => (pv 3)))
    (pss_cons (ps_for PassesOwn.never rfl (pi_listK (K := K) rfl (pv 2)) (pg_name (i := 3) sc_R_finish.nd rfl (Or.inl rfl) (Or.inl rfl))
    (pss_one (ps_dput hu (pe_fldK (K := K) rfl (pv 0) rfl) (pv 3) (pe_gstr rfl T.c_READY) rfl)))
    (pss_cons (ps_expr (pe_methO (pv 0) T.cl_Registry T.m_Registry_forget_early (ok_R_forget_early (K := K) T) (hr.mono (by decide)) (pa_cons (pv 2) pa_nil)))
    (pss_one (ps_ret (pv 2)))))))), ?_⟩
  obtain ⟨⟨x, m⟩, rfl, hR, hm, hst, k⟩ := h
  dsimp only at hR hm hst k
  have hnl := hR.ok.len
  refine ⟨_, rfl, _, _, _, rfl, hR.reg, rfl, _, rfl, (x, m, "running"), rfl, hR, hm, hst, fun H1 e1 => ?_⟩
  have hR1 := hR.ex e1
  obtain ⟨a1, a2⟩ := hR1.setSt hm "done"
  have nm : m ∉ x.c.held := hR.ok.nheld (by rw [hst]; decide)
  refine ⟨_, rfl, _, _, _, _, _, rfl, hR1.reg, T.cl_Registry, T.n_own_states, rfl, _, rfl, _, _, rfl, Or.inl ⟨_, Sum.inr m, hR1.sts, rfl, by rw [stsD_len]; exact sz_lt (by omega), rfl⟩, ?_⟩
  have hX : RegAt K (x.setSt m "done") (upd H1 (x.ρ .sts) (.dK (putK (stsD x.sn x.c.st) (Sum.inr m) (.str "done")))) := ⟨a1, hR.ok.st (by decide) nm⟩
  have st1 := (RStp.ex e1).trans a2
  generalize upd H1 (x.ρ .sts) (.dK (putK (stsD x.sn x.c.st) (Sum.inr m) (.str "done"))) = H2 at hX st1 ⊢
  have efl : (inC x.sn (x.setSt m "done").c "done").filter (fun n => complB (x.setSt m "done").c.st (Eg x.g) n) = finL x.sn x.c (Eg x.g) m := by
    unfold inC finL
    rw [List.filter_filter]
    refine congrArg (fun f => List.filter f x.sn) (funext fun n => ?_)
    exact Bool.and_comm _ _
  have hfl : ∀ n ∈ finL x.sn x.c (Eg x.g) m, n ∈ x.sn ∧ upd1 x.c.st m "done" n = "done" := fun n hn => by
    obtain ⟨h1, h2⟩ := List.mem_filter.mp hn
    rw [Bool.and_eq_true, decide_eq_true_eq] at h2
    exact ⟨h1, h2.1⟩
  have hfn : (finL x.sn x.c (Eg x.g) m).length ≤ x.sn.length := List.length_filter_le _ _
  walk_at "red"
  refine lcS (inC x.sn (x.setSt m "done").c "done") (fun n => complB (x.setSt m "done").c.st (Eg x.g) n) (by have := List.length_filter_le (fun n => decide ((x.setSt m "done").c.st n = "done")) x.sn; show (inC x.sn _ _).length < _; unfold inC; omega)
    (fun R r => ⟨_, rfl, _, _, _, rfl, hX.reg, rfl, (x.setSt m "done", .str "done"), rfl, hX, Or.inl ⟨"done", rfl, by decide, fun p H' hp e hl => ⟨p, rfl, ⟨_, sq_of hl⟩, r p H' e hl⟩⟩⟩)
    (fun v => rfl) (fun n hn H' e => fun H3 e3 Q q => ?_) (fun n hn H' e => ev_var rfl) (fun p H3 hp e3 h3 => ?_)
  · have hX3 := hX.ex (e.trans e3)
    exact ⟨_, rfl, _, _, _, rfl, hX3.reg, rfl, _, rfl, (x.setSt m "done", n), rfl, hX3, (List.mem_filter.mp hn).1, fun H4 e4 => ⟨_, rfl, q H4 e4⟩⟩
  rw [efl] at h3
  have hX3 := hX.ex e3
  have st3 := st1.trans (RStp.ex e3)
  walk_at "nrm"
  refine q_forLn (ev_var rfl) (sq_of h3) (fun i σ' H' => ∃ x2 y, σ' = [some (.ref (x.ρ .reg)), some (.str m), some (.ref p), y] ∧ RegAt K x2 H' ∧ RStp K x H x2 H' ∧ x2.c = { x.c with st := updAll (upd1 x.c.st m "done") ((finL x.sn x.c (Eg x.g) m).take i) "ready" } ∧ x2.g = x.g ∧ x2.r = x.r ∧ x2.B = x.B ∧ H' p = some (.lst ((finL x.sn x.c (Eg x.g) m).map .str)))
    (fun H4 e4 => ⟨x.setSt m "done", _, rfl, hX3.ex e4, st3.trans (RStp.ex e4), by rw [List.take_zero, updAll_nil]; rfl, rfl, rfl, rfl, e4 _ _ h3⟩) (fun i σ' H' _ ⟨_, _, p⟩ => sq_of p.2.2.2.2.2.2.2) (fun i v σ' H' hi pr => ?_) (fun σ' H' pr => ?_)
  · obtain ⟨x2, y, rfl, hX4, st4, c4, g4, r4, b4, l4⟩ := pr
    obtain ⟨n, hn, rfl⟩ := at_map hi
    generalize finL x.sn x.c (Eg x.g) m = fl at hfl hfn h3 hn l4 c4 ⊢
    have tk : fl.take (i + 1) = fl.take i ++ [n] := by
      rw [List.take_add_one, hn]
      rfl
    obtain ⟨n1, n2⟩ := hfl n (List.mem_of_getElem? hn)
    have hns : n ∈ x2.sn := by rw [st4.n]; exact n1
    have nh : n ∉ x2.c.held := by
      rw [c4]
      intro z
      have := hX.ok.hst n z
      rw [show (x.setSt m "done").c.st n = "done" from n2] at this
      exact absurd this (by decide)
    rw [← show x2.ρ .reg = x.ρ .reg from st4.r]
    obtain ⟨b1, b2⟩ := hX4.setSt hns "ready"
    refine ⟨_, rfl, _, _, _, _, _, rfl, hX4.reg, T.cl_Registry, T.n_own_states, rfl, _, rfl, _, _, rfl, Or.inl ⟨_, Sum.inr n, hX4.sts, rfl, by rw [stsD_len, st4.n]; exact sz_lt (by omega), rfl⟩, x2.setSt n "ready", _, rfl, ⟨b1, hX4.ok.st (by decide) nh⟩, st4.trans b2, ?_, g4, r4, b4, b2.s.fr _ _ l4 (hX4.nlst l4)⟩
    rw [tk, ← updAll_snoc]
    show ({ x2.c with st := upd1 x2.c.st n "ready" } : Core) = _
    rw [c4]
  · obtain ⟨x2, y, rfl, hX4, st4, c4, g4, r4, b4, l4⟩ := pr
    rw [List.length_map, List.take_length] at c4
    rw [← show x2.ρ .reg = x.ρ .reg from st4.r]
    refine ⟨_, rfl, _, _, _, rfl, hX4.reg, rfl, _, rfl, (x2, p, finL x.sn x.c (Eg x.g) m), rfl, hX4, sq_of l4, fun x3 H5 hX5 st5 b5 c5 g5 r5 => ⟨_, rfl, k x3 H5 p hX5 (st4.trans st5) (b5.trans b4) ?_ (g5.trans g4) (r5.trans r4) (st5.s.fr _ _ l4 (hX4.nlst l4))⟩⟩
    rw [c5]
    show forgC x2.c _ = _
    rw [c4]
    rfl

def sp_R_unload (K : PySem.W.Frag) : Sp := Pm (fun x : RX × Addr × List Str => [.ref (x.1.ρ .reg), .ref x.2.1]) fun x H Q => RegAt K x.1 H ∧ H x.2.1 = some (.lst (x.2.2.map .str)) ∧ (∀ y ∈ x.2.2, y ∈ x.1.sn) ∧ x.2.2.length ≤ 40 ∧
  ∀ x' H' p, RegAt K x' H' → RStp K x.1 H x' H' → x'.B = x.1.B → x'.c = unlC x.1.sn x.1.c (Eg x.1.g) x.2.2 → x'.g = (unlL x.1.sn x.1.c (Eg x.1.g) x.2.2).foldl delAllG x.1.g → x'.r = x.1.r →
    H' p = some (.lst ((unlL x.1.sn x.1.c (Eg x.1.g) x.2.2).map .str)) → Q (.ref p) H'
theorem sp_R_unload_len (K : PySem.W.Frag) : ∀ vs H Q E, sp_R_unload K vs H Q E → vs.length = 2 := Pm.len fun _ => rfl
abbrev s_R_unload : Stmt := (inClass (top 29) 34)
theorem sc_R_unload : FnScope ["self", "kept", "roots", "staying", "found", "name", "root"] ["self", "kept"] (defScope s_R_unload) := ⟨rfl, rfl, rfl, by decide +kernel, rfl, by decide +kernel, by decide +kernel⟩
theorem ok_R_unload (T : Txt K mg) : ∃ fd : FuncData, FunD K "unload" "Registry.unload" (defArgs s_R_unload) (defBody s_R_unload) (defScope s_R_unload) [] [] (aM K "Registry" "unload") fd ∧ FnOk P w K mg base CX0 4 (aM K "Registry" "unload") fd ["self", "kept"] (sp_R_unload K) := by
  obtain ⟨fd, F⟩ := T.f_R_unload
  refine ⟨fd, F, fn_mk F sc_R_unload (sp_R_unload_len K) (fun cdv A outer s H vs Q E hr h => ?_)⟩
  have hu := hu_of hr
  refine ⟨_, (pss_cons (ps_if (pt_not (pt_val (pe_callB (call_isiTK (K := K) rfl) (by rfl) T.b_isinstance (by decide +kernel) (pa_cons (pv 1) (pa_cons (pe_tup (pa_cons (pe_bltn rfl T.b_list (by decide +kernel) (v := .ty "list") rfl) (pa_cons (pe_bltn rfl T.b_tuple (by decide +kernel) (v := .ty "tuple") rfl) pa_nil))) pa_nil))))) (pss_one ps_never) pss_nil)
    (pss_cons (ps_if (pt_not (pt_val (pe_callB (cr_allK (K := K) rfl rfl) (by rfl) T.b_all (by decide +kernel) (pa_cons (pe_lc (own := [("name", 5)]) rfl sc_R_unload.nd (pi_listK (K := K) rfl (pv 1)) (blkOk_by (own := [("name", 5)]) (N := ["self", "kept", "roots", "staying", "found", "name", "root"]) (sc := defScope s_R_unload) (by decide +kernel)) (fun _ _ _ _ _ => (pg_name (i := 5) sc_R_unload.nd rfl (Or.inl rfl) (Or.inr rfl))) (fun _ _ _ _ _ => pts_nil) (fun _ _ _ _ _ => (pe_and (pe_callB (call_isiK (K := K) rfl) (by rfl) T.b_isinstance (by decide +kernel) (pa_cons (pv 5) (pa_cons (pe_bltn rfl T.b_str (by decide +kernel) (v := .ty "str") rfl) pa_nil))) (pe_one (pe_cmp (pc_din hu (pv 5) (pe_fldK (K := K) rfl (pv 0) rfl))))))) pa_nil)))) (pss_one ps_never) pss_nil)
    (pss_cons (ps_set (i := 2) sc_R_unload.nd rfl (Or.inl rfl) (pe_op op_cat (pe_op op_cat (pe_op op_cat (pe_callTy (call_list_ofK (K := K) rfl) (by rfl) T.b_list (by decide +kernel) (pa_cons (pv 1) pa_nil)) (pe_methO (pv 0) T.cl_Registry T.m_Registry_in_state (ok_R_in_state (K := K) T) (hr.mono (by decide)) (pa_cons (pe_gstr rfl T.c_RUNNING) pa_nil))) (pe_methO (pv 0) T.cl_Registry T.m_Registry_in_state (ok_R_in_state (K := K) T) (hr.mono (by decide)) (pa_cons (pe_gstr rfl T.c_DONE) pa_nil))) (pe_methO (pv 0) T.cl_Registry T.m_Registry_in_state (ok_R_in_state (K := K) T) (hr.mono (by decide)) (pa_cons (pe_gstr rfl T.c_FAILED) pa_nil))))
    (pss_cons (ps_set (i := 3) sc_R_unload.nd rfl (Or.inr rfl) (pe_dc2 hu (own := [("root", 6), ("name", 5)]) (vs1 := [5]) rfl sc_R_unload.nd (pi_listK (K := K) rfl (pv 2)) (blkOk_by (own := [("root", 6), ("name", 5)]) (N := ["self", "kept", "roots", "staying", "found", "name", "root"]) (sc := defScope s_R_unload) (by decide +kernel)) (by decide) (fun _ _ _ _ _ => (pg_name (i := 6) sc_R_unload.nd rfl (Or.inl rfl) (Or.inr rfl))) (fun _ _ _ _ _ => pts_nil) (fun _ _ _ _ _ => (pi_listK (K := K) rfl (pe_methO (pe_fldK (K := K) rfl (pv 0) rfl) T.cl_Needs T.m_Needs_closure (ok_N_closure (K := K) T) (hr.mono (by decide)) (pa_cons (pv 6) pa_nil)))) (fun _ _ _ _ _ => (pg_name (i := 5) sc_R_unload.nd rfl (Or.inl rfl) (Or.inr rfl))) (fun _ _ _ _ _ => pts_nil) (fun _ _ _ _ _ => (pv 5)) (fun _ _ _ _ _ => pe_bl)))
    (pss_cons (ps_setLc (own := [("name", 5)]) (i := 4) rfl sc_R_unload.nd rfl rfl (sw_true rfl rfl rfl (by decide +kernel)) (pi_listK (K := K) rfl (pe_methO (pv 0) T.cl_Registry T.m_Registry_in_state (ok_R_in_state (K := K) T) (hr.mono (by decide)) (pa_cons (pe_gstr rfl T.c_READY) pa_nil))) (blkOk_by (own := [("name", 5)]) (N := ["self", "kept", "roots", "staying", "found", "name", "root"]) (sc := defScope s_R_unload) (by decide +kernel)) (fun _ _ _ _ _ => (pg_name (i := 5) sc_R_unload.nd rfl (Or.inl rfl) (Or.inr rfl))) (fun _ _ _ _ _ => (pts_one (pt_cmp (pc_dnotin hu (pv 5) (pv 3))))) (fun _ _ _ _ _ => (pv 5)))
    (pss_cons (ps_for PassesOwn.never rfl (pi_listK (K := K) rfl (pv 4)) (pg_name (i := 5) sc_R_unload.nd rfl (Or.inl rfl) (Or.inl rfl))
    (pss_cons (ps_dput hu (pe_fldK (K := K) rfl (pv 0) rfl) (pv 5) (pe_gstr rfl T.c_NEW) rfl)
    (pss_cons (ps_dput hu (pe_fldK (K := K) rfl (pv 0) rfl) (pv 5) pe_dnewK rfl)
    (pss_one (ps_expr (pe_methO (pe_fldK (K := K) rfl (pv 0) rfl) T.cl_Needs T.m_Needs_delete_all (ok_N_delete_all (K := K) T) (hr.mono (by decide)) (pa_cons (pv 5) pa_nil)))))))
    (pss_one (ps_ret (pv 4))))))))), ?_⟩
  obtain ⟨⟨x, a, ks0⟩, rfl, hR, ha, hks, hkl, k⟩ := h
  dsimp only at hR ha hks hkl k
  have hnl := hR.ok.len
  -- isinstance(kept, (list, tuple))
  refine ⟨_, rfl, sz_of (n := 2) (by decide), fun q1 hq1 => ⟨_, q1, _, _, _, true, rfl, upd_same, .cons (.ty _) (.cons (.ty _) .nil), .base (.lst ((Ex.new hq1) _ _ ha)), rfl, true, rfl, ?_⟩⟩
  refine it_f (by rfl) ?_
  have e1 := Ex.new (o := HO.tup [V.ty "list", V.ty "tuple"]) hq1
  have ha1 := e1 _ _ ha
  generalize upd H q1 (.tup [V.ty "list", V.ty "tuple"]) = H1 at e1 ha1 ⊢
  have hR1 := hR.ex e1
  -- all names
  walk_at "red"
  refine lcW (J := Itl K a) (H1 := H1) (fun R r => ⟨_, rfl, a, rfl, ⟨_, sq_of ha1⟩, r⟩) walk_list (by rw [List.length_map]; omega) (fun H2 e => sq_of (e _ _ ha1)) (fun _ => true) (fun _ => .bl true) (fun i v H2 H3 hi e2 y => ?_) (fun p H2 hp e2 h2 => ?_)
  · obtain ⟨rfl, hx⟩ := y
    obtain ⟨b, hb1, rfl⟩ := at_map hx
    have hb := hks b (List.mem_of_getElem? hb1)
    refine ⟨_, Ex.refl _, fun Q q => q, rfl, fun H1 e Q q => q H1 (Ex.refl _), fun _ H4 e4 Q q => ?_⟩
    have hR4 := hR1.ex (e2.trans e4)
    exact ⟨_, rfl, _, _, _, _, _, rfl, .ty _, .base (.str b), kit_str, true, rfl, it_t (by rfl) ⟨_, rfl, _, rfl, _, _, _, _, _, rfl, hR4.reg, T.cl_Registry, T.n_own_states, rfl, _, _, rfl, hR4.gst hb, q _ (Ex.refl _)⟩⟩
  refine ⟨p, List.replicate (ks0.map V.str).length true, rfl, sq_of (h2.trans ?_), ?_⟩
  · congr 2
    unfold given
    rw [List.filter_eq_self.mpr fun _ _ => rfl, List.map_const', List.map_replicate, List.length_range]
  rw [show (List.replicate (ks0.map V.str).length true).all id = true by simp]
  refine ⟨true, rfl, it_f (by rfl) ?_⟩
  have e2 := e1.trans e2
  have hR2 := hR.ex e2
  have ha2 := (show Ex H1 H2 by assumption) _ _ ha1
  have hz : x.sn.length ≤ 50 := Nat.le_trans hnl (by decide)
  have li : ∀ st, (inC x.sn x.c st).length ≤ x.sn.length := fun st => List.length_filter_le _ _
  -- the roots
  refine ⟨_, rfl, a, _, rfl, Or.inl (sq_of ha2), fun l1 hl1 => ?_⟩
  have f1 : upd H2 l1 (.lst (ks0.map V.str)) l1 = some (.lst (ks0.map V.str)) := upd_same
  have e3 := e2.trans (Ex.new (o := HO.lst (ks0.map V.str)) hl1)
  generalize upd H2 l1 (.lst (ks0.map V.str)) = H3 at f1 e3 ⊢
  refine ⟨_, rfl, _, _, _, rfl, (hR.ex e3).reg, rfl, (x, .str "running"), rfl, hR.ex e3, Or.inl ⟨"running", rfl, by decide, fun p1 H4 hp1 e4 g1 => ⟨l1, p1, _, _, rfl, rfl, e4 _ _ f1, g1, ?_, fun l2 hl2 => ?_⟩⟩⟩
  · rw [List.length_map, List.length_map]
    have := li "running"
    exact sz_of (n := ks0.length + (inC x.sn x.c "running").length) (by omega)
  rw [← List.map_append]
  generalize hr2 : ks0 ++ inC x.sn x.c "running" = r2
  have lr2 : r2.length ≤ 80 := by
    rw [← hr2, List.length_append]
    have := li "running"
    omega
  have f2 : upd H4 l2 (.lst (r2.map V.str)) l2 = some (.lst (r2.map V.str)) := upd_same
  have e5 := (e3.trans e4).trans (Ex.new (o := HO.lst (r2.map V.str)) hl2)
  generalize upd H4 l2 (.lst (r2.map V.str)) = H5 at f2 e5 ⊢
  refine ⟨_, rfl, _, _, _, rfl, (hR.ex e5).reg, rfl, (x, .str "done"), rfl, hR.ex e5, Or.inl ⟨"done", rfl, by decide, fun p3 H6 hp3 e6 g3 => ⟨l2, p3, _, _, rfl, rfl, e6 _ _ f2, g3, ?_, fun l3 hl3 => ?_⟩⟩⟩
  · rw [List.length_map, List.length_map]
    have := li "done"
    exact sz_of (n := r2.length + (inC x.sn x.c "done").length) (by omega)
  rw [← List.map_append]
  generalize hr3 : r2 ++ inC x.sn x.c "done" = r3
  have lr3 : r3.length ≤ 120 := by
    rw [← hr3, List.length_append]
    have := li "done"
    omega
  have f3 : upd H6 l3 (.lst (r3.map V.str)) l3 = some (.lst (r3.map V.str)) := upd_same
  have e7 := (e5.trans e6).trans (Ex.new (o := HO.lst (r3.map V.str)) hl3)
  generalize upd H6 l3 (.lst (r3.map V.str)) = H7 at f3 e7 ⊢
  refine ⟨_, rfl, _, _, _, rfl, (hR.ex e7).reg, rfl, (x, .str "failed"), rfl, hR.ex e7, Or.inl ⟨"failed", rfl, by decide, fun p5 H8 hp5 e8 g5 => ⟨l3, p5, _, _, rfl, rfl, e8 _ _ f3, g5, ?_, fun l4 hl4 => ?_⟩⟩⟩
  · rw [List.length_map, List.length_map]
    have := li "failed"
    exact sz_of (n := r3.length + (inC x.sn x.c "failed").length) (by omega)
  rw [← List.map_append]
  have hr4 : r3 ++ inC x.sn x.c "failed" = rootsC x.sn x.c ks0 := by
    rw [← hr3, ← hr2]
    rfl
  rw [hr4]
  have hroots : ∀ y ∈ rootsC x.sn x.c ks0, y ∈ x.sn := fun y hy => by
    rw [← hr4, ← hr3, ← hr2] at hy
    rcases List.mem_append.mp hy with hy | hy
    · rcases List.mem_append.mp hy with hy | hy
      · rcases List.mem_append.mp hy with hy | hy
        · exact hks y hy
        · exact (List.mem_filter.mp hy).1
      · exact (List.mem_filter.mp hy).1
    · exact (List.mem_filter.mp hy).1
  have lr4 : (rootsC x.sn x.c ks0).length ≤ 160 := by
    rw [← hr4, List.length_append]
    have := li "failed"
    omega
  generalize hrt : rootsC x.sn x.c ks0 = rt at hroots lr4 ⊢
  have f4 : upd H8 l4 (.lst (rt.map V.str)) l4 = some (.lst (rt.map V.str)) := upd_same
  have e9 := (e7.trans e8).trans (Ex.new (o := HO.lst (rt.map V.str)) hl4)
  generalize upd H8 l4 (.lst (rt.map V.str)) = H9 at f4 e9 ⊢
  walk_at "nrm"
  -- what stays
  walk_at "red"
  refine dxP (o0 := HO.dK []) (J := Itl K l4) (H1 := H9) (fun R r => ⟨_, rfl, l4, rfl, ⟨_, sq_of f4⟩, r⟩) walk_list fun D hD =>
    ⟨fun i H' => Ex H9 H' ∧ ∃ ks, H' D = some (.dK (dU ks)) ∧ ks.Nodup ∧ (∀ y ∈ ks, y ∈ x.sn) ∧ ∀ y, y ∈ ks ↔ ∃ r ∈ rt.take i, Rch (Eg x.g) r y, ⟨Ex.new hD, [], upd_same, List.nodup_nil, fun y hy => absurd hy (by simp), fun y => by simp⟩, fun i H' _ p => sq_of (p.1 _ _ f4), fun i v H1 H2 hi p y => ?_, fun H' p => ?_⟩
  · obtain ⟨ex1, ks, dd, nd, sub, hch⟩ := p
    obtain ⟨rfl, hx⟩ := y
    obtain ⟨b, hb1, rfl⟩ := at_map hx
    have hb := hroots b (List.mem_of_getElem? hb1)
    have tk : rt.take (i + 1) = rt.take i ++ [b] := by
      rw [List.take_add_one, hb1]
      rfl
    have hR1 := hR.ex (e9.trans ex1)
    refine ⟨rfl, _, rfl, _, _, _, _, _, rfl, hR1.reg, T.cl_Registry, T.n_own_needs, rfl, _, _, _, rfl, (hR1.needs false).pi, rfl, _, rfl, ((x.nl false, x.g, x.sn), b), rfl, hR1.needs false, hR.ok.gok, hR.ok.gin, hb, hz, hR.ok.nm, fun cs nd2 hl2 hr2 pc Hc hpc ec hc => ⟨pc, rfl, ⟨_, sq_of hc⟩, ?_⟩⟩
    refine turns_it (J := Itl K pc) walk_list (fun j H' => Ex H9 H' ∧ H' pc = some (.lst ((srtS cs).map .str)) ∧ ∃ ks, H' D = some (.dK (dU ks)) ∧ ks.Nodup ∧ (∀ y ∈ ks, y ∈ x.sn) ∧ ∀ y, y ∈ ks ↔ (∃ r ∈ rt.take i, Rch (Eg x.g) r y) ∨ y ∈ (srtS cs).take j)
      ⟨ex1.trans ec, hc, ks, ec _ _ dd, nd, sub, fun y => by rw [hch]; simp⟩ (fun j H' _ p => sq_of p.2.1) (fun j v H5 H6 hj p y => ?_) (fun H' p => ?_)
    · obtain ⟨ex2, hc2, ks2, dd2, nd2, sub2, hch2⟩ := p
      obtain ⟨rfl, hx⟩ := y
      obtain ⟨d, hd1, rfl⟩ := at_map hx
      have hdm : d ∈ cs := mem_srtS.mp (List.mem_of_getElem? hd1)
      have hds : d ∈ x.sn := ((hr2 d).mp hdm).closed hb fun c d hc hd => (GIn.tg hR.ok.gin hd).2
      have tk2 : (srtS cs).take (j + 1) = (srtS cs).take j ++ [d] := by
        rw [List.take_add_one, hd1]
        rfl
      have lk2 := nd2.length_le_of_subset sub2
      refine ⟨rfl, _, rfl, _, Or.inl ⟨_, Sum.inr d, dd2, rfl, by rw [length_dU]; exact sz_lt (by omega), rfl⟩, Ex.mut ex2 hD, ?_, addT ks2 d, ?_, nodup_addT nd2, fun y hy => ?_, fun y => ?_⟩
      · rw [upd_ne (ne_of hc2 dd2 (fun z => nomatch z))]
        exact hc2
      · rw [upd_same, putK_dU]
      · rcases mem_addT.mp hy with z | z
        · exact sub2 y z
        · rw [z]
          exact hds
      · rw [mem_addT, hch2, tk2, List.mem_append, List.mem_singleton, or_assoc]
    · obtain ⟨ex2, hc2, ks2, dd2, nd3, sub2, hch2⟩ := p
      refine ⟨ex2, ks2, dd2, nd3, sub2, fun y => ?_⟩
      rw [hch2, List.length_map, List.take_length, mem_srtS, hr2, tk]
      constructor
      · rintro (⟨r, h1, h2⟩ | h)
        · exact ⟨r, List.mem_append_left _ h1, h2⟩
        · exact ⟨b, List.mem_append_right _ (List.mem_singleton.mpr rfl), h⟩
      · rintro ⟨r, h1, h2⟩
        rcases List.mem_append.mp h1 with z | z
        · exact Or.inl ⟨r, z, h2⟩
        · rw [List.mem_singleton.mp z] at h2
          exact Or.inr h2
  obtain ⟨ex1, ks, dd, nd, sub, hch⟩ := p
  rw [List.length_map, List.take_length] at hch
  have hR1 := hR.ex (e9.trans ex1)
  have efl : (inC x.sn x.c "ready").filter (fun n => decide (n ∉ ks)) = unlL x.sn x.c (Eg x.g) ks0 := by
    unfold inC unlL
    rw [List.filter_filter, hrt]
    refine congrArg (fun f => List.filter f x.sn) (funext fun n => ?_)
    rw [Bool.and_comm]
    congr 1
    rw [Bool.eq_iff_iff]
    refine ⟨fun h => @decide_eq_true _ (_) fun z => of_decide_eq_true h ((hch n).mpr z), fun h => decide_eq_true fun z => @of_decide_eq_true _ (_) h ((hch n).mp z)⟩
  have hfl : ∀ n ∈ unlL x.sn x.c (Eg x.g) ks0, n ∈ x.sn ∧ x.c.st n = "ready" := fun n hn => by
    obtain ⟨h1, h2⟩ := List.mem_filter.mp hn
    rw [Bool.and_eq_true, decide_eq_true_eq] at h2
    exact ⟨h1, h2.1⟩
  have hfn : (unlL x.sn x.c (Eg x.g) ks0).length ≤ x.sn.length := List.length_filter_le _ _
  have hun : unlC x.sn x.c (Eg x.g) ks0 = { x.c with st := updAll x.c.st (unlL x.sn x.c (Eg x.g) ks0) "new", ex := updAll x.c.ex (unlL x.sn x.c (Eg x.g) ks0) [] } := rfl
  rw [hun] at k
  generalize unlL x.sn x.c (Eg x.g) ks0 = fl at efl hfl hfn k
  walk_at "nrm"
  walk_at "red"
  refine lcS (inC x.sn x.c "ready") (fun n => decide (n ∉ ks)) (by have := li "ready"; omega)
    (fun R r => ⟨_, rfl, _, _, _, rfl, hR1.reg, rfl, (x, .str "ready"), rfl, hR1, Or.inl ⟨"ready", rfl, by decide, fun p H' hp e hl => ⟨p, rfl, ⟨_, sq_of hl⟩, r p H' e hl⟩⟩⟩)
    (fun v => rfl) (fun n hn H2' e => fun H3' e3' Q q => ?_) (fun n hn H' e => ev_var rfl) (fun pf Hf hpf ef hf => ?_)
  · refine ⟨_, rfl, _, rfl, D, _, rfl, dg_in (f := V.bl) ((e.trans e3') _ _ dd), _, rfl, ?_⟩
    rw [lookU]
    have := q H3' (Ex.refl _)
    by_cases z : n ∈ ks
    · rw [if_pos z]
      rw [decide_eq_false (fun y => y z)] at this
      exact this
    · rw [if_neg z]
      rw [decide_eq_true z] at this
      exact this
  rw [efl] at hf
  have stf : RStp K x H x Hf := RStp.ex ((e9.trans ex1).trans ef)
  have hRf := hR1.ex ef
  walk_at "nrm"
  refine q_forLn (ev_var rfl) (sq_of hf) (fun i σ' H' => ∃ x2 y, σ' = [some (.ref (x.ρ .reg)), some (.ref a), some (.ref l4), some (.ref D), some (.ref pf), y, none] ∧ RegAt K x2 H' ∧ RStp K x H x2 H' ∧ x2.c = { x.c with st := updAll x.c.st (fl.take i) "new", ex := updAll x.c.ex (fl.take i) [] } ∧ x2.g = (fl.take i).foldl delAllG x.g ∧ x2.r = x.r ∧ x2.B = x.B ∧ H' pf = some (.lst (fl.map .str)))
    (fun H4 e4 => ⟨x, _, rfl, hRf.ex e4, stf.trans (RStp.ex e4), by rw [List.take_zero, updAll_nil, updAll_nil], rfl, rfl, rfl, e4 _ _ hf⟩) (fun i σ' H' _ ⟨_, _, p⟩ => sq_of p.2.2.2.2.2.2.2) (fun i v σ' H' hi pr => ?_) (fun σ' H' pr => ?_)
  · obtain ⟨x2, y, rfl, hX4, st4, c4, g4, r4, b4, l4'⟩ := pr
    obtain ⟨n, hn, rfl⟩ := at_map hi
    have tk : fl.take (i + 1) = fl.take i ++ [n] := by
      rw [List.take_add_one, hn]
      rfl
    obtain ⟨n1, n2⟩ := hfl n (List.mem_of_getElem? hn)
    have hns : n ∈ x2.sn := by rw [st4.n]; exact n1
    have nh : n ∉ x2.c.held := by
      rw [c4]
      intro z
      have := hR.ok.hst n z
      rw [n2] at this
      exact absurd this (by decide)
    have l2 := (gin_len hX4.ok.gin hX4.ok.gok).2.1 n
    have l1' := (gin_len hX4.ok.gin hX4.ok.gok).1
    have ln := hX4.ok.len
    rw [← show x2.ρ .reg = x.ρ .reg from st4.r]
    obtain ⟨b1, b2⟩ := hX4.setSt hns "new"
    refine ⟨_, rfl, _, _, _, _, _, rfl, hX4.reg, T.cl_Registry, T.n_own_states, rfl, _, rfl, _, _, rfl, Or.inl ⟨_, Sum.inr n, hX4.sts, rfl, by rw [stsD_len, st4.n]; exact sz_lt (by omega), rfl⟩, ?_⟩
    have l5 := b2.s.fr _ _ l4' (hX4.nlst l4')
    intro p hp
    have e2 := Ex.new (o := HO.dK []) hp
    have b1' := b1.ex e2
    obtain ⟨c1, c2⟩ := b1.clrEx hns hp
    refine ⟨_, rfl, _, _, _, _, _, rfl, b1'.reg, T.cl_Registry, T.n_own_exports, rfl, _, rfl, _, _, rfl, Or.inl ⟨_, Sum.inr n, b1'.exd, rfl, ?_, rfl⟩, ?_⟩
    · show (exdD x2.sn x2.ρ).length < sizeLine
      unfold exdD
      rw [length_dS, List.length_map, st4.n]
      exact sz_lt (by omega)
    have l6 := c2.s.fr _ _ l5 (b1.nlst l5)
    refine ⟨_, rfl, _, _, _, _, _, rfl, c1.reg, T.cl_Registry, T.n_own_needs, rfl, _, _, _, rfl, (c1.needs false).pi, rfl, _, rfl, ((_, x2.g), n), rfl, c1.needs false, hX4.ok.gok, by show (tg x2.g n).length < 64; omega, by show x2.g.length < 1000; omega, fun ν' H9 v n1 n2 n3 => ?_⟩
    obtain ⟨d1, d2⟩ := c1.setG false n1 n2 n3
    refine ⟨((x2.setSt n "new").clrEx n p).setG false ν' _, _, rfl, ⟨d1, ?_⟩, ((st4.trans b2).trans c2).trans d2, ?_, ?_, r4, b4, d2.s.fr _ _ l6 (c1.nlst l6)⟩
    · exact ((hX4.ok.st (v := "new") (m := n) (by decide) nh).clr (m := n)).graphs (hX4.ok.gok.delAllG n) (GIn.delAllG hX4.ok.gin hns) hX4.ok.rok hX4.ok.rin
    · rw [tk, ← updAll_snoc, ← updAll_snoc]
      show ({ x2.c with st := upd1 x2.c.st n "new", ex := upd1 x2.c.ex n [] } : Core) = _
      rw [c4]
    · show delAllG x2.g n = _
      rw [tk, List.foldl_append, g4]
      rfl
  · obtain ⟨x2, y, rfl, hX4, st4, c4, g4, r4, b4, l4'⟩ := pr
    rw [List.length_map, List.take_length] at c4 g4
    exact ⟨_, rfl, k x2 H' pf hX4 st4 b4 c4 g4 r4 l4'⟩
theorem ok_R_unloadK (T : Txt K mg) : OkdK P w K mg base 4 (aM K "Registry" "unload") ["self", "kept"] 1 ["kept"] (sp_R_unload K) := by
  obtain ⟨fd, F, G⟩ := ok_R_unload (P := P) (w := w) (base := base) T
  exact OkdK.mk F G fun kV doc pm an cdv ct us ws h1 h2 => match us, ws, h1, h2 with
    | [_], [_], _, _ => rfl

end
end CR
set_option maxRecDepth 100000
set_option maxHeartbeats 4000000
/-! Cycleready: the registry's making. -/
namespace CR
open PySem PySem.Spec PyProof.Rows L2 Evl
local macro_rules | `(tactic| walk_at "red") => `(tactic| dsimp only [tNext, tSeq, tRet, tRetN, tDrop, tIfS, tAsg, tPar, tTest, tB, tNot, tAnd, tOr, tCB, tCons, tNil, tCall, tOp, tUn, tVar, tC, tIf])
local macro_rules | `(tactic| walk_at "nrm") => `(tactic| dsimp only [gName, tNext])
section
variable {ι : Type} {A A' : ι → Addr} {C C' : ι → Option HO} {H H' : Hp}
/-- new objects are taken in -/
theorem At.adopt {S : ι → Prop} (h : At A C H) (e : Ex H H') (hold : ∀ j, ¬ S j → C' j = C j ∧ A' j = A j) (hnew : ∀ j o, S j → C' j = some o → H (A' j) = none ∧ H' (A' j) = some o)
    (hinj : ∀ i j, S i → S j → (C' i).isSome = true → (C' j).isSome = true → A' i = A' j → i = j) : At A' C' H' ∧ Stp A C H A' C' H' := by
  have mix : ∀ i j, S i → ¬ S j → (C' i).isSome = true → (C' j).isSome = true → A' i ≠ A' j := fun i j hi hj li lj z => by
    obtain ⟨o, ho⟩ := Option.isSome_iff_exists.mp li
    rw [(hold j hj).1] at lj
    obtain ⟨u, _, hu⟩ := h.live lj
    have := (hnew i o hi ho).1
    rw [z, (hold j hj).2, hu] at this
    cases this
  refine ⟨⟨fun j o ho => ?_, fun i j li lj z => ?_⟩, fun a o ha _ => e a o ha, fun a ⟨j, lj, z⟩ => ?_⟩
  · by_cases hj : S j
    · exact (hnew j o hj ho).2
    · rw [(hold j hj).2]
      exact e _ _ (h.is j o ((hold j hj).1.symm.trans ho))
  · by_cases hi : S i
    · by_cases hj : S j
      · exact hinj i j hi hj li lj z
      · exact absurd z (mix i j hi hj li lj)
    · by_cases hj : S j
      · exact absurd z.symm (mix j i hj hi lj li)
      · rw [(hold i hi).1] at li
        rw [(hold j hj).1] at lj
        rw [(hold i hi).2, (hold j hj).2] at z
        exact h.inj i j li lj z
  · by_cases hj : S j
    · obtain ⟨o, ho⟩ := Option.isSome_iff_exists.mp lj
      exact Or.inr (z ▸ (hnew j o hj ho).1)
    · rw [(hold j hj).1] at lj
      exact Or.inl ⟨j, lj, (hold j hj).2.symm.trans z⟩
end
section
variable {A A' : Lay} {C C' C'' : Ro → Option HO} {H H' : Hp}
/-- .. and the registry's fields are written -/
theorem At.adoptR {S : Ro → Prop} (h : At A C H) (e : Ex H H') (hold : ∀ j, ¬ S j → C' j = C j ∧ A' j = A j) (hnew : ∀ j o, S j → C' j = some o → H (A' j) = none ∧ H' (A' j) = some o)
    (hinj : ∀ i j, S i → S j → (C' i).isSome = true → (C' j).isSome = true → A' i = A' j → i = j) (hr : ¬ S .reg) (lr : (C .reg).isSome = true) (o : HO) (hC : ∀ j, C'' j = if j = .reg then some o else C' j) :
    At A' C'' (upd H' (A .reg) o) ∧ Stp A C H A' C'' (upd H' (A .reg) o) := by
  obtain ⟨a1, a2⟩ := At.adopt h e hold hnew hinj
  have er := (hold _ hr).2
  have lr' : (C' .reg).isSome = true := by rw [(hold _ hr).1]; exact lr
  rw [← er]
  exact ⟨a1.set lr' o hC, a2.trans (Stp.put lr' o hC)⟩
/-- one role -/
theorem At.oneR (h : At A C H) (e : Ex H H') (i : Ro) (hi : i ≠ .reg) {p : Addr} (hp : H p = none) {u : HO} (hu : H' p = some u) (lr : (C .reg).isSome = true) (o : HO) :
    At (fun j => if j = i then p else A j) (fun j => if j = .reg then some o else if j = i then some u else C j) (upd H' (A .reg) o) ∧
    Stp A C H (fun j => if j = i then p else A j) (fun j => if j = .reg then some o else if j = i then some u else C j) (upd H' (A .reg) o) :=
  At.adoptR (S := fun j => j = i) (C' := fun j => if j = i then some u else C j) h e (fun j hj => ⟨if_neg hj, if_neg hj⟩) (fun j o' hj ho => by
    subst hj
    rw [if_pos rfl] at ho
    rw [if_pos rfl]
    cases ho
    exact ⟨hp, hu⟩) (fun i j hi hj _ _ _ => hi.trans hj.symm) (fun z => hi z.symm) lr o (fun _ => rfl)
end
def nl3 (N Nx d : Addr) : NL := fun r => match r with | .p => N | .pD => Nx | .d => d | .i _ => 0
/-- a new graph -/
theorem nmk {K : PySem.W.Frag} {H : Hp} {N Nx d : Addr} (hN : H N = none) (hNx : H Nx = none) (hne : Nx ≠ N) (hd : upd (upd H Nx (.own N)) N (.ins (aF K "Needs") Nx []) d = none) :
    Ex H (upd (upd (upd (upd H Nx (.own N)) N (.ins (aF K "Needs") Nx [])) d (.dK [])) N (.ins (aF K "Needs") Nx [("own_targets", .ref d)])) ∧
    (∀ r o, CN K (nl3 N Nx d) [] r = some o → H (nl3 N Nx d r) = none ∧ upd (upd (upd (upd H Nx (.own N)) N (.ins (aF K "Needs") Nx [])) d (.dK [])) N (.ins (aF K "Needs") Nx [("own_targets", .ref d)]) (nl3 N Nx d r) = some o) ∧
    ∀ r r', (CN K (nl3 N Nx d) [] r).isSome = true → (CN K (nl3 N Nx d) [] r').isSome = true → nl3 N Nx d r = nl3 N Nx d r' → r = r' := by
  have hN' : upd H Nx (.own N) N = none := by
    rw [upd_ne (fun z => hne z.symm)]
    exact hN
  have e2 := (Ex.new (o := HO.own N) hNx).trans (Ex.new (o := HO.ins (aF K "Needs") Nx []) hN')
  have hd0 := fresh_back e2 hd
  have ndN : d ≠ N := fun z => by
    rw [z, upd_same] at hd
    cases hd
  have ndx : d ≠ Nx := fun z => by
    rw [z, upd_ne hne, upd_same] at hd
    cases hd
  refine ⟨Ex.mut (e2.trans (Ex.new hd)) hN, fun r o h => ?_, fun r r' l l' e => ?_⟩
  · cases r with
    | p =>
      cases h
      exact ⟨hN, upd_same⟩
    | pD =>
      cases h
      refine ⟨hNx, ?_⟩
      show upd _ N _ Nx = _
      rw [upd_ne hne, upd_ne (fun z => ndx z.symm), upd_ne hne]
      exact upd_same
    | d =>
      cases h
      refine ⟨hd0, ?_⟩
      show upd _ N _ d = _
      rw [upd_ne ndN]
      exact upd_same
    | i a => cases h
  · cases r <;> cases r' <;> first | rfl | (cases l; done) | (cases l'; done) | exact absurd e hne | exact absurd e.symm hne | exact absurd e ndN | exact absurd e.symm ndN | exact absurd e ndx | exact absurd e.symm ndx
section
variable {K : PySem.W.Frag} {A : Lay} {C : Ro → Option HO} {H : Hp}
def nA (A : Lay) (b : Bool) (N Nx d : Addr) : Lay := fun j => match j with | .nd b' r => if b' = b then nl3 N Nx d r else A (.nd b' r) | j => A j
def nC (K : PySem.W.Frag) (C : Ro → Option HO) (b : Bool) (N Nx d : Addr) : Ro → Option HO := fun j => match j with | .nd b' r => if b' = b then CN K (nl3 N Nx d) [] r else C (.nd b' r) | j => C j
def pR (C : Ro → Option HO) (o : HO) : Ro → Option HO := fun j => if j = .reg then some o else C j
theorem At.needsR (h : At A C H) (b : Bool) {N Nx d : Addr} (hN : H N = none) (hNx : H Nx = none) (hne : Nx ≠ N) (hd : upd (upd H Nx (.own N)) N (.ins (aF K "Needs") Nx []) d = none) (lr : (C .reg).isSome = true) (o : HO) :
    At (nA A b N Nx d) (pR (nC K C b N Nx d) o) (upd (upd (upd (upd (upd H Nx (.own N)) N (.ins (aF K "Needs") Nx [])) d (.dK [])) N (.ins (aF K "Needs") Nx [("own_targets", .ref d)])) (A .reg) o) ∧
    Stp A C H (nA A b N Nx d) (pR (nC K C b N Nx d) o) (upd (upd (upd (upd (upd H Nx (.own N)) N (.ins (aF K "Needs") Nx [])) d (.dK [])) N (.ins (aF K "Needs") Nx [("own_targets", .ref d)])) (A .reg) o) := by
  obtain ⟨n1, n2, n3⟩ := nmk hN hNx hne hd
  refine At.adoptR (S := fun j => match j with | .nd b' _ => b' = b | _ => False) (C' := nC K C b N Nx d) h n1 (fun j hj => ?_) (fun j u hj hu => ?_) (fun i j hi hj li lj e => ?_) (fun z => z) lr o (fun _ => rfl)
  · cases j with
    | nd b' r => exact ⟨if_neg hj, if_neg hj⟩
    | _ => exact ⟨rfl, rfl⟩
  · cases j with
    | nd b' r =>
      have hj : b' = b := hj
      have hu : (if b' = b then CN K (nl3 N Nx d) [] r else C (.nd b' r)) = some u := hu
      rw [if_pos hj] at hu
      have e0 : nA A b N Nx d (.nd b' r) = nl3 N Nx d r := if_pos hj
      rw [e0]
      exact n2 r u hu
    | _ => exact absurd hj id
  · cases i with
    | nd b1 r1 =>
      cases j with
      | nd b2 r2 =>
        have hi : b1 = b := hi
        have hj : b2 = b := hj
        subst hi
        subst hj
        have li : (if b2 = b2 then CN K (nl3 N Nx d) [] r1 else C (.nd b2 r1)).isSome = true := li
        have lj : (if b2 = b2 then CN K (nl3 N Nx d) [] r2 else C (.nd b2 r2)).isSome = true := lj
        have e : (if b2 = b2 then nl3 N Nx d r1 else A (.nd b2 r1)) = (if b2 = b2 then nl3 N Nx d r2 else A (.nd b2 r2)) := e
        rw [if_pos rfl] at li lj
        rw [if_pos rfl, if_pos rfl] at e
        rw [n3 r1 r2 li lj e]
      | _ => exact absurd hj id
    | _ => exact absurd hi id
end
def c0 : Core := { st := fun _ => "new", ex := fun _ => [], early := [], held := [], ch := [] }
theorem ROk.c0 {names : List Str} (nd : names.Nodup) (hl : names.length ≤ 40) (hn : ∀ n ∈ names, okName n) : ROk 0 (srtS names) CR.c0 [] [] where
  nd := (srtS_perm names).nodup_iff.mpr nd
  srt := srtS_congr (srtS_perm names)
  len := by rw [length_srtS]; exact hl
  nm := fun n h => hn n (mem_srtS.mp h)
  gok := ⟨List.nodup_nil, fun q hq => absurd hq (by simp)⟩
  rok := ⟨List.nodup_nil, fun q hq => absurd hq (by simp)⟩
  gin := fun q hq => absurd hq (by simp)
  rin := fun q hq => absurd hq (by simp)
  end_ := List.nodup_nil
  ein := fun p hp => absurd hp (by simp [CR.c0])
  hnd := List.nodup_nil
  hin := fun p hp => absurd hp (by simp [CR.c0])
  cnd := List.nodup_nil
  cin := fun p hp => absurd hp (by simp [CR.c0])
  cst := fun n _ e => absurd (show ("new" : Str) = "failed" from e) (by decide)
  cln := fun p hp => absurd hp (by simp [CR.c0])
  xnd := fun _ _ => List.nodup_nil
  xin := fun n _ q hq => absurd hq (by simp [CR.c0])
  hst := fun n hn => absurd hn (by simp [CR.c0])
section
variable {P : Program} {w : World} {K : PySem.W.Frag} {mg : Str → Option Value} {base : Heap}
def sp_are_modules (K : PySem.W.Frag) : Sp := Pm (fun x : Addr × List Str => [.ref x.1]) fun x H Q => H x.1 = some (.lst (x.2.map .str)) ∧ (∀ n ∈ x.2, okName n) ∧ x.2.Nodup ∧ 1 ≤ x.2.length ∧ x.2.length ≤ 40 ∧ RetV (.bl true) H Q
theorem sp_are_modules_len (K : PySem.W.Frag) : ∀ vs H Q E, sp_are_modules K vs H Q E → vs.length = 1 := Pm.len fun _ => rfl
abbrev s_are_modules : Stmt := (top 28)
theorem sc_are_modules : FnScope ["value", "name"] ["value"] (defScope s_are_modules) := ⟨rfl, rfl, rfl, by decide +kernel, rfl, by decide +kernel, by decide +kernel⟩
theorem ok_are_modules (T : Txt K mg) : Okd P w K mg base 2 (aF K "are_modules") ["value"] (sp_are_modules K) := by
  obtain ⟨fd, F⟩ := T.f_are_modules
  refine Okd.mk F sc_are_modules (sp_are_modules_len K) (fun _ _ _ _ _ _ us hl => match us, hl with | [_], _ => rfl) (fun cdv A outer s H vs Q E hr h => ?_)
  have hu := hu_of hr
  refine ⟨_, (pss_cons (ps_if (PW.pt (pw_or (pt_not (pt_val (pe_callB (call_isiTK (K := K) rfl) (by rfl) T.b_isinstance (by decide +kernel) (pa_cons (pv 0) (pa_cons (pe_tup (pa_cons (pe_bltn rfl T.b_list (by decide +kernel) (v := .ty "list") rfl) (pa_cons (pe_bltn rfl T.b_tuple (by decide +kernel) (v := .ty "tuple") rfl) pa_nil))) pa_nil))))) (pw_or1 (pt_not (pt_chain op_le op_le pe_int (pe_callB (call_len_seqK (K := K) rfl) (by rfl) T.b_len (by decide +kernel) (pa_cons (pv 0) pa_nil)) (pe_gint rfl T.c_MOST_MODULES)))))) (pss_one (ps_ret pe_bl)) pss_nil)
    (pss_one (ps_ret (pe_and (pe_callB (cr_allK (K := K) rfl rfl) (by rfl) T.b_all (by decide +kernel) (pa_cons (pe_lc (own := [("name", 1)]) rfl sc_are_modules.nd (pi_listK (K := K) rfl (pv 0)) (blkOk_by (own := [("name", 1)]) (N := ["value", "name"]) (sc := defScope s_are_modules) (by decide +kernel)) (fun _ _ _ _ _ => (pg_name (i := 1) sc_are_modules.nd rfl (Or.inl rfl) (Or.inr rfl))) (fun _ _ _ _ _ => pts_nil) (fun _ _ _ _ _ => (pe_callO (ok_is_name (K := K) T) (hr.mono (by decide)) rfl T.g_is_name T.k_is_name (pa_cons (pv 1) pa_nil)))) pa_nil)) (pe_one (pe_cmpR op_eq (pe_lenSetT (K := K) rfl rfl T.b_len rfl T.b_set (pv 0)) (pe_callB (call_len_seqK (K := K) rfl) (by rfl) T.b_len (by decide +kernel) (pa_cons (pv 0) pa_nil)) (nomark _))))))), ?_⟩
  obtain ⟨⟨a, names⟩, rfl, ha, hok, nd, h1, h40, k⟩ := h
  dsimp only at ha hok nd h1 h40 k
  refine ⟨_, rfl, sz_of (n := 2) (by decide), fun q1 hq1 => ⟨_, q1, _, _, _, true, rfl, upd_same, .cons (.ty _) (.cons (.ty _) .nil), .base (.lst ((Ex.new hq1) _ _ ha)), rfl, true, rfl, ?_⟩⟩
  have e1 := Ex.new (o := HO.tup [V.ty "list", V.ty "tuple"]) hq1
  have ha1 := e1 _ _ ha
  generalize upd H q1 (.tup [V.ty "list", V.ty "tuple"]) = H1 at e1 ha1 ⊢
  refine it_f (by rfl) ?_
  have hlen : (names.map V.str).length = names.length := List.length_map _
  refine ⟨_, rfl, a, _, rfl, Or.inl (sq_of ha1), 1, _, rfl, rfl, true, congrArg V.bl (decide_eq_true (by rw [hlen]; omega)), ?_⟩
  refine it_t (by rfl) ⟨_, _, rfl, rfl, true, congrArg V.bl (decide_eq_true (by rw [hlen]; omega)), ?_⟩
  refine it_f (by rfl) ?_
  walk_at "red"
  unfold tAndV
  walk_at "red"
  refine lcW (J := Itl K a) (H1 := H1) (fun R r => ⟨_, rfl, a, rfl, ⟨_, sq_of ha1⟩, r⟩) walk_list (by rw [List.length_map]; omega) (fun H2 e => sq_of (e _ _ ha1)) (fun _ => true) (fun _ => .bl true) (fun i v H2 H3 hi e2 y => ?_) (fun p H2 hp e2 h2 => ?_)
  · obtain ⟨rfl, hx⟩ := y
    obtain ⟨b, hb1, rfl⟩ := at_map hx
    exact ⟨_, Ex.refl _, fun Q q => q, rfl, fun H1 e Q q => q H1 (Ex.refl _), fun _ H4 e4 Q q => ⟨_, rfl, b, rfl, hok b (List.mem_of_getElem? hb1), fun H5 e5 => q H5 e5⟩⟩
  refine ⟨p, List.replicate (names.map V.str).length true, rfl, sq_of (h2.trans ?_), ?_⟩
  · congr 2
    unfold given
    rw [List.filter_eq_self.mpr fun _ _ => rfl, List.map_const', List.map_replicate, List.length_range]
  rw [show (List.replicate (names.map V.str).length true).all id = true by simp]
  have ha2 := (show Ex H1 H2 by assumption) _ _ ha1
  refine ⟨true, rfl, it_t (by rfl) ⟨_, rfl, a, names, rfl, sq_of ha2, nd, by omega, _, rfl, a, _, rfl, Or.inl (sq_of ha2), ?_⟩⟩
  refine ⟨rfl, ?_⟩
  rw [hlen, decide_eq_true rfl]
  exact k _ (e1.trans (by assumption))
def sp_R_init (K : PySem.W.Frag) : Sp := Pm (fun x : (Addr × Addr) × Addr × List Str => [.ref x.1.1, .ref x.2.1]) fun x H Q => H x.1.1 = some (.ins (aF K "Registry") x.1.2 []) ∧ H x.1.2 = some (.own x.1.1) ∧ H x.2.1 = some (.lst (x.2.2.map .str)) ∧
  (∀ n ∈ x.2.2, okName n) ∧ x.2.2.Nodup ∧ 1 ≤ x.2.2.length ∧ x.2.2.length ≤ 40 ∧
  ∀ xr H', RegAt K xr H' → xr.ρ .reg = x.1.1 → xr.B = 0 → xr.sn = srtS x.2.2 → xr.c = c0 → xr.g = [] → xr.r = [] → (∀ a o, H a = some o → a ≠ x.1.1 → H' a = some o) → (∀ a, own xr.ρ (CRg K xr) a → a = x.1.1 ∨ a = x.1.2 ∨ H a = none) → Q .non H'
theorem sp_R_init_len (K : PySem.W.Frag) : ∀ vs H Q E, sp_R_init K vs H Q E → vs.length = 2 := Pm.len fun _ => rfl
theorem take_not {α : Type} {l : List α} {i : Nat} {x : α} (nd : l.Nodup) (e : l[i]? = some x) : x ∉ l.take i := fun z => by
  obtain ⟨j, hj⟩ := List.mem_iff_getElem?.mp z
  have hji : j < i := by
    have := (List.getElem?_eq_some_iff.mp hj).1
    rw [List.length_take] at this
    omega
  rw [List.getElem?_take_of_lt hji] at hj
  have := (List.getElem?_inj (List.getElem?_eq_some_iff.mp hj).1 nd).mp (hj.trans e.symm)
  omega
theorem stsD_snoc {l : List Str} {n : Str} {st : Str → Str} (h : n ∉ l) : putK (stsD l st) (Sum.inr n) (.str (st n)) = stsD (l ++ [n]) st := by
  unfold stsD
  rw [putK_dS, putA_new _ (by rw [List.map_map]; exact fun z => h (by obtain ⟨y, hy, e⟩ := List.mem_map.mp z; exact e ▸ hy)), List.map_append]
  rfl
abbrev s_R_init : Stmt := (inClass (top 29) 1)
theorem sc_R_init : FnScope ["self", "names", "name"] ["self", "names"] (defScope s_R_init) := ⟨rfl, rfl, rfl, by decide +kernel, rfl, by decide +kernel, by decide +kernel⟩
theorem ok_R_init (T : Txt K mg) : Okd P w K mg base 3 (aM K "Registry" "__init__") ["self", "names"] (sp_R_init K) := by
  obtain ⟨fd, F⟩ := T.f_R_init
  refine Okd.mk F sc_R_init (sp_R_init_len K) (fun _ _ _ _ _ _ us hl => match us, hl with | [_, _], _ => rfl) (fun cdv A outer s H vs Q E hr h => ?_)
  have hu := hu_of hr
  refine ⟨_, (pss_cons (ps_if (pt_not (pt_val (pe_callO (ok_are_modules (K := K) T) (hr.mono (by decide)) rfl T.g_are_modules T.k_are_modules (pa_cons (pv 1) pa_nil)))) (pss_one ps_never) pss_nil)
    (pss_cons (ps_fldK (K := K) rfl (pv 0) (pe_dc (own := [("name", 2)]) rfl sc_R_init.nd (pi_listK (K := K) rfl (pe_callB (cr_sortedSK (K := K) rfl) (by rfl) T.b_sorted (by decide +kernel) (pa_cons (pv 1) pa_nil))) (blkOk_by (own := [("name", 2)]) (N := ["self", "names", "name"]) (sc := defScope s_R_init) (by decide +kernel)) (fun _ _ _ _ _ => (pg_name (i := 2) sc_R_init.nd rfl (Or.inl rfl) (Or.inr rfl))) (fun _ _ _ _ _ => pts_nil) (fun _ _ _ _ _ => (pv 2)) (fun _ _ _ _ _ => (pe_gstr rfl T.c_NEW))) rfl)
    (pss_cons (ps_fldK (K := K) rfl (pv 0) (pe_lock (pe_dc (own := [("name", 2)]) rfl sc_R_init.nd (pi_keys (pe_fldK (K := K) rfl (pv 0) rfl)) (blkOk_by (own := [("name", 2)]) (N := ["self", "names", "name"]) (sc := defScope s_R_init) (by decide +kernel)) (fun _ _ _ _ _ => (pg_name (i := 2) sc_R_init.nd rfl (Or.inl rfl) (Or.inr rfl))) (fun _ _ _ _ _ => pts_nil) (fun _ _ _ _ _ => (pv 2)) (fun _ _ _ _ _ => pe_dnewK))) rfl)
    (pss_cons (ps_fldK (K := K) rfl (pv 0) (pe_makeO0 T.mk_Needs (ok_N_init (K := K) T) (hr.mono (by decide)) rfl T.g_Needs) rfl)
    (pss_cons (ps_fldK (K := K) rfl (pv 0) (pe_makeO0 T.mk_Needs (ok_N_init (K := K) T) (hr.mono (by decide)) rfl T.g_Needs) rfl)
    (pss_cons (ps_fldK (K := K) rfl (pv 0) pe_dnewT rfl)
    (pss_cons (ps_fldK (K := K) rfl (pv 0) pe_dnewK rfl)
    (pss_one (ps_fldK (K := K) rfl (pv 0) pe_dnewK rfl))))))))), ?_⟩
  obtain ⟨⟨⟨x, dx⟩, a, names⟩, rfl, hx, hdx, ha, hok, nd, h1, h40, k⟩ := h
  dsimp only at hx hdx ha hok nd h1 h40 k
  have nxd : x ≠ dx := ne_of hx hdx (fun z => nomatch z)
  have hrok := ROk.c0 nd h40 hok
  have hndS : (srtS names).Nodup := hrok.nd
  have hlS : (srtS names).length ≤ 40 := hrok.len
  have hA0 : At (fun j : Ro => match j with | .regD => dx | _ => x) (fun j : Ro => match j with | .reg => some (.ins (aF K "Registry") dx []) | .regD => some (.own x) | _ => none) H := by
    refine ⟨fun j o e => ?_, fun i j li lj e => ?_⟩
    · cases j <;> first | (cases e; first | exact hx | exact hdx) | cases e
    · cases i <;> first | (cases li; done) | (cases j <;> first | (cases lj; done) | rfl | exact absurd e nxd | exact absurd e.symm nxd)
  refine ⟨_, rfl, (a, names), rfl, ha, hok, nd, h1, h40, fun H1 e1 => ⟨true, rfl, it_f (by rfl) ?_⟩⟩
  -- the states
  refine ⟨_, rfl, a, names, rfl, sq_of (e1 _ _ ha), by omega, fun ys p hpm hs hp => ⟨p, rfl, ⟨_, sq_of upd_same⟩, ?_⟩⟩
  rw [srtS_rule hpm hs]
  generalize hsn : srtS names = sn at k hrok hndS hlS ⊢
  have e2 := e1.trans (Ex.new (o := HO.lst (sn.map V.str)) hp)
  have f2 : upd H1 p (.lst (sn.map V.str)) p = some (.lst (sn.map V.str)) := upd_same
  generalize upd H1 p (.lst (sn.map V.str)) = H2 at e2 f2 ⊢
  refine fun D hD => turns_it (J := Itl K p) (B := bodyDc (gName 2) tYes (tVar 2) (tC (V.str "new")) _ _ D) walk_list (fun i H' => Ex H2 H' ∧ H' D = some (.dK (stsD (sn.take i) fun _ => "new"))) ⟨Ex.new hD, upd_same⟩ (fun i H' _ p => sq_of (p.1 _ _ f2)) (fun i v H3 H4 hi p y => ?_) (fun H3 p => ?_)
  · obtain ⟨ex, dd⟩ := p
    obtain ⟨rfl, hx⟩ := y
    obtain ⟨b, hb1, rfl⟩ := at_map hx
    refine ⟨rfl, _, rfl, _, Sum.inr b, rfl, dd, ?_, Ex.mut ex hD, ?_⟩
    · rw [stsD_len, List.length_take]
      exact sz_lt (by omega)
    · have tk : sn.take (i + 1) = sn.take i ++ [b] := by
        rw [List.take_add_one, hb1]
        rfl
      rw [upd_same, tk]
      exact congrArg (fun l => some (HO.dK l)) (stsD_snoc (st := fun _ => "new") (take_not hndS hb1))
  obtain ⟨ex3, dd⟩ := p
  rw [List.length_map, List.take_length] at dd
  have e3 := e2.trans ex3
  have hx3 := e3 _ _ hx
  have hD0 := fresh_back e2 hD
  obtain ⟨a1, s1⟩ := hA0.oneR e3 .sts (by decide) hD0 dd rfl (.ins (aF K "Registry") dx [("own_states", .ref D)])
  refine ⟨_, rfl, x, _, dx, _, rfl, hx3, T.cl_Registry, T.n_own_states, (show 0 < 1000 by decide), ?_⟩
  walk_at "nrm"
  revert a1 s1
  show At _ _ (upd H3 x (.ins (aF K "Registry") dx (putF "own_states" (.ref D) []))) → Stp _ _ H _ _ (upd H3 x (.ins (aF K "Registry") dx (putF "own_states" (.ref D) []))) → _
  generalize upd H3 x (.ins (aF K "Registry") dx (putF "own_states" (.ref D) [])) = H4
  intro a1 s1
  have r4 : H4 x = some (.ins (aF K "Registry") dx [("own_states", .ref D)]) := a1.is .reg _ rfl
  have hD4 : H4 D = some (.dK (stsD sn fun _ => "new")) := a1.is .sts _ rfl
  -- the exports
  refine ⟨D, _, hD4, True.intro, fun od => ?_⟩
  have nxD : x ≠ D := ne_of r4 hD4 (fun z => nomatch z)
  have g1 : upd H4 D (.frz od (.dK (stsD sn fun _ => "new"))) D = some (.frz od (.dK (stsD sn fun _ => "new"))) := upd_same
  have g2 : upd H4 D (.frz od (.dK (stsD sn fun _ => "new"))) x = some (.ins (aF K "Registry") dx [("own_states", .ref D)]) := frz_other r4 nxD
  refine dcP (J := Itk D od (stsD sn fun _ => "new")) (H1 := upd H4 D (.frz od (.dK (stsD sn fun _ => "new")))) (fun R r => ⟨_, rfl, _, _, _, _, _, rfl, g2, T.cl_Registry, T.n_own_states, rfl, _, od, rfl, Or.inl ⟨_, g1, r⟩⟩) walk_keys fun E hE =>
    ⟨fun i H' => Ex (upd H4 D (.frz od (.dK (stsD sn fun _ => "new")))) H' ∧ ∃ ei : Str → Addr, H' E = some (.dK ((sn.take i).map fun n => (Sum.inr n, V.ref (ei n)))) ∧ (∀ n ∈ sn.take i, H' (ei n) = some (.dK []) ∧ upd H4 D (.frz od (.dK (stsD sn fun _ => "new"))) (ei n) = none ∧ ei n ≠ E) ∧
      ∀ n ∈ sn.take i, ∀ m ∈ sn.take i, ei n = ei m → n = m, ⟨Ex.new hE, fun _ => 0, upd_same, fun q hq => absurd hq (by simp), fun q hq => absurd hq (by simp)⟩, fun i H' _ p => p.1 _ _ g1, fun i v H5 H6 hi p y => ?_, fun H5 p => ?_⟩
  · obtain ⟨e1, ei, i1, i2, i3⟩ := p
    obtain ⟨rfl, kk, vv, hk, rfl⟩ := y
    rw [stsD_len] at hi
    have hq : sn[i]? = some sn[i] := by simp [hi]
    generalize sn[i] = q at hq
    have hd : (stsD sn fun _ => "new")[i]? = some (Sum.inr q, V.str "new") := getM (f := fun _ => ("new" : Str)) (v := V.str) hq
    rw [hd] at hk
    cases hk
    have nq := take_not hndS hq
    refine ⟨rfl, _, rfl, fun p hp => ⟨_, Sum.inr q, rfl, (Ex.new hp) _ _ i1, ?_, ?_⟩⟩
    · rw [List.length_map, List.length_take]
      exact sz_lt (by omega)
    have hpE : p ≠ E := fun z => by
      rw [z, i1] at hp
      cases hp
    have u1 : ∀ r ∈ sn.take i, upd1 ei q p r = ei r := fun r hr => upd1_ne (ne_mem hr nq)
    have u2 : upd1 ei q p q = p := upd1_same
    have tk : sn.take (i + 1) = sn.take i ++ [q] := by
      rw [List.take_add_one, hq]
      rfl
    have inp : ∀ r ∈ sn.take i, ei r ≠ p := fun r hr => ne_of_none (i2 r hr).1 hp
    refine ⟨Ex.mut (e1.trans (Ex.new hp)) hE, upd1 ei q p, ?_, fun r hr => ?_, fun r hr r' hr' e => ?_⟩
    · rw [upd_same, putK_new, tk, List.map_append]
      · congr 3
        · exact List.map_congr_left fun r hr => by rw [u1 r hr]
        · show [((Sum.inr q : Key), V.ref p)] = [(Sum.inr q, V.ref (upd1 ei q p q))]
          rw [u2]
      · exact valV_not (f := fun n : Str => n) fun r hr => ne_mem hr nq
    · rw [tk] at hr
      rcases List.mem_append.mp hr with z | z
      · rw [u1 r z]
        obtain ⟨j1, j2, j3⟩ := i2 r z
        exact ⟨by rw [upd_ne j3]; exact (Ex.new hp) _ _ j1, j2, j3⟩
      · rw [List.mem_singleton.mp z, u2]
        exact ⟨by rw [upd_ne hpE]; exact upd_same, fresh_back e1 hp, hpE⟩
    · rw [tk] at hr hr'
      rcases List.mem_append.mp hr with z | z
      · rcases List.mem_append.mp hr' with z' | z'
        · rw [u1 r z, u1 r' z'] at e
          exact i3 r z r' z' e
        · rw [List.mem_singleton.mp z', u1 r z, u2] at e
          exact absurd e (inp r z)
      · rcases List.mem_append.mp hr' with z' | z'
        · rw [List.mem_singleton.mp z, u1 r' z', u2] at e
          exact absurd e.symm (inp r' z')
        · rw [List.mem_singleton.mp z, List.mem_singleton.mp z']
  obtain ⟨e4, ei, i1, i2, i3⟩ := p
  rw [stsD_len, List.take_length] at i1 i2 i3
  have e5 : Ex H4 (upd H5 D (.dK (stsD sn fun _ => "new"))) := Ex.unlock hD4 e4
  obtain ⟨hED, hE4⟩ := frz_none hE
  have j1 : upd H5 D (.dK (stsD sn fun _ => "new")) E = some (.dK (sn.map fun n => (Sum.inr n, V.ref (ei n)))) := by
    rw [upd_ne hED]
    exact i1
  have j2 : ∀ n ∈ sn, upd H5 D (.dK (stsD sn fun _ => "new")) (ei n) = some (.dK []) ∧ H4 (ei n) = none := fun n hn => by
    obtain ⟨k1, k2, k3⟩ := i2 n hn
    obtain ⟨k4, k5⟩ := frz_none k2
    exact ⟨by rw [upd_ne k4]; exact k1, k5⟩
  have f5 := e4 _ _ g1
  have r5 := e5 _ _ r4
  generalize upd H5 D (.dK (stsD sn fun _ => "new")) = H6 at e5 j1 j2 r5 ⊢
  obtain ⟨a2, s2⟩ := At.adoptR (S := fun j => match j with | .exd => True | .exi _ => True | _ => False) (A' := fun j => match j with | .exd => E | .exi n => ei n | j => (fun j => if j = .sts then D else match j with | .regD => dx | _ => x) j)
    (C' := fun j => match j with | .exd => some (.dK (sn.map fun n => (Sum.inr n, V.ref (ei n)))) | .exi n => if n ∈ sn then some (.dK []) else none | j => (fun j => if j = .reg then some (.ins (aF K "Registry") dx [("own_states", .ref D)]) else if j = .sts then some (.dK (stsD sn fun _ => "new")) else match j with | .reg => some (.ins (aF K "Registry") dx []) | .regD => some (.own x) | _ => none) j) a1 e5
    (fun j hj => by cases j <;> first | exact absurd True.intro hj | exact ⟨rfl, rfl⟩) (fun j o hj ho => by
      cases j <;> first | exact absurd hj id | skip
      · cases ho
        exact ⟨hE4, j1⟩
      · rename_i n
        have ho : (if n ∈ sn then some (HO.dK []) else none) = some o := ho
        split at ho
        · rename_i hn
          cases ho
          exact ⟨(j2 n hn).2, (j2 n hn).1⟩
        · cases ho) (fun i j hi hj li lj e => by
      have hmem : ∀ n : Str, (if n ∈ sn then some (HO.dK []) else none).isSome = true → n ∈ sn := fun n h => by
        by_cases z : n ∈ sn
        · exact z
        · rw [if_neg z] at h
          cases h
      cases i <;> first | exact absurd hi id | skip
      · cases j <;> first | exact absurd hj id | rfl | skip
        rename_i n
        exact absurd e.symm (i2 n (hmem n lj)).2.2
      · rename_i n
        cases j <;> first | exact absurd hj id | skip
        · exact absurd e (i2 n (hmem n li)).2.2
        · rename_i m
          rw [i3 n (hmem n li) m (hmem m lj) e]) (fun z => z) rfl (.ins (aF K "Registry") dx [("own_states", .ref D), ("own_exports", .ref E)]) (fun _ => rfl)
  refine ⟨f5, _, rfl, x, _, dx, _, rfl, r5, T.cl_Registry, T.n_own_exports, (show 1 < 1000 by decide), ?_⟩
  walk_at "nrm"
  have s2 := s1.trans s2
  clear a1 s1
  revert a2 s2
  show At _ _ (upd H6 x (.ins (aF K "Registry") dx (putF "own_exports" (.ref E) [("own_states", .ref D)]))) → Stp _ _ H _ _ (upd H6 x (.ins (aF K "Registry") dx (putF "own_exports" (.ref E) [("own_states", .ref D)]))) → _
  generalize upd H6 x (.ins (aF K "Registry") dx (putF "own_exports" (.ref E) [("own_states", .ref D)])) = H7
  intro a2 s2
  have r7 : H7 x = some (.ins (aF K "Registry") dx [("own_states", .ref D), ("own_exports", .ref E)]) := a2.is .reg _ rfl
  -- the graphs
  intro N Nx hN hNx hne
  refine ⟨(N, Nx), rfl, upd_same, fun d0 hd0 => ⟨rfl, ?_⟩⟩
  obtain ⟨a3, s3⟩ := a2.needsR (K := K) false hN hNx hne hd0 rfl (.ins (aF K "Registry") dx [("own_states", .ref D), ("own_exports", .ref E), ("own_needs", .ref N)])
  have en := (nmk hN hNx hne hd0).1
  refine ⟨_, rfl, x, _, dx, _, rfl, en _ _ r7, T.cl_Registry, T.n_own_needs, (show 2 < 1000 by decide), ?_⟩
  walk_at "nrm"
  have s3 := s2.trans s3
  clear a2 s2
  revert a3 s3
  show At _ _ (upd (upd (upd (upd (upd H7 Nx (.own N)) N (.ins (aF K "Needs") Nx [])) d0 (.dK [])) N (.ins (aF K "Needs") Nx [("own_targets", .ref d0)])) x (.ins (aF K "Registry") dx (putF "own_needs" (.ref N) [("own_states", .ref D), ("own_exports", .ref E)]))) → Stp _ _ H _ _ (upd (upd (upd (upd (upd H7 Nx (.own N)) N (.ins (aF K "Needs") Nx [])) d0 (.dK [])) N (.ins (aF K "Needs") Nx [("own_targets", .ref d0)])) x (.ins (aF K "Registry") dx (putF "own_needs" (.ref N) [("own_states", .ref D), ("own_exports", .ref E)]))) → _
  generalize upd (upd (upd (upd (upd H7 Nx (.own N)) N (.ins (aF K "Needs") Nx [])) d0 (.dK [])) N (.ins (aF K "Needs") Nx [("own_targets", .ref d0)])) x (.ins (aF K "Registry") dx (putF "own_needs" (.ref N) [("own_states", .ref D), ("own_exports", .ref E)])) = H8
  intro a3 s3
  have rH8 : H8 x = some (.ins (aF K "Registry") dx [("own_states", .ref D), ("own_exports", .ref E), ("own_needs", .ref N)]) := a3.is .reg _ rfl
  intro M Mx hM hMx hme
  refine ⟨(M, Mx), rfl, upd_same, fun m0 hm0 => ⟨rfl, ?_⟩⟩
  obtain ⟨a4, s4⟩ := a3.needsR (K := K) true hM hMx hme hm0 rfl (.ins (aF K "Registry") dx [("own_states", .ref D), ("own_exports", .ref E), ("own_needs", .ref N), ("own_recorded", .ref M)])
  have em := (nmk hM hMx hme hm0).1
  refine ⟨_, rfl, x, _, dx, _, rfl, em _ _ rH8, T.cl_Registry, T.n_own_recorded, (show 3 < 1000 by decide), ?_⟩
  walk_at "nrm"
  have s4 := s3.trans s4
  clear a3 s3
  revert a4 s4
  show At _ _ (upd (upd (upd (upd (upd H8 Mx (.own M)) M (.ins (aF K "Needs") Mx [])) m0 (.dK [])) M (.ins (aF K "Needs") Mx [("own_targets", .ref m0)])) x (.ins (aF K "Registry") dx (putF "own_recorded" (.ref M) [("own_states", .ref D), ("own_exports", .ref E), ("own_needs", .ref N)]))) → Stp _ _ H _ _ (upd (upd (upd (upd (upd H8 Mx (.own M)) M (.ins (aF K "Needs") Mx [])) m0 (.dK [])) M (.ins (aF K "Needs") Mx [("own_targets", .ref m0)])) x (.ins (aF K "Registry") dx (putF "own_recorded" (.ref M) [("own_states", .ref D), ("own_exports", .ref E), ("own_needs", .ref N)]))) → _
  generalize upd (upd (upd (upd (upd H8 Mx (.own M)) M (.ins (aF K "Needs") Mx [])) m0 (.dK [])) M (.ins (aF K "Needs") Mx [("own_targets", .ref m0)])) x (.ins (aF K "Registry") dx (putF "own_recorded" (.ref M) [("own_states", .ref D), ("own_exports", .ref E), ("own_needs", .ref N)])) = H9
  intro a4 s4
  have rH9 : H9 x = some (.ins (aF K "Registry") dx [("own_states", .ref D), ("own_exports", .ref E), ("own_needs", .ref N), ("own_recorded", .ref M)]) := a4.is .reg _ rfl
  intro ea hea
  obtain ⟨a5, s5⟩ := a4.oneR (Ex.new (o := HO.dT []) hea) .ear (by decide) hea upd_same rfl (.ins (aF K "Registry") dx [("own_states", .ref D), ("own_exports", .ref E), ("own_needs", .ref N), ("own_recorded", .ref M), ("own_early", .ref ea)])
  refine ⟨_, rfl, x, _, dx, _, rfl, (Ex.new hea) _ _ rH9, T.cl_Registry, T.n_own_early, (show 4 < 1000 by decide), ?_⟩
  walk_at "nrm"
  have s5 := s4.trans s5
  clear a4 s4
  revert a5 s5
  show At _ _ (upd (upd H9 ea (.dT [])) x (.ins (aF K "Registry") dx (putF "own_early" (.ref ea) [("own_states", .ref D), ("own_exports", .ref E), ("own_needs", .ref N), ("own_recorded", .ref M)]))) → Stp _ _ H _ _ (upd (upd H9 ea (.dT [])) x (.ins (aF K "Registry") dx (putF "own_early" (.ref ea) [("own_states", .ref D), ("own_exports", .ref E), ("own_needs", .ref N), ("own_recorded", .ref M)]))) → _
  generalize upd (upd H9 ea (.dT [])) x (.ins (aF K "Registry") dx (putF "own_early" (.ref ea) [("own_states", .ref D), ("own_exports", .ref E), ("own_needs", .ref N), ("own_recorded", .ref M)])) = H10
  intro a5 s5
  have rH10 : H10 x = some (.ins (aF K "Registry") dx [("own_states", .ref D), ("own_exports", .ref E), ("own_needs", .ref N), ("own_recorded", .ref M), ("own_early", .ref ea)]) := a5.is .reg _ rfl
  intro he hhe
  obtain ⟨a6, s6⟩ := a5.oneR (Ex.new (o := HO.dK []) hhe) .hel (by decide) hhe upd_same rfl (.ins (aF K "Registry") dx [("own_states", .ref D), ("own_exports", .ref E), ("own_needs", .ref N), ("own_recorded", .ref M), ("own_early", .ref ea), ("own_held", .ref he)])
  refine ⟨_, rfl, x, _, dx, _, rfl, (Ex.new hhe) _ _ rH10, T.cl_Registry, T.n_own_held, (show 5 < 1000 by decide), ?_⟩
  walk_at "nrm"
  have s6 := s5.trans s6
  clear a5 s5
  revert a6 s6
  show At _ _ (upd (upd H10 he (.dK [])) x (.ins (aF K "Registry") dx (putF "own_held" (.ref he) [("own_states", .ref D), ("own_exports", .ref E), ("own_needs", .ref N), ("own_recorded", .ref M), ("own_early", .ref ea)]))) → Stp _ _ H _ _ (upd (upd H10 he (.dK [])) x (.ins (aF K "Registry") dx (putF "own_held" (.ref he) [("own_states", .ref D), ("own_exports", .ref E), ("own_needs", .ref N), ("own_recorded", .ref M), ("own_early", .ref ea)]))) → _
  generalize upd (upd H10 he (.dK [])) x (.ins (aF K "Registry") dx (putF "own_held" (.ref he) [("own_states", .ref D), ("own_exports", .ref E), ("own_needs", .ref N), ("own_recorded", .ref M), ("own_early", .ref ea)])) = H11
  intro a6 s6
  have rH11 : H11 x = some (.ins (aF K "Registry") dx [("own_states", .ref D), ("own_exports", .ref E), ("own_needs", .ref N), ("own_recorded", .ref M), ("own_early", .ref ea), ("own_held", .ref he)]) := a6.is .reg _ rfl
  intro ch hch
  obtain ⟨a7, s7⟩ := a6.oneR (Ex.new (o := HO.dK []) hch) .chd (by decide) hch upd_same rfl (.ins (aF K "Registry") dx [("own_states", .ref D), ("own_exports", .ref E), ("own_needs", .ref N), ("own_recorded", .ref M), ("own_early", .ref ea), ("own_held", .ref he), ("own_chains", .ref ch)])
  refine ⟨_, rfl, x, _, dx, _, rfl, (Ex.new hch) _ _ rH11, T.cl_Registry, T.n_own_chains, (show 6 < 1000 by decide), ?_⟩
  walk_at "nrm"
  have s7 := s6.trans s7
  clear a6 s6
  revert a7 s7
  show At _ _ (upd (upd H11 ch (.dK [])) x (.ins (aF K "Registry") dx (putF "own_chains" (.ref ch) [("own_states", .ref D), ("own_exports", .ref E), ("own_needs", .ref N), ("own_recorded", .ref M), ("own_early", .ref ea), ("own_held", .ref he)]))) → Stp _ _ H _ _ (upd (upd H11 ch (.dK [])) x (.ins (aF K "Registry") dx (putF "own_chains" (.ref ch) [("own_states", .ref D), ("own_exports", .ref E), ("own_needs", .ref N), ("own_recorded", .ref M), ("own_early", .ref ea), ("own_held", .ref he)]))) → _
  generalize upd (upd H11 ch (.dK [])) x (.ins (aF K "Registry") dx (putF "own_chains" (.ref ch) [("own_states", .ref D), ("own_exports", .ref E), ("own_needs", .ref N), ("own_recorded", .ref M), ("own_early", .ref ea), ("own_held", .ref he)])) = H12
  intro a7 s7
  have rH12 : H12 x = some (.ins (aF K "Registry") dx [("own_states", .ref D), ("own_exports", .ref E), ("own_needs", .ref N), ("own_recorded", .ref M), ("own_early", .ref ea), ("own_held", .ref he), ("own_chains", .ref ch)]) := a7.is .reg _ rfl
  have own0 : ∀ b, own (fun j : Ro => match j with | .regD => dx | _ => x) (fun j : Ro => match j with | .reg => some (.ins (aF K "Registry") dx []) | .regD => some (.own x) | _ => none) b → b = x ∨ b = dx := fun b ⟨j, lj, e⟩ => by
    cases j <;> first | (cases lj; done) | exact Or.inl e.symm | exact Or.inr e.symm
  have fin : ∀ (A : Lay) (C : Ro → Option HO), At A C H12 → Stp (fun j : Ro => match j with | .regD => dx | _ => x) (fun j : Ro => match j with | .reg => some (.ins (aF K "Registry") dx []) | .regD => some (.own x) | _ => none) H A C H12 → A .reg = x → A .regD = dx →
      (∀ j, CRg K ⟨A, fun _ => 0, 0, sn, c0, [], []⟩ j = C j) → Q V.non H12 := fun A C hA hs hr hrd hC => by
    have hAt : At A (CRg K ⟨A, fun _ => 0, 0, sn, c0, [], []⟩) H12 := hA.congr hC (fun _ _ => rfl)
    refine k ⟨A, fun _ => 0, 0, sn, c0, [], []⟩ H12 ⟨⟨hAt, fun q hq => absurd hq (by simp [c0])⟩, hrok⟩ hr rfl rfl rfl rfl rfl (fun b o hb hne => ?_) (fun b hb => ?_)
    · by_cases z : b = dx
      · rw [z, hdx] at hb
        cases hb
        have := hAt.is .regD _ rfl
        rw [hrd] at this
        rw [z, this]
        show some (HO.own (A .reg)) = _
        rw [hr]
      · exact hs.fr b o hb fun y => (own0 b y).elim hne z
    · have hb : own A C b := by
        obtain ⟨j, lj, e⟩ := hb
        exact ⟨j, by rw [← hC j]; exact lj, e⟩
      rcases hs.nw b hb with y | y
      · exact (own0 b y).imp_right Or.inl
      · exact Or.inr (Or.inr y)
  refine fin _ _ a7 s7 rfl rfl fun j => ?_
  cases j with
  | nd b r => cases b <;> cases r <;> rfl
  | exd => exact congrArg (fun l => some (HO.dK l)) exdD_eq
  | _ => rfl
end
end CR
set_option maxRecDepth 100000
set_option maxHeartbeats 4000000
/-! Cycleready: the law's tables, as objects. -/
namespace CR
open PySem PySem.Spec PyProof.Rows L2 Evl
inductive Mo where
  | m | sts | exd | nds | rcd | ear | hel | chd | exi (n : Str) | cht (n : Str)
  deriving DecidableEq
abbrev PB3 := List (Addr × Str × Str)
structure MX where
  μ : Mo → Addr
  ns : List Str
  c : Core
  bn : PB3
  br : PB3
  be : PB3
def mD (μ : Mo → Addr) : List (Key × V) := [(Sum.inr "states", .ref (μ .sts)), (Sum.inr "exports", .ref (μ .exd)), (Sum.inr "needs", .ref (μ .nds)), (Sum.inr "recorded", .ref (μ .rcd)), (Sum.inr "early", .ref (μ .ear)), (Sum.inr "held", .ref (μ .hel)), (Sum.inr "chains", .ref (μ .chd))]
def exdM (ns : List Str) (μ : Mo → Addr) : List (Key × V) := dS (fun n => V.ref (μ (.exi n))) (ns.map fun n => (n, n))
def chdM (μ : Mo → Addr) (ch : List (Str × List Str)) : List (Key × V) := dS (fun n => V.ref (μ (.cht n))) (ch.map fun q => (q.1, q.1))
def CM (x : MX) : Mo → Option HO
  | .m => some (.dK (mD x.μ))
  | .sts => some (.dK (stsD x.ns x.c.st))
  | .exd => some (.dK (exdM x.ns x.μ))
  | .nds => some (.lst (refsB x.bn))
  | .rcd => some (.lst (refsB x.br))
  | .ear => some (.lst (refsB x.be))
  | .hel => some (.lst (x.c.held.map .str))
  | .chd => some (.dK (chdM x.μ x.c.ch))
  | .exi n => if n ∈ x.ns then some (.dK (dS V.int (x.c.ex n))) else none
  | .cht n => (lookA x.c.ch n).map fun l => .lst (l.map .str)
/-- their objects -/
structure TabO (x : MX) (H : Hp) : Prop where
  is : At x.μ (CM x) H
  pn : Prs H x.bn
  pr : Prs H x.br
  pe : Prs H x.be
/-- the needs' edges -/
def Eb (b : PB3) (s t : Str) : Prop := (s, t) ∈ b.map (·.2)
/-- in order, told by the registry's graphs -/
structure MOk (B : Nat) (sn : List Str) (g r : Graph) (x : MX) : Prop where
  ok : ROk B sn x.c g r
  srt : srtS x.ns = sn
  be : x.be.map (·.2) = x.c.early
  nn : (x.bn.map (·.2)).Nodup
  rn : (x.br.map (·.2)).Nodup
  ng : ∀ a b, (a, b) ∈ x.bn.map (·.2) ↔ b ∈ tg g a
  rg : ∀ a b, (a, b) ∈ x.br.map (·.2) ↔ b ∈ tg r a
abbrev TStp (x : MX) (H : Hp) (x' : MX) (H' : Hp) : Prop := Stp x.μ (CM x) H x'.μ (CM x') H'
section
variable {x x' x'' : MX} {H H' H'' : Hp} {m : Str}
theorem CM_ntup {i : Mo} {xs : List V} : CM x i ≠ some (.tup xs) := by
  intro e
  cases i with
  | exi n =>
    have e : (if n ∈ x.ns then some (HO.dK (dS V.int (x.c.ex n))) else none) = some (.tup xs) := e
    split at e <;> cases e
  | cht n =>
    have e : (lookA x.c.ch n).map (fun l => HO.lst (l.map .str)) = some (.tup xs) := e
    cases h : lookA x.c.ch n with
    | none => rw [h] at e; cases e
    | some ts => rw [h] at e; cases e
  | _ => cases e
theorem TabO.ntup (h : TabO x H) {a : Addr} {xs : List V} (e : H a = some (.tup xs)) : ¬ own x.μ (CM x) a := fun ⟨i, l, q⟩ => by
  obtain ⟨o, h1, h2⟩ := h.is.live l
  rw [q, e] at h2
  exact CM_ntup (h1.trans h2.symm)
theorem Prs.fr {b : PB3} (h : Prs H b) (hf : ∀ a xs, H a = some (.tup xs) → H' a = some (.tup xs)) : Prs H' b := fun q hq => hf _ _ (h q hq)
theorem TabO.ex (h : TabO x H) (e : Ex H H') : TabO x H' := ⟨h.is.ex e, h.pn.ex e, h.pr.ex e, h.pe.ex e⟩
theorem TStp.ex (e : Ex H H') : TStp x H x H' := Stp.ex e
theorem TabO.keep (h : TabO x H) {i : Mo} (l : (CM x i).isSome = true) (o : HO) {b : PB3} (p : Prs H b) : Prs (upd H (x.μ i) o) b := p.fr fun a xs e => by
  rw [upd_ne (fun z => h.ntup e ⟨i, l, z.symm⟩)]
  exact e
/-- a role's object is written -/
theorem TabO.set (h : TabO x H) {i : Mo} (l : (CM x i).isSome = true) (o : HO) (hμ : x'.μ = x.μ) (hC : ∀ j, CM x' j = if j = i then some o else CM x j) (pn : Prs H x'.bn) (pr : Prs H x'.br) (pe : Prs H x'.be) :
    TabO x' (upd H (x.μ i) o) ∧ TStp x H x' (upd H (x.μ i) o) := by
  refine ⟨⟨?_, h.keep l o pn, h.keep l o pr, h.keep l o pe⟩, ?_⟩
  · rw [hμ]
    exact h.is.set l o hC
  · unfold TStp
    rw [hμ]
    exact Stp.put l o hC
/-- a role gets a new object at p (already there), then the object that leads to it is written -/
theorem TabO.move (h : TabO x H) {i k : Mo} {p : Addr} (e : Ex H H') (hp : H p = none) {o : HO} (ho : H' p = some o) (u : HO) (hk : i ≠ k) (l : (CM x k).isSome = true) (hμ : ∀ j, x'.μ j = if j = i then p else x.μ j)
    (hC : ∀ j, CM x' j = if j = k then some u else if j = i then some o else CM x j) (pn : Prs H' x'.bn) (pr : Prs H' x'.br) (pe : Prs H' x'.be) :
    TabO x' (upd H' (x.μ k) u) ∧ TStp x H x' (upd H' (x.μ k) u) := by
  obtain ⟨a1, s1⟩ := At.adopt (S := fun j => j = i) (A' := x'.μ) (C' := fun j => if j = i then some o else CM x j) h.is e (fun j hj => ⟨if_neg hj, (hμ j).trans (if_neg hj)⟩) (fun j v hj hv => by
    subst hj
    rw [if_pos rfl] at hv
    cases hv
    rw [hμ, if_pos rfl]
    exact ⟨hp, ho⟩) (fun i j hi hj _ _ _ => hi.trans hj.symm)
  have lk : ((fun j => if j = i then some o else CM x j) k).isSome = true := by
    show (if k = i then some o else CM x k).isSome = true
    rw [if_neg (fun z => hk z.symm)]
    exact l
  have ek : x'.μ k = x.μ k := by rw [hμ, if_neg (fun z => hk z.symm)]
  have kp : ∀ a xs, H' a = some (.tup xs) → upd H' (x.μ k) u a = some (.tup xs) := fun a xs ea => by
    obtain ⟨v, h1, h2⟩ := a1.live lk
    rw [ek] at h2
    have h1 : (if k = i then some o else CM x k) = some v := h1
    rw [if_neg (fun z => hk z.symm)] at h1
    rw [upd_ne (fun z => by rw [z, h2] at ea; exact CM_ntup (h1.trans ea))]
    exact ea
  refine ⟨⟨?_, pn.fr kp, pr.fr kp, pe.fr kp⟩, ?_⟩
  · rw [← ek]
    exact a1.set lk u hC
  · unfold TStp
    rw [← ek]
    exact s1.trans (Stp.put (A := x'.μ) lk u hC)
/-! ### what is read -/
theorem TabO.hm (h : TabO x H) : H (x.μ .m) = some (.dK (mD x.μ)) := h.is.is .m _ rfl
theorem TabO.sts (h : TabO x H) : H (x.μ .sts) = some (.dK (stsD x.ns x.c.st)) := h.is.is .sts _ rfl
theorem TabO.exd (h : TabO x H) : H (x.μ .exd) = some (.dK (exdM x.ns x.μ)) := h.is.is .exd _ rfl
theorem TabO.nds (h : TabO x H) : H (x.μ .nds) = some (.lst (refsB x.bn)) := h.is.is .nds _ rfl
theorem TabO.rcd (h : TabO x H) : H (x.μ .rcd) = some (.lst (refsB x.br)) := h.is.is .rcd _ rfl
theorem TabO.ear (h : TabO x H) : H (x.μ .ear) = some (.lst (refsB x.be)) := h.is.is .ear _ rfl
theorem TabO.hel (h : TabO x H) : H (x.μ .hel) = some (.lst (x.c.held.map .str)) := h.is.is .hel _ rfl
theorem TabO.chd (h : TabO x H) : H (x.μ .chd) = some (.dK (chdM x.μ x.c.ch)) := h.is.is .chd _ rfl
theorem TabO.exi (h : TabO x H) (hm : m ∈ x.ns) : H (x.μ (.exi m)) = some (.dK (dS V.int (x.c.ex m))) := h.is.is (.exi m) _ (if_pos hm)
theorem TabO.gm (h : TabO x H) {k : Str} {a : Addr} (e : valV (mD x.μ) (Sum.inr k) = some (.ref a)) : DGet H (x.μ .m) (.str k) (some (.ref a)) := Or.inl ⟨_, Sum.inr k, Or.inl h.hm, rfl, e.symm⟩
theorem TabO.gsts (h : TabO x H) : DGet H (x.μ .m) (.str "states") (some (.ref (x.μ .sts))) := h.gm rfl
theorem TabO.gexd (h : TabO x H) : DGet H (x.μ .m) (.str "exports") (some (.ref (x.μ .exd))) := h.gm rfl
theorem TabO.gnds (h : TabO x H) : DGet H (x.μ .m) (.str "needs") (some (.ref (x.μ .nds))) := h.gm rfl
theorem TabO.grcd (h : TabO x H) : DGet H (x.μ .m) (.str "recorded") (some (.ref (x.μ .rcd))) := h.gm rfl
theorem TabO.gear (h : TabO x H) : DGet H (x.μ .m) (.str "early") (some (.ref (x.μ .ear))) := h.gm rfl
theorem TabO.ghel (h : TabO x H) : DGet H (x.μ .m) (.str "held") (some (.ref (x.μ .hel))) := h.gm rfl
theorem TabO.gchd (h : TabO x H) : DGet H (x.μ .m) (.str "chains") (some (.ref (x.μ .chd))) := h.gm rfl
theorem TabO.gst (h : TabO x H) (hm : m ∈ x.ns) : DGet H (x.μ .sts) (.str m) (some (.str (x.c.st m))) := dg_s (f := V.str) h.sts (v := x.c.st m) (by rw [lookM, if_pos hm])
theorem TabO.gex (h : TabO x H) (hm : m ∈ x.ns) : DGet H (x.μ .exd) (.str m) (some (.ref (x.μ (.exi m)))) := dg_s (f := fun n => V.ref (x.μ (.exi n))) h.exd (v := m) (by rw [lookM (f := fun n => n), if_pos hm])
theorem TabO.gch (h : TabO x H) {l : List Str} (e : lookA x.c.ch m = some l) : DGet H (x.μ .chd) (.str m) (some (.ref (x.μ (.cht m)))) ∧ H (x.μ (.cht m)) = some (.lst (l.map .str)) :=
  ⟨dg_s (f := fun n => V.ref (x.μ (.cht n))) h.chd (v := m) (by rw [lookG, e]; rfl), h.is.is (.cht m) _ (by show (lookA x.c.ch m).map _ = _; rw [e]; rfl)⟩
end
end CR
set_option maxRecDepth 100000
set_option maxHeartbeats 4000000
/-! Cycleready: the law's readings of its tables. -/
namespace CR
open PySem PySem.Spec PyProof.Rows L2 Evl
local macro_rules | `(tactic| walk_at "red") => `(tactic| dsimp only [tNext, tSeq, tRet, tRetN, tDrop, tIfS, tAsg, tPar, tTest, tB, tNot, tAnd, tOr, tCB, tCons, tNil, tCall, tOp, tUn, tVar, tC, tIf])
local macro_rules | `(tactic| walk_at "nrm") => `(tactic| dsimp only [gName, tNext])
structure RInv (E : Str → Str → Prop) (U : List Str) (a : Str) (fs : List Str) (i : Nat) : Prop where
  nd : fs.Nodup
  sub : ∀ x ∈ fs, x ∈ U
  rch : ∀ x ∈ fs, Rch E a x
  st : a ∈ fs
  cl : ∀ x ∈ fs.take i, ∀ y, E x y → y ∈ fs
theorem atI_nat {α : Type} {xs : List α} {j : Nat} {v : α} (h : xs[j]? = some v) : atI xs (j : Int) = some v := by
  unfold atI
  have hj := (List.getElem?_eq_some_iff.mp h).1
  rw [ixN_nat hj]
  exact h
/-! ### pairs as data -/
theorem dpAll_pairs {K : PySem.W.Frag} {H : Hp} : ∀ {bs : PB3}, Prs H bs → DpAll K H (refsB bs) ((bs.map (·.2)).map enc2)
  | [], _ => .nil
  | b :: bs, h => .cons (dp_pair (h b List.mem_cons_self)) (dpAll_pairs fun c hc => h c (List.mem_cons_of_mem _ hc))
theorem eqv_enc2 (p q : Str × Str) : PyData.eqv (enc2 p) (enc2 q) = decide (p = q) := by
  have h1 : PyData.eqv (enc2 p) (enc2 q) = (PyData.eqv (.str p.1) (.str q.1) && (PyData.eqv (.str p.2) (.str q.2) && true)) := by simp [enc2, PyData.eqv, PyData.eqvAll]
  rw [h1, eqv_str, eqv_str, Bool.and_true, Bool.eq_iff_iff, Bool.and_eq_true, decide_eq_true_eq, decide_eq_true_eq, decide_eq_true_eq]
  exact ⟨fun h => Prod.ext h.1 h.2, fun h => by rw [h]; exact ⟨rfl, rfl⟩⟩
theorem any_enc2 (l : List (Str × Str)) (p : Str × Str) : ((l.map enc2).any fun z => PyData.eqv z (enc2 p)) = decide (p ∈ l) := by
  rw [List.any_map, Bool.eq_iff_iff, List.any_eq_true, decide_eq_true_eq]
  constructor
  · rintro ⟨q, hq, e⟩
    have e : PyData.eqv (enc2 q) (enc2 p) = true := e
    rw [eqv_enc2, decide_eq_true_eq] at e
    exact e ▸ hq
  · intro h
    exact ⟨p, h, by show PyData.eqv (enc2 p) (enc2 p) = true; rw [eqv_enc2]; exact decide_eq_true rfl⟩
theorem canLay_enc2 {p : Str × Str} (h1 : okName p.1) (h2 : okName p.2) : (enc2 p).canLay0 = true := by
  simp [enc2, PyData.canLay0, PyData.canLayAll0, ok_str h1, ok_str h2]
theorem canLay_enc2s : ∀ l : List (Str × Str), (∀ p ∈ l, okName p.1 ∧ okName p.2) → PyData.canLayAll0 (l.map enc2) = true
  | [], _ => by simp [PyData.canLayAll0]
  | p :: l, h => by
    rw [List.map_cons, PyData.canLayAll0, canLay_enc2s l fun y hy => h y (List.mem_cons_of_mem _ hy), canLay_enc2 (h p List.mem_cons_self).1 (h p List.mem_cons_self).2]
    rfl
theorem depth_enc2s : ∀ l : List (Str × Str), PyData.depthAll (l.map enc2) ≤ 1
  | [] => by simp [PyData.depthAll]
  | p :: l => by
    rw [List.map_cons, PyData.depthAll, depth_p2]
    have := depth_enc2s l
    omega
theorem shaped_enc2s (l : List (Str × Str)) (h : ∀ p ∈ l, okName p.1 ∧ okName p.2) : SeqAt.shaped (.list (l.map enc2)) = true := by
  unfold SeqAt.shaped
  rw [PyData.canLay0, canLay_enc2s l h, PyData.depth]
  have := depth_enc2s l
  simp
  omega
theorem shaped_enc2 {p : Str × Str} (h1 : okName p.1) (h2 : okName p.2) : SeqAt.shaped (enc2 p) = true := by
  unfold SeqAt.shaped
  rw [canLay_enc2 h1 h2, depth_p2]
  rfl
section
variable {P : Program} {w : World} {K : PySem.W.Frag} {mg : Str → Option Value} {base : Heap}
def sp_l_reach (K : PySem.W.Frag) : Sp := Pm (fun x : Addr × PB3 × List Str × Str => [.ref x.1, .str x.2.2.2]) fun x H Q => SqL K H x.1 (refsB x.2.1) ∧ Prs H x.2.1 ∧ x.2.1.length ≤ 10000 ∧ (∀ b ∈ x.2.1, b.2.1 ∈ x.2.2.1 ∧ b.2.2 ∈ x.2.2.1) ∧ x.2.2.2 ∈ x.2.2.1 ∧ x.2.2.1.length ≤ 50 ∧
  ∀ ks, ks.Nodup → ks.length ≤ 50 → (∀ y, y ∈ ks ↔ Rch (Eb x.2.1) x.2.2.2 y) → RetL ((srtS ks).map .str) H Q
theorem sp_l_reach_len (K : PySem.W.Frag) : ∀ vs H Q E, sp_l_reach K vs H Q E → vs.length = 2 := Pm.len fun _ => rfl
abbrev s_l_reach : Stmt := (top 36)
theorem sc_l_reach : FnScope ["_law_pairs", "_law_name", "_law_found", "_law_at", "_law_source", "_law_target"] ["_law_pairs", "_law_name"] (defScope s_l_reach) := ⟨rfl, rfl, rfl, by decide +kernel, rfl, by decide +kernel, by decide +kernel⟩
theorem ok_l_reach (T : Txt K mg) : Okd P w K mg base 1 (aF K "_law_reach") ["_law_pairs", "_law_name"] (sp_l_reach K) := by
  obtain ⟨fd, F⟩ := T.f_l_reach
  refine Okd.mk F sc_l_reach (sp_l_reach_len K) (fun _ _ _ _ _ _ us hl => match us, hl with | [_, _], _ => rfl) (fun cdv A outer s H vs Q E hr h => ?_)
  have hu := hu_of hr
  refine ⟨_, (pss_cons (ps_par (i := 2) (j := 3) (by rfl) sc_l_reach.nd rfl rfl (by decide) rfl rfl (pa_cons (pe_lst (pa_cons (pv 1) pa_nil)) (pa_cons pe_int pa_nil)) (by rfl))
    (pss_cons (ps_while PassesOwn.never (pt_cmpR op_lt (pv 3) (pe_callB (call_len_seqK (K := K) rfl) (by rfl) T.b_len (by decide +kernel) (pa_cons (pv 2) pa_nil)) (nomark _)) (pss_cons (ps_for PassesOwn.never rfl (pi_listK (K := K) rfl (pv 0)) (pg_tupK (K := K) (n := 2) rfl rfl (pgs_cons (pg_name (i := 4) sc_l_reach.nd rfl (Or.inl rfl) (Or.inl rfl)) (pgs_cons (pg_name (i := 5) sc_l_reach.nd rfl (Or.inl rfl) (Or.inl rfl)) pgs_nil)))
    (pss_one (ps_if (PW.pt (pw_and (pt_cmpR op_eq (pv 4) (pe_ix (ix_listK (K := K) rfl) (pv 2) (pv 3) (fun _ _ => rfl)) (nomark _)) (pw_and1 (pt_cmpR (op_notIn_seqK (K := K) rfl) (pv 5) (pv 2) (by rfl))))) (pss_one (ps_expr (pe_bm PySem.F.plainAttrs_list PySem.F.slot_list_append PySem.F.type_list_append mt_append (pv 2) (pa_cons (pv 5) pa_nil)))) pss_nil)))
    (pss_one (ps_set (i := 3) sc_l_reach.nd rfl (Or.inl rfl) (pe_op op_add (pv 3) pe_int)))))
    (pss_one (ps_ret (pe_callB (cr_sortedSK (K := K) rfl) (by rfl) T.b_sorted (by decide +kernel) (pa_cons (pv 2) pa_nil)))))), ?_⟩
  obtain ⟨⟨a, bs, U, n⟩, rfl, ha, hP, hbl, hb, hn, hU, k⟩ := h
  dsimp only at ha hP hbl hb hn hU k
  have lenU : ∀ ks : List Str, ks.Nodup → (∀ x ∈ ks, x ∈ U) → ks.length ≤ U.length := fun ks nd h => nd.length_le_of_subset h
  refine ⟨_, rfl, sz_of (n := 1) (by decide), fun L hL => ⟨_, _, rfl, ?_⟩⟩
  have e0 := Ex.new (o := HO.lst [V.str n]) hL
  have h0 : upd H L (.lst [V.str n]) L = some (.lst ([n].map .str)) := upd_same
  generalize upd H L (.lst [V.str n]) = H0 at e0 h0 ⊢
  refine q_while (fun m σ' H' => ∃ fs i y4 y5, σ' = [some (.ref a), some (.str n), some (.ref L), some (.int (i : Nat)), y4, y5] ∧ Ex H H' ∧ H' L = some (.lst (fs.map .str)) ∧ RInv (Eb bs) U n fs i ∧ i ≤ fs.length ∧ m = U.length - i) U.length
    ⟨[n], 0, none, none, rfl, e0, h0, ⟨by simp, fun x hx => by rw [List.mem_singleton.mp hx]; exact hn, fun x hx => by rw [List.mem_singleton.mp hx]; exact .refl, List.mem_singleton.mpr rfl, fun x hx => absurd hx (by simp)⟩, Nat.zero_le _, rfl⟩ ?_
  rintro m σ' H1 ⟨fs, i, y4, y5, rfl, e1, h1, inv, hi, rfl⟩
  have hfU := lenU fs inv.nd inv.sub
  refine ⟨decide ((i : Int) < ((fs.map V.str).length : Int)), fun H2 e2 Q q => ⟨_, rfl, _, rfl, L, _, rfl, Or.inl (sq_of (e2 _ _ h1)), _, _, rfl, rfl, _, rfl, q H2 (Ex.refl _)⟩, fun hb2 H2 e2 => ?_, fun hb2 H2 e2 => ?_⟩
  · have hlt := of_decide_eq_true hb2
    rw [List.length_map] at hlt
    have hlt : i < fs.length := by omega
    have hq : fs[i]? = some fs[i] := by simp [hlt]
    generalize fs[i] = c at hq
    refine ⟨fun σ2 H2 => ∃ fs i' y4 y5, σ2 = [some (.ref a), some (.str n), some (.ref L), some (.int (i' : Nat)), y4, y5] ∧ Ex H H2 ∧ H2 L = some (.lst (fs.map .str)) ∧ RInv (Eb bs) U n fs i' ∧ i' ≤ fs.length ∧ i' = i + 1, fun σ2 H2 ⟨fs', i', z4, z5, p1, p2, p3, p4, p5, p6⟩ => ⟨U.length - i', by omega, fs', i', z4, z5, p1, p2, p3, p4, p5, rfl⟩, ?_⟩
    refine q_forL (ev_var rfl) (ex_l (e1.trans e2) ha) (fun j σ' H' => ∃ fs' y4 y5, σ' = [some (.ref a), some (.str n), some (.ref L), some (.int (i : Nat)), y4, y5] ∧ Ex H H' ∧ H' L = some (.lst (fs'.map .str)) ∧ RInv (Eb bs) U n fs' i ∧ i < fs'.length ∧ fs'[i]? = some c ∧ ∀ q ∈ (bs.map (·.2)).take j, q.1 = c → q.2 ∈ fs')
      (fun H3 e3 => ⟨fs, _, _, rfl, (e1.trans e2).trans e3, (e2.trans e3) _ _ h1, inv, hlt, hq, fun q hq => absurd hq (by simp)⟩) (fun j σ' H' _ ⟨_, _, _, _, p, _⟩ => ex_l p ha) (fun j v σ' H' hj pr => ?_) (fun σ' H' pr => ?_)
    · obtain ⟨fs', z4, z5, rfl, e3, h3, inv3, hl3, hc3, hp3⟩ := pr
      obtain ⟨b, hb3, rfl⟩ := at_map hj
      have hbm := List.mem_of_getElem? hb3
      obtain ⟨u1, u2⟩ := hb b hbm
      have hp2 : (bs.map (·.2))[j]? = some b.2 := by
        rw [List.getElem?_map, hb3]
        rfl
      have tk : (bs.map (·.2)).take (j + 1) = (bs.map (·.2)).take j ++ [b.2] := by
        rw [List.take_add_one, hp2]
        rfl
      have hfU3 := lenU fs' inv3.nd inv3.sub
      have hxi : (fs'.map V.str)[i]? = some (.str c) := by
        rw [List.getElem?_map, hc3]
        rfl
      refine ⟨_, _, rfl, st_of (e3 _ _ (hP b hbm)), rfl, _, _, rfl, _, _, rfl, ⟨rfl, ?_⟩⟩
      refine ⟨_, rfl, _, rfl, _, rfl, L, _, _, _, rfl, rfl, sq_of h3, atI_nat hxi, rfl, _, rfl, ?_⟩
      rw [dec_V]
      by_cases m1 : b.2.1 = c
      · rw [decide_eq_true m1]
        refine it_t (by rfl) ⟨_, rfl, _, rfl, L, _, rfl, Or.inl (sq_of h3), rfl, flat_strs2 fs', _, rfl, ?_⟩
        rw [if_pos rfl, inV_str]
        by_cases m2 : b.2.2 ∈ fs'
        · rw [decide_eq_true m2]
          refine it_f (by rfl) ⟨fs', _, _, rfl, e3, h3, inv3, hl3, hc3, fun q hq e => ?_⟩
          rw [tk] at hq
          rcases List.mem_append.mp hq with z | z
          · exact hp3 q z e
          · rw [List.mem_singleton.mp z]
            exact m2
        · rw [decide_eq_false m2]
          refine it_t (by rfl) ⟨_, rfl, Or.inl ⟨rfl, _, sq_of h3⟩, _, rfl, L, _, _, rfl, rfl, h3, by rw [List.length_map]; exact sz_lt (by omega), ?_⟩
          have ee : fs'.map V.str ++ [V.str b.2.2] = (fs' ++ [b.2.2]).map V.str := by rw [List.map_append]; rfl
          rw [ee]
          refine ⟨fs' ++ [b.2.2], _, _, rfl, Ex.mut e3 hL, upd_same, ⟨?_, fun x hx => ?_, fun x hx => ?_, List.mem_append_left _ inv3.st, fun x hx y hy => ?_⟩, ?_, ?_, fun q hq e => ?_⟩
          · rw [List.nodup_append]
            exact ⟨inv3.nd, by simp, fun u hu v hv => by rw [List.mem_singleton.mp hv]; exact ne_mem hu m2⟩
          · rcases List.mem_append.mp hx with z | z
            · exact inv3.sub x z
            · rw [List.mem_singleton.mp z]
              exact u2
          · rcases List.mem_append.mp hx with z | z
            · exact inv3.rch x z
            · rw [List.mem_singleton.mp z]
              refine (inv3.rch c (List.mem_of_getElem? hc3)).step ?_
              show (c, b.2.2) ∈ bs.map (·.2)
              rw [← m1]
              exact List.mem_map.mpr ⟨b, hbm, rfl⟩
          · rw [List.take_append_of_le_length (by omega)] at hx
            exact List.mem_append_left _ (inv3.cl x hx y hy)
          · rw [List.length_append]
            omega
          · rw [List.getElem?_append_left hl3]
            exact hc3
          · rw [tk] at hq
            rcases List.mem_append.mp hq with z | z
            · exact List.mem_append_left _ (hp3 q z e)
            · rw [List.mem_singleton.mp z]
              exact List.mem_append_right _ (List.mem_singleton.mpr rfl)
      · rw [decide_eq_false m1]
        refine it_f (by rfl) (it_f (by rfl) ⟨fs', _, _, rfl, e3, h3, inv3, hl3, hc3, fun q hq e => ?_⟩)
        rw [tk] at hq
        rcases List.mem_append.mp hq with z | z
        · exact hp3 q z e
        · rw [List.mem_singleton.mp z] at e
          exact absurd e m1
    · obtain ⟨fs', z4, z5, rfl, e3, h3, inv3, hl3, hc3, hp3⟩ := pr
      rw [show (refsB bs).length = (bs.map (·.2)).length by rw [List.length_map]; exact List.length_map _, List.take_length] at hp3
      refine ⟨_, rfl, _, _, rfl, rfl, fs', i + 1, _, _, rfl, e3, h3, ⟨inv3.nd, inv3.sub, inv3.rch, inv3.st, fun x hx y hy => ?_⟩, hl3, rfl⟩
      rw [List.take_add_one, hc3] at hx
      rcases List.mem_append.mp hx with z | z
      · exact inv3.cl x z y hy
      · have : x = c := by simpa using z
        rw [this] at hy
        exact hp3 _ hy rfl
  · have hlt := of_decide_eq_false hb2
    rw [List.length_map] at hlt
    have hie : i = fs.length := by omega
    have hcl := inv.cl
    rw [hie, List.take_length] at hcl
    refine ⟨_, rfl, L, fs, rfl, sq_of (e2 _ _ h1), by omega, fun ys p hpm hs hp => ?_⟩
    rw [srtS_rule hpm hs]
    exact k fs inv.nd (by omega) (fun y => ⟨inv.rch y, fun hr => hr.closed inv.st fun b c hb hbc => hcl b hb c hbc⟩) p _ (fresh_back (e1.trans e2) hp) ((e1.trans e2).trans (Ex.new hp)) upd_same
def TabAt (sn : List Str) (B : Nat) (g r : Graph) (x : MX) (H : Hp) : Prop := TabO x H ∧ MOk B sn g r x
theorem MOk.mem {B : Nat} {sn : List Str} {g r : Graph} {x : MX} (h : MOk B sn g r x) {n : Str} : n ∈ x.ns ↔ n ∈ sn := by
  rw [← h.srt, mem_srtS]
theorem MOk.bln {B : Nat} {sn : List Str} {g r : Graph} {x : MX} (h : MOk B sn g r x) : x.bn.length ≤ 1600 ∧ x.br.length ≤ 1600 ∧ x.be.length ≤ 10000 ∧ ∀ b ∈ x.bn, b.2.1 ∈ sn ∧ b.2.2 ∈ sn := by
  have hh : ∀ (l : List (Str × Str)), l.Nodup → (∀ p ∈ l, p.1 ∈ sn ∧ p.2 ∈ sn) → l.length ≤ 1600 := fun l nd hl => by
    have h1 := nd.length_le_of_subset (l₂ := sn.flatMap fun a => sn.map fun b => (a, b)) fun p hp => by
      obtain ⟨h1, h2⟩ := hl p hp
      exact List.mem_flatMap.mpr ⟨p.1, h1, List.mem_map.mpr ⟨p.2, h2, rfl⟩⟩
    have h2 : (sn.flatMap fun a => sn.map fun b => (a, b)).length = sn.length * sn.length := by
      rw [List.length_flatMap]
      have : (fun a : Str => (sn.map fun b => (a, b)).length) = fun _ => sn.length := funext fun a => List.length_map _
      rw [this, List.map_const', List.sum_replicate_nat]
    have h3 := h.ok.len
    have h4 : sn.length * sn.length ≤ 40 * 40 := Nat.mul_le_mul h3 h3
    omega
  have hn : ∀ p ∈ x.bn.map (·.2), p.1 ∈ sn ∧ p.2 ∈ sn := fun p hp => h.ok.gin.tg ((h.ng p.1 p.2).mp hp)
  have hr : ∀ p ∈ x.br.map (·.2), p.1 ∈ sn ∧ p.2 ∈ sn := fun p hp => h.ok.rin.tg ((h.rg p.1 p.2).mp hp)
  have l1 := hh _ h.nn hn
  have l2 := hh _ h.rn hr
  rw [List.length_map] at l1 l2
  refine ⟨l1, l2, ?_, fun b hb => hn b.2 (List.mem_map.mpr ⟨b, hb, rfl⟩)⟩
  have := h.ok.elen
  rw [← h.be, List.length_map] at this
  exact this
theorem MOk.E {B : Nat} {sn : List Str} {g r : Graph} {x : MX} (h : MOk B sn g r x) : Eb x.bn = Eg g := by
  funext a b
  exact propext (h.ng a b)
theorem TabAt.ex {sn : List Str} {B : Nat} {g r : Graph} {x : MX} {H H' : Hp} (h : TabAt sn B g r x H) (e : Ex H H') : TabAt sn B g r x H' := ⟨h.1.ex e, h.2⟩
structure MQ where
  sn : List Str
  B : Nat
  g : Graph
  r : Graph
  x : MX
def sp_l_answer (K : PySem.W.Frag) : Sp := Pm (fun x : MQ × Option Str × Str => [.ref (x.1.x.μ .m), vO x.2.1, .str x.2.2]) fun x H Q => TabAt x.1.sn x.1.B x.1.g x.1.r x.1.x H ∧ x.2.2 ∈ x.1.sn ∧ (∀ s, x.2.1 = some s → s ∈ x.1.sn) ∧
  RetV (.str (ansC x.1.x.c (Eg x.1.g) x.2.1 x.2.2)) H Q
theorem sp_l_answer_len (K : PySem.W.Frag) : ∀ vs H Q E, sp_l_answer K vs H Q E → vs.length = 3 := Pm.len fun _ => rfl
abbrev s_l_answer : Stmt := (top 37)
theorem sc_l_answer : FnScope ["_law_m", "_law_source", "_law_target", "_law_state"] ["_law_m", "_law_source", "_law_target"] (defScope s_l_answer) := ⟨rfl, rfl, rfl, by decide +kernel, rfl, by decide +kernel, by decide +kernel⟩
theorem ok_l_answer (T : Txt K mg) : Okd P w K mg base 2 (aF K "_law_answer") ["_law_m", "_law_source", "_law_target"] (sp_l_answer K) := by
  obtain ⟨fd, F⟩ := T.f_l_answer
  refine Okd.mk F sc_l_answer (sp_l_answer_len K) (fun _ _ _ _ _ _ us hl => match us, hl with | [_, _, _], _ => rfl) (fun cdv A outer s H vs Q E hr h => ?_)
  have hu := hu_of hr
  refine ⟨_, (pss_cons (ps_set (i := 3) sc_l_answer.nd rfl (Or.inl rfl) (pe_dget hu (pe_dget hu (pv 0) pe_str (fun _ _ => rfl)) (pv 2) (fun _ _ => rfl)))
    (pss_cons (ps_if (pt_cmpR (op_in_seqK (K := K) rfl) (pv 3) (pe_tup (pa_cons pe_str (pa_cons pe_str pa_nil))) (by rfl)) (pss_one (ps_ret (pv 3))) pss_nil)
    (pss_cons (ps_if (pt_cmp (pc_isN (pv 1))) (pss_one (ps_ret pe_str)) pss_nil)
    (pss_cons (ps_if (PW.pt (pw_or (pt_cmpR (op_inDK (K := K) rfl (u65 hr)) (pe_tup (pa_cons (pv 1) (pa_cons (pv 2) pa_nil))) (pe_dget hu (pv 0) pe_str (fun _ _ => rfl)) (by rfl)) (pw_or1 (pt_cmpR (op_in_seqK (K := K) rfl) (pv 1) (pe_callO (ok_l_reach (K := K) T) (hr.mono (by decide)) rfl T.g__law_reach T.k__law_reach (pa_cons (pe_dget hu (pv 0) pe_str (fun _ _ => rfl)) (pa_cons (pv 2) pa_nil))) (by rfl))))) (pss_one (ps_ret pe_str)) pss_nil)
    (pss_one (ps_ret pe_str)))))), ?_⟩
  obtain ⟨⟨⟨sn, B, g, r, x⟩, s, t⟩, rfl, hT, ht, hs, k⟩ := h
  dsimp only at hT ht hs k
  refine ⟨_, rfl, _, _, rfl, hT.1.gsts, _, rfl, _, _, rfl, hT.1.gst (hT.2.mem.mpr ht), ?_⟩
  refine ⟨_, rfl, sz_of (n := 2) (by decide), fun p hp => ⟨p, [V.str "ready", V.str "failed"], rfl, Or.inr (st_of upd_same), rfl, rfl, _, rfl, ?_⟩⟩
  have e1 := Ex.new (o := HO.tup [V.str "ready", V.str "failed"]) hp
  have ei : inV (V.str (x.c.st t)) [V.str "ready", V.str "failed"] = decide (x.c.st t = "ready" ∨ x.c.st t = "failed") := by
    rw [show [V.str "ready", V.str "failed"] = (["ready", "failed"] : List Str).map V.str from rfl, inV_str, decide_eq_decide]
    simp
  rw [if_neg Bool.false_ne_true, ei]
  have hT1 := hT.ex e1
  generalize upd H p (.tup [V.str "ready", V.str "failed"]) = H1 at e1 hT1 ⊢
  by_cases m : x.c.st t = "ready" ∨ x.c.st t = "failed"
  · have := k H1 e1
    unfold ansC at this
    rw [if_pos m] at this
    exact it_t (decide_eq_true m) ⟨_, rfl, this⟩
  · refine it_f (decide_eq_false m) ?_
    cases s with
    | none =>
      have := k H1 e1
      unfold ansC at this
      rw [if_neg m] at this
      exact ⟨_, rfl, _, rfl, it_t (by rfl) this⟩
    | some s =>
      have hss := hs s rfl
      refine ⟨_, rfl, _, rfl, it_f (by rfl) ?_⟩
      have hee : ∀ p ∈ x.c.early, okName p.1 ∧ okName p.2 := fun p hp => ⟨hT.2.ok.nm _ (hT.2.ok.ein p hp).1, hT.2.ok.nm _ (hT.2.ok.ein p hp).2⟩
      refine ⟨_, rfl, _, rfl, sz_of (n := 2) (by decide), fun q hq => ?_⟩
      have e2 := Ex.new (o := HO.tup [V.str s, V.str t]) hq
      have hT2 := hT1.ex e2
      have hbe := hT2.2.be
      refine ⟨_, rfl, _, _, rfl, hT2.1.gear, enc2 (s, t), (x.be.map (·.2)).map enc2, dp_pair upd_same, .lst (sq_of hT2.1.ear) (dpAll_pairs hT2.1.pe), shaped_enc2 (hT.2.ok.nm s hss) (hT.2.ok.nm t ht), shaped_enc2s _ (by rw [hbe]; exact hee), _, rfl, ?_⟩
      rw [any_enc2, hbe]
      by_cases m1 : (s, t) ∈ x.c.early
      · rw [decide_eq_true m1]
        have := k _ (e1.trans e2)
        unfold ansC at this
        dsimp only at this
        rw [if_neg m, if_pos (Or.inl m1)] at this
        exact it_t (by rfl) (it_t (by rfl) this)
      · rw [decide_eq_false m1]
        obtain ⟨l1, l2, l3, l4⟩ := hT.2.bln
        have hn := hT.2.ok.len
        refine it_f (by rfl) ⟨_, rfl, _, rfl, _, _, rfl, hT2.1.gnds, _, rfl, (x.μ .nds, x.bn, sn, t), rfl, sq_of hT2.1.nds, hT2.1.pn, by show x.bn.length ≤ 10000; omega, l4, ht, by show sn.length ≤ 50; omega, fun ks nd hkl hch p2 H3 hp2 e3 h3 => ⟨p2, _, rfl, Or.inl (sq_of h3), rfl, flat_strs2 _, _, rfl, ?_⟩⟩
        rw [if_neg Bool.false_ne_true, inV_str]
        have := k _ ((e1.trans e2).trans e3)
        unfold ansC at this
        dsimp only at this
        rw [if_neg m] at this
        have hE := hT.2.E
        dsimp only at hE hch
        rw [hE] at hch
        by_cases m2 : s ∈ srtS ks
        · rw [decide_eq_true m2]
          rw [if_pos (Or.inr ((hch s).mp (mem_srtS.mp m2)))] at this
          exact it_t (by rfl) this
        · rw [decide_eq_false m2]
          rw [if_neg (fun z => z.elim m1 fun y => m2 (mem_srtS.mpr ((hch s).mpr y)))] at this
          exact it_f (by rfl) this
end
end CR
set_option maxRecDepth 100000
set_option maxHeartbeats 4000000
/-! Cycleready: what is written in the law's tables. -/
namespace CR
open PySem PySem.Spec PyProof.Rows L2 Evl
def putM (μ : Mo → Addr) (i : Mo) (p : Addr) : Mo → Addr := fun j => if j = i then p else μ j
theorem exdM_eq {ns : List Str} {μ : Mo → Addr} : exdM ns μ = ns.map fun n => (Sum.inr n, V.ref (μ (.exi n))) := by
  unfold exdM dS
  rw [List.map_map]
  rfl
theorem exdM_put {ns : List Str} {μ : Mo → Addr} {m : Str} {p : Addr} (h : m ∈ ns) : putK (exdM ns μ) (Sum.inr m) (.ref p) = exdM ns (putM μ (.exi m) p) := by
  have e : exdM ns μ = dS V.ref (ns.map fun n => (n, μ (.exi n))) := by
    rw [exdM_eq]
    unfold dS
    rw [List.map_map]
    rfl
  rw [e, putK_dS, putA_M h, exdM_eq]
  unfold dS
  rw [List.map_map]
  refine List.map_congr_left fun n _ => ?_
  show (Sum.inr n, V.ref (upd1 (fun n => μ (.exi n)) m p n)) = (Sum.inr n, V.ref (putM μ (.exi m) p (.exi n)))
  unfold upd1 putM
  by_cases z : n = m
  · rw [if_pos z, if_pos (by rw [z])]
  · rw [if_neg z, if_neg (fun y => z (by injection y))]
theorem chdM_eq {μ : Mo → Addr} {ch : List (Str × List Str)} : chdM μ ch = chdD (fun n => μ (.cht n)) ch := rfl
section
variable {x x' : MX} {H H' : Hp} {m : Str}
def MX.setSt (x : MX) (m v : Str) : MX := { x with c := { x.c with st := upd1 x.c.st m v } }
theorem TabO.setSt (h : TabO x H) (hm : m ∈ x.ns) (v : Str) : TabO (x.setSt m v) (upd H (x.μ .sts) (.dK (putK (stsD x.ns x.c.st) (Sum.inr m) (.str v)))) ∧ TStp x H (x.setSt m v) (upd H (x.μ .sts) (.dK (putK (stsD x.ns x.c.st) (Sum.inr m) (.str v)))) := by
  rw [stsD_put hm]
  exact h.set (x' := x.setSt m v) (i := .sts) rfl _ rfl (fun j => by cases j <;> rfl) h.pn h.pr h.pe
def MX.setEx (x : MX) (m n : Str) (v : Int) : MX := { x with c := expC x.c m n v }
theorem TabO.setEx (h : TabO x H) (hm : m ∈ x.ns) (n : Str) (v : Int) : TabO (x.setEx m n v) (upd H (x.μ (.exi m)) (.dK (putK (dS V.int (x.c.ex m)) (Sum.inr n) (.int v)))) ∧ TStp x H (x.setEx m n v) (upd H (x.μ (.exi m)) (.dK (putK (dS V.int (x.c.ex m)) (Sum.inr n) (.int v)))) := by
  rw [putK_dS]
  refine h.set (x' := x.setEx m n v) (i := .exi m) (by show (if m ∈ x.ns then some _ else none).isSome = true; rw [if_pos hm]; rfl) _ rfl (fun j => ?_) h.pn h.pr h.pe
  cases j with
  | exi k =>
    show (if k ∈ x.ns then some (HO.dK (dS V.int (upd1 x.c.ex m (putA (x.c.ex m) n v) k))) else none) = if Mo.exi k = Mo.exi m then _ else if k ∈ x.ns then some (HO.dK (dS V.int (x.c.ex k))) else none
    by_cases z : k = m
    · subst z
      rw [if_pos hm, if_pos rfl, upd1_same]
    · rw [if_neg (fun y : Mo.exi k = Mo.exi m => z (by injection y)), upd1_ne z]
  | _ => rfl
def MX.clrEx (x : MX) (m : Str) (p : Addr) : MX := { x with μ := putM x.μ (.exi m) p, c := { x.c with ex := upd1 x.c.ex m [] } }
theorem clrEx_C (hm : m ∈ x.ns) (p : Addr) (j : Mo) : CM (x.clrEx m p) j = if j = .exd then some (.dK (exdM x.ns (putM x.μ (.exi m) p))) else if j = .exi m then some (.dK []) else CM x j := by
  cases j with
  | exi k =>
    show (if k ∈ x.ns then some (HO.dK (dS V.int (upd1 x.c.ex m [] k))) else none) = if Mo.exi k = Mo.exd then _ else if Mo.exi k = Mo.exi m then _ else if k ∈ x.ns then some (HO.dK (dS V.int (x.c.ex k))) else none
    rw [if_neg (fun z : Mo.exi k = Mo.exd => nomatch z)]
    by_cases z : k = m
    · subst z
      rw [if_pos hm, if_pos rfl, upd1_same]
      rfl
    · rw [if_neg (fun y : Mo.exi k = Mo.exi m => z (by injection y)), upd1_ne z]
  | _ => rfl
theorem TabO.clrEx (h : TabO x H) (hm : m ∈ x.ns) {p : Addr} (e : Ex H H') (hp : H p = none) (ho : H' p = some (.dK [])) :
    TabO (x.clrEx m p) (upd H' (x.μ .exd) (.dK (putK (exdM x.ns x.μ) (Sum.inr m) (.ref p)))) ∧ TStp x H (x.clrEx m p) (upd H' (x.μ .exd) (.dK (putK (exdM x.ns x.μ) (Sum.inr m) (.ref p)))) := by
  rw [exdM_put hm]
  exact h.move (x' := x.clrEx m p) (i := .exi m) (k := .exd) e hp ho _ (fun z => nomatch z) rfl (fun _ => rfl) (clrEx_C hm p) (h.pn.ex e) (h.pr.ex e) (h.pe.ex e)
def MX.newN (x : MX) (p : Addr) (b : PB3) : MX := { x with μ := putM x.μ .nds p, bn := b }
theorem TabO.newN (h : TabO x H) {p : Addr} {b : PB3} (e : Ex H H') (hp : H p = none) (ho : H' p = some (.lst (refsB b))) (hb : Prs H' b) :
    TabO (x.newN p b) (upd H' (x.μ .m) (.dK (putK (mD x.μ) (Sum.inr "needs") (.ref p)))) ∧ TStp x H (x.newN p b) (upd H' (x.μ .m) (.dK (putK (mD x.μ) (Sum.inr "needs") (.ref p)))) :=
  h.move (x' := x.newN p b) (i := .nds) (k := .m) e hp ho _ (fun z => nomatch z) rfl (fun _ => rfl) (fun j => by cases j <;> rfl) hb (h.pr.ex e) (h.pe.ex e)
def MX.newR (x : MX) (p : Addr) (b : PB3) : MX := { x with μ := putM x.μ .rcd p, br := b }
theorem TabO.newR (h : TabO x H) {p : Addr} {b : PB3} (e : Ex H H') (hp : H p = none) (ho : H' p = some (.lst (refsB b))) (hb : Prs H' b) :
    TabO (x.newR p b) (upd H' (x.μ .m) (.dK (putK (mD x.μ) (Sum.inr "recorded") (.ref p)))) ∧ TStp x H (x.newR p b) (upd H' (x.μ .m) (.dK (putK (mD x.μ) (Sum.inr "recorded") (.ref p)))) :=
  h.move (x' := x.newR p b) (i := .rcd) (k := .m) e hp ho _ (fun z => nomatch z) rfl (fun _ => rfl) (fun j => by cases j <;> rfl) (h.pn.ex e) hb (h.pe.ex e)
def MX.newE (x : MX) (p : Addr) (b : PB3) (l : List (Str × Str)) : MX := { x with μ := putM x.μ .ear p, be := b, c := { x.c with early := l } }
theorem TabO.newE (h : TabO x H) {p : Addr} {b : PB3} (l : List (Str × Str)) (e : Ex H H') (hp : H p = none) (ho : H' p = some (.lst (refsB b))) (hb : Prs H' b) :
    TabO (x.newE p b l) (upd H' (x.μ .m) (.dK (putK (mD x.μ) (Sum.inr "early") (.ref p)))) ∧ TStp x H (x.newE p b l) (upd H' (x.μ .m) (.dK (putK (mD x.μ) (Sum.inr "early") (.ref p)))) :=
  h.move (x' := x.newE p b l) (i := .ear) (k := .m) e hp ho _ (fun z => nomatch z) rfl (fun _ => rfl) (fun j => by cases j <;> rfl) (h.pn.ex e) (h.pr.ex e) hb
def MX.addE (x : MX) (b : Addr × Str × Str) : MX := { x with be := x.be ++ [b], c := { x.c with early := x.c.early ++ [b.2] } }
theorem TabO.addE (h : TabO x H) {b : Addr × Str × Str} (hb : H b.1 = some (.tup [.str b.2.1, .str b.2.2])) :
    TabO (x.addE b) (upd H (x.μ .ear) (.lst (refsB x.be ++ [.ref b.1]))) ∧ TStp x H (x.addE b) (upd H (x.μ .ear) (.lst (refsB x.be ++ [.ref b.1]))) := by
  have e : refsB x.be ++ [V.ref b.1] = refsB (x.be ++ [b]) := by
    unfold refsB
    rw [List.map_append]
    rfl
  rw [e]
  refine h.set (x' := x.addE b) (i := .ear) rfl _ rfl (fun j => by cases j <;> rfl) h.pn h.pr fun c hc => ?_
  rcases List.mem_append.mp hc with z | z
  · exact h.pe c z
  · rw [List.mem_singleton.mp z]
    exact hb
def MX.helSet (x : MX) (l : List Str) : MX := { x with c := { x.c with held := l } }
theorem TabO.helSet (h : TabO x H) (l : List Str) : TabO (x.helSet l) (upd H (x.μ .hel) (.lst (l.map .str))) ∧ TStp x H (x.helSet l) (upd H (x.μ .hel) (.lst (l.map .str))) :=
  h.set (x' := x.helSet l) (i := .hel) rfl _ rfl (fun j => by cases j <;> rfl) h.pn h.pr h.pe
def MX.chPut (x : MX) (m : Str) (t : Addr) (l : List Str) : MX := { x with μ := putM x.μ (.cht m) t, c := { x.c with ch := putA x.c.ch m l } }
theorem chPut_D (m : Str) (t : Addr) (l : List Str) : putK (chdM x.μ x.c.ch) (Sum.inr m) (.ref t) = chdM (x.chPut m t l).μ (x.chPut m t l).c.ch := by
  rw [chdM_eq, chdM_eq, chdD_put (l := l)]
  unfold chdD
  refine congrArg (fun f => dS f _) (funext fun n => ?_)
  show V.ref (upd1 (fun n => x.μ (.cht n)) m t n) = V.ref (putM x.μ (.cht m) t (.cht n))
  unfold upd1 putM
  by_cases z : n = m
  · rw [if_pos z, if_pos (by rw [z])]
  · rw [if_neg z, if_neg (fun y => z (by injection y))]
theorem chPut_C (m : Str) (t : Addr) (l : List Str) (j : Mo) : CM (x.chPut m t l) j = if j = .chd then some (.dK (chdM (x.chPut m t l).μ (x.chPut m t l).c.ch)) else if j = .cht m then some (.lst (l.map .str)) else CM x j := by
  cases j with
  | cht k =>
    show (lookA (putA x.c.ch m l) k).map (fun l => HO.lst (l.map .str)) = if Mo.cht k = Mo.chd then _ else if Mo.cht k = Mo.cht m then _ else (lookA x.c.ch k).map fun l => HO.lst (l.map .str)
    rw [if_neg (fun z : Mo.cht k = Mo.chd => nomatch z), lookA_putA]
    by_cases z : k = m
    · rw [if_pos z, if_pos (by rw [z])]
      rfl
    · rw [if_neg z, if_neg (fun y : Mo.cht k = Mo.cht m => z (by injection y))]
  | _ => rfl
def MX.chDel (x : MX) (m : Str) : MX := { x with c := { x.c with ch := dropA x.c.ch m } }
/-- the layout may lose a role -/
theorem At.less {ι : Type} {A : ι → Addr} {C C' : ι → Option HO} {H : Hp} (h : At A C H) (hC : ∀ i, C' i = C i ∨ C' i = none) : At A C' H := by
  have l : ∀ i, (C' i).isSome = true → C' i = C i := fun i hi => (hC i).resolve_right fun z => by
    rw [z] at hi
    cases hi
  exact ⟨fun i o e => h.is i o ((l i (by rw [e]; rfl)).symm.trans e), fun i j hi hj e => h.inj i j (l i hi ▸ hi) (l j hj ▸ hj) e⟩
theorem TabO.chDel (h : TabO x H) (m : Str) : TabO (x.chDel m) (upd H (x.μ .chd) (.dK (dropK (chdM x.μ x.c.ch) (Sum.inr m)))) ∧ TStp x H (x.chDel m) (upd H (x.μ .chd) (.dK (dropK (chdM x.μ x.c.ch) (Sum.inr m)))) := by
  rw [chdM_eq, chdD_drop]
  have hc : ∀ i, CM (x.chDel m) i = (if i = .chd then some (.dK (chdD (fun n => x.μ (.cht n)) (dropA x.c.ch m))) else CM x i) ∨ CM (x.chDel m) i = none := fun i => by
    cases i with
    | cht k =>
      by_cases z : k = m
      · right
        show (lookA (dropA x.c.ch m) k).map _ = none
        rw [lookA_dropA, if_pos z]
        rfl
      · left
        show (lookA (dropA x.c.ch m) k).map (fun l => HO.lst (l.map .str)) = if Mo.cht k = Mo.chd then _ else (lookA x.c.ch k).map fun l => HO.lst (l.map .str)
        rw [lookA_dropA, if_neg z, if_neg (fun z : Mo.cht k = Mo.chd => nomatch z)]
    | _ => exact Or.inl rfl
  have l : (CM x .chd).isSome = true := rfl
  have a1 := h.is.set (C' := fun i => if i = .chd then some (.dK (chdD (fun n => x.μ (.cht n)) (dropA x.c.ch m))) else CM x i) l _ (fun _ => rfl)
  have s1 : Stp x.μ (CM x) H x.μ (fun i => if i = .chd then some (.dK (chdD (fun n => x.μ (.cht n)) (dropA x.c.ch m))) else CM x i) _ := Stp.put l (.dK (chdD (fun n => x.μ (.cht n)) (dropA x.c.ch m))) (fun _ => rfl)
  refine ⟨⟨a1.less hc, h.keep l _ h.pn, h.keep l _ h.pr, h.keep l _ h.pe⟩, s1.fr, fun a ⟨i, li, e⟩ => s1.nw a ⟨i, ?_, e⟩⟩
  rcases hc i with z | z
  · rw [z] at li
    exact li
  · rw [z] at li
    cases li
end
end CR
set_option maxRecDepth 100000
set_option maxHeartbeats 4000000
/-! Cycleready: the law's steps on its tables. -/
namespace CR
open PySem PySem.Spec PyProof.Rows L2 Evl
local macro_rules | `(tactic| walk_at "red") => `(tactic| dsimp only [tNext, tSeq, tRet, tRetN, tDrop, tIfS, tAsg, tPar, tTest, tB, tNot, tAnd, tOr, tCB, tCons, tNil, tCall, tOp, tUn, tVar, tC, tIf])
local macro_rules | `(tactic| walk_at "nrm") => `(tactic| dsimp only [gName, tNext])
section
variable {x x' : MX} {H H' : Hp} {m : Str}
theorem TabO.nown (h : TabO x H) {a : Addr} (e : H a = none) : ¬ own x.μ (CM x) a := h.is.not_own e
/-- a role gets an object that stands apart, then the object that leads to it is written -/
theorem TabO.moveO (h : TabO x H) {i k : Mo} {p : Addr} (hn : ¬ own x.μ (CM x) p) {o : HO} (ho : H p = some o) (hot : ∀ xs, o ≠ .tup xs) (u : HO) (hk : i ≠ k) (l : (CM x k).isSome = true) (hμ : ∀ j, x'.μ j = if j = i then p else x.μ j)
    (hC : ∀ j, CM x' j = if j = k then some u else if j = i then some o else CM x j) (en : x'.bn = x.bn) (er : x'.br = x.br) (ee : x'.be = x.be) : TabO x' (upd H (x.μ k) u) ∧ (∀ a v, H a = some v → ¬ own x.μ (CM x) a → upd H (x.μ k) u a = some v) ∧ ∀ a, own x'.μ (CM x') a → own x.μ (CM x) a ∨ a = p := by
  let G : Hp := fun a => if a = p then none else H a
  have hG : ∀ a, a ≠ p → G a = H a := fun a z => if_neg z
  have hGt : G p = none := if_pos rfl
  have ntup : ∀ b : PB3, Prs H b → Prs G b := fun b hb c hc => by
    have e := hb c hc
    rw [hG _ (fun z => by rw [z, ho] at e; exact hot _ (Option.some.inj e))]
    exact e
  have hTG : TabO x G := ⟨h.is.fr fun a ha => hG a fun z => hn (z ▸ ha), ntup _ h.pn, ntup _ h.pr, ntup _ h.pe⟩
  have hE : Ex G H := fun a o e => by
    by_cases z : a = p
    · rw [z, hGt] at e
      cases e
    · rw [hG a z] at e
      exact e
  refine ⟨(hTG.move hE hGt ho u hk l hμ hC (en ▸ h.pn) (er ▸ h.pr) (ee ▸ h.pe)).1, fun a v ha hna => ?_, fun a ⟨j, lj, e⟩ => ?_⟩
  · rw [upd_ne fun z => hna ⟨k, l, z.symm⟩]
    exact ha
  · by_cases z : j = i
    · right
      rw [← e, hμ, if_pos z]
    · left
      rw [hμ, if_neg z] at e
      rw [hC] at lj
      by_cases y : j = k
      · exact ⟨k, l, by rw [← y]; exact e⟩
      · rw [if_neg y, if_neg z] at lj
        exact ⟨j, lj, e⟩
theorem TabO.chPutO (h : TabO x H) (m : Str) {t : Addr} {l : List Str} (hn : ¬ own x.μ (CM x) t) (ho : H t = some (.lst (l.map .str))) :
    TabO (x.chPut m t l) (upd H (x.μ .chd) (.dK (putK (chdM x.μ x.c.ch) (Sum.inr m) (.ref t)))) ∧
    (∀ a o, H a = some o → ¬ own x.μ (CM x) a → upd H (x.μ .chd) (.dK (putK (chdM x.μ x.c.ch) (Sum.inr m) (.ref t))) a = some o) ∧
    ∀ a, own (x.chPut m t l).μ (CM (x.chPut m t l)) a → own x.μ (CM x) a ∨ a = t := by
  rw [chPut_D m t l]
  exact h.moveO (x' := x.chPut m t l) (i := .cht m) (k := .chd) hn ho (fun _ z => nomatch z) _ (fun z => nomatch z) rfl (fun _ => rfl) (chPut_C m t l) rfl rfl rfl
theorem TabO.clrExO (h : TabO x H) (hm : m ∈ x.ns) {p : Addr} (hn : ¬ own x.μ (CM x) p) (ho : H p = some (.dK [])) :
    TabO (x.clrEx m p) (upd H (x.μ .exd) (.dK (putK (exdM x.ns x.μ) (Sum.inr m) (.ref p)))) ∧
    (∀ a o, H a = some o → ¬ own x.μ (CM x) a → upd H (x.μ .exd) (.dK (putK (exdM x.ns x.μ) (Sum.inr m) (.ref p))) a = some o) ∧
    ∀ a, own (x.clrEx m p).μ (CM (x.clrEx m p)) a → own x.μ (CM x) a ∨ a = p := by
  rw [exdM_put hm]
  exact h.moveO (x' := x.clrEx m p) (i := .exi m) (k := .exd) hn ho (fun _ z => nomatch z) _ (fun z => nomatch z) rfl (fun _ => rfl) (clrEx_C hm p) rfl rfl rfl
end
section
variable {P : Program} {w : World} {K : PySem.W.Frag} {mg : Str → Option Value} {base : Heap}
/-- a comprehension over a list -/
theorem lcG {α : Type} {σ : L2.St} {H : Hp} {Q : VK} {wi : TI} {tt : TT} {te : TE} {j : Nat} {vs : List Nat} (enc out : α → V) (Good : List α → Hp → Prop) (P : α → Bool)
    (hwi : ∀ R : It → Hp → Prop, (∀ p l H', Ex H H' → Good l H' → H' p = some (.lst (l.map enc)) → R (Itl K p) H') → wi σ H R)
    (hl : ∀ l H', Good l H' → l.length < 100000)
    (hw : ∀ v, wipe ((wipe σ vs).set j v) vs = wipe σ vs)
    (ht : ∀ l H', Ex H H' → Good l H' → ∀ n ∈ l, ∀ H2, Ex H' H2 → EvT tt ((wipe σ vs).set j (some (enc n))) H2 (P n))
    (he : ∀ l H', Ex H H' → Good l H' → ∀ n ∈ l, P n = true → ∀ H2, Ex H' H2 → Ev te ((wipe σ vs).set j (some (enc n))) H2 (out n))
    (hQ : ∀ l H' p H2, Ex H H' → Good l H' → Ex H' H2 → H p = none → H2 p = some (.lst ((l.filter P).map out)) → Q (.ref p) H2) : tLc wi (gName j) tt te vs σ H Q := by
  refine lcWi (ι := {z : Addr × List α × Hp // Ex H z.2.2 ∧ Good z.2.1 z.2.2 ∧ z.2.2 z.1 = some (.lst (z.2.1.map enc))}) (J := fun z => Itl K z.1.1) (H1 := fun z => z.1.2.2) (n := fun z => (z.1.2.1.map enc).length) (fun z i => (z.1.2.1[i]?.map P).getD false) (fun z i => (z.1.2.1[i]?.map out).getD .non)
    (fun R r => hwi R fun p l H' e g h => r ⟨(p, l, H'), e, g, h⟩) (fun z => walk_list) (fun z => by rw [List.length_map]; exact hl _ _ z.2.2.1) (fun z H' e => sq_of (e _ _ z.2.2.2)) (fun z i x H1 H2 hi e1 y => ?_) (fun z p H' hp e h => ?_)
  · obtain ⟨⟨p, l, H'⟩, e, g, h⟩ := z
    obtain ⟨rfl, hx⟩ := y
    obtain ⟨b, hb1, rfl⟩ := at_map hx
    have hb := List.mem_of_getElem? hb1
    refine ⟨_, Ex.refl _, fun Q q => q, hw _, ?_, fun hp => ?_⟩
    · show EvT _ _ _ ((l[i]?.map P).getD false)
      rw [hb1]
      exact ht l H' e g b hb _ e1
    · have hp : (l[i]?.map P).getD false = true := hp
      rw [hb1] at hp
      show Ev _ _ _ ((l[i]?.map out).getD .non)
      rw [hb1]
      exact he l H' e g b hb hp _ e1
  · obtain ⟨⟨p', l, H''⟩, e', g, h'⟩ := z
    refine hQ l H'' p H' e' g e (fresh_back e' hp) (h.trans ?_)
    show some (HO.lst (given (l.map enc).length _ _)) = _
    rw [List.length_map, given_filter l P out _ _ (fun i x hx => ⟨by show (l[i]?.map P).getD false = _; rw [hx]; rfl, by show (l[i]?.map out).getD _ = _; rw [hx]; rfl⟩)]
def sp_l_down (K : PySem.W.Frag) : Sp := Pm (fun x : MQ × Str × Addr × List Str => [.ref (x.1.x.μ .m), .str x.2.1, .ref x.2.2.1]) fun x H Q => TabAt x.1.sn x.1.B x.1.g x.1.r x.1.x H ∧ x.2.1 ∈ x.1.sn ∧ H x.2.2.1 = some (.lst (x.2.2.2.map .str)) ∧ ¬ own x.1.x.μ (CM x.1.x) x.2.2.1 ∧ x.2.2.2.length ≤ x.1.B + 1 ∧
  ∀ x' H', TabAt x.1.sn (x.1.B + 1) (if x.1.x.c.st x.2.1 = "running" then x.1.g else delAllG x.1.g x.2.1) x.1.r x' H' → x'.c = downC x.1.x.c x.2.1 x.2.2.2 → x'.μ .m = x.1.x.μ .m → (∀ a o, H a = some o → ¬ own x.1.x.μ (CM x.1.x) a → a ≠ x.2.2.1 → H' a = some o) → (∀ a, own x'.μ (CM x') a → own x.1.x.μ (CM x.1.x) a ∨ H a = none ∨ a = x.2.2.1) → Q .non H'
theorem sp_l_down_len (K : PySem.W.Frag) : ∀ vs H Q E, sp_l_down K vs H Q E → vs.length = 3 := Pm.len fun _ => rfl
abbrev s_l_down : Stmt := (top 39)
theorem sc_l_down : FnScope ["_law_m", "_law_module", "_law_chain", "_law_pair"] ["_law_m", "_law_module", "_law_chain"] (defScope s_l_down) := ⟨rfl, rfl, rfl, by decide +kernel, rfl, by decide +kernel, by decide +kernel⟩
theorem ok_l_down (T : Txt K mg) : Okd P w K mg base 1 (aF K "_law_down") ["_law_m", "_law_module", "_law_chain"] (sp_l_down K) := by
  obtain ⟨fd, F⟩ := T.f_l_down
  refine Okd.mk F sc_l_down (sp_l_down_len K) (fun _ _ _ _ _ _ us hl => match us, hl with | [_, _, _], _ => rfl) (fun cdv A outer s H vs Q E hr h => ?_)
  have hu := hu_of hr
  refine ⟨_, (pss_cut (ps_if (pt_cmpR op_eq (pe_dget hu (pe_dget hu (pv 0) pe_str (fun _ _ => rfl)) (pv 1) (fun _ _ => rfl)) pe_str (nomark _)) (pss_one (ps_expr (pe_bm PySem.F.plainAttrs_list PySem.F.slot_list_append PySem.F.type_list_append mt_append (pe_dget hu (pv 0) pe_str (fun _ _ => rfl)) (pa_cons (pv 1) pa_nil)))) (pss_one (ps_dput hu (pv 0) pe_str (pe_lc (own := [("_law_pair", 3)]) rfl sc_l_down.nd (pi_listK (K := K) rfl (pe_dget hu (pv 0) pe_str (fun _ _ => rfl))) (blkOk_by (own := [("_law_pair", 3)]) (N := ["_law_m", "_law_module", "_law_chain", "_law_pair"]) (sc := defScope s_l_down) (by decide +kernel)) (fun _ _ _ _ _ => (pg_name (i := 3) sc_l_down.nd rfl (Or.inl rfl) (Or.inr rfl))) (fun _ _ _ _ _ => (pts_one (pt_cmpR op_ne (pe_ix (ix_tupK (K := K) rfl) (pv 3) pe_int (fun _ _ => rfl)) (pv 1) (nomark _)))) (fun _ _ _ _ _ => (pv 3))) rfl)))
    (pss_cons (ps_asg (pe_tup (pa_cons pe_str (pa_cons pe_dnewK pa_nil))) (pg_tupK (K := K) (n := 2) rfl rfl (pgs_cons (pg_sub (pe_dget hu (pv 0) pe_str (fun _ _ => rfl)) (pv 1) (set_dput hu)) (pgs_cons (pg_sub (pe_dget hu (pv 0) pe_str (fun _ _ => rfl)) (pv 1) (set_dput hu)) pgs_nil))))
    (pss_one (ps_dput hu (pe_dget hu (pv 0) pe_str (fun _ _ => rfl)) (pv 1) (pv 2) rfl)))), ?_⟩
  obtain ⟨⟨⟨sn, B, g, r, x⟩, m, t, l⟩, rfl, hT, hm, ht, hno, hl, k⟩ := h
  dsimp only at hT hm ht hno hl k
  obtain ⟨hO, hk⟩ := hT
  have hmn := hk.mem.mpr hm
  have hnl := hk.ok.len
  have hhn : x.c.held.length ≤ sn.length := hk.ok.hnd.length_le_of_subset hk.ok.hin
  obtain ⟨l1, l2, l3, l4⟩ := hk.bln
  have hmm := hO.hm
  have hmd : (mD x.μ).length < sizeLine := sz_lt (by show 7 < 100000; decide)
  refine ⟨fun σ' H' => ∃ x1 y, σ' = [some (.ref (x.μ .m)), some (.str m), some (.ref t), y] ∧ TabO x1 H' ∧ TStp x H x1 H' ∧ x1.c = { x.c with held := if x.c.st m = "running" then x.c.held ++ [m] else x.c.held } ∧ x1.μ .m = x.μ .m ∧ x1.ns = x.ns ∧ x1.be = x.be ∧ x1.br = x.br ∧
    (x1.bn.map (·.2)).Nodup ∧ ∀ a b, (a, b) ∈ x1.bn.map (·.2) ↔ b ∈ tg (if x.c.st m = "running" then g else delAllG g m) a, ?_, ?_⟩
  · refine ⟨_, rfl, _, _, rfl, hO.gsts, _, rfl, _, _, rfl, hO.gst hmn, rfl, _, rfl, ?_⟩
    rw [dec_V]
    by_cases e : x.c.st m = "running"
    · rw [decide_eq_true e, if_pos e, if_pos e]
      obtain ⟨b1, b2⟩ := hO.helSet (x.c.held ++ [m])
      have ee : (x.c.held ++ [m]).map V.str = x.c.held.map V.str ++ [V.str m] := by rw [List.map_append]; rfl
      rw [ee] at b1 b2
      refine it_t (by rfl) ⟨_, rfl, _, _, rfl, hO.ghel, Or.inl ⟨rfl, _, sq_of hO.hel⟩, _, rfl, _, _, _, rfl, rfl, hO.hel, by rw [List.length_map]; exact sz_lt (by omega), x.helSet (x.c.held ++ [m]), _, rfl, b1, b2, rfl, rfl, rfl, rfl, rfl, hk.nn, hk.ng⟩
    · rw [decide_eq_false e, if_neg e, if_neg e]
      refine it_f (by rfl) ?_
      dsimp only [sDPut]
      refine lcG (α := Addr × Str × Str) (fun b => V.ref b.1) (fun b => V.ref b.1) (fun l H' => l = x.bn ∧ TabO x H') (fun b => decide (b.2.1 ≠ m)) (fun R r => ⟨_, rfl, _, _, rfl, hO.gnds, _, rfl, ⟨_, sq_of hO.nds⟩, r _ x.bn H (Ex.refl _) ⟨rfl, hO⟩ hO.nds⟩)
        (fun l H' h => by rw [h.1]; omega) (fun v => rfl) (fun l H' e1 h b hb H2 e2 H3 e3 Q q => ?_) (fun l H' e1 h b hb _ H2 e2 => ev_var rfl) (fun l H' p H2 e1 h e2 hp h2 => ?_)
      · obtain ⟨rfl, h⟩ := h
        refine ⟨_, rfl, _, _, 0, .str b.2.1, rfl, rfl, st_of ((e2.trans e3) _ _ (h.pn b hb)), rfl, _, rfl, rfl, _, rfl, ?_⟩
        have := q H3 (Ex.refl _)
        rw [dec_V]
        rw [decide_not] at this
        exact this
      · obtain ⟨rfl, h⟩ := h
        have hO2 := hO.ex (e1.trans e2)
        obtain ⟨b1, b2⟩ := hO.newN (e1.trans e2) hp h2 (fun b hb => (e1.trans e2) _ _ (hO.pn b (List.mem_filter.mp hb).1))
        have em : (x.bn.filter fun b => decide (b.2.1 ≠ m)).map (·.2) = (x.bn.map (·.2)).filter fun p => decide (p.1 ≠ m) := by rw [List.filter_map]; rfl
        refine ⟨_, rfl, _, _, rfl, Or.inl ⟨_, Sum.inr "needs", hO2.hm, rfl, hmd, rfl⟩, x.newN p _, _, rfl, b1, b2, rfl, rfl, rfl, rfl, rfl, ?_, fun a b => ?_⟩
        · show ((x.bn.filter fun b => decide (b.2.1 ≠ m)).map (·.2)).Nodup
          rw [em]
          exact hk.nn.sublist List.filter_sublist
        · show (a, b) ∈ (x.bn.filter fun b => decide (b.2.1 ≠ m)).map (·.2) ↔ _
          rw [em, List.mem_filter, hk.ng, decide_eq_true_eq, tg_delAll]
          by_cases z : a = m
          · rw [if_pos z]
            exact ⟨fun h => absurd z h.2, fun h => absurd h (by simp)⟩
          · rw [if_neg z]
            exact ⟨fun h => h.1, fun h => ⟨h, z⟩⟩
  · rintro σ' H1 ⟨x1, y, rfl, hO1, s1, c1, m1, n1, be1, br1, nn1, ng1⟩
    have ht1 : H1 t = some (.lst (l.map .str)) := s1.fr _ _ ht hno
    have hno1 : ¬ own x1.μ (CM x1) t := fun z => (s1.nw t z).elim hno fun q => by rw [ht] at q; cases q
    rw [← m1]
    have hm1 : m ∈ x1.ns := by rw [n1]; exact hmn
    intro q hq
    have eq := Ex.new (o := HO.dK []) hq
    refine ⟨sz_of (n := 2) (by decide), fun p hp => ⟨p, _, rfl, st_of upd_same, rfl, _, _, rfl, ?_⟩⟩
    have ep := eq.trans (Ex.new (o := HO.tup [V.str "failed", V.ref q]) hp)
    have hq2 : upd (upd H1 q (.dK [])) p (.tup [V.str "failed", V.ref q]) q = some (.dK []) := (Ex.new hp) _ _ upd_same
    generalize upd (upd H1 q (.dK [])) p (.tup [V.str "failed", V.ref q]) = H2 at ep hq2 ⊢
    have hO2 := hO1.ex ep
    have hst := hO1.hm
    obtain ⟨a1, a2⟩ := hO2.setSt hm1 "failed"
    have hln : x1.ns.length = sn.length := by rw [← hk.srt, length_srtS, n1]
    refine ⟨_, rfl, _, _, rfl, hO2.gsts, _, rfl, _, _, rfl, Or.inl ⟨_, Sum.inr m, hO2.sts, rfl, by rw [stsD_len]; exact sz_lt (by omega), rfl⟩, _, _, rfl, ?_⟩
    have hqo1 : ¬ own x1.μ (CM x1) q := hO1.nown hq
    have hqo : ¬ own (x1.setSt m "failed").μ (CM (x1.setSt m "failed")) q := fun z => (a2.nw q z).elim hqo1 fun y => by rw [hq2] at y; cases y
    have hq3 := a2.fr _ _ hq2 hqo1
    have hno2 : ¬ own (x1.setSt m "failed").μ (CM (x1.setSt m "failed")) t := fun z => (a2.nw t z).elim hno1 fun y => by rw [ep _ _ ht1] at y; cases y
    have ht3 := a2.fr _ _ (ep _ _ ht1) hno1
    generalize upd H2 (x1.μ .sts) (.dK (putK (stsD x1.ns x1.c.st) (Sum.inr m) (.str "failed"))) = H3 at a1 a2 hq3 ht3 ⊢
    obtain ⟨b1, b2, b3⟩ := a1.clrExO (m := m) hm1 hqo hq3
    refine ⟨_, rfl, _, _, rfl, a1.gexd, _, rfl, _, _, rfl, Or.inl ⟨_, Sum.inr m, a1.exd, rfl, ?_, rfl⟩, rfl, ?_⟩
    · show (exdM x1.ns x1.μ).length < sizeLine
      unfold exdM
      rw [length_dS, List.length_map]
      exact sz_lt (by omega)
    have tq : t ≠ q := fun z => by
      rw [z, hq] at ht1
      cases ht1
    have hno3 : ¬ own ((x1.setSt m "failed").clrEx m q).μ (CM ((x1.setSt m "failed").clrEx m q)) t := fun z => (b3 t z).elim hno2 tq
    have ht4 := b2 _ _ ht3 hno2
    obtain ⟨c1', c2, c3⟩ := b1.chPutO m hno3 ht4
    refine ⟨_, rfl, _, rfl, _, _, rfl, b1.gchd, _, rfl, _, _, rfl, Or.inl ⟨_, Sum.inr m, b1.chd, rfl, ?_, rfl⟩, ?_⟩
    · show (chdM _ x1.c.ch).length < sizeLine
      unfold chdM
      rw [length_dS, List.length_map, c1]
      have := hk.ok.cnd.length_le_of_subset (l₂ := sn) fun a ha => by
        obtain ⟨q, hq, rfl⟩ := List.mem_map.mp ha
        exact hk.ok.cin q hq
      rw [List.length_map] at this
      exact sz_lt (by show x.c.ch.length < 100000; omega)
    have hcc : (((x1.setSt m "failed").clrEx m q).chPut m t l).c = downC x.c m l := by
      show ({ st := upd1 x1.c.st m "failed", ex := upd1 x1.c.ex m [], early := x1.c.early, held := x1.c.held, ch := putA x1.c.ch m l } : Core) = _
      rw [c1]
      rfl
    have back : ∀ a, H1 a = none → own x.μ (CM x) a ∨ H a = none := fun a ha => by
      cases e : H a with
      | none => exact Or.inr rfl
      | some o =>
        by_cases z : own x.μ (CM x) a
        · exact Or.inl z
        · rw [s1.fr _ _ e z] at ha
          cases ha
    have back1 : ∀ a, own x1.μ (CM x1) a ∨ H1 a = none → own x.μ (CM x) a ∨ H a = none := fun a h => h.elim (s1.nw a) (back a)
    have back2 : ∀ a, own (x1.setSt m "failed").μ (CM (x1.setSt m "failed")) a → own x.μ (CM x) a ∨ H a = none := fun a h => back1 a ((a2.nw a h).imp_right fun y => by
      cases e : H1 a with
      | none => rfl
      | some o => rw [ep _ _ e] at y; cases y)
    refine k (((x1.setSt m "failed").clrEx m q).chPut m t l) _ ⟨c1', ?_⟩ hcc m1 (fun a o ha hna hat => ?_) (fun a ha => ?_)
    · have hd := hk.ok.down hm hl (Nat.le_succ B)
      refine ⟨?_, by show srtS x1.ns = sn; rw [n1, hk.srt], by rw [hcc]; show x1.be.map (·.2) = x.c.early; rw [be1, hk.be], nn1, by show (x1.br.map (·.2)).Nodup; rw [br1]; exact hk.rn, ng1, fun a b => by show (a, b) ∈ x1.br.map (·.2) ↔ _; rw [br1]; exact hk.rg a b⟩
      rw [hcc]
      by_cases e : x.c.st m = "running"
      · rw [if_pos e]
        exact hd
      · rw [if_neg e]
        exact hd.graphs (hk.ok.gok.delAllG m) (GIn.delAllG hk.ok.gin hm) hk.ok.rok hk.ok.rin
    · have h1 := s1.fr _ _ ha hna
      have n1' : ¬ own x1.μ (CM x1) a := fun z => (s1.nw a z).elim hna fun y => by rw [ha] at y; cases y
      have h2 := ep _ _ h1
      have h3 := a2.fr _ _ h2 n1'
      have n3 : ¬ own (x1.setSt m "failed").μ (CM (x1.setSt m "failed")) a := fun z => (a2.nw a z).elim n1' fun y => by rw [h2] at y; cases y
      exact c2 _ _ (b2 _ _ h3 n3) fun z => (b3 a z).elim n3 fun y => by rw [y, hq] at h1; cases h1
    · rcases c3 a ha with z | z
      · rcases b3 a z with y | y
        · exact (back2 a y).imp_right Or.inl
        · exact (back q hq).elim (fun w => Or.inl (y ▸ w)) fun w => Or.inr (Or.inl (y ▸ w))
      · exact Or.inr (Or.inr z)
end
end CR
set_option maxRecDepth 100000
set_option maxHeartbeats 4000000
/-! Cycleready: the law's small steps. -/
namespace CR
open PySem PySem.Spec PyProof.Rows L2 Evl
local macro_rules | `(tactic| walk_at "red") => `(tactic| dsimp only [tNext, tSeq, tRet, tRetN, tDrop, tIfS, tAsg, tPar, tTest, tB, tNot, tAnd, tOr, tCB, tCons, tNil, tCall, tOp, tUn, tVar, tC, tIf])
local macro_rules | `(tactic| walk_at "nrm") => `(tactic| dsimp only [gName, tNext])
def GoM (x : MQ) (H : Hp) (B : Nat) (c : Core) (g r : Graph) (v : V) (Q : VK) : Prop := ∀ x' H', TabAt x.sn B g r x' H' → TStp x.x H x' H' → x'.c = c → x'.μ .m = x.x.μ .m → Q v H'
theorem MOk.nsl {B : Nat} {sn : List Str} {g r : Graph} {x : MX} (h : MOk B sn g r x) : x.ns.length = sn.length := by rw [← h.srt, length_srtS]
theorem mdl {μ : Mo → Addr} : (mD μ).length < sizeLine := sz_lt (by show 7 < 100000; decide)
theorem edge_rec {l : List (Str × Str)} {g : Graph} {s t : Str} (h : ∀ a b, (a, b) ∈ l ↔ b ∈ tg g a) (a b : Str) : (a, b) ∈ reput l (s, t) ↔ b ∈ tg (recG g s t) a := by
  rw [mem_reput, h, tg_rec]
  by_cases z : a = s
  · rw [if_pos z, mem_addT, z]
    exact or_congr_right ⟨fun e => (Prod.mk.inj e).2, fun e => by rw [e]⟩
  · rw [if_neg z]
    exact ⟨fun h => h.resolve_right fun e => z (Prod.mk.inj e).1, Or.inl⟩
theorem reput_pairs (b : PB3) (q : Addr) (p : Str × Str) : ((b.filter fun c => decide (c.2 ≠ p)) ++ [(q, p)]).map (·.2) = reput (b.map (·.2)) p := by
  unfold reput
  rw [List.map_append, List.filter_map]
  rfl
section
variable {P : Program} {w : World} {K : PySem.W.Frag} {mg : Str → Option Value} {base : Heap}
def sp_l_in (K : PySem.W.Frag) : Sp := Pm (fun x : MQ × Str => [.ref (x.1.x.μ .m), .str x.2]) fun x H Q => TabAt x.1.sn x.1.B x.1.g x.1.r x.1.x H ∧ RetL ((inC x.1.sn x.1.x.c x.2).map .str) H Q
theorem sp_l_in_len (K : PySem.W.Frag) : ∀ vs H Q E, sp_l_in K vs H Q E → vs.length = 2 := Pm.len fun _ => rfl
theorem stsD_keys {ns : List Str} {st : Str → Str} : (stsD ns st).map (·.1) = ns.map Sum.inr := by
  unfold stsD dS
  rw [List.map_map, List.map_map]
  rfl
abbrev s_l_in : Stmt := (top 43)
theorem sc_l_in : FnScope ["_law_m", "_law_state", "_law_name"] ["_law_m", "_law_state"] (defScope s_l_in) := ⟨rfl, rfl, rfl, by decide +kernel, rfl, by decide +kernel, by decide +kernel⟩
theorem ok_l_in (T : Txt K mg) : Okd P w K mg base 1 (aF K "_law_in") ["_law_m", "_law_state"] (sp_l_in K) := by
  obtain ⟨fd, F⟩ := T.f_l_in
  refine Okd.mk F sc_l_in (sp_l_in_len K) (fun _ _ _ _ _ _ us hl => match us, hl with | [_, _], _ => rfl) (fun cdv A outer s H vs Q E hr h => ?_)
  have hu := hu_of hr
  refine ⟨_, (pss_one (ps_ret (pe_lc (own := [("_law_name", 2)]) rfl sc_l_in.nd (pi_listK (K := K) rfl (pe_callB (call_sortedD rfl) (by rfl) T.b_sorted (by decide +kernel) (pa_cons (pe_dget hu (pv 0) pe_str (fun _ _ => rfl)) pa_nil))) (blkOk_by (own := [("_law_name", 2)]) (N := ["_law_m", "_law_state", "_law_name"]) (sc := defScope s_l_in) (by decide +kernel)) (fun _ _ _ _ _ => (pg_name (i := 2) sc_l_in.nd rfl (Or.inl rfl) (Or.inr rfl))) (fun _ _ _ _ _ => (pts_one (pt_cmpR op_eq (pe_dget hu (pe_dget hu (pv 0) pe_str (fun _ _ => rfl)) (pv 2) (fun _ _ => rfl)) (pv 1) (nomark _)))) (fun _ _ _ _ _ => (pv 2))))), ?_⟩
  obtain ⟨⟨⟨sn, B, g, r, x⟩, st⟩, rfl, ⟨hO, hk⟩, k⟩ := h
  dsimp only at hO hk k
  have hnl := hk.ok.len
  have hns := hk.nsl
  walk_at "red"
  refine lcS sn (fun n => decide (x.c.st n = st)) (by omega) (fun R r => ⟨_, rfl, _, _, rfl, hO.gsts, _, _, x.ns, rfl, Or.inl hO.sts, stsD_keys, by omega, fun ys p hpm hs hp => ⟨p, rfl, ⟨_, sq_of upd_same⟩, r p _ (Ex.new hp) (by rw [srtS_rule hpm hs, hk.srt]; exact upd_same)⟩⟩)
    (fun v => rfl) (fun n hn H' e H3 e3 Q q => ?_) (fun n hn H' e => ev_var rfl) (fun p H' hp e h => k p H' hp e h)
  have hO3 := hO.ex (e.trans e3)
  refine ⟨_, rfl, _, _, rfl, hO3.gsts, _, rfl, _, _, rfl, hO3.gst (hk.mem.mpr hn), _, rfl, rfl, _, rfl, ?_⟩
  rw [dec_V]
  exact q H3 (Ex.refl _)

def sp_l_retried (K : PySem.W.Frag) : Sp := Pm (fun x : MQ × Str => [.ref (x.1.x.μ .m), .str x.2]) fun x H Q => TabAt x.1.sn x.1.B x.1.g x.1.r x.1.x H ∧ x.2 ∈ x.1.sn ∧ x.1.x.c.st x.2 = "failed" ∧ x.2 ∉ x.1.x.c.held ∧
  GoM x.1 H x.1.B (retC x.1.x.c x.2) x.1.g x.1.r .non Q
theorem sp_l_retried_len (K : PySem.W.Frag) : ∀ vs H Q E, sp_l_retried K vs H Q E → vs.length = 2 := Pm.len fun _ => rfl
abbrev s_l_retried : Stmt := (top 47)
theorem sc_l_retried : FnScope ["_law_m", "_law_name"] ["_law_m", "_law_name"] (defScope s_l_retried) := ⟨rfl, rfl, rfl, by decide +kernel, rfl, by decide +kernel, by decide +kernel⟩
theorem ok_l_retried (T : Txt K mg) : Okd P w K mg base 1 (aF K "_law_retried") ["_law_m", "_law_name"] (sp_l_retried K) := by
  obtain ⟨fd, F⟩ := T.f_l_retried
  refine Okd.mk F sc_l_retried (sp_l_retried_len K) (fun _ _ _ _ _ _ us hl => match us, hl with | [_, _], _ => rfl) (fun cdv A outer s H vs Q E hr h => ?_)
  have hu := hu_of hr
  refine ⟨_, (pss_cons (ps_dput hu (pe_dget hu (pv 0) pe_str (fun _ _ => rfl)) (pv 1) pe_str rfl)
    (pss_one (ps_expr (pe_dpop1 (pe_dget hu (pv 0) pe_str (fun _ _ => rfl)) (pv 1) m1_pop)))), ?_⟩
  obtain ⟨⟨⟨sn, B, g, r, x⟩, m⟩, rfl, ⟨hO, hk⟩, hm, hs, hh, k⟩ := h
  dsimp only at hO hk hm hs hh k
  have hnl := hk.ok.len
  have hns := hk.nsl
  have hmn := hk.mem.mpr hm
  obtain ⟨a1, a2⟩ := hO.setSt hmn "new"
  refine ⟨_, rfl, _, _, rfl, hO.gsts, _, rfl, _, _, rfl, Or.inl ⟨_, Sum.inr m, hO.sts, rfl, by rw [stsD_len]; exact sz_lt (by omega), rfl⟩, ?_⟩
  obtain ⟨b1, b2⟩ := a1.chDel m
  obtain ⟨c1, c2⟩ := hk.ok.chain hm hs
  refine ⟨_, rfl, _, _, rfl, a1.gchd, _, rfl, Or.inl ⟨_, Or.inl a1.chd⟩, _, rfl, _, Sum.inr m, .ref (x.μ (.cht m)), a1.chd, rfl, ?_, ?_⟩
  · show valV (chdM x.μ x.c.ch) (Sum.inr m) = _
    unfold chdM
    rw [valV_dS, lookG, c1]
    rfl
  · exact k _ _ ⟨b1, hk.ok.ret hh, hk.srt, hk.be, hk.nn, hk.rn, hk.ng, hk.rg⟩ (a2.trans b2) rfl rfl

def sp_l_released (K : PySem.W.Frag) : Sp := Pm (fun x : MQ × Str => [.ref (x.1.x.μ .m), .str x.2]) fun x H Q => TabAt x.1.sn x.1.B x.1.g x.1.r x.1.x H ∧ x.2 ∈ x.1.x.c.held ∧
  GoM x.1 H x.1.B (relC x.1.x.c x.2) (delAllG x.1.g x.2) x.1.r .non Q
theorem sp_l_released_len (K : PySem.W.Frag) : ∀ vs H Q E, sp_l_released K vs H Q E → vs.length = 2 := Pm.len fun _ => rfl
abbrev s_l_released : Stmt := (top 41)
theorem sc_l_released : FnScope ["_law_m", "_law_module", "_law_pair"] ["_law_m", "_law_module"] (defScope s_l_released) := ⟨rfl, rfl, rfl, by decide +kernel, rfl, by decide +kernel, by decide +kernel⟩
theorem ok_l_released (T : Txt K mg) : Okd P w K mg base 1 (aF K "_law_released") ["_law_m", "_law_module"] (sp_l_released K) := by
  obtain ⟨fd, F⟩ := T.f_l_released
  refine Okd.mk F sc_l_released (sp_l_released_len K) (fun _ _ _ _ _ _ us hl => match us, hl with | [_, _], _ => rfl) (fun cdv A outer s H vs Q E hr h => ?_)
  have hu := hu_of hr
  refine ⟨_, (pss_cons (ps_expr (pe_bm PySem.F.plainAttrs_list PySem.F.slot_list_remove PySem.F.type_list_remove mt_removeS (pe_dget hu (pv 0) pe_str (fun _ _ => rfl)) (pa_cons (pv 1) pa_nil)))
    (pss_one (ps_dput hu (pv 0) pe_str (pe_lc (own := [("_law_pair", 2)]) rfl sc_l_released.nd (pi_listK (K := K) rfl (pe_dget hu (pv 0) pe_str (fun _ _ => rfl))) (blkOk_by (own := [("_law_pair", 2)]) (N := ["_law_m", "_law_module", "_law_pair"]) (sc := defScope s_l_released) (by decide +kernel)) (fun _ _ _ _ _ => (pg_name (i := 2) sc_l_released.nd rfl (Or.inl rfl) (Or.inr rfl))) (fun _ _ _ _ _ => (pts_one (pt_cmpR op_ne (pe_ix (ix_tupK (K := K) rfl) (pv 2) pe_int (fun _ _ => rfl)) (pv 1) (nomark _)))) (fun _ _ _ _ _ => (pv 2))) rfl))), ?_⟩
  obtain ⟨⟨⟨sn, B, g, r, x⟩, m⟩, rfl, ⟨hO, hk⟩, hh, k⟩ := h
  dsimp only at hO hk hh k
  have hnl := hk.ok.len
  have hm := hk.ok.hin m hh
  obtain ⟨l1, l2, l3, l4⟩ := hk.bln
  obtain ⟨a1, a2⟩ := hO.helSet (x.c.held.filter fun y => decide (y ≠ m))
  refine ⟨_, rfl, _, _, rfl, hO.ghel, Or.inl ⟨rfl, _, sq_of hO.hel⟩, _, rfl, _, x.c.held, m, rfl, rfl, hO.hel, hk.ok.hnd, hh, ?_⟩
  generalize upd H (x.μ .hel) (.lst ((x.c.held.filter fun y => decide (y ≠ m)).map V.str)) = H1 at a1 a2 ⊢
  walk_at "red"
  dsimp only [sDPut]
  refine lcG (α := Addr × Str × Str) (fun b => V.ref b.1) (fun b => V.ref b.1) (fun l H' => l = x.bn ∧ TabO (x.helSet (x.c.held.filter fun y => decide (y ≠ m))) H') (fun b => decide (b.2.1 ≠ m)) (fun R r => ⟨_, rfl, _, _, rfl, a1.gnds, _, rfl, ⟨_, sq_of a1.nds⟩, r _ x.bn H1 (Ex.refl _) ⟨rfl, a1⟩ a1.nds⟩)
    (fun l H' h => by rw [h.1]; omega) (fun v => rfl) (fun l H' e1 h b hb H2 e2 H3 e3 Q q => ?_) (fun l H' e1 h b hb _ H2 e2 => ev_var rfl) (fun l H' p H2 e1 h e2 hp h2 => ?_)
  · obtain ⟨rfl, h⟩ := h
    refine ⟨_, rfl, _, _, 0, .str b.2.1, rfl, rfl, st_of ((e2.trans e3) _ _ (h.pn b hb)), rfl, _, rfl, rfl, _, rfl, ?_⟩
    have := q H3 (Ex.refl _)
    rw [dec_V]
    rw [decide_not] at this
    exact this
  · obtain ⟨rfl, h⟩ := h
    have hO2 := a1.ex (e1.trans e2)
    obtain ⟨b1, b2⟩ := a1.newN (e1.trans e2) hp h2 (fun b hb => (e1.trans e2) _ _ (a1.pn b (List.mem_filter.mp hb).1))
    have em : (x.bn.filter fun b => decide (b.2.1 ≠ m)).map (·.2) = (x.bn.map (·.2)).filter fun p => decide (p.1 ≠ m) := by rw [List.filter_map]; rfl
    refine ⟨_, rfl, _, _, rfl, Or.inl ⟨_, Sum.inr "needs", hO2.hm, rfl, mdl, rfl⟩, k _ _ ⟨b1, (hk.ok.rel (m := m)).graphs (hk.ok.gok.delAllG m) (GIn.delAllG hk.ok.gin hm) hk.ok.rok hk.ok.rin, hk.srt, hk.be, ?_, hk.rn, fun a b => ?_, hk.rg⟩ (a2.trans b2) rfl rfl⟩
    · show ((x.bn.filter fun b => decide (b.2.1 ≠ m)).map (·.2)).Nodup
      rw [em]
      exact hk.nn.sublist List.filter_sublist
    · show (a, b) ∈ (x.bn.filter fun b => decide (b.2.1 ≠ m)).map (·.2) ↔ _
      rw [em, List.mem_filter, hk.ng, decide_eq_true_eq, tg_delAll]
      by_cases z : a = m
      · rw [if_pos z]
        exact ⟨fun h => absurd z h.2, fun h => absurd h (by simp)⟩
      · rw [if_neg z]
        exact ⟨fun h => h.1, fun h => ⟨h, z⟩⟩

def sp_l_asks (K : PySem.W.Frag) : Sp := Pm (fun x : MQ × Option Str × Str => [.ref (x.1.x.μ .m), vO x.2.1, .str x.2.2]) fun x H Q => TabAt x.1.sn x.1.B x.1.g x.1.r x.1.x H ∧ x.2.2 ∈ x.1.sn ∧ (∀ s, x.2.1 = some s → s ∈ x.1.sn) ∧
  GoM x.1 H x.1.B (reqC x.1.x.c x.2.2) (reqG x.1.g x.2.1 x.2.2) (reqG x.1.r x.2.1 x.2.2) (.bl (decide (x.1.x.c.st x.2.2 = "new"))) Q
theorem sp_l_asks_len (K : PySem.W.Frag) : ∀ vs H Q E, sp_l_asks K vs H Q E → vs.length = 3 := Pm.len fun _ => rfl
abbrev s_l_asks : Stmt := (top 44)
theorem sc_l_asks : FnScope ["_law_m", "_law_source", "_law_target", "_law_pair", "_law_is_new", "_law_one"] ["_law_m", "_law_source", "_law_target"] (defScope s_l_asks) := ⟨rfl, rfl, rfl, by decide +kernel, rfl, by decide +kernel, by decide +kernel⟩
theorem ok_l_asks (T : Txt K mg) : Okd P w K mg base 1 (aF K "_law_asks") ["_law_m", "_law_source", "_law_target"] (sp_l_asks K) := by
  obtain ⟨fd, F⟩ := T.f_l_asks
  refine Okd.mk F sc_l_asks (sp_l_asks_len K) (fun _ _ _ _ _ _ us hl => match us, hl with | [_, _, _], _ => rfl) (fun cdv A outer s H vs Q E hr h => ?_)
  have hu := hu_of hr
  refine ⟨_, (pss_cons (ps_asg (pe_tup (pa_cons (pe_tup (pa_cons (pv 1) (pa_cons (pv 2) pa_nil))) (pa_cons (pe_cmpR op_eq (pe_dget hu (pe_dget hu (pv 0) pe_str (fun _ _ => rfl)) (pv 2) (fun _ _ => rfl)) pe_str (nomark _)) pa_nil))) (pg_tupK (K := K) (n := 2) rfl rfl (pgs_cons (pg_name (i := 3) sc_l_asks.nd rfl (Or.inr rfl) (Or.inl rfl)) (pgs_cons (pg_name (i := 4) sc_l_asks.nd rfl (Or.inl rfl) (Or.inl rfl)) pgs_nil))))
    (pss_cut (ps_if (pt_cmp (pc_notN (pv 1))) (pss_cons (ps_dput hu (pv 0) pe_str (pe_op op_cat (pe_lc (own := [("_law_one", 5)]) rfl sc_l_asks.nd (pi_listK (K := K) rfl (pe_dget hu (pv 0) pe_str (fun _ _ => rfl))) (blkOk_by (own := [("_law_one", 5)]) (N := ["_law_m", "_law_source", "_law_target", "_law_pair", "_law_is_new", "_law_one"]) (sc := defScope s_l_asks) (by decide +kernel)) (fun _ _ _ _ _ => (pg_name (i := 5) sc_l_asks.nd rfl (Or.inl rfl) (Or.inr rfl))) (fun _ _ _ _ _ => (pts_one (pt_cmpR (op_neDK (K := K) rfl hr.units) (pv 5) (pv 3) (nomark _)))) (fun _ _ _ _ _ => (pv 5))) (pe_lst (pa_cons (pv 3) pa_nil))) rfl)
    (pss_one (ps_dput hu (pv 0) pe_str (pe_op op_cat (pe_lc (own := [("_law_one", 5)]) rfl sc_l_asks.nd (pi_listK (K := K) rfl (pe_dget hu (pv 0) pe_str (fun _ _ => rfl))) (blkOk_by (own := [("_law_one", 5)]) (N := ["_law_m", "_law_source", "_law_target", "_law_pair", "_law_is_new", "_law_one"]) (sc := defScope s_l_asks) (by decide +kernel)) (fun _ _ _ _ _ => (pg_name (i := 5) sc_l_asks.nd rfl (Or.inl rfl) (Or.inr rfl))) (fun _ _ _ _ _ => (pts_one (pt_cmpR (op_neDK (K := K) rfl hr.units) (pv 5) (pv 3) (nomark _)))) (fun _ _ _ _ _ => (pv 5))) (pe_lst (pa_cons (pv 3) pa_nil))) rfl))) pss_nil)
    (pss_cut (ps_if (pt_val (pv 4)) (pss_one (ps_dput hu (pe_dget hu (pv 0) pe_str (fun _ _ => rfl)) (pv 2) pe_str rfl)) pss_nil)
    (pss_one (ps_ret (pv 4)))))), ?_⟩
  obtain ⟨⟨⟨sn, B, g, r, x⟩, s, t⟩, rfl, ⟨hO, hk⟩, ht, hs, k⟩ := h
  dsimp only at hO hk ht hs k
  have hnl := hk.ok.len
  have htn := hk.mem.mpr ht
  obtain ⟨l1, l2, l3, l4⟩ := hk.bln
  refine ⟨_, rfl, _, rfl, sz_of (n := 2) (by decide), fun q hq => ?_⟩
  have e1 := Ex.new (o := HO.tup [vO s, V.str t]) hq
  have hq1 : upd H q (.tup [vO s, V.str t]) q = some (.tup [vO s, V.str t]) := upd_same
  generalize upd H q (.tup [vO s, V.str t]) = H1 at e1 hq1 ⊢
  have hO1 := hO.ex e1
  refine ⟨_, rfl, _, _, rfl, hO1.gsts, _, rfl, _, _, rfl, hO1.gst htn, rfl, sz_of (n := 2) (by decide), fun p hp => ⟨p, _, rfl, st_of upd_same, rfl, _, _, rfl, _, _, rfl, rfl, ?_⟩⟩
  rw [dec_V]
  have e2 := Ex.new (o := HO.tup [V.ref q, V.bl (decide (x.c.st t = "new"))]) hp
  have hq2 := e2 _ _ hq1
  have hO2 := hO1.ex e2
  have e12 := e1.trans e2
  generalize upd H1 p (.tup [V.ref q, V.bl (decide (x.c.st t = "new"))]) = H2 at e2 hq2 hO2 e12 ⊢
  walk_at "nrm"
  refine ⟨fun σ' H' => ∃ x1 y, σ' = [some (.ref (x.μ .m)), some (vO s), some (.str t), some (.ref q), some (.bl (decide (x.c.st t = "new"))), y] ∧ TabAt sn B (reqG g s t) (reqG r s t) x1 H' ∧ TStp x H x1 H' ∧ x1.c = x.c ∧ x1.μ .m = x.μ .m, ?_, ?_⟩
  · cases s with
    | none => exact ⟨_, rfl, _, rfl, it_f (by rfl) ⟨x, _, rfl, ⟨hO2, hk⟩, TStp.ex e12, rfl, rfl⟩⟩
    | some s =>
      have hss := hs s rfl
      have os := hk.ok.nm s hss
      have ot := hk.ok.nm t ht
      have hpair : ∀ b : Addr × Str × Str, b.2.1 ∈ sn ∧ b.2.2 ∈ sn → SeqAt.shaped (enc2 b.2) = true := fun b hb => shaped_enc2 (hk.ok.nm _ hb.1) (hk.ok.nm _ hb.2)
      have l5 : ∀ b ∈ x.br, b.2.1 ∈ sn ∧ b.2.2 ∈ sn := fun b hb => hk.ok.rin.tg ((hk.rg b.2.1 b.2.2).mp (List.mem_map.mpr ⟨b, hb, rfl⟩))
      refine ⟨_, rfl, _, rfl, it_t (by rfl) ?_⟩
      walk_at "red"
      dsimp only [sDPut, tOp]
      refine lcG (α := Addr × Str × Str) (fun b => V.ref b.1) (fun b => V.ref b.1) (fun l H' => l = x.bn ∧ TabO x H') (fun b => decide (b.2 ≠ (s, t))) (fun R r => ⟨_, rfl, _, _, rfl, hO2.gnds, _, rfl, ⟨_, sq_of hO2.nds⟩, r _ x.bn H2 (Ex.refl _) ⟨rfl, hO2⟩ hO2.nds⟩)
        (fun l H' h => by rw [h.1]; omega) (fun v => rfl) (fun l H' e1 h b hb H2 e2 H3 e3 Q q => ?_) (fun l H' e1 h b hb _ H2 e2 => ev_var rfl) (fun l H' p H3 e1 h e3 hp h3 => ?_)
      · obtain ⟨rfl, h⟩ := h
        refine ⟨_, rfl, _, rfl, enc2 b.2, enc2 (s, t), dp_pair ((e2.trans e3) _ _ (h.pn b hb)), dp_pair ((e1.trans (e2.trans e3)) _ _ hq2), hpair b (l4 b hb), shaped_enc2 os ot, _, rfl, ?_⟩
        have := q H3 (Ex.refl _)
        rw [eqv_enc2]
        rw [decide_not] at this
        exact this
      · obtain ⟨rfl, h⟩ := h
        refine ⟨_, rfl, sz_of (n := 1) (by decide), fun l2 hl2 => ⟨p, l2, _, _, rfl, rfl, (Ex.new hl2) _ _ h3, upd_same, ?_, fun p3 hp3 => ?_⟩⟩
        · rw [List.length_map]
          have := List.length_filter_le (fun b : Addr × Str × Str => decide (b.2 ≠ (s, t))) x.bn
          exact sz_of (n := (x.bn.filter fun b : Addr × Str × Str => decide (b.2 ≠ (s, t))).length + 1) (by omega)
        have e4 := ((e1.trans e3).trans (Ex.new (o := HO.lst [V.ref q]) hl2)).trans (Ex.new (o := HO.lst (((x.bn.filter fun b : Addr × Str × Str => decide (b.2 ≠ (s, t))).map fun b => V.ref b.1) ++ [V.ref q])) hp3)
        have h4 : upd (upd H3 l2 (.lst [V.ref q])) p3 (.lst (((x.bn.filter fun b : Addr × Str × Str => decide (b.2 ≠ (s, t))).map fun b => V.ref b.1) ++ [V.ref q])) p3 = some (.lst (refsB ((x.bn.filter fun b : Addr × Str × Str => decide (b.2 ≠ (s, t))) ++ [(q, s, t)]))) := by
          rw [upd_same]
          unfold refsB
          rw [List.map_append]
          rfl
        have n4 := fresh_back ((e1.trans e3).trans (Ex.new (o := HO.lst [V.ref q]) hl2)) hp3
        generalize upd (upd H3 l2 (.lst [V.ref q])) p3 (.lst (((x.bn.filter fun b : Addr × Str × Str => decide (b.2 ≠ (s, t))).map fun b => V.ref b.1) ++ [V.ref q])) = H4 at e4 h4 ⊢
        have hq4 := e4 _ _ hq2
        have hO4 := hO2.ex e4
        obtain ⟨b1, b2⟩ := hO2.newN e4 n4 h4 (fun b hb => by
          rcases List.mem_append.mp hb with z | z
          · exact hO4.pn b (List.mem_filter.mp z).1
          · rw [List.mem_singleton.mp z]
            exact hq4)
        refine ⟨_, rfl, _, _, rfl, Or.inl ⟨_, Sum.inr "needs", hO4.hm, rfl, mdl, rfl⟩, ?_⟩
        have hq5 := b2.fr _ _ (hq2) (hO2.ntup hq2)
        have hm5 := b1.hm
        have st5 := (TStp.ex e12).trans b2
        generalize upd H4 (x.μ .m) (.dK (putK (mD x.μ) (Sum.inr "needs") (.ref p3))) = H5 at b1 hq5 st5 hm5 ⊢
        clear b2 hO4 hq4 h4 e4 h3 hp3
        refine lcG (α := Addr × Str × Str) (fun b => V.ref b.1) (fun b => V.ref b.1) (fun l H' => l = x.br ∧ Prs H' x.br) (fun b => decide (b.2 ≠ (s, t))) (fun R r => ⟨_, rfl, _, _, rfl, b1.grcd, _, rfl, ⟨_, sq_of b1.rcd⟩, r _ x.br H5 (Ex.refl _) ⟨rfl, b1.pr⟩ b1.rcd⟩)
          (fun l H' h => by rw [h.1]; omega) (fun v => rfl) (fun l H' e1 h b hb H2 e2 H3 e3 Q q => ?_) (fun l H' e1 h b hb _ H2 e2 => ev_var rfl) (fun l H' p H3 e1 h e3 hp h3 => ?_)
        · obtain ⟨rfl, h⟩ := h
          refine ⟨_, rfl, _, rfl, enc2 b.2, enc2 (s, t), dp_pair ((e2.trans e3) _ _ (h b hb)), dp_pair ((e1.trans (e2.trans e3)) _ _ hq5), hpair b (l5 b hb), shaped_enc2 os ot, _, rfl, ?_⟩
          have := q H3 (Ex.refl _)
          rw [eqv_enc2]
          rw [decide_not] at this
          exact this
        · obtain ⟨rfl, h⟩ := h
          refine ⟨_, rfl, sz_of (n := 1) (by decide), fun l2 hl2 => ⟨p, l2, _, _, rfl, rfl, (Ex.new hl2) _ _ h3, upd_same, ?_, fun p4 hp4 => ?_⟩⟩
          · rw [List.length_map]
            have := List.length_filter_le (fun b : Addr × Str × Str => decide (b.2 ≠ (s, t))) x.br
            exact sz_of (n := (x.br.filter fun b : Addr × Str × Str => decide (b.2 ≠ (s, t))).length + 1) (by omega)
          have e4 := ((e1.trans e3).trans (Ex.new (o := HO.lst [V.ref q]) hl2)).trans (Ex.new (o := HO.lst (((x.br.filter fun b : Addr × Str × Str => decide (b.2 ≠ (s, t))).map fun b => V.ref b.1) ++ [V.ref q])) hp4)
          have h4 : upd (upd H3 l2 (.lst [V.ref q])) p4 (.lst (((x.br.filter fun b : Addr × Str × Str => decide (b.2 ≠ (s, t))).map fun b => V.ref b.1) ++ [V.ref q])) p4 = some (.lst (refsB ((x.br.filter fun b : Addr × Str × Str => decide (b.2 ≠ (s, t))) ++ [(q, s, t)]))) := by
            rw [upd_same]
            unfold refsB
            rw [List.map_append]
            rfl
          have n5 := fresh_back ((e1.trans e3).trans (Ex.new (o := HO.lst [V.ref q]) hl2)) hp4
          generalize upd (upd H3 l2 (.lst [V.ref q])) p4 (.lst (((x.br.filter fun b : Addr × Str × Str => decide (b.2 ≠ (s, t))).map fun b => V.ref b.1) ++ [V.ref q])) = H6 at e4 h4 ⊢
          have hq6 := e4 _ _ hq5
          have hO6 := b1.ex e4
          obtain ⟨c1, c2⟩ := b1.newR e4 n5 h4 (fun b hb => by
            rcases List.mem_append.mp hb with z | z
            · exact hO6.pr b (List.mem_filter.mp z).1
            · rw [List.mem_singleton.mp z]
              exact hq6)
          refine ⟨_, rfl, _, _, rfl, Or.inl ⟨_, Sum.inr "recorded", hO6.hm, rfl, mdl, rfl⟩, (x.newN p3 _).newR p4 _, _, rfl, ⟨c1, ?_⟩, st5.trans c2, rfl, rfl⟩
          refine ⟨hk.ok.graphs (hk.ok.gok.recG s t) (GIn.recG hk.ok.gin hss ht) (hk.ok.rok.recG s t) (GIn.recG hk.ok.rin hss ht), hk.srt, hk.be, ?_, ?_, fun a b => ?_, fun a b => ?_⟩
          · show (((x.bn.filter fun b : Addr × Str × Str => decide (b.2 ≠ (s, t))) ++ [(q, s, t)]).map (·.2)).Nodup
            rw [reput_pairs]
            exact nodup_reput _ hk.nn
          · show (((x.br.filter fun b : Addr × Str × Str => decide (b.2 ≠ (s, t))) ++ [(q, s, t)]).map (·.2)).Nodup
            rw [reput_pairs]
            exact nodup_reput _ hk.rn
          · show (a, b) ∈ ((x.bn.filter fun b : Addr × Str × Str => decide (b.2 ≠ (s, t))) ++ [(q, s, t)]).map (·.2) ↔ _
            rw [reput_pairs]
            exact edge_rec hk.ng a b
          · show (a, b) ∈ ((x.br.filter fun b : Addr × Str × Str => decide (b.2 ≠ (s, t))) ++ [(q, s, t)]).map (·.2) ↔ _
            rw [reput_pairs]
            exact edge_rec hk.rg a b
  · rintro σ' H3 ⟨x1, y, rfl, ⟨hO3, hk3⟩, s3, c3, m3⟩
    have htn3 := hk3.mem.mpr ht
    have hns := hk3.nsl
    rw [← m3]
    by_cases m : x.c.st t = "new"
    · obtain ⟨a1, a2⟩ := hO3.setSt htn3 "running"
      refine ⟨fun σ' H' => ∃ x2 y, σ' = [some (.ref (x1.μ .m)), some (vO s), some (.str t), some (.ref q), some (.bl (decide (x.c.st t = "new"))), y] ∧ TabAt sn B (reqG g s t) (reqG r s t) x2 H' ∧ TStp x H x2 H' ∧ x2.c = reqC x.c t ∧ x2.μ .m = x.μ .m, ?_, ?_⟩
      · refine ⟨_, rfl, _, rfl, ?_⟩
        rw [decide_eq_true m]
        refine it_t (by rfl) ⟨_, rfl, _, _, rfl, hO3.gsts, _, rfl, _, _, rfl, Or.inl ⟨_, Sum.inr t, hO3.sts, rfl, by rw [stsD_len]; exact sz_lt (by omega), rfl⟩, x1.setSt t "running", _, rfl, ⟨a1, hk3.ok.st (by decide) (hk3.ok.nheld (by rw [c3, m]; decide)), hk3.srt, hk3.be, hk3.nn, hk3.rn, hk3.ng, hk3.rg⟩, s3.trans a2, ?_, m3⟩
        unfold reqC
        rw [if_pos m, ← c3]
        rfl
      · rintro σ' H4 ⟨x2, y, rfl, hT4, s4, c4, m4⟩
        exact ⟨_, rfl, k x2 H4 hT4 s4 c4 m4⟩
    · refine ⟨fun σ' H' => H' = H3 ∧ ∃ y, σ' = [some (.ref (x1.μ .m)), some (vO s), some (.str t), some (.ref q), some (.bl (decide (x.c.st t = "new"))), y], ?_, ?_⟩
      · refine ⟨_, rfl, _, rfl, ?_⟩
        rw [decide_eq_false m]
        exact it_f (by rfl) ⟨rfl, _, rfl⟩
      · rintro σ' H4 ⟨rfl, y, rfl⟩
        refine ⟨_, rfl, k x1 _ ⟨hO3, hk3⟩ s3 ?_ m3⟩
        unfold reqC
        rw [if_neg m, ← c3]
end
end CR
set_option maxRecDepth 100000
set_option maxHeartbeats 4000000
/-! Cycleready: the law's accesses, and what may be tried again. -/
namespace CR
open PySem PySem.Spec PyProof.Rows L2 Evl
local macro_rules | `(tactic| walk_at "red") => `(tactic| dsimp only [tNext, tSeq, tRet, tRetN, tDrop, tIfS, tAsg, tPar, tTest, tB, tNot, tAnd, tOr, tCB, tCons, tNil, tCall, tOp, tUn, tVar, tC, tIf])
local macro_rules | `(tactic| walk_at "nrm") => `(tactic| dsimp only [gName, tNext])
theorem del_pairs (b : PB3) (p : Str × Str) : (b.filter fun c => decide (c.2 ≠ p)).map (·.2) = (b.map (·.2)).filter fun c => decide (c ≠ p) := by
  rw [List.filter_map]
  rfl
theorem edge_del {l : List (Str × Str)} {g : Graph} {s t : Str} (h : ∀ a b, (a, b) ∈ l ↔ b ∈ tg g a) (a b : Str) : (a, b) ∈ (l.filter fun c => decide (c ≠ (s, t))) ↔ b ∈ tg (delG g s t) a := by
  rw [List.mem_filter, h, decide_eq_true_eq, tg_del]
  by_cases z : a = s
  · rw [if_pos z, List.mem_filter, decide_eq_true_eq, z]
    exact and_congr_right fun _ => ⟨fun h e => h (by rw [e]), fun h e => h (Prod.mk.inj e).2⟩
  · rw [if_neg z]
    exact ⟨fun h => h.1, fun h => ⟨h, fun e => z (Prod.mk.inj e).1⟩⟩
section
variable {P : Program} {w : World} {K : PySem.W.Frag} {mg : Str → Option Value} {base : Heap}
def sp_l_accesses (K : PySem.W.Frag) : Sp := Pm (fun x : MQ × Str × Str => [.ref (x.1.x.μ .m), .str x.2.1, .str x.2.2]) fun x H Q => TabAt x.1.sn x.1.B x.1.g x.1.r x.1.x H ∧ x.2.1 ∈ x.1.sn ∧ x.2.2 ∈ x.1.sn ∧
  GoM x.1 H x.1.B (accC x.1.x.c x.2.1 x.2.2 (ansC x.1.x.c (Eg x.1.g) (some x.2.1) x.2.2)) (accG x.1.g x.2.1 x.2.2 (ansC x.1.x.c (Eg x.1.g) (some x.2.1) x.2.2)) x.1.r (.str (ansC x.1.x.c (Eg x.1.g) (some x.2.1) x.2.2)) Q
theorem sp_l_accesses_len (K : PySem.W.Frag) : ∀ vs H Q E, sp_l_accesses K vs H Q E → vs.length = 3 := Pm.len fun _ => rfl
abbrev s_l_accesses : Stmt := (top 45)
theorem sc_l_accesses : FnScope ["_law_m", "_law_source", "_law_target", "_law_told", "_law_one"] ["_law_m", "_law_source", "_law_target"] (defScope s_l_accesses) := ⟨rfl, rfl, rfl, by decide +kernel, rfl, by decide +kernel, by decide +kernel⟩
theorem ok_l_accesses (T : Txt K mg) : Okd P w K mg base 3 (aF K "_law_accesses") ["_law_m", "_law_source", "_law_target"] (sp_l_accesses K) := by
  obtain ⟨fd, F⟩ := T.f_l_accesses
  refine Okd.mk F sc_l_accesses (sp_l_accesses_len K) (fun _ _ _ _ _ _ us hl => match us, hl with | [_, _, _], _ => rfl) (fun cdv A outer s H vs Q E hr h => ?_)
  have hu := hu_of hr
  refine ⟨_, (pss_cons (ps_set (i := 3) sc_l_accesses.nd rfl (Or.inl rfl) (pe_callO (ok_l_answer (K := K) T) (hr.mono (by decide)) rfl T.g__law_answer T.k__law_answer (pa_cons (pv 0) (pa_cons (pv 1) (pa_cons (pv 2) pa_nil)))))
    (pss_cut (ps_if (PW.pt (pw_and (pt_cmpR op_eq (pv 3) pe_str (nomark _)) (pw_and1 (pt_cmpR (op_notInDK (K := K) rfl (u65 hr)) (pe_tup (pa_cons (pv 1) (pa_cons (pv 2) pa_nil))) (pe_dget hu (pv 0) pe_str (fun _ _ => rfl)) (by rfl))))) (pss_one (ps_expr (pe_bm PySem.F.plainAttrs_list PySem.F.slot_list_append PySem.F.type_list_append mt_append (pe_dget hu (pv 0) pe_str (fun _ _ => rfl)) (pa_cons (pe_tup (pa_cons (pv 1) (pa_cons (pv 2) pa_nil))) pa_nil)))) pss_nil)
    (pss_cut (ps_if (pt_cmpR op_eq (pv 3) pe_str (nomark _)) (pss_one (ps_dput hu (pv 0) pe_str (pe_lc (own := [("_law_one", 4)]) rfl sc_l_accesses.nd (pi_listK (K := K) rfl (pe_dget hu (pv 0) pe_str (fun _ _ => rfl))) (blkOk_by (own := [("_law_one", 4)]) (N := ["_law_m", "_law_source", "_law_target", "_law_told", "_law_one"]) (sc := defScope s_l_accesses) (by decide +kernel)) (fun _ _ _ _ _ => (pg_name (i := 4) sc_l_accesses.nd rfl (Or.inl rfl) (Or.inr rfl))) (fun _ _ _ _ _ => (pts_one (pt_cmpR (op_neDK (K := K) rfl hr.units) (pv 4) (pe_tup (pa_cons (pv 1) (pa_cons (pv 2) pa_nil))) (nomark _)))) (fun _ _ _ _ _ => (pv 4))) rfl)) pss_nil)
    (pss_one (ps_ret (pv 3)))))), ?_⟩
  obtain ⟨⟨⟨sn, B, g, r, x⟩, s, t⟩, rfl, hT, hs, ht, k⟩ := h
  dsimp only at hT hs ht k
  obtain ⟨hO, hk⟩ := hT
  have hnl := hk.ok.len
  have htn := hk.mem.mpr ht
  obtain ⟨l1, l2, l3, l4⟩ := hk.bln
  have os := hk.ok.nm s hs
  have ot := hk.ok.nm t ht
  have hee : ∀ p ∈ x.be.map (·.2), okName p.1 ∧ okName p.2 := fun p hp => by
    rw [hk.be] at hp
    exact ⟨hk.ok.nm _ (hk.ok.ein p hp).1, hk.ok.nm _ (hk.ok.ein p hp).2⟩
  have hpair : ∀ b : Addr × Str × Str, b.2.1 ∈ sn ∧ b.2.2 ∈ sn → SeqAt.shaped (enc2 b.2) = true := fun b hb => shaped_enc2 (hk.ok.nm _ hb.1) (hk.ok.nm _ hb.2)
  refine ⟨_, rfl, _, rfl, _, rfl, (⟨sn, B, g, r, x⟩, some s, t), rfl, ⟨hO, hk⟩, ht, fun s' e => by cases e; exact hs, fun H1 e1 => ?_⟩
  dsimp only
  generalize ansC x.c (Eg g) (some s) t = a at k ⊢
  have hO1 := hO.ex e1
  walk_at "nrm"
  refine ⟨fun σ' H' => ∃ x1 y, σ' = [some (.ref (x.μ .m)), some (.str s), some (.str t), some (.str a), y] ∧ TabAt sn B g r x1 H' ∧ TStp x H x1 H' ∧ x1.c = accC x.c s t a ∧ x1.μ .m = x.μ .m, ?_, ?_⟩
  · refine ⟨_, rfl, rfl, _, rfl, ?_⟩
    rw [dec_V]
    by_cases m : a = "early"
    · rw [decide_eq_true m]
      refine it_t (by rfl) ⟨_, rfl, _, rfl, sz_of (n := 2) (by decide), fun q hq => ?_⟩
      have e2 := Ex.new (o := HO.tup [V.str s, V.str t]) hq
      have hO2 := hO1.ex e2
      refine ⟨_, rfl, _, _, rfl, hO2.gear, enc2 (s, t), (x.be.map (·.2)).map enc2, dp_pair upd_same, .lst (sq_of hO2.ear) (dpAll_pairs hO2.pe), shaped_enc2 os ot, shaped_enc2s _ hee, _, rfl, ?_⟩
      rw [any_enc2, hk.be]
      generalize upd H1 q (.tup [V.str s, V.str t]) = H2 at e2 hO2 ⊢
      by_cases m2 : (s, t) ∈ x.c.early
      · rw [decide_eq_true m2]
        exact it_f (by rfl) ⟨x, _, rfl, ⟨hO2, hk⟩, TStp.ex (e1.trans e2), (if_neg fun z => z.2 m2).symm, rfl⟩
      · rw [decide_eq_false m2]
        refine it_t (by rfl) ⟨_, rfl, _, _, rfl, hO2.gear, Or.inl ⟨rfl, _, sq_of hO2.ear⟩, _, rfl, _, rfl, sz_of (n := 2) (by decide), fun q2 hq2 => ?_⟩
        have e3 := Ex.new (o := HO.tup [V.str s, V.str t]) hq2
        have hO3 := hO2.ex e3
        have hq3 : upd H2 q2 (.tup [V.str s, V.str t]) q2 = some (.tup [.str s, .str t]) := upd_same
        generalize upd H2 q2 (.tup [V.str s, V.str t]) = H3 at e3 hO3 hq3 ⊢
        obtain ⟨b1, b2⟩ := hO3.addE (b := (q2, s, t)) hq3
        refine ⟨_, _, _, rfl, rfl, hO3.ear, ?_, x.addE (q2, s, t), _, rfl, ⟨b1, ?_, hk.srt, ?_, hk.nn, hk.rn, hk.ng, hk.rg⟩, (TStp.ex ((e1.trans e2).trans e3)).trans b2, (if_pos ⟨m, m2⟩).symm, rfl⟩
        · show (refsB x.be).length < _
          unfold refsB
          rw [List.length_map]
          exact sz_lt (by omega)
        · have := hk.ok.addE (p := (s, t)) hs ht
          unfold CR.addE at this
          rw [if_neg m2] at this
          exact this
        · show (x.be ++ [(q2, s, t)]).map (·.2) = x.c.early ++ [(s, t)]
          rw [List.map_append, hk.be]
          rfl
    · rw [decide_eq_false m]
      exact it_f (by rfl) (it_f (by rfl) ⟨x, _, rfl, ⟨hO1, hk⟩, TStp.ex e1, (accC_other m).symm, rfl⟩)
  · rintro σ' H2 ⟨x1, y, rfl, ⟨hO2, hk2⟩, s2, c2, m2⟩
    obtain ⟨j1, j2, j3, j4⟩ := hk2.bln
    rw [← m2]
    refine ⟨fun σ' H' => ∃ x2 y, σ' = [some (.ref (x1.μ .m)), some (.str s), some (.str t), some (.str a), y] ∧ TabAt sn B (accG g s t a) r x2 H' ∧ TStp x H x2 H' ∧ x2.c = accC x.c s t a ∧ x2.μ .m = x.μ .m, ?_, ?_⟩
    · refine ⟨_, rfl, rfl, _, rfl, ?_⟩
      rw [dec_V]
      unfold accG
      by_cases m : a = "failed"
      · rw [decide_eq_true m, if_pos m]
        refine it_t (by rfl) ?_
        dsimp only [sDPut]
        refine lcG (α := Addr × Str × Str) (fun b => V.ref b.1) (fun b => V.ref b.1) (fun l H' => l = x1.bn ∧ Prs H' x1.bn) (fun b => decide (b.2 ≠ (s, t))) (fun R r => ⟨_, rfl, _, _, rfl, hO2.gnds, _, rfl, ⟨_, sq_of hO2.nds⟩, r _ x1.bn H2 (Ex.refl _) ⟨rfl, hO2.pn⟩ hO2.nds⟩)
          (fun l H' h => by rw [h.1]; omega) (fun v => rfl) (fun l H' e1 h b hb H2 e2 H3 e3 Q q => ?_) (fun l H' e1 h b hb _ H2 e2 => ev_var rfl) (fun l H' p H3 e1 h e3 hp h3 => ?_)
        · obtain ⟨rfl, h⟩ := h
          refine ⟨_, rfl, _, rfl, _, rfl, sz_of (n := 2) (by decide), fun q2 hq2 => ⟨enc2 b.2, enc2 (s, t), dp_pair ((e2.trans (e3.trans (Ex.new hq2))) _ _ (h b hb)), dp_pair upd_same, hpair b (j4 b hb), shaped_enc2 os ot, _, rfl, ?_⟩⟩
          have := q _ (Ex.new (o := HO.tup [V.str s, V.str t]) hq2)
          rw [eqv_enc2]
          rw [decide_not] at this
          exact this
        · obtain ⟨rfl, h⟩ := h
          have hO3 := hO2.ex (e1.trans e3)
          obtain ⟨b1, b2⟩ := hO2.newN (e1.trans e3) hp h3 (fun b hb => (e1.trans e3) _ _ (hO2.pn b (List.mem_filter.mp hb).1))
          refine ⟨_, rfl, _, _, rfl, Or.inl ⟨_, Sum.inr "needs", hO3.hm, rfl, mdl, rfl⟩, x1.newN p _, _, rfl, ⟨b1, hk2.ok.graphs (hk2.ok.gok.delG s t) (GIn.delG hk2.ok.gin hs) hk2.ok.rok hk2.ok.rin, hk2.srt, hk2.be, ?_, hk2.rn, fun a b => ?_, hk2.rg⟩, s2.trans b2, c2, m2⟩
          · show ((x1.bn.filter fun b : Addr × Str × Str => decide (b.2 ≠ (s, t))).map (·.2)).Nodup
            rw [del_pairs]
            exact hk2.nn.sublist List.filter_sublist
          · show (a, b) ∈ (x1.bn.filter fun b : Addr × Str × Str => decide (b.2 ≠ (s, t))).map (·.2) ↔ _
            rw [del_pairs]
            exact edge_del hk2.ng a b
      · rw [decide_eq_false m, if_neg m]
        exact it_f (by rfl) ⟨x1, _, rfl, ⟨hO2, hk2⟩, s2, c2, m2⟩
    · rintro σ' H4 ⟨x2, y, rfl, hT4, s4, c4, m4⟩
      exact ⟨_, rfl, k x2 H4 hT4 s4 c4 m4⟩

def canR (x : MX) (m : Str) : Bool := decide (x.c.st m = "failed") && (decide (m ∉ x.c.held) && !((x.bn.map fun b => decide (b.2.2 = m)).any id))
theorem canR_ok {B : Nat} {sn : List Str} {g r : Graph} {x : MX} (hk : MOk B sn g r x) {m : Str} (h : canR x m = true) : x.c.st m = "failed" ∧ m ∉ x.c.held ∧ ∀ a, m ∉ tg g a := by
  unfold canR at h
  rw [Bool.and_eq_true, Bool.and_eq_true, decide_eq_true_eq, decide_eq_true_eq] at h
  refine ⟨h.1, h.2.1, fun a ha => ?_⟩
  have z := h.2.2
  have hz : ((x.bn.map fun b => decide (b.2.2 = m)).any id) = false := by
    cases hh : (x.bn.map fun b => decide (b.2.2 = m)).any id with
    | false => rfl
    | true => rw [hh] at z; cases z
  obtain ⟨b, hb, eb⟩ := List.mem_map.mp ((hk.ng a m).mpr ha)
  rw [List.any_map, List.any_eq_false] at hz
  apply hz b hb
  show decide (b.2.2 = m) = true
  rw [eb]
  exact decide_eq_true rfl
def sp_l_can_retry (K : PySem.W.Frag) : Sp := Pm (fun x : MQ × Str => [.ref (x.1.x.μ .m), .str x.2]) fun x H Q => TabAt x.1.sn x.1.B x.1.g x.1.r x.1.x H ∧ x.2 ∈ x.1.sn ∧
  RetV (.bl (canR x.1.x x.2)) H Q
theorem sp_l_can_retry_len (K : PySem.W.Frag) : ∀ vs H Q E, sp_l_can_retry K vs H Q E → vs.length = 2 := Pm.len fun _ => rfl
abbrev s_l_can_retry : Stmt := (top 48)
theorem sc_l_can_retry : FnScope ["_law_m", "_law_name", "_law_is_loose", "_law_pair"] ["_law_m", "_law_name"] (defScope s_l_can_retry) := ⟨rfl, rfl, rfl, by decide +kernel, rfl, by decide +kernel, by decide +kernel⟩
theorem ok_l_can_retry (T : Txt K mg) : Okd P w K mg base 1 (aF K "_law_can_retry") ["_law_m", "_law_name"] (sp_l_can_retry K) := by
  obtain ⟨fd, F⟩ := T.f_l_can_retry
  refine Okd.mk F sc_l_can_retry (sp_l_can_retry_len K) (fun _ _ _ _ _ _ us hl => match us, hl with | [_, _], _ => rfl) (fun cdv A outer s H vs Q E hr h => ?_)
  have hu := hu_of hr
  refine ⟨_, (pss_cons (ps_set (i := 2) sc_l_can_retry.nd rfl (Or.inl rfl) (pe_and (pe_cmpR op_eq (pe_dget hu (pe_dget hu (pv 0) pe_str (fun _ _ => rfl)) (pv 1) (fun _ _ => rfl)) pe_str (nomark _)) (pe_one (pe_cmpR (op_notIn_seqK (K := K) rfl) (pv 1) (pe_dget hu (pv 0) pe_str (fun _ _ => rfl)) (by rfl)))))
    (pss_one (ps_ret (pe_and (pv 2) (pe_one (pe_not (pe_callB (cr_anyK (K := K) rfl rfl) (by rfl) T.b_any (by decide +kernel) (pa_cons (pe_lc (own := [("_law_pair", 3)]) rfl sc_l_can_retry.nd (pi_listK (K := K) rfl (pe_dget hu (pv 0) pe_str (fun _ _ => rfl))) (blkOk_by (own := [("_law_pair", 3)]) (N := ["_law_m", "_law_name", "_law_is_loose", "_law_pair"]) (sc := defScope s_l_can_retry) (by decide +kernel)) (fun _ _ _ _ _ => (pg_name (i := 3) sc_l_can_retry.nd rfl (Or.inl rfl) (Or.inr rfl))) (fun _ _ _ _ _ => pts_nil) (fun _ _ _ _ _ => (pe_cmpR op_eq (pe_ix (ix_tupK (K := K) rfl) (pv 3) pe_int (fun _ _ => rfl)) (pv 1) (nomark _)))) pa_nil)))))))), ?_⟩
  obtain ⟨⟨⟨sn, B, g, r, x⟩, m⟩, rfl, ⟨hO, hk⟩, hm, k⟩ := h
  dsimp only at hO hk hm k
  obtain ⟨l1, l2, l3, l4⟩ := hk.bln
  refine ⟨_, rfl, _, _, rfl, hO.gsts, _, rfl, _, _, rfl, hO.gst (hk.mem.mpr hm), rfl, _, rfl, ?_⟩
  rw [dec_V]
  by_cases e : x.c.st m = "failed"
  · rw [decide_eq_true e]
    refine it_t (by rfl) ⟨_, rfl, _, rfl, _, _, rfl, hO.ghel, _, _, rfl, Or.inl (sq_of hO.hel), rfl, flat_strs2 _, ?_⟩
    rw [if_pos rfl, inV_str]
    by_cases eh : m ∈ x.c.held
    · rw [decide_eq_true eh]
      have hc : canR x m = false := by unfold canR; rw [decide_eq_true e, decide_eq_false (fun z => z eh)]; rfl
      rw [hc] at k
      exact ⟨_, rfl, _, rfl, it_f (by rfl) (k H (Ex.refl _))⟩
    · rw [decide_eq_false eh]
      refine ⟨_, rfl, _, rfl, it_t (by rfl) ?_⟩
      dsimp only [tNotV]
      walk_at "red"
      refine lcG (α := Addr × Str × Str) (fun b => V.ref b.1) (fun b => V.bl (decide (b.2.2 = m))) (fun l H' => l = x.bn ∧ Prs H' x.bn) (fun b => true) (fun R r => ⟨_, rfl, _, _, rfl, hO.gnds, _, rfl, ⟨_, sq_of hO.nds⟩, r _ x.bn H (Ex.refl _) ⟨rfl, hO.pn⟩ hO.nds⟩)
        (fun l H' h => by rw [h.1]; omega) (fun v => rfl) (fun l H' e1 h b hb H2 e2 H3 e3 Q q => q H3 (Ex.refl _)) (fun l H' e1 h b hb _ H2 e2 H3 e3 Q q => ?_) (fun l H' p H2 e1 h e2 hp h2 => ?_)
      · obtain ⟨rfl, h⟩ := h
        refine ⟨_, rfl, _, _, 1, .str b.2.2, rfl, rfl, st_of ((e2.trans e3) _ _ (h b hb)), rfl, _, rfl, rfl, ?_⟩
        rw [dec_V]
        exact q H3 (Ex.refl _)
      · obtain ⟨rfl, h⟩ := h
        refine ⟨p, x.bn.map fun b => decide (b.2.2 = m), rfl, sq_of (h2.trans ?_), _, rfl, ?_⟩
        · rw [List.filter_eq_self.mpr fun _ _ => rfl, List.map_map]
          rfl
        · have := k H2 (e1.trans e2)
          unfold canR at this
          rw [decide_eq_true e, decide_eq_true eh, Bool.true_and, Bool.true_and] at this
          exact this
  · rw [decide_eq_false e]
    have hc : canR x m = false := by unfold canR; rw [decide_eq_false e]; rfl
    rw [hc] at k
    exact it_f (by rfl) ⟨_, rfl, _, rfl, it_f (by rfl) (k H (Ex.refl _))⟩
end
end CR
set_option maxRecDepth 100000
set_option maxHeartbeats 4000000
/-! Cycleready: the law's endings and its unloading. -/
namespace CR
open PySem PySem.Spec PyProof.Rows L2 Evl
local macro_rules | `(tactic| walk_at "red") => `(tactic| dsimp only [tNext, tSeq, tRet, tRetN, tDrop, tIfS, tAsg, tPar, tTest, tB, tNot, tAnd, tOr, tCB, tCons, tNil, tCall, tOp, tUn, tVar, tC, tIf])
local macro_rules | `(tactic| walk_at "nrm") => `(tactic| dsimp only [gName, tNext])
theorem srtD {x : MX} {sn : List Str} {H : Hp} (hO : TabO x H) {B : Nat} {g r : Graph} (hk : MOk B sn g r x) : ∀ (ys : List Str), ys.Perm x.ns → sortedS ys = true → ys = sn := fun ys hpm hs => by rw [srtS_rule hpm hs, hk.srt]
theorem forg_pairs (b : PB3) (fl : List Str) : (b.filter fun c => decide (c.2.1 ∉ fl)).map (·.2) = (b.map (·.2)).filter fun c => decide (c.1 ∉ fl) := by
  rw [List.filter_map]
  rfl
section
variable {P : Program} {w : World} {K : PySem.W.Frag} {mg : Str → Option Value} {base : Heap}
def sp_l_finished (K : PySem.W.Frag) : Sp := Pm (fun x : MQ × Str => [.ref (x.1.x.μ .m), .str x.2]) fun x H Q => TabAt x.1.sn x.1.B x.1.g x.1.r x.1.x H ∧ x.2 ∈ x.1.sn ∧ x.1.x.c.st x.2 = "running" ∧
  ∀ x' H' p, TabAt x.1.sn x.1.B x.1.g x.1.r x' H' → TStp x.1.x H x' H' → x'.c = finC x.1.sn x.1.x.c (Eg x.1.g) x.2 → x'.μ .m = x.1.x.μ .m → H' p = some (.lst ((finL x.1.sn x.1.x.c (Eg x.1.g) x.2).map .str)) → Q (.ref p) H'
theorem sp_l_finished_len (K : PySem.W.Frag) : ∀ vs H Q E, sp_l_finished K vs H Q E → vs.length = 2 := Pm.len fun _ => rfl
abbrev s_l_finished : Stmt := (top 38)
theorem sc_l_finished : FnScope ["_law_m", "_law_module", "_law_ready", "_law_name", "_law_below", "_law_one", "_law_pair"] ["_law_m", "_law_module"] (defScope s_l_finished) := ⟨rfl, rfl, rfl, by decide +kernel, rfl, by decide +kernel, by decide +kernel⟩
theorem ok_l_finished (T : Txt K mg) : Okd P w K mg base 2 (aF K "_law_finished") ["_law_m", "_law_module"] (sp_l_finished K) := by
  obtain ⟨fd, F⟩ := T.f_l_finished
  refine Okd.mk F sc_l_finished (sp_l_finished_len K) (fun _ _ _ _ _ _ us hl => match us, hl with | [_, _], _ => rfl) (fun cdv A outer s H vs Q E hr h => ?_)
  have hu := hu_of hr
  refine ⟨_, (pss_cons (ps_dput hu (pe_dget hu (pv 0) pe_str (fun _ _ => rfl)) (pv 1) pe_str rfl)
    (pss_cons (ps_set (i := 2) sc_l_finished.nd rfl (Or.inr rfl) (pe_lst pa_nil))
    (pss_cons (ps_for PassesOwn.never rfl (pi_listK (K := K) rfl (pe_callB (call_sortedD rfl) (by rfl) T.b_sorted (by decide +kernel) (pa_cons (pe_dget hu (pv 0) pe_str (fun _ _ => rfl)) pa_nil))) (pg_name (i := 3) sc_l_finished.nd rfl (Or.inl rfl) (Or.inl rfl))
    (pss_cons (ps_set (i := 4) sc_l_finished.nd rfl (Or.inl rfl) (pe_callO (ok_l_reach (K := K) T) (hr.mono (by decide)) rfl T.g__law_reach T.k__law_reach (pa_cons (pe_dget hu (pv 0) pe_str (fun _ _ => rfl)) (pa_cons (pv 3) pa_nil))))
    (pss_one (ps_if (PW.pt (pw_and (pt_cmpR op_eq (pe_dget hu (pe_dget hu (pv 0) pe_str (fun _ _ => rfl)) (pv 3) (fun _ _ => rfl)) pe_str (nomark _)) (pw_and1 (pt_val (pe_callB (cr_allK (K := K) rfl rfl) (by rfl) T.b_all (by decide +kernel) (pa_cons (pe_lc (own := [("_law_one", 5)]) rfl sc_l_finished.nd (pi_listK (K := K) rfl (pv 4)) (blkOk_by (own := [("_law_one", 5)]) (N := ["_law_m", "_law_module", "_law_ready", "_law_name", "_law_below", "_law_one", "_law_pair"]) (sc := defScope s_l_finished) (by decide +kernel)) (fun _ _ _ _ _ => (pg_name (i := 5) sc_l_finished.nd rfl (Or.inl rfl) (Or.inr rfl))) (fun _ _ _ _ _ => pts_nil) (fun _ _ _ _ _ => (pe_cmpR (op_in_seqK (K := K) rfl) (pe_dget hu (pe_dget hu (pv 0) pe_str (fun _ _ => rfl)) (pv 5) (fun _ _ => rfl)) (pe_tup (pa_cons pe_str (pa_cons pe_str pa_nil))) (by rfl)))) pa_nil)))))) (pss_one (ps_expr (pe_bm PySem.F.plainAttrs_list PySem.F.slot_list_append PySem.F.type_list_append mt_append (pv 2) (pa_cons (pv 3) pa_nil)))) pss_nil))))
    (pss_cons (ps_for PassesOwn.never rfl (pi_listK (K := K) rfl (pv 2)) (pg_name (i := 3) sc_l_finished.nd rfl (Or.inl rfl) (Or.inl rfl))
    (pss_one (ps_dput hu (pe_dget hu (pv 0) pe_str (fun _ _ => rfl)) (pv 3) pe_str rfl)))
    (pss_cons (ps_dput hu (pv 0) pe_str (pe_lc (own := [("_law_pair", 6)]) rfl sc_l_finished.nd (pi_listK (K := K) rfl (pe_dget hu (pv 0) pe_str (fun _ _ => rfl))) (blkOk_by (own := [("_law_pair", 6)]) (N := ["_law_m", "_law_module", "_law_ready", "_law_name", "_law_below", "_law_one", "_law_pair"]) (sc := defScope s_l_finished) (by decide +kernel)) (fun _ _ _ _ _ => (pg_name (i := 6) sc_l_finished.nd rfl (Or.inl rfl) (Or.inr rfl))) (fun _ _ _ _ _ => (pts_one (pt_cmpR (op_notIn_seqK (K := K) rfl) (pe_ix (ix_tupK (K := K) rfl) (pv 6) pe_int (fun _ _ => rfl)) (pv 2) (by rfl)))) (fun _ _ _ _ _ => (pv 6))) rfl)
    (pss_one (ps_ret (pv 2)))))))), ?_⟩
  obtain ⟨⟨⟨sn, B, g, r, x⟩, m⟩, rfl, ⟨hO, hk⟩, hm, hst, k⟩ := h
  dsimp only at hO hk hm hst k
  have hnl := hk.ok.len
  have hns := hk.nsl
  obtain ⟨l1, l2, l3, l4⟩ := hk.bln
  have nm : m ∉ x.c.held := hk.ok.nheld (by rw [hst]; decide)
  obtain ⟨a1, a2⟩ := hO.setSt (hk.mem.mpr hm) "done"
  refine ⟨_, rfl, _, _, rfl, hO.gsts, _, rfl, _, _, rfl, Or.inl ⟨_, Sum.inr m, hO.sts, rfl, by rw [stsD_len]; exact sz_lt (by omega), rfl⟩, ?_⟩
  generalize upd H (x.μ .sts) (.dK (putK (stsD x.ns x.c.st) (Sum.inr m) (.str "done"))) = H1 at a1 a2 ⊢
  have hk1 : MOk B sn g r (x.setSt m "done") := ⟨hk.ok.st (by decide) nm, hk.srt, hk.be, hk.nn, hk.rn, hk.ng, hk.rg⟩
  refine ⟨sz_of (n := 0) (by decide), fun L hL => ?_⟩
  walk_at "nrm"
  have e2 := Ex.new (o := HO.lst []) hL
  have hL2 : upd H1 L (.lst []) L = some (.lst (([] : List Str).map .str)) := upd_same
  generalize upd H1 L (.lst []) = H2 at e2 hL2 ⊢
  have hO2 := a1.ex e2
  refine ⟨_, rfl, _, _, rfl, hO2.gsts, _, _, x.ns, rfl, Or.inl hO2.sts, stsD_keys, by omega, fun ys p hpm hs hp => ⟨p, rfl, ⟨_, sq_of upd_same⟩, ?_⟩⟩
  rw [srtD hO hk ys hpm hs]
  have hp2 : upd H2 p (.lst (sn.map V.str)) p = some (.lst (sn.map V.str)) := upd_same
  have e3 := e2.trans (Ex.new (o := HO.lst (sn.map V.str)) hp)
  have hL3 := (Ex.new (o := HO.lst (sn.map V.str)) hp) _ _ hL2
  have npL : p ≠ L := fun z => by rw [z, hL2] at hp; cases hp
  generalize upd H2 p (.lst (sn.map V.str)) = H3 at hp2 e3 hL3 ⊢
  refine for_list (xs := sn.map V.str) (fun i σ' H' => ∃ y3 y4, σ' = [some (.ref (x.μ .m)), some (.str m), some (.ref L), y3, y4, none, none] ∧ Ex H1 H' ∧ H' p = some (.lst (sn.map .str)) ∧ H' L = some (.lst (((sn.take i).filter fun n => decide ((x.setSt m "done").c.st n = "done") && complB (x.setSt m "done").c.st (Eg g) n).map .str)))
    ⟨_, _, rfl, e3, hp2, hL3⟩ (fun i σ' H' _ ⟨_, _, _, _, q, _⟩ => sq_of q) (fun i v σ' H' hi pr => ?_) (fun σ' H' pr => ?_)
  · obtain ⟨y3, y4, rfl, e4, h4, hL4⟩ := pr
    obtain ⟨n, hn, rfl⟩ := at_map hi
    have hnm := List.mem_of_getElem? hn
    have hO4 := a1.ex e4
    have tk : sn.take (i + 1) = sn.take i ++ [n] := by
      rw [List.take_add_one, hn]
      rfl
    refine ⟨_, rfl, _, _, rfl, hO4.gnds, _, rfl, (x.μ .nds, x.bn, sn, n), rfl, sq_of hO4.nds, hO4.pn, by show x.bn.length ≤ 10000; omega, l4, hnm, by show sn.length ≤ 50; omega, fun ks nd hkl hch p2 H5 hp2' e5 h5 => ?_⟩
    have hE := hk.E
    dsimp only at hE hch hkl
    rw [hE] at hch
    have e45 := e4.trans e5
    have hO5 := a1.ex e45
    have hL5 := e5 _ _ hL4
    have h5' := e5 _ _ h4
    walk_at "nrm"
    refine ⟨_, rfl, _, _, rfl, hO5.gsts, _, rfl, _, _, rfl, hO5.gst (hk.mem.mpr hnm), rfl, _, rfl, ?_⟩
    rw [dec_V, tk, List.filter_append]
    by_cases m1 : (x.setSt m "done").c.st n = "done"
    · rw [decide_eq_true m1]
      refine it_t (by rfl) ?_
      walk_at "red"
      refine lcG (α := Str) V.str (fun b => V.bl (decide ((x.setSt m "done").c.st b = "done" ∨ (x.setSt m "done").c.st b = "ready"))) (fun l H' => l = srtS ks) (fun _ => true) (fun R r => ⟨_, rfl, p2, rfl, ⟨_, sq_of h5⟩, r _ _ H5 (Ex.refl _) rfl h5⟩)
        (fun l H' h => by rw [h, length_srtS]; omega) (fun v => rfl) (fun l H' e1 h b hb H2 e2 H3 e3 Q q => q H3 (Ex.refl _)) (fun l H' e1 h b hb _ H2 e2 H3 e3 Q q => ?_) (fun l H' pa H6 e6 h e7 hpa h6 => ?_)
      · rw [h] at hb
        have hbs : b ∈ sn := ((hch b).mp (mem_srtS.mp hb)).closed hnm fun c d hc hd => (GIn.tg hk.ok.gin hd).2
        have hO6 := a1.ex (((e45.trans e1).trans e2).trans e3)
        refine ⟨_, rfl, _, _, rfl, hO6.gsts, _, rfl, _, _, rfl, hO6.gst (hk.mem.mpr hbs), sz_of (n := 2) (by decide), fun p hp => ⟨p, [V.str "done", V.str "ready"], rfl, Or.inr (st_of upd_same), rfl, rfl, ?_⟩⟩
        have ei : inV (V.str ((x.setSt m "done").c.st b)) [V.str "done", V.str "ready"] = decide ((x.setSt m "done").c.st b = "done" ∨ (x.setSt m "done").c.st b = "ready") := by
          rw [show [V.str "done", V.str "ready"] = (["done", "ready"] : List Str).map V.str from rfl, inV_str, decide_eq_decide]
          simp
        rw [if_neg Bool.false_ne_true, ei]
        exact q _ (Ex.new hp)
      · subst h
        refine ⟨pa, (srtS ks).map fun b => decide ((x.setSt m "done").c.st b = "done" ∨ (x.setSt m "done").c.st b = "ready"), rfl, sq_of (h6.trans ?_), ?_⟩
        · rw [List.filter_eq_self.mpr fun _ _ => rfl, List.map_map]
          rfl
        have eb : ((srtS ks).map fun b => decide ((x.setSt m "done").c.st b = "done" ∨ (x.setSt m "done").c.st b = "ready")).all id = complB (x.setSt m "done").c.st (Eg g) n := by
          rw [List.all_map, Bool.eq_iff_iff, List.all_eq_true, complB_iff]
          constructor
          · intro h y hy
            exact of_decide_eq_true (h y (mem_srtS.mpr ((hch y).mpr hy)))
          · intro h y hy
            exact decide_eq_true (h y ((hch y).mp (mem_srtS.mp hy)))
        rw [eb]
        have e67 := (e45.trans e6).trans e7
        have hL6 := (e6.trans e7) _ _ hL5
        have h6' := (e6.trans e7) _ _ h5'
        refine ⟨_, rfl, ?_⟩
        by_cases m2 : complB (x.setSt m "done").c.st (Eg g) n = true
        · rw [m2]
          refine it_t (by rfl) ⟨_, rfl, Or.inl ⟨rfl, _, sq_of hL6⟩, _, rfl, L, _, _, rfl, rfl, hL6, ?_, _, _, rfl, Ex.mut e67 hL, ?_, ?_⟩
          · rw [List.length_map]
            have := List.length_filter_le (fun n => decide ((x.setSt m "done").c.st n = "done") && complB (x.setSt m "done").c.st (Eg g) n) (sn.take i)
            rw [List.length_take] at this
            exact sz_lt (by omega)
          · rw [upd_ne npL]
            exact h6'
          · rw [upd_same, List.filter_cons_of_pos (by rw [m2, decide_eq_true m1]; rfl), List.map_append]
            rfl
        · rw [List.filter_cons_of_neg (by rw [decide_eq_true m1, Bool.true_and]; exact m2)]
          refine it_f (by simpa using m2) ⟨_, _, rfl, e67, h6', ?_⟩
          simpa using hL6
    · rw [decide_eq_false m1, List.filter_cons_of_neg (by rw [decide_eq_false m1]; exact Bool.false_ne_true)]
      refine it_f (by rfl) (it_f (by rfl) ⟨_, _, rfl, e45, h5', ?_⟩)
      simpa using hL5
  · obtain ⟨y3, y4, rfl, e4, h4, hL4⟩ := pr
    rw [List.length_map, List.take_length] at hL4
    have efl : (sn.filter fun n => decide ((x.setSt m "done").c.st n = "done") && complB (x.setSt m "done").c.st (Eg g) n) = finL sn x.c (Eg g) m := rfl
    rw [efl] at hL4
    have hfl : ∀ n ∈ finL sn x.c (Eg g) m, n ∈ sn ∧ upd1 x.c.st m "done" n = "done" := fun n hn => by
      obtain ⟨h1, h2⟩ := List.mem_filter.mp hn
      rw [Bool.and_eq_true, decide_eq_true_eq] at h2
      exact ⟨h1, h2.1⟩
    have hfn : (finL sn x.c (Eg g) m).length ≤ sn.length := List.length_filter_le _ _
    have hfc : finC sn x.c (Eg g) m = forgC { x.c with st := updAll (upd1 x.c.st m "done") (finL sn x.c (Eg g) m) "ready" } (finL sn x.c (Eg g) m) := rfl
    rw [hfc] at k
    generalize finL sn x.c (Eg g) m = fl at hfl hfn hL4 k
    have hO4 := a1.ex e4
    have nL : ¬ own (x.setSt m "done").μ (CM (x.setSt m "done")) L := a1.nown hL
    walk_at "nrm"
    refine q_forLn (ev_var rfl) (sq_of hL4) (fun i σ' H' => ∃ x2 y, σ' = [some (.ref (x.μ .m)), some (.str m), some (.ref L), y, y4, none, none] ∧ TabO x2 H' ∧ MOk B sn g r x2 ∧ TStp x H x2 H' ∧ x2.c = { x.c with st := updAll (upd1 x.c.st m "done") (fl.take i) "ready" } ∧ x2.μ .m = x.μ .m ∧ ¬ own x2.μ (CM x2) L ∧ H' L = some (.lst (fl.map .str)))
      (fun H5 e5 => ⟨x.setSt m "done", _, rfl, hO4.ex e5, hk1, (a2.trans (TStp.ex e4)).trans (TStp.ex e5), by rw [List.take_zero, updAll_nil]; rfl, rfl, nL, e5 _ _ hL4⟩) (fun i σ' H' _ ⟨_, _, p⟩ => sq_of p.2.2.2.2.2.2.2) (fun i v σ' H' hi pr => ?_) (fun σ' H' pr => ?_)
    · obtain ⟨x2, y, rfl, hO5, hk5, s5, c5, m5, n5, l5⟩ := pr
      obtain ⟨n, hn, rfl⟩ := at_map hi
      have tk : fl.take (i + 1) = fl.take i ++ [n] := by
        rw [List.take_add_one, hn]
        rfl
      obtain ⟨n1, n2⟩ := hfl n (List.mem_of_getElem? hn)
      have nh : n ∉ x2.c.held := by
        rw [c5]
        intro z
        have := hk1.ok.hst n z
        rw [show (x.setSt m "done").c.st n = "done" from n2] at this
        exact absurd this (by decide)
      obtain ⟨b1, b2⟩ := hO5.setSt (hk5.mem.mpr n1) "ready"
      have hns5 := hk5.nsl
      rw [← m5]
      refine ⟨_, rfl, _, _, rfl, hO5.gsts, _, rfl, _, _, rfl, Or.inl ⟨_, Sum.inr n, hO5.sts, rfl, by rw [stsD_len]; exact sz_lt (by omega), rfl⟩, x2.setSt n "ready", _, rfl, b1, ⟨hk5.ok.st (by decide) nh, hk5.srt, hk5.be, hk5.nn, hk5.rn, hk5.ng, hk5.rg⟩, s5.trans b2, ?_, rfl, fun z => (b2.nw L z).elim n5 fun w => by (rw [l5] at w; cases w), b2.fr _ _ l5 n5⟩
      rw [tk, ← updAll_snoc]
      show ({ x2.c with st := upd1 x2.c.st n "ready" } : Core) = _
      rw [c5]
    · obtain ⟨x2, y, rfl, hO5, hk5, s5, c5, m5, n5, l5⟩ := pr
      rw [List.length_map, List.take_length] at c5
      obtain ⟨j1, j2, j3, j4⟩ := hk5.bln
      rw [← m5]
      walk_at "red"
      dsimp only [sDPut]
      refine lcG (α := Addr × Str × Str) (fun b => V.ref b.1) (fun b => V.ref b.1) (fun l H' => l = x2.be ∧ Prs H' x2.be) (fun b => decide (b.2.1 ∉ fl)) (fun R r => ⟨_, rfl, _, _, rfl, hO5.gear, _, rfl, ⟨_, sq_of hO5.ear⟩, r _ x2.be _ (Ex.refl _) ⟨rfl, hO5.pe⟩ hO5.ear⟩)
        (fun l H' h => by rw [h.1]; omega) (fun v => rfl) (fun l H' e1 h b hb H2 e2 H3 e3 Q q => ?_) (fun l H' e1 h b hb _ H2 e2 => ev_var rfl) (fun l Hc p Hd e1 h e3 hp h3 => ?_)
      · obtain ⟨rfl, h⟩ := h
        refine ⟨_, rfl, _, _, 0, .str b.2.1, rfl, rfl, st_of ((e2.trans e3) _ _ (h b hb)), rfl, _, rfl, _, _, rfl, Or.inl (sq_of ((e1.trans (e2.trans e3)) _ _ l5)), rfl, flat_strs2 fl, _, rfl, ?_⟩
        have := q H3 (Ex.refl _)
        rw [if_pos rfl, inV_str, ← decide_not]
        exact this
      · obtain ⟨rfl, h⟩ := h
        have hO6 := hO5.ex (e1.trans e3)
        obtain ⟨b1, b2⟩ := hO5.newE (forgC x2.c fl).early (e1.trans e3) hp h3 (fun b hb => (e1.trans e3) _ _ (hO5.pe b (List.mem_filter.mp hb).1))
        refine ⟨_, rfl, _, _, rfl, Or.inl ⟨_, Sum.inr "early", hO6.hm, rfl, mdl, rfl⟩, _, rfl, k (x2.newE p _ (forgC x2.c fl).early) _ L ⟨b1, hk5.ok.forg fl, hk5.srt, ?_, hk5.nn, hk5.rn, hk5.ng, hk5.rg⟩ (s5.trans b2) ?_ m5 (b2.fr _ _ l5 n5)⟩
        · show (x2.be.filter fun c => decide (c.2.1 ∉ fl)).map (·.2) = x2.c.early.filter fun p => decide (p.1 ∉ fl)
          rw [forg_pairs, hk5.be]
        · show ({ x2.c with early := (forgC x2.c fl).early } : Core) = _
          rw [c5]
          rfl
end
end CR
set_option maxRecDepth 100000
set_option maxHeartbeats 4000000
/-! Cycleready: the law's unloading. -/
namespace CR
open PySem PySem.Spec PyProof.Rows L2 Evl
local macro_rules | `(tactic| walk_at "red") => `(tactic| dsimp only [tNext, tSeq, tRet, tRetN, tDrop, tIfS, tAsg, tPar, tTest, tB, tNot, tAnd, tOr, tCB, tCons, tNil, tCall, tOp, tUn, tVar, tC, tIf])
local macro_rules | `(tactic| walk_at "nrm") => `(tactic| dsimp only [gName, tNext])
theorem delAlls {g : Graph} : ∀ {fl : List Str} {g : Graph} {sn : List Str}, GOk g → GIn sn g → (∀ n ∈ fl, n ∈ sn) → GOk (fl.foldl delAllG g) ∧ GIn sn (fl.foldl delAllG g) ∧ ∀ a, tg (fl.foldl delAllG g) a = if a ∈ fl then [] else tg g a
  | [], g, sn, h1, h2, h3 => ⟨h1, h2, fun a => by simp⟩
  | n :: fl, g, sn, h1, h2, h3 => by
    obtain ⟨k1, k2, k3⟩ := delAlls (g := g) (fl := fl) (h1.delAllG n) (GIn.delAllG h2 (h3 n List.mem_cons_self)) fun m hm => h3 m (List.mem_cons_of_mem _ hm)
    refine ⟨k1, k2, fun a => ?_⟩
    show tg (fl.foldl delAllG (delAllG g n)) a = _
    rw [k3, tg_delAll]
    by_cases z : a ∈ fl
    · rw [if_pos z, if_pos (List.mem_cons_of_mem _ z)]
    · rw [if_neg z]
      by_cases y : a = n
      · rw [if_pos y, if_pos (by rw [y]; exact List.mem_cons_self)]
      · rw [if_neg y, if_neg (fun q => (List.mem_cons.mp q).elim y z)]
section
variable {P : Program} {w : World} {K : PySem.W.Frag} {mg : Str → Option Value} {base : Heap}
def sp_l_unloaded (K : PySem.W.Frag) : Sp := Pm (fun x : MQ × Addr × List Str => [.ref (x.1.x.μ .m), .ref x.2.1]) fun x H Q => TabAt x.1.sn x.1.B x.1.g x.1.r x.1.x H ∧ H x.2.1 = some (.lst (x.2.2.map .str)) ∧ (∀ y ∈ x.2.2, y ∈ x.1.sn) ∧ x.2.2.length ≤ 40 ∧
  ∀ x' H' p, TabAt x.1.sn x.1.B ((unlL x.1.sn x.1.x.c (Eg x.1.g) x.2.2).foldl delAllG x.1.g) x.1.r x' H' → TStp x.1.x H x' H' → x'.c = unlC x.1.sn x.1.x.c (Eg x.1.g) x.2.2 → x'.μ .m = x.1.x.μ .m → H' p = some (.lst ((unlL x.1.sn x.1.x.c (Eg x.1.g) x.2.2).map .str)) → Q (.ref p) H'
theorem sp_l_unloaded_len (K : PySem.W.Frag) : ∀ vs H Q E, sp_l_unloaded K vs H Q E → vs.length = 2 := Pm.len fun _ => rfl
abbrev s_l_unloaded : Stmt := (top 46)
theorem sc_l_unloaded : FnScope ["_law_m", "_law_staying", "_law_roots", "_law_below", "_law_name", "_law_found", "_law_pair"] ["_law_m", "_law_staying"] (defScope s_l_unloaded) := ⟨rfl, rfl, rfl, by decide +kernel, rfl, by decide +kernel, by decide +kernel⟩
theorem ok_l_unloaded (T : Txt K mg) : Okd P w K mg base 2 (aF K "_law_unloaded") ["_law_m", "_law_staying"] (sp_l_unloaded K) := by
  obtain ⟨fd, F⟩ := T.f_l_unloaded
  refine Okd.mk F sc_l_unloaded (sp_l_unloaded_len K) (fun _ _ _ _ _ _ us hl => match us, hl with | [_, _], _ => rfl) (fun cdv A outer s H vs Q E hr h => ?_)
  have hu := hu_of hr
  refine ⟨_, (pss_cons (ps_asg (pe_tup (pa_cons (pe_op op_cat (pe_op op_cat (pe_op op_cat (pe_callTy (call_list_ofK (K := K) rfl) (by rfl) T.b_list (by decide +kernel) (pa_cons (pv 1) pa_nil)) (pe_callO (ok_l_in (K := K) T) (hr.mono (by decide)) rfl T.g__law_in T.k__law_in (pa_cons (pv 0) (pa_cons pe_str pa_nil)))) (pe_callO (ok_l_in (K := K) T) (hr.mono (by decide)) rfl T.g__law_in T.k__law_in (pa_cons (pv 0) (pa_cons pe_str pa_nil)))) (pe_callO (ok_l_in (K := K) T) (hr.mono (by decide)) rfl T.g__law_in T.k__law_in (pa_cons (pv 0) (pa_cons pe_str pa_nil)))) (pa_cons (pe_lst pa_nil) pa_nil))) (pg_tupK (K := K) (n := 2) rfl rfl (pgs_cons (pg_name (i := 2) sc_l_unloaded.nd rfl (Or.inl rfl) (Or.inl rfl)) (pgs_cons (pg_name (i := 3) sc_l_unloaded.nd rfl (Or.inr rfl) (Or.inl rfl)) pgs_nil))))
    (pss_cons (ps_for PassesOwn.never rfl (pi_listK (K := K) rfl (pv 2)) (pg_name (i := 4) sc_l_unloaded.nd rfl (Or.inl rfl) (Or.inl rfl))
    (pss_one (ps_set (i := 3) sc_l_unloaded.nd rfl (Or.inr rfl) (pe_op op_cat (pv 3) (pe_callO (ok_l_reach (K := K) T) (hr.mono (by decide)) rfl T.g__law_reach T.k__law_reach (pa_cons (pe_dget hu (pv 0) pe_str (fun _ _ => rfl)) (pa_cons (pv 4) pa_nil)))))))
    (pss_cons (ps_set (i := 5) sc_l_unloaded.nd rfl (Or.inr rfl) (pe_lc (own := [("_law_name", 4)]) rfl sc_l_unloaded.nd (pi_listK (K := K) rfl (pe_callO (ok_l_in (K := K) T) (hr.mono (by decide)) rfl T.g__law_in T.k__law_in (pa_cons (pv 0) (pa_cons pe_str pa_nil)))) (blkOk_by (own := [("_law_name", 4)]) (N := ["_law_m", "_law_staying", "_law_roots", "_law_below", "_law_name", "_law_found", "_law_pair"]) (sc := defScope s_l_unloaded) (by decide +kernel)) (fun _ _ _ _ _ => (pg_name (i := 4) sc_l_unloaded.nd rfl (Or.inl rfl) (Or.inr rfl))) (fun _ _ _ _ _ => (pts_one (pt_cmpR (op_notIn_seqK (K := K) rfl) (pv 4) (pv 3) (by rfl)))) (fun _ _ _ _ _ => (pv 4))))
    (pss_cons (ps_for PassesOwn.never rfl (pi_listK (K := K) rfl (pv 5)) (pg_name (i := 4) sc_l_unloaded.nd rfl (Or.inl rfl) (Or.inl rfl))
    (pss_one (ps_asg (pe_tup (pa_cons pe_str (pa_cons pe_dnewK pa_nil))) (pg_tupK (K := K) (n := 2) rfl rfl (pgs_cons (pg_sub (pe_dget hu (pv 0) pe_str (fun _ _ => rfl)) (pv 4) (set_dput hu)) (pgs_cons (pg_sub (pe_dget hu (pv 0) pe_str (fun _ _ => rfl)) (pv 4) (set_dput hu)) pgs_nil))))))
    (pss_cons (ps_dput hu (pv 0) pe_str (pe_lc (own := [("_law_pair", 6)]) rfl sc_l_unloaded.nd (pi_listK (K := K) rfl (pe_dget hu (pv 0) pe_str (fun _ _ => rfl))) (blkOk_by (own := [("_law_pair", 6)]) (N := ["_law_m", "_law_staying", "_law_roots", "_law_below", "_law_name", "_law_found", "_law_pair"]) (sc := defScope s_l_unloaded) (by decide +kernel)) (fun _ _ _ _ _ => (pg_name (i := 6) sc_l_unloaded.nd rfl (Or.inl rfl) (Or.inr rfl))) (fun _ _ _ _ _ => (pts_one (pt_cmpR (op_notIn_seqK (K := K) rfl) (pe_ix (ix_tupK (K := K) rfl) (pv 6) pe_int (fun _ _ => rfl)) (pv 5) (by rfl)))) (fun _ _ _ _ _ => (pv 6))) rfl)
    (pss_one (ps_ret (pv 5)))))))), ?_⟩
  obtain ⟨⟨⟨sn, B, g, r, x⟩, a, ks0⟩, rfl, ⟨hO, hk⟩, ha, hks, hkl, k⟩ := h
  dsimp only at hO hk ha hks hkl k
  have hnl := hk.ok.len
  have hns := hk.nsl
  obtain ⟨l1', l2', l3', l4'⟩ := hk.bln
  have li : ∀ st, (inC sn x.c st).length ≤ sn.length := fun st => List.length_filter_le _ _
  -- the roots
  refine ⟨_, rfl, a, _, rfl, Or.inl (sq_of ha), fun l1 hl1 => ?_⟩
  have f1 : upd H l1 (.lst (ks0.map V.str)) l1 = some (.lst (ks0.map V.str)) := upd_same
  have e3 := Ex.new (o := HO.lst (ks0.map V.str)) hl1
  generalize upd H l1 (.lst (ks0.map V.str)) = H3 at f1 e3 ⊢
  refine ⟨_, rfl, (⟨sn, B, g, r, x⟩, "running"), rfl, ⟨hO.ex e3, hk⟩, fun p1 H4 hp1 e4 g1 => ⟨l1, p1, _, _, rfl, rfl, e4 _ _ f1, g1, ?_, fun l2 hl2 => ?_⟩⟩
  · rw [List.length_map, List.length_map]
    have := li "running"
    exact sz_of (n := ks0.length + (inC sn x.c "running").length) (by omega)
  rw [← List.map_append]
  dsimp only
  generalize hr2 : ks0 ++ inC sn x.c "running" = r2
  have lr2 : r2.length ≤ 80 := by
    rw [← hr2, List.length_append]
    have := li "running"
    omega
  have f2 : upd H4 l2 (.lst (r2.map V.str)) l2 = some (.lst (r2.map V.str)) := upd_same
  have e5 := (e3.trans e4).trans (Ex.new (o := HO.lst (r2.map V.str)) hl2)
  generalize upd H4 l2 (.lst (r2.map V.str)) = H5 at f2 e5 ⊢
  refine ⟨_, rfl, (⟨sn, B, g, r, x⟩, "done"), rfl, ⟨hO.ex e5, hk⟩, fun p3 H6 hp3 e6 g3 => ⟨l2, p3, _, _, rfl, rfl, e6 _ _ f2, g3, ?_, fun l3 hl3 => ?_⟩⟩
  · rw [List.length_map, List.length_map]
    have := li "done"
    exact sz_of (n := r2.length + (inC sn x.c "done").length) (by omega)
  rw [← List.map_append]
  dsimp only
  generalize hr3 : r2 ++ inC sn x.c "done" = r3
  have lr3 : r3.length ≤ 120 := by
    rw [← hr3, List.length_append]
    have := li "done"
    omega
  have f3 : upd H6 l3 (.lst (r3.map V.str)) l3 = some (.lst (r3.map V.str)) := upd_same
  have e7 := (e5.trans e6).trans (Ex.new (o := HO.lst (r3.map V.str)) hl3)
  generalize upd H6 l3 (.lst (r3.map V.str)) = H7 at f3 e7 ⊢
  refine ⟨_, rfl, (⟨sn, B, g, r, x⟩, "failed"), rfl, ⟨hO.ex e7, hk⟩, fun p5 H8 hp5 e8 g5 => ⟨l3, p5, _, _, rfl, rfl, e8 _ _ f3, g5, ?_, fun l4 hl4 => ?_⟩⟩
  · rw [List.length_map, List.length_map]
    have := li "failed"
    exact sz_of (n := r3.length + (inC sn x.c "failed").length) (by omega)
  rw [← List.map_append]
  dsimp only
  have hr4 : r3 ++ inC sn x.c "failed" = rootsC sn x.c ks0 := by
    rw [← hr3, ← hr2]
    rfl
  rw [hr4]
  have hroots : ∀ y ∈ rootsC sn x.c ks0, y ∈ sn := fun y hy => by
    rw [← hr4, ← hr3, ← hr2] at hy
    rcases List.mem_append.mp hy with hy | hy
    · rcases List.mem_append.mp hy with hy | hy
      · rcases List.mem_append.mp hy with hy | hy
        · exact hks y hy
        · exact (List.mem_filter.mp hy).1
      · exact (List.mem_filter.mp hy).1
    · exact (List.mem_filter.mp hy).1
  have lr4 : (rootsC sn x.c ks0).length ≤ 160 := by
    rw [← hr4, List.length_append]
    have := li "failed"
    omega
  generalize hrt : rootsC sn x.c ks0 = rt at hroots lr4 ⊢
  have f4 : upd H8 l4 (.lst (rt.map V.str)) l4 = some (.lst (rt.map V.str)) := upd_same
  have e9 := (e7.trans e8).trans (Ex.new (o := HO.lst (rt.map V.str)) hl4)
  generalize upd H8 l4 (.lst (rt.map V.str)) = H9 at f4 e9 ⊢
  refine ⟨sz_of (n := 0) (by decide), fun l5 hl5 => ⟨sz_of (n := 2) (by decide), fun tp htp => ⟨tp, _, rfl, st_of upd_same, rfl, _, _, rfl, _, _, rfl, rfl, ?_⟩⟩⟩
  have e10 := (e9.trans (Ex.new (o := HO.lst []) hl5)).trans (Ex.new (o := HO.tup [V.ref l4, V.ref l5]) htp)
  have f5 : upd (upd H9 l5 (.lst [])) tp (.tup [V.ref l4, V.ref l5]) l5 = some (.lst (([] : List Str).map .str)) := (Ex.new htp) _ _ upd_same
  have f4' := (((Ex.new (o := HO.lst []) hl5)).trans (Ex.new (o := HO.tup [V.ref l4, V.ref l5]) htp)) _ _ f4
  generalize upd (upd H9 l5 (.lst [])) tp (.tup [V.ref l4, V.ref l5]) = H10 at e10 f5 f4' ⊢
  refine q_forLn (ev_var rfl) (sq_of f4') (fun i σ' H' => ∃ Lb bl y4, σ' = [some (.ref (x.μ .m)), some (.ref a), some (.ref l4), some (.ref Lb), y4, none, none] ∧ Ex H H' ∧ H' l4 = some (.lst (rt.map .str)) ∧ H' Lb = some (.lst (bl.map .str)) ∧ bl.length ≤ 50 * i ∧ ∀ y, y ∈ bl ↔ ∃ r ∈ rt.take i, Rch (Eg g) r y)
    (fun H11 e11 => ⟨l5, [], _, rfl, e10.trans e11, e11 _ _ f4', e11 _ _ f5, Nat.zero_le _, fun y => by simp⟩) (fun i σ' H' _ ⟨_, _, _, _, _, p, _⟩ => sq_of p) (fun i v σ' H' hi pr => ?_) (fun σ' H' pr => ?_)
  · obtain ⟨Lb, bl, y4, rfl, e11, h4, hb, hbl, hch⟩ := pr
    obtain ⟨n, hn, rfl⟩ := at_map hi
    have hnm := hroots n (List.mem_of_getElem? hn)
    have hin : i < rt.length := (List.getElem?_eq_some_iff.mp hn).1
    have hO11 := hO.ex e11
    have tk : rt.take (i + 1) = rt.take i ++ [n] := by
      rw [List.take_add_one, hn]
      rfl
    refine ⟨_, rfl, _, rfl, _, _, rfl, hO11.gnds, _, rfl, (x.μ .nds, x.bn, sn, n), rfl, sq_of hO11.nds, hO11.pn, by show x.bn.length ≤ 10000; omega, l4', hnm, by show sn.length ≤ 50; omega, fun ks nd hkl hch2 p2 H12 hp2 e12 h12 => ⟨Lb, p2, _, _, rfl, rfl, e12 _ _ hb, h12, ?_, fun p3 hp3 => ?_⟩⟩
    · rw [List.length_map, List.length_map, length_srtS]
      exact sz_of (n := bl.length + ks.length) (by omega)
    have hE := hk.E
    dsimp only at hE hch2 hkl
    rw [hE] at hch2
    refine ⟨p3, bl ++ srtS ks, _, rfl, (e11.trans e12).trans (Ex.new hp3), (e12.trans (Ex.new hp3)) _ _ h4, ?_, ?_, fun y => ?_⟩
    · rw [upd_same, List.map_append]
    · rw [List.length_append, length_srtS]
      omega
    · rw [List.mem_append, hch, mem_srtS, hch2, tk]
      constructor
      · rintro (⟨r, h1, h2⟩ | h)
        · exact ⟨r, List.mem_append_left _ h1, h2⟩
        · exact ⟨n, List.mem_append_right _ (List.mem_singleton.mpr rfl), h⟩
      · rintro ⟨r, h1, h2⟩
        rcases List.mem_append.mp h1 with z | z
        · exact Or.inl ⟨r, z, h2⟩
        · rw [List.mem_singleton.mp z] at h2
          exact Or.inr h2
  obtain ⟨Lb, ks, y4, rfl, e11, h4, dd, hbl, hch⟩ := pr
  rw [List.length_map, List.take_length] at hch
  have hO11 := hO.ex e11
  have efl : (inC sn x.c "ready").filter (fun n => decide (n ∉ ks)) = unlL sn x.c (Eg g) ks0 := by
    unfold inC unlL
    rw [List.filter_filter, hrt]
    refine congrArg (fun f => List.filter f sn) (funext fun n => ?_)
    rw [Bool.and_comm]
    congr 1
    rw [Bool.eq_iff_iff]
    refine ⟨fun h => @decide_eq_true _ (_) fun z => of_decide_eq_true h ((hch n).mpr z), fun h => decide_eq_true fun z => @of_decide_eq_true _ (_) h ((hch n).mp z)⟩
  have hfl : ∀ n ∈ unlL sn x.c (Eg g) ks0, n ∈ sn ∧ x.c.st n = "ready" := fun n hn => by
    obtain ⟨h1, h2⟩ := List.mem_filter.mp hn
    rw [Bool.and_eq_true, decide_eq_true_eq] at h2
    exact ⟨h1, h2.1⟩
  have hfn : (unlL sn x.c (Eg g) ks0).length ≤ sn.length := List.length_filter_le _ _
  have hun : unlC sn x.c (Eg g) ks0 = { x.c with st := updAll x.c.st (unlL sn x.c (Eg g) ks0) "new", ex := updAll x.c.ex (unlL sn x.c (Eg g) ks0) [] } := rfl
  rw [hun] at k
  generalize unlL sn x.c (Eg g) ks0 = fl at efl hfl hfn k
  walk_at "red"
  refine lcS (inC sn x.c "ready") (fun n => decide (n ∉ ks)) (by have := li "ready"; omega)
    (fun R r => ⟨_, rfl, (⟨sn, B, _, _, x⟩, "ready"), rfl, ⟨hO11, hk⟩, fun p H' hp e hl => ⟨p, rfl, ⟨_, sq_of hl⟩, r p H' e hl⟩⟩)
    (fun v => rfl) (fun n hn H2' e => fun H3' e3' Q q => ?_) (fun n hn H' e => ev_var rfl) (fun pf Hf hpf ef hf => ?_)
  · refine ⟨_, rfl, _, rfl, Lb, _, rfl, Or.inl (sq_of ((e.trans e3') _ _ dd)), rfl, flat_strs2 ks, _, rfl, ?_⟩
    rw [if_pos rfl, inV_str, ← decide_not]
    exact q H3' (Ex.refl _)
  rw [efl] at hf
  walk_at "nrm"
  have hOf := hO11.ex ef
  have nf : ¬ own x.μ (CM x) pf := hO11.nown hpf
  refine q_forLn (ev_var rfl) (sq_of hf) (fun i σ' H' => ∃ x2 y, σ' = [some (.ref (x.μ .m)), some (.ref a), some (.ref l4), some (.ref Lb), y, some (.ref pf), none] ∧ TabO x2 H' ∧ MOk B sn g r x2 ∧ TStp x H x2 H' ∧ x2.c = { x.c with st := updAll x.c.st (fl.take i) "new", ex := updAll x.c.ex (fl.take i) [] } ∧ x2.μ .m = x.μ .m ∧ ¬ own x2.μ (CM x2) pf ∧ H' pf = some (.lst (fl.map .str)))
    (fun H4 e4 => ⟨x, _, rfl, hOf.ex e4, hk, TStp.ex ((e11.trans ef).trans e4), by rw [List.take_zero, updAll_nil, updAll_nil], rfl, nf, e4 _ _ hf⟩) (fun i σ' H' _ ⟨_, _, p⟩ => sq_of p.2.2.2.2.2.2.2) (fun i v σ' H1 hi pr => ?_) (fun σ' H' pr => ?_)
  · obtain ⟨x1, y, rfl, hO1, hk1, s1, c1, m1, n1, lf1⟩ := pr
    obtain ⟨n, hn, rfl⟩ := at_map hi
    have tk : fl.take (i + 1) = fl.take i ++ [n] := by
      rw [List.take_add_one, hn]
      rfl
    obtain ⟨u1, u2⟩ := hfl n (List.mem_of_getElem? hn)
    have hm1 := hk1.mem.mpr u1
    have hln := hk1.nsl
    have nh : n ∉ x1.c.held := by
      rw [c1]
      intro z
      have := hk.ok.hst n z
      rw [u2] at this
      exact absurd this (by decide)
    rw [← m1]
    intro q hq
    have eq := Ex.new (o := HO.dK []) hq
    refine ⟨sz_of (n := 2) (by decide), fun p hp => ⟨p, _, rfl, st_of upd_same, rfl, _, _, rfl, ?_⟩⟩
    have ep := eq.trans (Ex.new (o := HO.tup [V.str "new", V.ref q]) hp)
    have hq2 : upd (upd H1 q (.dK [])) p (.tup [V.str "new", V.ref q]) q = some (.dK []) := (Ex.new hp) _ _ upd_same
    generalize upd (upd H1 q (.dK [])) p (.tup [V.str "new", V.ref q]) = H2 at ep hq2 ⊢
    have hO2 := hO1.ex ep
    have lf2 := ep _ _ lf1
    obtain ⟨a1, a2⟩ := hO2.setSt hm1 "new"
    refine ⟨_, rfl, _, _, rfl, hO2.gsts, _, rfl, _, _, rfl, Or.inl ⟨_, Sum.inr n, hO2.sts, rfl, by rw [stsD_len]; exact sz_lt (by omega), rfl⟩, _, _, rfl, ?_⟩
    have hqo1 : ¬ own x1.μ (CM x1) q := hO1.nown hq
    have hqo : ¬ own (x1.setSt n "new").μ (CM (x1.setSt n "new")) q := fun z => (a2.nw q z).elim hqo1 fun y => by rw [hq2] at y; cases y
    have hq3 := a2.fr _ _ hq2 hqo1
    have n3 : ¬ own (x1.setSt n "new").μ (CM (x1.setSt n "new")) pf := fun z => (a2.nw pf z).elim n1 fun y => by rw [lf2] at y; cases y
    have lf3 := a2.fr _ _ lf2 n1
    generalize upd H2 (x1.μ .sts) (.dK (putK (stsD x1.ns x1.c.st) (Sum.inr n) (.str "new"))) = H3 at a1 a2 hq3 lf3 ⊢
    obtain ⟨b1, b2, b3⟩ := a1.clrExO (m := n) hm1 hqo hq3
    have pfq : pf ≠ q := fun z => by
      rw [z, hq] at lf1
      cases lf1
    refine ⟨_, rfl, _, _, rfl, a1.gexd, _, rfl, _, _, rfl, Or.inl ⟨_, Sum.inr n, a1.exd, rfl, ?_, rfl⟩, rfl, (x1.setSt n "new").clrEx n q, _, rfl, b1, ⟨(hk1.ok.st (v := "new") (m := n) (by decide) nh).clr (m := n), hk1.srt, hk1.be, hk1.nn, hk1.rn, hk1.ng, hk1.rg⟩, ?_, ?_, rfl, fun z => (b3 pf z).elim n3 pfq, b2 _ _ lf3 n3⟩
    · show (exdM x1.ns x1.μ).length < sizeLine
      unfold exdM
      rw [length_dS, List.length_map]
      exact sz_lt (by omega)
    · have s3 : TStp x1 H1 (x1.setSt n "new") H3 := (TStp.ex ep).trans a2
      refine s1.trans ⟨fun a o ha hna => ?_, fun a ha => ?_⟩
      · exact b2 _ _ (s3.fr _ _ ha hna) fun z => (s3.nw a z).elim hna fun y => by rw [ha] at y; cases y
      · rcases b3 a ha with z | z
        · exact s3.nw a z
        · exact Or.inr (z ▸ hq)
    · rw [tk, ← updAll_snoc, ← updAll_snoc]
      show ({ x1.c with st := upd1 x1.c.st n "new", ex := upd1 x1.c.ex n [] } : Core) = _
      rw [c1]
  · obtain ⟨x2, y, rfl, hO5, hk5, s5, c5, m5, n5, l5⟩ := pr
    rw [List.length_map, List.take_length] at c5
    obtain ⟨j1, j2, j3, j4⟩ := hk5.bln
    rw [← m5]
    walk_at "red"
    dsimp only [sDPut]
    refine lcG (α := Addr × Str × Str) (fun b => V.ref b.1) (fun b => V.ref b.1) (fun l H' => l = x2.bn ∧ Prs H' x2.bn) (fun b => decide (b.2.1 ∉ fl)) (fun R r => ⟨_, rfl, _, _, rfl, hO5.gnds, _, rfl, ⟨_, sq_of hO5.nds⟩, r _ x2.bn _ (Ex.refl _) ⟨rfl, hO5.pn⟩ hO5.nds⟩)
      (fun l H' h => by rw [h.1]; omega) (fun v => rfl) (fun l H' e1 h b hb H2 e2 H3 e3 Q q => ?_) (fun l H' e1 h b hb _ H2 e2 => ev_var rfl) (fun l Hc p Hd e1 h e3 hp h3 => ?_)
    · obtain ⟨rfl, h⟩ := h
      refine ⟨_, rfl, _, _, 0, .str b.2.1, rfl, rfl, st_of ((e2.trans e3) _ _ (h b hb)), rfl, _, rfl, _, _, rfl, Or.inl (sq_of ((e1.trans (e2.trans e3)) _ _ l5)), rfl, flat_strs2 fl, _, rfl, ?_⟩
      have := q H3 (Ex.refl _)
      rw [if_pos rfl, inV_str, ← decide_not]
      exact this
    · obtain ⟨rfl, h⟩ := h
      have hO6 := hO5.ex (e1.trans e3)
      obtain ⟨b1, b2⟩ := hO5.newN (e1.trans e3) hp h3 (fun b hb => (e1.trans e3) _ _ (hO5.pn b (List.mem_filter.mp hb).1))
      obtain ⟨d1, d2, d3⟩ := delAlls (g := g) hk5.ok.gok hk5.ok.gin (fun n hn => (hfl n hn).1)
      refine ⟨_, rfl, _, _, rfl, Or.inl ⟨_, Sum.inr "needs", hO6.hm, rfl, mdl, rfl⟩, _, rfl, k (x2.newN p _) _ pf ⟨b1, hk5.ok.graphs d1 d2 hk5.ok.rok hk5.ok.rin, hk5.srt, hk5.be, ?_, hk5.rn, fun a b => ?_, hk5.rg⟩ (s5.trans b2) c5 m5 (b2.fr _ _ l5 n5)⟩
      · show ((x2.bn.filter fun c => decide (c.2.1 ∉ fl)).map (·.2)).Nodup
        rw [forg_pairs]
        exact hk5.nn.sublist List.filter_sublist
      · show (a, b) ∈ (x2.bn.filter fun c => decide (c.2.1 ∉ fl)).map (·.2) ↔ _
        rw [forg_pairs, List.mem_filter, hk5.ng, decide_eq_true_eq, d3]
        by_cases z : a ∈ fl
        · rw [if_pos z]
          exact ⟨fun h => absurd z h.2, fun h => absurd h (by simp)⟩
        · rw [if_neg z]
          exact ⟨fun h => h.1, fun h => ⟨h, z⟩⟩
end
end CR
set_option maxRecDepth 100000
set_option maxHeartbeats 4000000
/-! Cycleready: the law's failures. -/
namespace CR
open PySem PySem.Spec PyProof.Rows L2 Evl
local macro_rules | `(tactic| walk_at "red") => `(tactic| dsimp only [tNext, tSeq, tRet, tRetN, tDrop, tIfS, tAsg, tPar, tTest, tB, tNot, tAnd, tOr, tCB, tCons, tNil, tCall, tOp, tUn, tVar, tC, tIf])
local macro_rules | `(tactic| walk_at "nrm") => `(tactic| dsimp only [gName, tNext])
theorem Stp.fresh {ι κ : Type} {A : ι → Addr} {C : ι → Option HO} {A' : κ → Addr} {C' : κ → Option HO} {H H1 : Hp} {p : Addr} (s : Stp A C H A' C' H1) (hp : H1 p = none) : ∀ o, H p = some o → own A C p := fun o ho => by
  by_cases z : own A C p
  · exact z
  · rw [s.fr p o ho z] at hp
    cases hp
theorem Stp.off {ι κ : Type} {A : ι → Addr} {C : ι → Option HO} {A' : κ → Addr} {C' : κ → Option HO} {H H' : Hp} {L : Addr} {o : HO} (s : Stp A C H A' C' H') (hL : ∀ o, H L = some o → own A C L) : Stp A C H A' C' (upd H' L o) :=
  ⟨fun a o ha hn => by
    rw [upd_ne (fun z => hn (by rw [z] at ha ⊢; exact hL _ ha))]
    exact s.fr a o ha hn, s.nw⟩
theorem TabO.off {x : MX} {H : Hp} {L : Addr} {o : HO} (h : TabO x H) (hL : ¬ own x.μ (CM x) L) (ht : ∀ xs, H L ≠ some (.tup xs)) : TabO x (upd H L o) := by
  have kp : ∀ a xs, H a = some (.tup xs) → upd H L o a = some (.tup xs) := fun a xs e => by
    rw [upd_ne (fun z => ht _ (z ▸ e))]
    exact e
  exact ⟨⟨fun i o e => by
    rw [upd_ne (fun z => hL ⟨i, by rw [e]; rfl, z⟩)]
    exact h.is.is i o e, h.is.inj⟩, h.pn.fr kp, h.pr.fr kp, h.pe.fr kp⟩
theorem MOk.congr {B : Nat} {sn : List Str} {g g' r : Graph} {x : MX} (h : MOk B sn g r x) (h1 : GOk g') (h2 : GIn sn g') (h3 : ∀ a, tg g' a = tg g a) : MOk B sn g' r x :=
  ⟨h.ok.graphs h1 h2 h.ok.rok h.ok.rin, h.srt, h.be, h.nn, h.rn, fun a b => by rw [h3]; exact h.ng a b, h.rg⟩
theorem MOk.mono {B B' : Nat} {sn : List Str} {g r : Graph} {x : MX} (h : MOk B sn g r x) (l : B ≤ B') : MOk B' sn g r x := ⟨h.ok.mono l, h.srt, h.be, h.nn, h.rn, h.ng, h.rg⟩
theorem failG_tg {held : List Str} {g : Graph} {sn : List Str} (l : List Str) (h1 : GOk g) (h2 : GIn sn g) (h3 : ∀ n ∈ l, n ∈ sn) : GOk (failG held g l) ∧ GIn sn (failG held g l) ∧ ∀ a, tg (failG held g l) a = if a ∈ l ∧ a ∉ held then [] else tg g a := by
  induction l using accF_snocRec with
  | h0 => exact ⟨h1, h2, fun a => by simp [failG]⟩
  | hs l n ih =>
    obtain ⟨k1, k2, k3⟩ := ih fun m hm => h3 m (List.mem_append_left _ hm)
    rw [failG_snoc]
    by_cases z : n ∈ held
    · rw [if_pos z]
      refine ⟨k1, k2, fun a => ?_⟩
      rw [k3]
      by_cases y : a ∈ l ∧ a ∉ held
      · rw [if_pos y, if_pos ⟨List.mem_append_left _ y.1, y.2⟩]
      · rw [if_neg y, if_neg fun q => (List.mem_append.mp q.1).elim (fun w => y ⟨w, q.2⟩) fun w => q.2 (by rw [List.mem_singleton.mp w]; exact z)]
    · rw [if_neg z]
      refine ⟨k1.delAllG n, GIn.delAllG k2 (h3 n (List.mem_append_right _ (List.mem_singleton.mpr rfl))), fun a => ?_⟩
      rw [tg_delAll, k3]
      by_cases y : a = n
      · rw [if_pos y, if_pos ⟨by rw [y]; exact List.mem_append_right _ (List.mem_singleton.mpr rfl), by rw [y]; exact z⟩]
      · rw [if_neg y]
        by_cases q : a ∈ l ∧ a ∉ held
        · rw [if_pos q, if_pos ⟨List.mem_append_left _ q.1, q.2⟩]
        · rw [if_neg q, if_neg fun w => q ⟨(List.mem_append.mp w.1).resolve_right fun v => y (List.mem_singleton.mp v), w.2⟩]
section
variable {P : Program} {w : World} {K : PySem.W.Frag} {mg : Str → Option Value} {base : Heap}
theorem down_call {σ : L2.St} {H : Hp} {ta tm tc : TE} {sn : List Str} {B : Nat} {g r : Graph} {x : MX} {m : Str} {l : List Str} {Q : VK} (ha : Ev ta σ H (.ref (x.μ .m))) (hm : Ev tm σ H (.str m))
    (hc : ∀ H1, Ex H H1 → ∀ Q : VK, (∀ t0 H2, Ex H1 H2 → H2 t0 = some (.lst (l.map .str)) → Q (.ref t0) H2) → tc σ H1 Q) (hT : TabAt sn B g r x H) (hms : m ∈ sn) (hl : l.length ≤ B) (hB : B ≤ 50000)
    (k : ∀ x' H', TabAt sn (B + 1) (if x.c.st m = "running" then g else delAllG g m) r x' H' → TStp x H x' H' → x'.c = downC x.c m (m :: l) → x'.μ .m = x.μ .m → Q .non H') :
    tCall (sp_l_down K) [] E0 (tCons ta (tCons tm (tCons (tOp rCat (tLst (tCons tm tNil)) tc) tNil))) σ H Q := by
  refine ha H (Ex.refl H) _ fun H1 e1 => hm H1 e1 _ fun H2 e2 => hm H2 (e1.trans e2) _ fun H3 e3 => ⟨sz_of (n := 1) (by decide), fun q hq => hc _ (((e1.trans e2).trans e3).trans (Ex.new hq)) _ fun t0 H4 e4 h4 => ?_⟩
  have e5 := (((e1.trans e2).trans e3).trans (Ex.new (o := HO.lst [V.str m]) hq)).trans e4
  refine ⟨q, t0, [.str m], l.map .str, rfl, rfl, e4 _ _ upd_same, h4, ?_, fun p hp => ?_⟩
  · rw [List.length_map]
    exact sz_of (n := 1 + l.length) (by omega)
  have hT4 := hT.ex e5
  have hn : ¬ own x.μ (CM x) p := hT4.1.nown hp
  refine ⟨(⟨sn, B, g, r, x⟩, m, p, m :: l), rfl, hT4.ex (Ex.new hp), hms, upd_same, hn, Nat.succ_le_succ hl, fun x' H' a1 a2 a3 a4 a5 => k x' H' a1 ⟨fun a o ho hna => ?_, fun a ha => ?_⟩ a2 a3⟩
  · have ho4 := e5 _ _ ho
    exact a4 a o ((Ex.new hp) _ _ ho4) hna fun z => by
      have z : a = p := z
      rw [z, hp] at ho4
      cases ho4
  · have back : ∀ a, H4 a = none → H a = none := fun a h => by
      cases e : H a with
      | none => rfl
      | some o => rw [e5 _ _ e] at h; cases h
    rcases a5 a ha with z | z | z
    · exact Or.inl z
    · right
      refine back a ?_
      cases e : H4 a with
      | none => rfl
      | some o => rw [(Ex.new hp) _ _ e] at z; cases z
    · right
      have z : a = p := z
      exact back a (z ▸ hp)
theorem tgstep {sn : List Str} {g g3 : Graph} {c : Core} {l : List Str} {s : Str} {ch : List Str} (h : ∀ a, tg g3 a = if a ∈ l ∧ a ∉ c.held then [] else tg g a) (hs : s ∉ l) (nh : s ∉ c.held) (a : Str) :
    tg (if c.st s = "running" then g3 else delAllG g3 s) a = if a ∈ l ++ [s] ∧ a ∉ (downC c s ch).held then [] else tg g a := by
  show _ = if a ∈ l ++ [s] ∧ a ∉ (if c.st s = "running" then c.held ++ [s] else c.held) then [] else tg g a
  by_cases r : c.st s = "running"
  · rw [if_pos r, if_pos r, h]
    by_cases z : a = s
    · rw [if_neg (fun q => hs (z ▸ q.1)), if_neg (fun q => q.2 (by rw [z]; exact List.mem_append_right _ (List.mem_singleton.mpr rfl)))]
    · by_cases y : a ∈ l ∧ a ∉ c.held
      · rw [if_pos y, if_pos ⟨List.mem_append_left _ y.1, fun q => (List.mem_append.mp q).elim y.2 fun w => z (List.mem_singleton.mp w)⟩]
      · rw [if_neg y, if_neg fun q => y ⟨(List.mem_append.mp q.1).resolve_right fun w => z (List.mem_singleton.mp w), fun w => q.2 (List.mem_append_left _ w)⟩]
  · rw [if_neg r, if_neg r, tg_delAll, h]
    by_cases z : a = s
    · rw [if_pos z, if_pos ⟨by rw [z]; exact List.mem_append_right _ (List.mem_singleton.mpr rfl), by rw [z]; exact nh⟩]
    · rw [if_neg z]
      by_cases y : a ∈ l ∧ a ∉ c.held
      · rw [if_pos y, if_pos ⟨List.mem_append_left _ y.1, y.2⟩]
      · rw [if_neg y, if_neg fun q => y ⟨(List.mem_append.mp q.1).resolve_right fun w => z (List.mem_singleton.mp w), q.2⟩]
def sp_l_failed (K : PySem.W.Frag) : Sp := Pm (fun x : MQ × Str × Option Str => [.ref (x.1.x.μ .m), .str x.2.1, vO x.2.2]) fun x H Q => TabAt x.1.sn x.1.B x.1.g x.1.r x.1.x H ∧ x.2.1 ∈ x.1.sn ∧ x.1.x.c.st x.2.1 = "running" ∧ (∀ b, x.2.2 = some b → b ∈ x.1.sn ∧ x.1.x.c.st b = "failed") ∧ x.1.B ≤ 10000 ∧
  ∀ x' H' p, TabAt x.1.sn (x.1.B + 50) (failG (failC (x.1.sn.length + 2) x.1.x.c x.2.1 x.2.2).held x.1.g (failedC (x.1.sn.length + 2) x.1.x.c x.2.1 x.2.2).2) x.1.r x' H' → TStp x.1.x H x' H' →
    x'.c = failC (x.1.sn.length + 2) x.1.x.c x.2.1 x.2.2 → x'.μ .m = x.1.x.μ .m → H' p = some (.lst ((srtS (failedC (x.1.sn.length + 2) x.1.x.c x.2.1 x.2.2).2).map .str)) → Q (.ref p) H'
theorem sp_l_failed_len (K : PySem.W.Frag) : ∀ vs H Q E, sp_l_failed K vs H Q E → vs.length = 3 := Pm.len fun _ => rfl
abbrev s_l_failed : Stmt := (top 40)
theorem sc_l_failed : FnScope ["_law_m", "_law_module", "_law_cause", "_law_found", "_law_current", "_law_following", "_law_source", "_law_target", "_law_pair"] ["_law_m", "_law_module", "_law_cause"] (defScope s_l_failed) := ⟨rfl, rfl, rfl, by decide +kernel, rfl, by decide +kernel, by decide +kernel⟩
theorem ok_l_failed (T : Txt K mg) : Okd P w K mg base 2 (aF K "_law_failed") ["_law_m", "_law_module", "_law_cause"] (sp_l_failed K) := by
  obtain ⟨fd, F⟩ := T.f_l_failed
  refine Okd.mk F sc_l_failed (sp_l_failed_len K) (fun _ _ _ _ _ _ us hl => match us, hl with | [_, _, _], _ => rfl) (fun cdv A outer s H vs Q E hr h => ?_)
  have hu := hu_of hr
  refine ⟨_, (pss_cons (ps_expr (pe_callO (ok_l_down (K := K) T) (hr.mono (by decide)) rfl T.g__law_down T.k__law_down (pa_cons (pv 0) (pa_cons (pv 1) (pa_cons (pe_op op_cat (pe_lst (pa_cons (pv 1) pa_nil)) (pe_ifExp (pt_cmp (pc_isN (pv 2))) (pe_lst pa_nil) (pe_dget hu (pe_dget hu (pv 0) pe_str (fun _ _ => rfl)) (pv 2) (fun _ _ => rfl)))) pa_nil)))))
    (pss_cons (ps_asg (pe_tup (pa_cons (pe_lst (pa_cons (pv 1) pa_nil)) (pa_cons (pe_lst (pa_cons (pv 1) pa_nil)) pa_nil))) (pg_tupK (K := K) (n := 2) rfl rfl (pgs_cons (pg_name (i := 3) sc_l_failed.nd rfl (Or.inr rfl) (Or.inl rfl)) (pgs_cons (pg_name (i := 4) sc_l_failed.nd rfl (Or.inl rfl) (Or.inl rfl)) pgs_nil))))
    (pss_cons (ps_while PassesOwn.never (pt_cmpR (op_neDK (K := K) rfl hr.units) (pv 4) (pe_lst pa_nil) (nomark _)) (pss_cons (ps_set (i := 5) sc_l_failed.nd rfl (Or.inl rfl) pe_dnewK)
    (pss_cons (ps_for PassesOwn.never rfl (pi_listK (K := K) rfl (pe_callB (cr_sortedP2K (K := K) rfl hr.units) (by rfl) T.b_sorted (by decide +kernel) (pa_cons (pe_dget hu (pv 0) pe_str (fun _ _ => rfl)) pa_nil))) (pg_tupK (K := K) (n := 2) rfl rfl (pgs_cons (pg_name (i := 6) sc_l_failed.nd rfl (Or.inl rfl) (Or.inl rfl)) (pgs_cons (pg_name (i := 7) sc_l_failed.nd rfl (Or.inl rfl) (Or.inl rfl)) pgs_nil)))
    (pss_one (ps_if (PW.pt (pw_and (pt_cmpR (op_in_seqK (K := K) rfl) (pv 7) (pv 4) (by rfl)) (pw_and (pt_cmpR (op_in_seqK (K := K) rfl) (pe_dget hu (pe_dget hu (pv 0) pe_str (fun _ _ => rfl)) (pv 6) (fun _ _ => rfl)) (pe_tup (pa_cons pe_str (pa_cons pe_str pa_nil))) (by rfl)) (pw_and1 (pt_cmp (pc_dnotin hu (pv 6) (pv 5))))))) (pss_one (ps_dput hu (pv 5) (pv 6) (pv 7) rfl)) pss_nil)))
    (pss_cons (ps_lock (ps_for PassesOwn.never rfl (pi_keys (pv 5)) (pg_name (i := 6) sc_l_failed.nd rfl (Or.inl rfl) (Or.inl rfl))
    (pss_one (ps_expr (pe_callO (ok_l_down (K := K) T) (hr.mono (by decide)) rfl T.g__law_down T.k__law_down (pa_cons (pv 0) (pa_cons (pv 6) (pa_cons (pe_op op_cat (pe_lst (pa_cons (pv 6) pa_nil)) (pe_dget hu (pe_dget hu (pv 0) pe_str (fun _ _ => rfl)) (pe_dget hu (pv 5) (pv 6) (fun _ _ => rfl)) (fun _ _ => rfl))) pa_nil))))))))
    (pss_cons (ps_set (i := 4) sc_l_failed.nd rfl (Or.inl rfl) (pe_callTy (call_listD rfl) (by rfl) T.b_list (by decide +kernel) (pa_cons (pv 5) pa_nil)))
    (pss_one (ps_set (i := 3) sc_l_failed.nd rfl (Or.inr rfl) (pe_op op_cat (pv 3) (pv 4)))))))))
    (pss_cons (ps_dput hu (pv 0) pe_str (pe_lc (own := [("_law_pair", 8)]) rfl sc_l_failed.nd (pi_listK (K := K) rfl (pe_dget hu (pv 0) pe_str (fun _ _ => rfl))) (blkOk_by (own := [("_law_pair", 8)]) (N := ["_law_m", "_law_module", "_law_cause", "_law_found", "_law_current", "_law_following", "_law_source", "_law_target", "_law_pair"]) (sc := defScope s_l_failed) (by decide +kernel)) (fun _ _ _ _ _ => (pg_name (i := 8) sc_l_failed.nd rfl (Or.inl rfl) (Or.inr rfl))) (fun _ _ _ _ _ => (pts_one (pt_cmpR (op_notIn_seqK (K := K) rfl) (pe_ix (ix_tupK (K := K) rfl) (pv 8) pe_int (fun _ _ => rfl)) (pv 3) (by rfl)))) (fun _ _ _ _ _ => (pv 8))) rfl)
    (pss_one (ps_ret (pe_callB (cr_sortedSK (K := K) rfl) (by rfl) T.b_sorted (by decide +kernel) (pa_cons (pv 3) pa_nil)))))))), ?_⟩
  obtain ⟨⟨⟨sn, B, g, r, x⟩, m, cause⟩, rfl, hT, hm, hst, hca, hB, k⟩ := h
  dsimp only at hT hm hst hca hB k
  obtain ⟨hO, hk⟩ := hT
  have hnl := hk.ok.len
  have hrl : (restC x.c cause).length ≤ B := by
    cases cause with
    | none => exact Nat.zero_le _
    | some b => exact (hk.ok.chain (hca b rfl).1 (hca b rfl).2).2
  refine down_call (l := restC x.c cause) (ev_var rfl) (ev_var rfl) (fun H1 e1 Q q => ?_) ⟨hO, hk⟩ hm hrl (by omega) fun x1 H1 hT1 s1 c1 m1 => ?_
  · cases cause with
    | none => exact ⟨_, rfl, _, rfl, it_t (by rfl) ⟨sz_of (n := 0) (by decide), fun p hp => q p _ (Ex.new hp) upd_same⟩⟩
    | some b =>
      obtain ⟨hb1, hb2⟩ := hca b rfl
      have hO1 := hO.ex e1
      obtain ⟨c1, c2⟩ := hk.ok.chain hb1 hb2
      obtain ⟨g1, g2⟩ := hO1.gch c1
      exact ⟨_, rfl, _, rfl, it_f (by rfl) ⟨_, rfl, _, _, rfl, hO1.gchd, _, rfl, _, _, rfl, g1, q _ _ (Ex.refl _) g2⟩⟩
  dsimp only at hT1 s1 c1 m1
  obtain ⟨hO1, hk1⟩ := hT1
  have tg0 : ∀ a, tg (if x.c.st m = "running" then g else delAllG g m) a = if a ∈ [m] ∧ a ∉ x1.c.held then [] else tg g a := fun a => by
    rw [c1]
    exact tgstep (sn := sn) (l := []) (fun a => by simp) (by simp) (hk.ok.nheld (by rw [hst]; decide)) a
  generalize (if x.c.st m = "running" then g else delAllG g m) = g1 at hk1 tg0
  -- found, current
  refine ⟨_, rfl, sz_of (n := 1) (by decide), fun L hL => ⟨_, rfl, sz_of (n := 1) (by decide), fun C hC => ⟨sz_of (n := 2) (by decide), fun tp htp => ⟨tp, _, rfl, st_of upd_same, rfl, _, _, rfl, _, _, rfl, rfl, ?_⟩⟩⟩⟩
  have eC := (Ex.new (o := HO.lst [V.str m]) hC).trans (Ex.new (o := HO.tup [V.ref L, V.ref C]) htp)
  have e2 := (Ex.new (o := HO.lst [V.str m]) hL).trans eC
  have hLL : upd (upd (upd H1 L (.lst [V.str m])) C (.lst [V.str m])) tp (.tup [V.ref L, V.ref C]) L = some (.lst ([m].map .str)) := eC _ _ upd_same
  have hCC : upd (upd (upd H1 L (.lst [V.str m])) C (.lst [V.str m])) tp (.tup [V.ref L, V.ref C]) C = some (.lst ([m].map .str)) := (Ex.new htp) _ _ upd_same
  generalize upd (upd (upd H1 L (.lst [V.str m])) C (.lst [V.str m])) tp (.tup [V.ref L, V.ref C]) = H2 at e2 hLL hCC ⊢
  have hO2 := hO1.ex e2
  have s2 := s1.trans (TStp.ex e2)
  have nL := hO1.nown hL
  have hlv := live_downs (sn := sn) (c := x.c) (ks := [m]) hk.ok.nd (by simp) (fun y hy => by rw [List.mem_singleton.mp hy]; exact ⟨hm, Or.inl hst⟩) rfl (downC x.c m (m :: restC x.c cause)) (by
    show upd1 x.c.st m "failed" = _
    have := updAll_snoc x.c.st [] m "failed"
    rw [updAll_nil] at this
    exact this)
  have hlv0 : (live sn x.c).length ≤ sn.length := List.length_filter_le _ _
  simp only [List.length_singleton] at hlv
  refine q_while (fun mm σ' H' => ∃ x2 gx L C cur fnd n y5 y6 y7, σ' = [some (.ref (x.μ .m)), some (.str m), some (vO cause), some (.ref L), some (.ref C), y5, y6, y7, none] ∧ TabO x2 H' ∧ MOk (B + fnd.length) sn gx r x2 ∧ TStp x H x2 H' ∧ x2.μ .m = x.μ .m ∧ ¬ own x2.μ (CM x2) L ∧
      H' L = some (.lst (fnd.map .str)) ∧ H' C = some (.lst (cur.map .str)) ∧ (∀ y ∈ fnd, y ∈ sn ∧ x2.c.st y = "failed") ∧ (∀ y ∈ cur, y ∈ sn ∧ x2.c.st y = "failed") ∧ roundsC n x2.c cur fnd = failedC (sn.length + 2) x.c m cause ∧ (cur = [] ∨ (live sn x2.c).length < n) ∧ fnd.length + (live sn x2.c).length ≤ sn.length ∧
      (∀ a, tg gx a = if a ∈ fnd ∧ a ∉ x2.c.held then [] else tg g a) ∧ mm = n) (sn.length + 2)
    ⟨x1, g1, L, C, [m], [m], sn.length + 2, none, none, none, rfl, hO2, hk1, s2, m1, nL, hLL, hCC, fun y hy => by rw [List.mem_singleton.mp hy]; exact ⟨hm, by rw [c1]; exact upd1_same⟩, fun y hy => by rw [List.mem_singleton.mp hy]; exact ⟨hm, by rw [c1]; exact upd1_same⟩, by rw [c1]; rfl, Or.inr (by rw [c1]; omega), by rw [c1]; show 1 + _ ≤ _; omega, tg0, rfl⟩ ?_
  rintro mm σ' H5 ⟨x2, gx, L, C2, cur, fnd, n, y5, y6, y7, rfl, hO5, hk5, st, m5, nL, f1, f2, hf, hc, hrd, hlt, hsz, htg, rfl⟩
  have hokc : ∀ y ∈ cur, okName y := fun y hy => hk.ok.nm y (hc y hy).1
  refine ⟨_, et_ne_nil (ev_var rfl) (sq_of f2) hokc, fun hb H6 e6 => ?_, fun hb H6 e6 => ?_⟩
  · have hne : cur ≠ [] := fun z => by
      rw [z] at hb
      cases hb
    obtain ⟨n, rfl⟩ : ∃ n', mm = n' + 1 := ⟨mm - 1, by rcases hlt with z | z; exact absurd z hne; omega⟩
    have hlt : (live sn x2.c).length < n + 1 := hlt.resolve_left hne
    rw [rounds_go hne] at hrd
    have afo : ((accsC x2.c cur).map (·.1)).Nodup ∧ ∀ q ∈ accsC x2.c cur, q ∈ x2.c.early ∧ q.2 ∈ cur ∧ (x2.c.st q.1 = "running" ∨ x2.c.st q.1 = "done") := by
      have := accF_ok (c := x2.c) (cur := cur) (srtP x2.c.early)
      exact ⟨this.1, fun q hq => ⟨mem_srtP.mp (this.2.2 q hq).1, (this.2.2 q hq).2⟩⟩
    have hfo : accF x2.c cur (srtP x2.c.early) = accsC x2.c cur := rfl
    generalize accsC x2.c cur = fo at hrd afo hfo
    have hks : ∀ y ∈ fo.map (·.1), y ∈ sn ∧ (x2.c.st y = "running" ∨ x2.c.st y = "done") := fun y hy => by
      obtain ⟨q, hq, rfl⟩ := List.mem_map.mp hy
      obtain ⟨z1, z2, z3⟩ := afo.2 q hq
      exact ⟨(hk5.ok.ein q z1).1, z3⟩
    have hlv2 := live_downs (sn := sn) (c := x2.c) hk.ok.nd afo.1 hks rfl (downsC x2.c fo) (downs_st fo)
    rw [List.length_map] at hlv2
    have hfn : fo.length ≤ sn.length := by
      have : (live sn x2.c).length ≤ sn.length := List.length_filter_le _ _
      omega
    refine ⟨_, fun σ2 H2 (p : ∃ x2 gx L C cur fnd y5 y6 y7, σ2 = [some (.ref (x.μ .m)), some (.str m), some (vO cause), some (.ref L), some (.ref C), y5, y6, y7, none] ∧ TabO x2 H2 ∧ MOk (B + fnd.length) sn gx r x2 ∧ TStp x H x2 H2 ∧ x2.μ .m = x.μ .m ∧ ¬ own x2.μ (CM x2) L ∧
      H2 L = some (.lst (fnd.map .str)) ∧ H2 C = some (.lst (cur.map .str)) ∧ (∀ y ∈ fnd, y ∈ sn ∧ x2.c.st y = "failed") ∧ (∀ y ∈ cur, y ∈ sn ∧ x2.c.st y = "failed") ∧ roundsC n x2.c cur fnd = failedC (sn.length + 2) x.c m cause ∧ (cur = [] ∨ (live sn x2.c).length < n) ∧ fnd.length + (live sn x2.c).length ≤ sn.length ∧
      (∀ a, tg gx a = if a ∈ fnd ∧ a ∉ x2.c.held then [] else tg g a)) => ?_, ?_⟩
    · obtain ⟨x3, g3, L3, C3, cur3, fnd3, z6, z7, z8, p1, p2, p3, p4, p5, p6, p7, p8, p9, p10, p11, p12, p13, p14⟩ := p
      exact ⟨n, Nat.lt_succ_self n, x3, g3, L3, C3, cur3, fnd3, n, z6, z7, z8, p1, p2, p3, p4, p5, p6, p7, p8, p9, p10, p11, p12, p13, p14, rfl⟩
    have hO6 := hO5.ex e6
    have st6 := st.trans (TStp.ex e6)
    rw [← m5]
    intro F hF
    walk_at "nrm"
    have eF := Ex.new (o := HO.dK []) hF
    have hF7 : upd H6 F (.dK []) F = some (.dK (dS V.str (accF x2.c cur []))) := upd_same
    have nF : ¬ own x2.μ (CM x2) F := hO6.nown hF
    have oF := st6.fresh hF
    generalize upd H6 F (.dK []) = H7 at eF hF7 ⊢
    have hO7 := hO6.ex eF
    obtain ⟨l1, l2, l3, l4⟩ := hk5.bln
    -- who goes down
    refine ⟨_, rfl, _, _, rfl, hO7.gear, _, x2.be, rfl, sq_of hO7.ear, hO7.pe, l3, fun cs p hpm hcs hp => ⟨p, rfl, ⟨_, sq_of upd_same⟩, ?_⟩⟩
    have hcb : ∀ b ∈ cs, b ∈ x2.be := fun b hb => hpm.mem_iff.mp hb
    rw [hk5.be] at hcs
    have ep := eF.trans (Ex.new (o := HO.lst (cs.map fun b => V.ref b.1)) hp)
    have hp8 : upd H7 p (.lst (cs.map fun b => V.ref b.1)) p = some (.lst (refsB cs)) := upd_same
    have hF8 := (Ex.new (o := HO.lst (cs.map fun b => V.ref b.1)) hp) _ _ hF7
    generalize upd H7 p (.lst (cs.map fun b => V.ref b.1)) = H8 at ep hp8 hF8 ⊢
    refine for_list (xs := refsB cs) (fun j σ' H' => ∃ y6 y7, σ' = [some (.ref (x2.μ .m)), some (.str m), some (vO cause), some (.ref L), some (.ref C2), some (.ref F), y6, y7, none] ∧ Ex H6 H' ∧ H' p = some (.lst (refsB cs)) ∧ H' F = some (.dK (dS V.str (accF x2.c cur ((cs.map (·.2)).take j)))))
      ⟨_, _, rfl, ep, hp8, hF8⟩ (fun i σ' H' _ ⟨_, _, _, _, q, _⟩ => sq_of q) (fun i v σ' H' hi pr => ?_) (fun σ' H' pr => ?_)
    · obtain ⟨y1, y2, rfl, e2, h2, hF2⟩ := pr
      obtain ⟨b, hb2, rfl⟩ := at_map hi
      have hbm := hcb b (List.mem_of_getElem? hb2)
      have hp2 : (cs.map (·.2))[i]? = some b.2 := by
        rw [List.getElem?_map, hb2]
        rfl
      have tk : (cs.map (·.2)).take (i + 1) = (cs.map (·.2)).take i ++ [b.2] := by
        rw [List.take_add_one, hp2]
        rfl
      have hbe : b.2 ∈ x2.c.early := by rw [← hk5.be]; exact List.mem_map.mpr ⟨b, hbm, rfl⟩
      obtain ⟨hs1, hs2⟩ := hk5.ok.ein _ hbe
      have hOb := hO6.ex e2
      refine ⟨_, _, rfl, st_of (hOb.pe b hbm), rfl, _, _, rfl, _, _, rfl, ⟨rfl, ?_⟩⟩
      have hl : (accF x2.c cur ((cs.map (·.2)).take i)).length < 100000 := by
        have h3 := (accF_ok (c := x2.c) (cur := cur) ((cs.map (·.2)).take i)).2.1
        have h4 : (cs.map (·.2)).length = x2.c.early.length := by
          rw [hcs]
          exact (srtP_perm x2.c.early).length_eq
        have h5 := hk5.ok.elen
        rw [List.length_take] at h3
        omega
      rw [tk, accF_snoc]
      generalize hacc : accF x2.c cur ((cs.map (·.2)).take i) = acc at hF2 hl ⊢
      refine ⟨_, rfl, _, rfl, C2, _, rfl, Or.inl (sq_of ((e6.trans e2) _ _ f2)), rfl, flat_strs2 cur, _, rfl, ?_⟩
      rw [if_neg Bool.false_ne_true, inV_str]
      by_cases m1 : b.2.2 ∈ cur
      · refine it_t (decide_eq_true m1) ?_
        refine ⟨_, rfl, _, _, rfl, hOb.gsts, _, rfl, _, _, rfl, hOb.gst (hk5.mem.mpr hs1), sz_of (n := 2) (by decide), fun q hq => ⟨q, [V.str "running", V.str "done"], rfl, Or.inr (st_of upd_same), rfl, rfl, _, rfl, ?_⟩⟩
        have e3 := Ex.new (o := HO.tup [V.str "running", V.str "done"]) hq
        have ei : inV (V.str (x2.c.st b.2.1)) [V.str "running", V.str "done"] = decide (x2.c.st b.2.1 = "running" ∨ x2.c.st b.2.1 = "done") := by
          rw [show [V.str "running", V.str "done"] = (["running", "done"] : List Str).map V.str from rfl, inV_str, decide_eq_decide]
          simp
        rw [if_neg Bool.false_ne_true, ei]
        by_cases m3 : x2.c.st b.2.1 = "running" ∨ x2.c.st b.2.1 = "done"
        · refine it_t (decide_eq_true m3) ?_
          refine ⟨_, rfl, _, rfl, F, _, rfl, dg_in (f := V.str) (e3 _ _ hF2), _, rfl, ?_⟩
          rw [Option.isSome_map, in_isSome]
          by_cases m2 : b.2.1 ∈ acc.map (·.1)
          · rw [decide_eq_true m2, if_neg (fun z => z.2.2 m2)]
            exact it_f (by rfl) ⟨_, _, rfl, e2.trans e3, e3 _ _ h2, e3 _ _ hF2⟩
          · rw [decide_eq_false m2, if_pos ⟨m1, m3, m2⟩]
            have pF : p ≠ F := ne_of h2 hF2 (fun z => nomatch z)
            refine it_t (by rfl) ⟨_, rfl, _, rfl, _, rfl, F, _, rfl, Or.inl ⟨_, Sum.inr b.2.1, e3 _ _ hF2, rfl, by rw [length_dS]; exact sz_lt hl, rfl⟩, _, _, rfl, Ex.mut (e2.trans e3) hF, ?_, ?_⟩
            · rw [upd_ne pF]
              exact e3 _ _ h2
            · rw [upd_same, putK_dS, putA_new _ m2]
        · rw [if_neg (fun z => m3 z.2.1)]
          exact it_f (decide_eq_false m3) (it_f (by rfl) ⟨_, _, rfl, e2.trans e3, e3 _ _ h2, e3 _ _ hF2⟩)
      · rw [if_neg (fun z => m1 z.1)]
        exact it_f (decide_eq_false m1) (it_f (by rfl) ⟨_, _, rfl, e2, h2, hF2⟩)
    obtain ⟨y1, y2, rfl, e8, h8, hF9⟩ := pr
    rw [show (refsB cs).length = (cs.map (·.2)).length by rw [List.length_map]; exact List.length_map _, List.take_length, hcs, hfo] at hF9
    have hO9 := hO6.ex e8
    have st9 := st6.trans (TStp.ex e8)
    have f9 := (e6.trans e8) _ _ f1
    -- they go down, the dict locked
    refine ⟨F, _, hF9, True.intro, fun od => ?_⟩
    have nLF : L ≠ F := ne_of f9 hF9 (fun z => nomatch z)
    have hO10 := hO9.off (o := .frz od (.dK (dS V.str fo))) nF (fun xs z => by rw [hF9] at z; cases z)
    have st10 : TStp x H x2 (upd H' F (.frz od (.dK (dS V.str fo)))) := st9.off oF
    have f10 : upd H' F (.frz od (.dK (dS V.str fo))) L = some (.lst (fnd.map .str)) := frz_other f9 nLF
    have fF : upd H' F (.frz od (.dK (dS V.str fo))) F = some (.frz od (.dK (dS V.str fo))) := upd_same
    refine ⟨_, rfl, _, od, rfl, Or.inl ⟨_, fF, for_it walk_keys (fun j σ' H' => ∃ x3 g3 y6 y7, σ' = [some (.ref (x.μ .m)), some (.str m), some (vO cause), some (.ref L), some (.ref C2), some (.ref F), y6, y7, none] ∧ TabO x3 H' ∧ MOk (B + fnd.length + j) sn g3 r x3 ∧ TStp x H x3 H' ∧ x3.μ .m = x.μ .m ∧ ¬ own x3.μ (CM x3) L ∧ ¬ own x3.μ (CM x3) F ∧
      H' L = some (.lst (fnd.map .str)) ∧ H' F = some (.frz od (.dK (dS V.str fo))) ∧ x3.c = downsC x2.c (fo.take j) ∧ ∀ a, tg g3 a = if a ∈ fnd ++ (fo.take j).map (·.1) ∧ a ∉ x3.c.held then [] else tg g a)
      ⟨x2, gx, _, _, by rw [m5], hO10, hk5, st10, m5, nL, nF, f10, fF, rfl, by simpa using htg⟩ (fun i σ' H' _ ⟨_, _, _, _, p⟩ => p.2.2.2.2.2.2.2.2.1) (fun i v σ' H1 H2 hi pr y => ?_) (fun σ' H1 pr => ?_)⟩⟩
    · obtain ⟨x3, g3, y6, y7, rfl, hO11, hk11, s11, m11, nL11, nF11, l11, F11, c11, tg11⟩ := pr
      obtain ⟨rfl, kk, vv, hkk, rfl⟩ := y
      have hi : i < fo.length := by rwa [length_dS] at hi
      have hq : fo[i]? = some fo[i] := by simp [hi]
      generalize fo[i] = q at hq
      have tk : fo.take (i + 1) = fo.take i ++ [q] := by
        rw [List.take_add_one, hq]
        rfl
      have hd : (dS V.str fo)[i]? = some (Sum.inr q.1, V.str q.2) := by
        unfold dS
        rw [List.getElem?_map, hq]
        rfl
      rw [hd] at hkk
      cases hkk
      have hqf := List.mem_of_getElem? hq
      obtain ⟨z1, z2, z3⟩ := afo.2 q hqf
      have hs1 : q.1 ∈ sn := (hks _ (List.mem_map_of_mem hqf)).1
      have ht1 : q.2 ∈ sn := (hc _ z2).1
      have nq : q.1 ∉ (fo.take i).map (·.1) := fun z => by
        obtain ⟨r, hr, e⟩ := List.mem_map.mp z
        exact not_take afo.1 hq r hr e
      have ht2 : x3.c.st q.2 = "failed" := by
        rw [c11, downs_st]
        unfold updAll
        split
        · rfl
        · exact (hc _ z2).2
      have hs2 : x3.c.st q.1 = x2.c.st q.1 := by
        rw [c11, downs_st]
        exact if_neg nq
      have hnf : x3.c.st q.1 ≠ "failed" := by
        rw [hs2]
        rcases z3 with z | z <;> (rw [z]; decide)
      obtain ⟨k1, k2⟩ := hk11.ok.chain ht1 ht2
      rw [← m11]
      refine down_call (sn := sn) (l := chainC x3.c q.2) (ev_var rfl) (ev_var rfl) (fun H9 e9 Q9 q9 => ?_) ⟨hO11, hk11⟩ hs1 k2 (by omega) fun x4 H9 hT12 s12 c12 m12 => ?_
      · have hO12 := hO11.ex e9
        obtain ⟨g1', g2'⟩ := hO12.gch k1
        exact ⟨_, rfl, _, _, rfl, hO12.gchd, _, rfl, _, rfl, F, _, rfl, dg_rd (f := V.str) (Or.inr ⟨od, e9 _ _ F11⟩) (lookA_of afo.1 hqf), _, _, rfl, g1', q9 _ _ (Ex.refl _) g2'⟩
      · obtain ⟨hO12, hk12⟩ := hT12
        refine ⟨x4, _, _, _, rfl, hO12, hk12, s11.trans s12, m12.trans rfl, fun z => (s12.nw L z).elim nL11 fun w => by (rw [l11] at w; cases w), fun z => (s12.nw F z).elim nF11 fun w => by (rw [F11] at w; cases w), s12.fr _ _ l11 nL11, s12.fr _ _ F11 nF11, ?_, fun a => ?_⟩
        · rw [c12, c11, tk, downs_snoc]
        · rw [tk, List.map_append, ← List.append_assoc, c12]
          exact tgstep (sn := sn) tg11 (fun z => (List.mem_append.mp z).elim (fun w => by
            have := (hf _ w).2
            rcases z3 with y | y <;> (rw [y] at this; exact absurd this (by decide))) nq) (hk11.ok.nheld hnf) a
    · obtain ⟨x3, g3, y6, y7, rfl, hO11, hk11, s11, m11, nL11, nF11, l11, F11, c11, tg11⟩ := pr
      rw [length_dS, List.take_length] at c11 tg11
      rw [length_dS] at hk11
      have hO12 := hO11.off (o := .dK (dS V.str fo)) nF11 (fun xs z => by rw [F11] at z; cases z)
      have s12 : TStp x H x3 (upd H1 F (.dK (dS V.str fo))) := s11.off oF
      have l12 : upd H1 F (.dK (dS V.str fo)) L = some (.lst (fnd.map .str)) := by
        rw [upd_ne nLF]
        exact l11
      refine ⟨F11, _, rfl, F, _, rfl, Or.inl upd_same, fun C3 hC3 => ?_⟩
      have eC3 := Ex.new (o := HO.lst ((dS V.str fo).map fun kv => kV kv.1)) hC3
      have l13 := eC3 _ _ l12
      have c13 : upd (upd H1 F (.dK (dS V.str fo))) C3 (.lst ((dS V.str fo).map fun kv => kV kv.1)) C3 = some (.lst ((fo.map (·.1)).map .str)) := by
        rw [upd_same, kVs_dS]
      have hO13 := hO12.ex eC3
      have s13 := s12.trans (TStp.ex eC3)
      generalize upd (upd H1 F (.dK (dS V.str fo))) C3 (.lst ((dS V.str fo).map fun kv => kV kv.1)) = H13 at l13 c13 hO13 s13 ⊢
      walk_at "nrm"
      refine ⟨_, rfl, _, rfl, L, C3, _, _, rfl, rfl, l13, c13, ?_, fun p4 hp4 => ?_⟩
      · rw [List.length_map, List.length_map, List.length_map]
        exact sz_of (n := fnd.length + fo.length) (by omega)
      have e12 : fnd.map V.str ++ (fo.map (·.1)).map V.str = (fnd ++ fo.map (·.1)).map V.str := (List.map_append ..).symm
      rw [e12]
      have e14 := Ex.new (o := HO.lst ((fnd ++ fo.map (·.1)).map V.str)) hp4
      refine ⟨x3, g3, p4, C3, fo.map (·.1), fnd ++ fo.map (·.1), _, _, _, by rw [m5]; rfl, hO13.ex e14, ?_, s13.trans (TStp.ex e14), m11.trans m5.symm, hO13.nown hp4, upd_same, e14 _ _ c13, fun y hy => ?_, fun y hy => ?_, ?_, ?_, ?_, tg11⟩
      · rw [List.length_append, List.length_map, ← Nat.add_assoc]
        exact hk11
      · rw [c11, downs_st]
        rcases List.mem_append.mp hy with z | z
        · refine ⟨(hf y z).1, ?_⟩
          unfold updAll
          split
          · rfl
          · exact (hf y z).2
        · exact ⟨(hks y z).1, if_pos z⟩
      · rw [c11, downs_st]
        exact ⟨(hks y hy).1, if_pos hy⟩
      · rw [c11]
        exact hrd
      · rw [c11]
        cases fo with
        | nil => exact Or.inl rfl
        | cons p fo =>
          rw [List.length_cons] at hlv2
          exact Or.inr (by omega)
      · rw [c11, List.length_append, List.length_map]
        omega
  · have hcn : cur = [] := by
      cases cur with
      | nil => rfl
      | cons c cs => cases hb
    rw [hcn, rounds_nil] at hrd
    have hO6 := hO5.ex e6
    have st6 := st.trans (TStp.ex e6)
    have f6 := e6 _ _ f1
    have hcE : failC (sn.length + 2) x.c m cause = forgC x2.c fnd := by
      unfold failC
      rw [← hrd]
    have hfd : (failedC (sn.length + 2) x.c m cause).2 = fnd := by rw [← hrd]
    rw [hcE, hfd] at k
    obtain ⟨l1, l2, l3, l4⟩ := hk5.bln
    have hfn : fnd.length ≤ sn.length := by omega
    rw [← m5]
    walk_at "red"
    dsimp only [sDPut]
    refine lcG (α := Addr × Str × Str) (fun b => V.ref b.1) (fun b => V.ref b.1) (fun l H' => l = x2.be ∧ Prs H' x2.be) (fun b => decide (b.2.1 ∉ fnd)) (fun R r => ⟨_, rfl, _, _, rfl, hO6.gear, _, rfl, ⟨_, sq_of hO6.ear⟩, r _ x2.be _ (Ex.refl _) ⟨rfl, hO6.pe⟩ hO6.ear⟩)
      (fun l H' h => by rw [h.1]; omega) (fun v => rfl) (fun l H' e1 h b hb H2 e2 H3 e3 Q q => ?_) (fun l H' e1 h b hb _ H2 e2 => ev_var rfl) (fun l Hc p Hd e1 h e3 hp h3 => ?_)
    · obtain ⟨rfl, h⟩ := h
      refine ⟨_, rfl, _, _, 0, .str b.2.1, rfl, rfl, st_of ((e2.trans e3) _ _ (h b hb)), rfl, _, rfl, _, _, rfl, Or.inl (sq_of ((e1.trans (e2.trans e3)) _ _ f6)), rfl, flat_strs2 fnd, _, rfl, ?_⟩
      have := q H3 (Ex.refl _)
      rw [if_pos rfl, inV_str, ← decide_not]
      exact this
    · obtain ⟨rfl, h⟩ := h
      have hO8 := hO6.ex (e1.trans e3)
      obtain ⟨b1, b2⟩ := hO6.newE (forgC x2.c fnd).early (e1.trans e3) hp h3 (fun b hb => (e1.trans e3) _ _ (hO6.pe b (List.mem_filter.mp hb).1))
      have f9 := b2.fr _ _ f6 nL
      refine ⟨_, rfl, _, _, rfl, Or.inl ⟨_, Sum.inr "early", hO8.hm, rfl, mdl, rfl⟩, _, rfl, L, fnd, rfl, sq_of f9, by omega, fun ys q hpm hs hq => ?_⟩
      rw [srtS_rule hpm hs]
      have eq := Ex.new (o := HO.lst ((srtS fnd).map V.str)) hq
      obtain ⟨d1, d2, d3⟩ := failG_tg (held := (forgC x2.c fnd).held) fnd hk.ok.gok hk.ok.gin (fun n hn => (hf n hn).1)
      have hkE : MOk (B + fnd.length) sn gx r (x2.newE p (x2.be.filter fun b => decide (b.2.1 ∉ fnd)) (forgC x2.c fnd).early) := by
        refine ⟨(hk5.ok.forg fnd), hk5.srt, ?_, hk5.nn, hk5.rn, hk5.ng, hk5.rg⟩
        show (x2.be.filter fun c => decide (c.2.1 ∉ fnd)).map (·.2) = x2.c.early.filter fun p => decide (p.1 ∉ fnd)
        rw [forg_pairs, hk5.be]
      exact k (x2.newE p _ (forgC x2.c fnd).early) _ q ⟨b1.ex eq, (hkE.congr d1 d2 (fun a => by rw [d3, htg]; rfl)).mono (by omega)⟩ ((st6.trans b2).trans (TStp.ex eq)) rfl m5 upd_same
end
end CR
set_option maxRecDepth 100000
set_option maxHeartbeats 4000000
/-! Cycleready: the law's draws. -/
namespace CR
open PySem PySem.Spec PyProof.Rows L2 Evl
local macro_rules | `(tactic| walk_at "red") => `(tactic| dsimp only [tNext, tSeq, tRet, tRetN, tDrop, tIfS, tAsg, tPar, tTest, tB, tNot, tAnd, tOr, tCB, tCons, tNil, tCall, tOp, tUn, tVar, tC, tIf])
local macro_rules | `(tactic| walk_at "nrm") => `(tactic| dsimp only [gName, tNext])
/-- a pot: two numbers, not below 0 -/
def PotAt (H : Hp) (p : Addr) : Prop := ∃ a b : Int, H p = some (.lst [.int a, .int b]) ∧ 0 ≤ a ∧ 0 ≤ b ∧ b < 4294967296
/-- all but the pot stays -/
def ExP (p : Addr) (H H' : Hp) : Prop := ∀ c o, H c = some o → c ≠ p → H' c = some o
theorem ExP.refl {p : Addr} {H : Hp} : ExP p H H := fun _ _ h _ => h
theorem ExP.ex {p : Addr} {H H' : Hp} (e : Ex H H') : ExP p H H' := fun c o h _ => e c o h
theorem ExP.trans {p : Addr} {H H' H'' : Hp} (h1 : ExP p H H') (h2 : ExP p H' H'') : ExP p H H'' := fun c o h hc => h2 c o (h1 c o h hc) hc
theorem ExP.put {p : Addr} {H : Hp} {o : HO} : ExP p H (upd H p o) := fun c u h hc => by
  rw [upd_ne hc]
  exact h
section
variable {P : Program} {w : World} {K : PySem.W.Frag} {mg : Str → Option Value} {base : Heap}
def sp_l_draw (K : PySem.W.Frag) : Sp := Pm (fun x : Addr × Int => [.ref x.1, .int x.2]) fun x H Q => PotAt H x.1 ∧ 0 < x.2 ∧ x.2 ≤ 10 ^ 31 ∧
  ∀ (d : Int) H', 0 ≤ d → d < x.2 → PotAt H' x.1 → ExP x.1 H H' → Q (.int d) H'
theorem sp_l_draw_len (K : PySem.W.Frag) : ∀ vs H Q E, sp_l_draw K vs H Q E → vs.length = 2 := Pm.len fun _ => rfl
theorem cdivP {i j : Int} (h : 0 < j) (h2 : j ≤ 10 ^ 31) : CDivP i j := ⟨h, PyProof.noPylong_of_log2 (by
  have h3 : j.natAbs < 2 ^ 9000 := by
    have : j.natAbs ≤ 10 ^ 31 := by omega
    exact Nat.lt_of_le_of_lt this (Nat.lt_of_lt_of_le (show 10 ^ 31 < 2 ^ 110 by decide) (Nat.pow_le_pow_right (by decide) (by decide)))
  exact (Nat.log2_lt (by omega)).mpr h3)⟩
abbrev s_l_draw : Stmt := (top 32)
theorem sc_l_draw : FnScope ["_law_pot_here", "_law_bound", "_law_digit"] ["_law_pot_here", "_law_bound"] (defScope s_l_draw) := ⟨rfl, rfl, rfl, by decide +kernel, rfl, by decide +kernel, by decide +kernel⟩
theorem ok_l_draw (T : Txt K mg) : Okd P w K mg base 1 (aF K "_law_draw") ["_law_pot_here", "_law_bound"] (sp_l_draw K) := by
  obtain ⟨fd, F⟩ := T.f_l_draw
  refine Okd.mk F sc_l_draw (sp_l_draw_len K) (fun _ _ _ _ _ _ us hl => match us, hl with | [_, _], _ => rfl) (fun cdv A outer s H vs Q E hr h => ?_)
  have hu := hu_of hr
  refine ⟨_, (pss_cons (ps_if (pt_cmpR op_gt (pe_ix (ix_listK (K := K) rfl) (pv 0) pe_int (fun _ _ => rfl)) pe_int (nomark _)) (pss_cons (ps_asg (pe_callB call_divmodW (by rfl) T.b_divmod (by decide +kernel) (pa_cons (pe_ix (ix_listK (K := K) rfl) (pv 0) pe_int (fun _ _ => rfl)) (pa_cons (pv 1) pa_nil))) (pg_tupK (K := K) (n := 2) rfl rfl (pgs_cons (pg_sub (pv 0) pe_int set_list) (pgs_cons (pg_name (i := 2) sc_l_draw.nd rfl (Or.inl rfl) (Or.inl rfl)) pgs_nil))))
    (pss_one (ps_ret (pv 2)))) pss_nil)
    (pss_cons (ps_asg (pe_op op_mod (pe_op op_add (pe_op op_mul (pe_ix (ix_listK (K := K) rfl) (pv 0) pe_int (fun _ _ => rfl)) pe_int) pe_int) pe_int) (pg_sub (pv 0) pe_int set_list))
    (pss_one (ps_ret (pe_op op_mod (pe_op op_fdiv (pe_op op_mod (pe_op op_mul (pe_ix (ix_listK (K := K) rfl) (pv 0) pe_int (fun _ _ => rfl)) (pe_ix (ix_listK (K := K) rfl) (pv 0) pe_int (fun _ _ => rfl))) pe_int) pe_int) (pv 1)))))), ?_⟩
  obtain ⟨⟨p, n⟩, rfl, ⟨a, b, hp, ha, hb, hb2⟩, hn, hn2, k⟩ := h
  dsimp only at hp ha hb hb2 hn hn2 k
  refine ⟨_, rfl, p, _, 0, _, rfl, rfl, sq_of hp, rfl, _, _, rfl, rfl, _, rfl, ?_⟩
  by_cases m : (0 : Int) < a
  · rw [decide_eq_true m]
    refine it_t (by rfl) ⟨_, rfl, p, _, 0, _, rfl, rfl, sq_of hp, rfl, _, rfl, a, n, rfl, cdivP hn hn2, fun q hq => ?_⟩
    have e1 := Ex.new (o := HO.tup [V.int (a / n), V.int (a % n)]) hq
    have hp1 := e1 _ _ hp
    refine ⟨q, _, rfl, st_of upd_same, rfl, _, _, rfl, _, rfl, p, _, 0, 0, rfl, rfl, hp1, rfl, _, _, rfl, rfl, _, rfl, ?_⟩
    refine k (a % n) _ (Int.emod_nonneg a (by omega)) (Int.emod_lt_of_pos a hn) ⟨a / n, b, upd_same, Int.ediv_nonneg ha (by omega), hb, hb2⟩ ((ExP.ex e1).trans ExP.put)
  · rw [decide_eq_false m]
    refine it_f (by rfl) ?_
    refine ⟨_, rfl, p, _, 1, .int b, rfl, rfl, sq_of hp, rfl, b, 48271, rfl, rfl, Or.inr ⟨by decide, by decide⟩, _, _, rfl, rfl, _, _, rfl, rfl, (show (0 : Int) < 2147483587 by decide), _, rfl, p, _, 1, 1, rfl, rfl, hp, rfl, ?_⟩
    dsimp only
    have hp1 : upd H p (.lst ([V.int a, V.int b].set 1 (.int ((b * 48271 + 10037) % 2147483587)))) p = some (.lst [.int a, .int ((b * 48271 + 10037) % 2147483587)]) := upd_same
    have h0 := Int.emod_nonneg (b * 48271 + 10037) (show (2147483587 : Int) ≠ 0 by decide)
    have h1 := Int.emod_lt_of_pos (b * 48271 + 10037) (show (0 : Int) < 2147483587 by decide)
    have e1 : ExP p H (upd H p (.lst ([V.int a, V.int b].set 1 (.int ((b * 48271 + 10037) % 2147483587))))) := ExP.put
    generalize (b * 48271 + 10037) % 2147483587 = c at hp1 h0 h1 e1 ⊢
    generalize upd H p (.lst ([V.int a, V.int b].set 1 (.int c))) = H1 at hp1 e1 ⊢
    refine ⟨_, rfl, p, _, 1, .int c, rfl, rfl, sq_of hp1, rfl, _, rfl, p, _, 1, .int c, rfl, rfl, sq_of hp1, rfl, c, c, rfl, rfl, Or.inr ⟨by omega, by omega⟩, _, _, rfl, rfl, (show (0 : Int) < 2147483563 by decide), _, _, rfl, rfl, ⟨by decide, by decide⟩, _, rfl, _, _, rfl, rfl, hn, ?_⟩
    exact k _ _ (Int.emod_nonneg _ (by omega)) (Int.emod_lt_of_pos _ hn) ⟨a, c, hp1, ha, h0, by omega⟩ e1
def sp_l_choice (K : PySem.W.Frag) : Sp := Pm (fun x : Addr × Addr × List V => [.ref x.1, .ref x.2.1]) fun x H Q => PotAt H x.1 ∧ H x.2.1 = some (.lst x.2.2) ∧ x.1 ≠ x.2.1 ∧ x.2.2 ≠ [] ∧ x.2.2.length ≤ 10000 ∧
  ∀ v H', v ∈ x.2.2 → PotAt H' x.1 → ExP x.1 H H' → Q v H'
theorem sp_l_choice_len (K : PySem.W.Frag) : ∀ vs H Q E, sp_l_choice K vs H Q E → vs.length = 2 := Pm.len fun _ => rfl
abbrev s_l_choice : Stmt := (top 33)
theorem sc_l_choice : FnScope ["_law_pot_here", "_law_options"] ["_law_pot_here", "_law_options"] (defScope s_l_choice) := ⟨rfl, rfl, rfl, by decide +kernel, rfl, by decide +kernel, by decide +kernel⟩
theorem ok_l_choice (T : Txt K mg) : Okd P w K mg base 2 (aF K "_law_choice") ["_law_pot_here", "_law_options"] (sp_l_choice K) := by
  obtain ⟨fd, F⟩ := T.f_l_choice
  refine Okd.mk F sc_l_choice (sp_l_choice_len K) (fun _ _ _ _ _ _ us hl => match us, hl with | [_, _], _ => rfl) (fun cdv A outer s H vs Q E hr h => ?_)
  have hu := hu_of hr
  refine ⟨_, (pss_one (ps_ret (pe_ix (ix_listK (K := K) rfl) (pv 1) (pe_callO (ok_l_draw (K := K) T) (hr.mono (by decide)) rfl T.g__law_draw T.k__law_draw (pa_cons (pv 0) (pa_cons (pe_callB (call_len_seqK (K := K) rfl) (by rfl) T.b_len (by decide +kernel) (pa_cons (pv 1) pa_nil)) pa_nil))) (fun _ _ => rfl)))), ?_⟩
  obtain ⟨⟨p, l, xs⟩, rfl, hP, hl, hne, hxs, hlen, k⟩ := h
  dsimp only at hP hl hne hxs hlen k
  have hpos : 0 < xs.length := List.length_pos_iff.mpr hxs
  refine ⟨_, rfl, _, rfl, _, rfl, l, _, rfl, Or.inl (sq_of hl), (p, (xs.length : Int)), rfl, hP, by show (0 : Int) < xs.length; omega, by show (xs.length : Int) ≤ 10 ^ 31; omega, fun d H1 h0 h1 hP1 e1 => ?_⟩
  have hl1 := e1 _ _ hl (fun z => hne z.symm)
  obtain ⟨j, rfl⟩ : ∃ j : Nat, d = (j : Int) := ⟨d.toNat, by omega⟩
  have hj : j < xs.length := by
    have h1 : (j : Int) < xs.length := h1
    omega
  have hx : xs[j]? = some xs[j] := by simp [hj]
  exact ⟨l, xs, (j : Int), _, rfl, rfl, sq_of hl1, atI_nat hx, k _ _ (List.getElem_mem hj) hP1 e1⟩
def sp_l_pot (K : PySem.W.Frag) : Sp := Pm (fun x : Addr × List Int × Nat => [.ref x.1, .int x.2.2]) fun x H Q => SqL K H x.1 (x.2.1.map .int) ∧ x.2.2 ≤ 1 ∧ x.2.1.length ≤ sizeLine ∧
  ∀ p H', Ex H H' → H p = none → PotAt H' p → Q (.ref p) H'
theorem sp_l_pot_len (K : PySem.W.Frag) : ∀ vs H Q E, sp_l_pot K vs H Q E → vs.length = 2 := Pm.len fun _ => rfl
abbrev s_l_pot : Stmt := (top 31)
theorem sc_l_pot : FnScope ["_law_script", "_law_index", "_law_cell"] ["_law_script", "_law_index"] (defScope s_l_pot) := ⟨rfl, rfl, rfl, by decide +kernel, rfl, by decide +kernel, by decide +kernel⟩
theorem ok_l_pot (T : Txt K mg) : Okd P w K mg base 1 (aF K "_law_pot") ["_law_script", "_law_index"] (sp_l_pot K) := by
  obtain ⟨fd, F⟩ := T.f_l_pot
  refine Okd.mk F sc_l_pot (sp_l_pot_len K) (fun _ _ _ _ _ _ us hl => match us, hl with | [_, _], _ => rfl) (fun cdv A outer s H vs Q E hr h => ?_)
  have hu := hu_of hr
  refine ⟨_, (pss_cons (ps_set (i := 2) sc_l_pot.nd rfl (Or.inl rfl) pe_int)
    (pss_cut (ps_if (pt_cmpR op_lt (pv 1) (pe_callB (call_len_seqK (K := K) rfl) (by rfl) T.b_len (by decide +kernel) (pa_cons (pv 0) pa_nil)) (nomark _)) (pss_one (ps_set (i := 2) sc_l_pot.nd rfl (Or.inl rfl) (pe_callB call_abs (by rfl) T.b_abs (by decide +kernel) (pa_cons (pe_ix (ix_listK (K := K) rfl) (pv 0) (pv 1) (fun _ _ => rfl)) pa_nil)))) pss_nil)
    (pss_one (ps_ret (pe_lst (pa_cons (pe_callB (call_max2 rfl) (by rfl) T.b_max (by decide +kernel) (pa_cons pe_int (pa_cons (pe_op op_sub (pv 2) (pe_op op_pow pe_int pe_int)) pa_nil))) (pa_cons (pe_op op_add (pe_op op_mod (pe_op op_pow (pe_op op_add (pe_op op_add (pe_op op_mod (pv 2) pe_int) (pe_op op_mul pe_int (pv 1))) pe_int) pe_int) pe_int) pe_int) pa_nil))))))), ?_⟩
  obtain ⟨⟨a, xs, i⟩, rfl, ha, hi, hl, k⟩ := h
  dsimp only at ha hi hl k
  refine ⟨fun σ' H' => H' = H ∧ ∃ c : Int, 0 ≤ c ∧ σ' = [some (.ref a), some (.int (i : Nat)), some (.int c)], ?_, ?_⟩
  · refine ⟨_, rfl, _, rfl, a, _, rfl, Or.inl ha, _, _, rfl, rfl, _, rfl, ?_⟩
    rw [List.length_map]
    dsimp only
    by_cases m : i < xs.length
    · have hx : (xs.map V.int)[i]? = some (.int xs[i]) := by simp [m]
      rw [decide_eq_true (by omega)]
      refine it_t (by rfl) ⟨_, rfl, _, rfl, a, _, _, _, rfl, rfl, ha, atI_nat hx, _, rfl, rfl, _, ?_, rfl⟩
      split <;> omega
    · rw [decide_eq_false (by omega)]
      exact it_f (by rfl) ⟨rfl, 0, by omega, rfl⟩
  · rintro σ' H1 ⟨rfl, c, hc, rfl⟩
    have h0 := Int.emod_nonneg c (show (2147483629 : Int) ≠ 0 by decide)
    have h1 := Int.emod_lt_of_pos c (show (0 : Int) < 2147483629 by decide)
    refine ⟨_, rfl, _, _, rfl, rfl, ⟨by decide, by decide, by decide⟩, _, _, rfl, rfl, _, _, rfl, ?_⟩
    have hin : (0 : Int) ≤ (i : Int) ∧ (i : Int) ≤ 1 := ⟨by omega, by omega⟩
    refine ⟨_, rfl, _, _, rfl, rfl, (show (0 : Int) < 2147483629 by decide), _, rfl, _, _, rfl, rfl, Or.inl ⟨by decide, by decide⟩, _, _, rfl, rfl, _, _, rfl, rfl, _, _, rfl, rfl, ⟨by decide, by decide, ?_⟩, _, _, rfl, rfl, (show (0 : Int) < 2147483587 by decide), _, _, rfl, rfl, sz_of (n := 2) (by decide), fun p hp => k p _ (Ex.new hp) hp ⟨_, _, upd_same, ?_, ?_, ?_⟩⟩
    · show (c % 2147483629 + 1013 * (i : Int) + 7).natAbs < 18446744073709551616
      omega
    · split <;> omega
    · have := Int.emod_nonneg ((c % 2147483629 + 1013 * (i : Int) + 7) ^ Int.toNat 3) (show (2147483587 : Int) ≠ 0 by decide)
      exact Int.add_nonneg this (by decide)
    · have := Int.emod_lt_of_pos ((c % 2147483629 + 1013 * (i : Int) + 7) ^ Int.toNat 3) (show (0 : Int) < 2147483587 by decide)
      show (c % 2147483629 + 1013 * (i : Int) + 7) ^ Int.toNat 3 % 2147483587 + 1 < 4294967296
      omega
end
end CR
set_option maxRecDepth 100000
set_option maxHeartbeats 4000000
/-! Cycleready: the law's words. -/
namespace CR
open PySem PySem.Spec PyProof.Rows L2 Evl
local macro_rules | `(tactic| walk_at "red") => `(tactic| dsimp only [tNext, tSeq, tRet, tRetN, tDrop, tIfS, tAsg, tPar, tTest, tB, tNot, tAnd, tOr, tCB, tCons, tNil, tCall, tOp, tUn, tVar, tC, tIf])
local macro_rules | `(tactic| walk_at "nrm") => `(tactic| dsimp only [gName, tNext])
theorem PotAt.ex {H H' : Hp} {p : Addr} (h : PotAt H p) (e : Ex H H') : PotAt H' p := by
  obtain ⟨a, b, h1, h2⟩ := h
  exact ⟨a, b, e _ _ h1, h2⟩
theorem joinL_one : ∀ cs : List Nat, TL.joinL [] (cs.map fun c => [c]) = cs
  | [] => rfl
  | [c] => rfl
  | c :: d :: r => by
    show [c] ++ ([] ++ TL.joinL [] ((d :: r).map fun c => [c])) = _
    rw [joinL_one (d :: r)]
    rfl
theorem okName_S {cs : List Nat} (h1 : 1 ≤ cs.length) (h8 : cs.length ≤ 8) (h : ∀ c ∈ cs, c ∈ letters.cps.toList) : okName ⟨cs.toArray⟩ := ⟨h1, h8, fun c hc => h c (by simpa using hc)⟩
/-- the i-th letter, as a text -/
def ltr (i : Nat) : Str := ⟨#[(letters.cps[i]?).getD 0]⟩
def spare (i : Nat) : Str := ltr (i / 26) ++ ltr (i % 26) ++ "q"
theorem ltr_get {i : Nat} (h : i < 26) : ∃ c, letters.cps[i]? = some c ∧ ltr i = ⟨#[c]⟩ := by
  have hsz : letters.cps.size = 26 := by decide +kernel
  have : letters.cps[i]? = some (letters.cps[i]'(by omega)) := by simp [hsz]
  exact ⟨_, this, by unfold ltr; rw [this]; rfl⟩
theorem spare_ok : ∀ i, i < 676 → okName (spare i) := by
  have : (List.range 676).all (fun i => decide (1 ≤ (spare i).length) && decide ((spare i).length ≤ 8) && (spare i).cps.toList.all fun c => letters.cps.toList.contains c) = true := by decide +kernel
  intro i hi
  have h := List.all_eq_true.mp this i (List.mem_range.mpr hi)
  rw [Bool.and_eq_true, Bool.and_eq_true, decide_eq_true_eq, decide_eq_true_eq, List.all_eq_true] at h
  exact ⟨h.1.1, h.1.2, fun c hc => List.contains_iff_mem.mp (h.2 c hc)⟩
theorem spare_free {us : List Str} (h : us.length ≤ 10) : (((List.range 676).map spare).filter fun t => decide (t ∉ us)) ≠ [] := by
  intro z
  have nd : ((List.range 11).map spare).Nodup := by decide +kernel
  have := nd.length_le_of_subset (l₂ := us) fun t ht => by
    obtain ⟨i, hi, rfl⟩ := List.mem_map.mp ht
    have hi := List.mem_range.mp hi
    by_cases q : spare i ∈ us
    · exact q
    · have : spare i ∈ (((List.range 676).map spare).filter fun t => decide (t ∉ us)) := List.mem_filter.mpr ⟨List.mem_map.mpr ⟨i, List.mem_range.mpr (by omega), rfl⟩, decide_eq_true q⟩
      rw [z] at this
      cases this
  rw [List.length_map, List.length_range] at this
  omega
section
variable {P : Program} {w : World} {K : PySem.W.Frag} {mg : Str → Option Value} {base : Heap}
def sp_l_word (K : PySem.W.Frag) : Sp := Pm (fun x : Addr × Addr × List Str => [.ref x.1, .ref x.2.1]) fun x H Q => PotAt H x.1 ∧ H x.2.1 = some (.lst (x.2.2.map .str)) ∧ x.1 ≠ x.2.1 ∧ x.2.2.length ≤ 10 ∧
  ∀ t H', okName t → t ∉ x.2.2 → PotAt H' x.1 → ExP x.1 H H' → Q (.str t) H'
theorem sp_l_word_len (K : PySem.W.Frag) : ∀ vs H Q E, sp_l_word K vs H Q E → vs.length = 2 := Pm.len fun _ => rfl
abbrev s_l_word : Stmt := (top 34)
theorem sc_l_word : FnScope ["_law_pot_here", "_law_used", "_law_letters", "_law_size", "_law_word_here", "_law_spare", "_law_turn", "_law_at", "_law_one"] ["_law_pot_here", "_law_used"] (defScope s_l_word) := ⟨rfl, rfl, rfl, by decide +kernel, rfl, by decide +kernel, by decide +kernel⟩
theorem ok_l_word (T : Txt K mg) : Okd P w K mg base 2 (aF K "_law_word") ["_law_pot_here", "_law_used"] (sp_l_word K) := by
  obtain ⟨fd, F⟩ := T.f_l_word
  refine Okd.mk F sc_l_word (sp_l_word_len K) (fun _ _ _ _ _ _ us hl => match us, hl with | [_, _], _ => rfl) (fun cdv A outer s H vs Q E hr h => ?_)
  have hu := hu_of hr
  refine ⟨_, (pss_cons (ps_set (i := 2) sc_l_word.nd rfl (Or.inr rfl) pe_str)
    (pss_cons (ps_set (i := 3) sc_l_word.nd rfl (Or.inl rfl) (pe_ix (ix_listK (K := K) rfl) (pe_lst (pa_cons pe_int (pa_cons pe_int (pa_cons pe_int (pa_cons pe_int (pa_cons (pe_op op_add pe_int (pe_callO (ok_l_draw (K := K) T) (hr.mono (by decide)) rfl T.g__law_draw T.k__law_draw (pa_cons (pv 0) (pa_cons pe_int pa_nil)))) pa_nil)))))) (pe_callO (ok_l_draw (K := K) T) (hr.mono (by decide)) rfl T.g__law_draw T.k__law_draw (pa_cons (pv 0) (pa_cons pe_int pa_nil))) (fun _ _ => rfl)))
    (pss_cons (ps_set (i := 4) sc_l_word.nd rfl (Or.inl rfl) (pe_join pe_str (pe_lc (own := [("_law_turn", 6)]) rfl sc_l_word.nd (pi_range1 (by rfl) T.b_range (pa_cons (pv 3) pa_nil)) (blkOk_by (own := [("_law_turn", 6)]) (N := ["_law_pot_here", "_law_used", "_law_letters", "_law_size", "_law_word_here", "_law_spare", "_law_turn", "_law_at", "_law_one"]) (sc := defScope s_l_word) (by decide +kernel)) (fun _ _ _ _ _ => (pg_name (i := 6) sc_l_word.nd rfl (Or.inl rfl) (Or.inr rfl))) (fun _ _ _ _ _ => pts_nil) (fun _ _ _ _ _ => (pe_item_str (pv 2) (pe_callO (ok_l_draw (K := K) T) (hr.mono (by decide)) rfl T.g__law_draw T.k__law_draw (pa_cons (pv 0) (pa_cons pe_int pa_nil))) (fun _ _ => rfl))))))
    (pss_cut (ps_if (pt_cmpR op_eq (pe_callO (ok_l_draw (K := K) T) (hr.mono (by decide)) rfl T.g__law_draw T.k__law_draw (pa_cons (pv 0) (pa_cons pe_int pa_nil))) pe_int (nomark _)) (pss_one (ps_set (i := 4) sc_l_word.nd rfl (Or.inl rfl) (pe_ix (ix_listK (K := K) rfl) (pe_lst (pa_cons pe_str (pa_cons pe_str (pa_cons pe_str (pa_cons pe_str (pa_cons pe_str (pa_cons pe_str (pa_cons pe_str (pa_cons pe_str (pa_cons pe_str (pa_cons pe_str pa_nil))))))))))) (pe_callO (ok_l_draw (K := K) T) (hr.mono (by decide)) rfl T.g__law_draw T.k__law_draw (pa_cons (pv 0) (pa_cons pe_int pa_nil))) (fun _ _ => rfl)))) pss_nil)
    (pss_cons (ps_if (pt_cmpR (op_in_seqK (K := K) rfl) (pv 4) (pv 1) (by rfl)) (pss_cons (ps_setLc (own := [("_law_at", 7)]) (i := 5) rfl sc_l_word.nd rfl rfl (sw_true rfl rfl rfl (by decide +kernel)) (pi_range1 (by rfl) T.b_range (pa_cons pe_int pa_nil)) (blkOk_by (own := [("_law_at", 7)]) (N := ["_law_pot_here", "_law_used", "_law_letters", "_law_size", "_law_word_here", "_law_spare", "_law_turn", "_law_at", "_law_one"]) (sc := defScope s_l_word) (by decide +kernel)) (fun _ _ _ _ _ => (pg_name (i := 7) sc_l_word.nd rfl (Or.inl rfl) (Or.inr rfl))) (fun _ _ _ _ _ => pts_nil) (fun _ _ _ _ _ => (pe_op op_add_str (pe_op op_add_str (pe_item_str (pv 2) (pe_op op_fdiv (pv 7) pe_int) (fun _ _ => rfl)) (pe_item_str (pv 2) (pe_op op_mod (pv 7) pe_int) (fun _ _ => rfl))) pe_str)))
    (pss_one (ps_ret (pe_ix (ix_listK (K := K) rfl) (pe_lc (own := [("_law_one", 8)]) rfl sc_l_word.nd (pi_listK (K := K) rfl (pv 5)) (blkOk_by (own := [("_law_one", 8)]) (N := ["_law_pot_here", "_law_used", "_law_letters", "_law_size", "_law_word_here", "_law_spare", "_law_turn", "_law_at", "_law_one"]) (sc := defScope s_l_word) (by decide +kernel)) (fun _ _ _ _ _ => (pg_name (i := 8) sc_l_word.nd rfl (Or.inl rfl) (Or.inr rfl))) (fun _ _ _ _ _ => (pts_one (pt_cmpR (op_notIn_seqK (K := K) rfl) (pv 8) (pv 1) (by rfl)))) (fun _ _ _ _ _ => (pv 8))) pe_int (fun _ _ => rfl))))) pss_nil)
    (pss_one (ps_ret (pv 4)))))))), ?_⟩
  obtain ⟨⟨p, l, us⟩, rfl, hP, hl, hne, hul, k⟩ := h
  dsimp only at hP hl hne hul k
  refine ⟨_, rfl, (p, 8), rfl, hP, (show (0 : Int) < 8 by decide), (show (8 : Int) ≤ 10 ^ 31 by decide), fun d H1 d0 d1 hP1 e1 => ⟨_, _, rfl, rfl, sz_of (n := 5) (by decide), fun q hq => ?_⟩⟩
  have d1 : d < 8 := d1
  have e2 := Ex.new (o := HO.lst [V.int 1, V.int 1, V.int 2, V.int 8, V.int (1 + d)]) hq
  have hq2 : upd H1 q (.lst [V.int 1, V.int 1, V.int 2, V.int 8, V.int (1 + d)]) q = some (.lst ([1, 1, 2, 8, 1 + d].map V.int)) := upd_same
  have hP2 := hP1.ex e2
  have hqp : q ≠ p := fun z => by
    obtain ⟨a, b, h, _⟩ := hP1
    rw [z, h] at hq
    cases hq
  refine ⟨_, rfl, (p, 5), rfl, hP2, (show (0 : Int) < 5 by decide), (show (5 : Int) ≤ 10 ^ 31 by decide), fun d5 H3 d50 d51 hP3 e3 => ?_⟩
  have d51 : d5 < 5 := d51
  obtain ⟨j, rfl⟩ : ∃ j : Nat, d5 = (j : Int) := ⟨d5.toNat, by omega⟩
  have hj : j < ([1, 1, 2, 8, 1 + d] : List Int).length := by show j < 5; omega
  obtain ⟨n, hn, hn1, hn8⟩ : ∃ n : Nat, ([1, 1, 2, 8, 1 + d] : List Int)[j]? = some (n : Int) ∧ 1 ≤ n ∧ n ≤ 8 := by
    have hj : j < 5 := hj
    rcases (show j = 0 ∨ j = 1 ∨ j = 2 ∨ j = 3 ∨ j = 4 by omega) with rfl | rfl | rfl | rfl | rfl
    · exact ⟨1, rfl, by decide, by decide⟩
    · exact ⟨1, rfl, by decide, by decide⟩
    · exact ⟨2, rfl, by decide, by decide⟩
    · exact ⟨8, rfl, by decide, by decide⟩
    · refine ⟨(1 + d).toNat, ?_, by omega, by omega⟩
      show some (1 + d) = some (((1 + d).toNat : Nat) : Int)
      congr 1
      omega
  have hq3 := e3 _ _ hq2 hqp
  have e13 : ExP p H H3 := (e1.trans (ExP.ex e2)).trans e3
  have hl3 := e13 _ _ hl (fun z => hne z.symm)
  refine ⟨q, _, (j : Int), .int n, rfl, rfl, sq_of hq3, atI_nat (by rw [List.getElem?_map, hn]; rfl), ?_⟩
  walk_at "nrm"
  -- the letters
  refine ⟨⟨_, rfl⟩, ?_⟩
  refine lcP (J := Itr 0 n) (H1 := H3) (fun R r => ⟨_, rfl, (n : Int), rfl, by omega, by omega, r⟩) walk_range fun D hD =>
    ⟨fun i H' => PotAt H' p ∧ ExP p H3 H' ∧ ∃ cs : List Nat, H' D = some (.lst (cs.map fun c => V.str ⟨#[c]⟩)) ∧ cs.length = i ∧ ∀ c ∈ cs, c ∈ letters.cps.toList, ⟨hP3.ex (Ex.new hD), ExP.ex (Ex.new hD), [], upd_same, rfl, fun c hc => absurd hc (by simp)⟩, fun i H' _ _ => True.intro, fun i v H5 H6 hi pr y => ?_, fun H5 pr => ?_⟩
  · obtain ⟨hP5, e5, cs, hD5, hcl, hcs⟩ := pr
    obtain ⟨rfl, rfl⟩ := y
    have hDp : D ≠ p := fun z => by
      obtain ⟨a, b, h, _⟩ := hP3
      have h : H3 p = _ := h
      rw [z, h] at hD
      cases hD
    refine ⟨rfl, _, rfl, _, rfl, (p, 26), rfl, hP5, (show (0 : Int) < 26 by decide), (show (26 : Int) ≤ 10 ^ 31 by decide), fun d H7 d0 d1 hP7 e7 => ?_⟩
    have d1 : d < 26 := d1
    have hsz : letters.cps.size = 26 := by decide +kernel
    have hget : letters.cps[d.toNat]? = some (letters.cps[d.toNat]'(by omega)) := by simp [hsz]
    have hmem : letters.cps[d.toNat]'(by omega) ∈ letters.cps.toList := by simp
    generalize letters.cps[d.toNat]'(by omega) = c at hget hmem
    have hD7 := e7 _ _ hD5 hDp
    obtain ⟨a, b, h, h'⟩ := hP7
    refine ⟨letters, d, c, rfl, rfl, d0, by omega, by show d < (letters.cps.size : Nat); omega, hget, _, hD7, by rw [List.length_map]; exact sz_lt (by omega), ⟨a, b, by rw [upd_ne (fun z => hDp z.symm)]; exact h, h'⟩, fun x o hx hxp => ?_, cs ++ [c], ?_, by rw [List.length_append, hcl]; rfl, fun y hy => ?_⟩
    · rw [upd_ne (fun z => by rw [z, hD] at hx; cases hx)]
      exact (e5.trans e7) _ _ hx hxp
    · rw [upd_same, List.map_append]
      rfl
    · rcases List.mem_append.mp hy with z | z
      · exact hcs y z
      · rw [List.mem_singleton.mp z]
        exact hmem
  · obtain ⟨hP5, e5, cs, hD5, hcl, hcs⟩ := pr
    have ej : Txt.join ("" : Str) (cs.map fun c => (⟨#[c]⟩ : Str)) = ⟨cs.toArray⟩ := by
      have e := TL.tl_join ("" : Str) (cs.map fun c => (⟨#[c]⟩ : Str))
      have e2 : (cs.map fun c => (⟨#[c]⟩ : Str)).map TL.tl = cs.map fun c => [c] := by
        rw [List.map_map]
        rfl
      rw [e2, show TL.tl ("" : Str) = [] from rfl, joinL_one] at e
      exact TL.ext_tl ((congrArg TL.tl (TL.join_eq ("" : Str) _)).trans (e.trans rfl))
    refine ⟨_, D, cs.map fun c => (⟨#[c]⟩ : Str), rfl, rfl, Or.inl (sq_of (hD5.trans (by rw [List.map_map]; rfl))), ?_, ?_⟩
    · rw [List.map_map, List.length_map, show ((fun x : Str => x.length) ∘ fun c => (⟨#[c]⟩ : Str)) = fun _ => 1 from rfl, List.map_const', List.sum_replicate_nat]
      show cs.length * 1 + cs.length * 0 ≤ _
      omega
    rw [ej]
    have hok := okName_S (cs := cs) (by omega) (by omega) hcs
    generalize (⟨cs.toArray⟩ : Str) = wd at hok ⊢
    have hl5 := e5 _ _ hl3 (fun z => hne z.symm)
    have e15 := e13.trans e5
    walk_at "nrm"
    have ok10 : ∀ j : Nat, j < 10 → ∃ t, ([("module" : Str), "need", "try", "fail", "act", "thread", "retry", "unload", "ready", "a"])[j]? = some t ∧ okName t := by
      have hokd : ∀ t ∈ ([("module" : Str), "need", "try", "fail", "act", "thread", "retry", "unload", "ready", "a"] : List Str), okName t := by
        unfold okName
        decide +kernel
      intro j hj
      exact ⟨_, List.getElem?_eq_getElem (by exact hj), hokd _ (List.getElem_mem _)⟩
    refine ⟨fun σ' H' => ∃ wd y5 y6 y7 y8 y3, okName wd ∧ PotAt H' p ∧ ExP p H H' ∧ σ' = [some (.ref p), some (.ref l), some (.str letters), y3, some (.str wd), y5, y6, y7, y8], ?_, ?_⟩
    · refine ⟨_, rfl, (p, 12), rfl, hP5, (show (0 : Int) < 12 by decide), (show (12 : Int) ≤ 10 ^ 31 by decide), fun d H7 d0 d1 hP7 e7 => ⟨rfl, _, rfl, ?_⟩⟩
      refine it_c (fun hb => ?_) (fun hb => ⟨wd, _, _, _, _, _, hok, hP7, e15.trans e7, rfl⟩)
      refine ⟨sz_of (n := 10) (by decide), fun q hq => ?_⟩
      have e8 := Ex.new (o := HO.lst ([("module" : Str), "need", "try", "fail", "act", "thread", "retry", "unload", "ready", "a"].map V.str)) hq
      have hq8 : upd H7 q (HO.lst ([("module" : Str), "need", "try", "fail", "act", "thread", "retry", "unload", "ready", "a"].map V.str)) q = some (HO.lst ([("module" : Str), "need", "try", "fail", "act", "thread", "retry", "unload", "ready", "a"].map V.str)) := upd_same
      have hqp8 : q ≠ p := fun z => by
        obtain ⟨a, b, h, _⟩ := hP7
        rw [z, show H7 p = _ from h] at hq
        cases hq
      refine ⟨_, rfl, (p, 10), rfl, hP7.ex e8, (show (0 : Int) < 10 by decide), (show (10 : Int) ≤ 10 ^ 31 by decide), fun d2 H9 d20 d21 hP9 e9 => ?_⟩
      have d21 : d2 < 10 := d21
      obtain ⟨j, rfl⟩ : ∃ j : Nat, d2 = (j : Int) := ⟨d2.toNat, by omega⟩
      obtain ⟨t, ht, hto⟩ := ok10 j (by omega)
      exact ⟨q, _, (j : Int), .str t, rfl, rfl, sq_of (e9 _ _ hq8 hqp8), atI_nat (by rw [List.getElem?_map, ht]; rfl), t, _, _, _, _, _, hto, hP9, ((e15.trans e7).trans (ExP.ex e8)).trans e9, rfl⟩
    · rintro σ' H7 ⟨wd, y5, y6, y7, y8, y3, hok, hP7, e7, rfl⟩
      have hl7 := e7 _ _ hl (fun z => hne z.symm)
      refine ⟨_, rfl, _, rfl, l, _, rfl, Or.inl (sq_of hl7), rfl, flat_strs2 us, _, rfl, ?_⟩
      rw [if_neg Bool.false_ne_true, inV_str]
      by_cases m : wd ∈ us
      · rw [decide_eq_true m]
        refine it_t (by rfl) ?_
        walk_at "red"
        refine lcW (J := Itr 0 676) (H1 := H7) (fun R r => ⟨676, rfl, by decide, by decide, r⟩) walk_range (by decide) (fun _ _ => True.intro) (fun _ => true) (fun i => .str (spare i)) (fun i v H8 H9 hi e8 y => ?_) (fun q H8 hq e8 h8 => ?_)
        · obtain ⟨rfl, rfl⟩ := y
          obtain ⟨c1, g1, t1⟩ := ltr_get (i := i / 26) (by omega)
          obtain ⟨c2, g2, t2⟩ := ltr_get (i := i % 26) (by omega)
          refine ⟨_, Ex.refl _, fun Q q => q, rfl, fun H1 e Q q => q H1 (Ex.refl _), fun _ H4 e4 Q q => ?_⟩
          have hsz : letters.cps.size = 26 := by decide +kernel
          have n1 : (0 + (i : Int)) / 26 = ((i / 26 : Nat) : Int) := by omega
          have n2 : (0 + (i : Int)) % 26 = ((i % 26 : Nat) : Int) := by omega
          refine ⟨_, rfl, _, rfl, _, _, rfl, rfl, ⟨by decide, by decide⟩, letters, ((i / 26 : Nat) : Int), c1, rfl, congrArg V.int n1, by omega, by omega, by show ((i / 26 : Nat) : Int) < (letters.cps.size : Nat); omega, g1, _, rfl, _, rfl, _, _, rfl, rfl, (show (0 : Int) < 26 by decide), letters, ((i % 26 : Nat) : Int), c2, rfl, congrArg V.int n2, by omega, by omega, by show ((i % 26 : Nat) : Int) < (letters.cps.size : Nat); omega, g2, _, _, rfl, rfl, sz_of (n := 2) (by decide), _, _, rfl, rfl, sz_of (n := 3) (by decide), ?_⟩
          have := q H4 (Ex.refl _)
          unfold spare at this
          rw [t1, t2] at this
          exact this
        · have hg : given 676 (fun _ => true) (fun i => V.str (spare i)) = ((List.range 676).map spare).map V.str := by
            unfold given
            rw [List.filter_eq_self.mpr fun _ _ => rfl, List.map_map]
            rfl
          rw [hg] at h8
          walk_at "nrm"
          walk_at "red"
          have hl8 := e8 _ _ hl7
          refine lcG (α := Str) V.str V.str (fun l H' => l = (List.range 676).map spare) (fun t => decide (t ∉ us)) (fun R r => ⟨_, rfl, q, rfl, ⟨_, sq_of h8⟩, r _ _ H8 (Ex.refl _) rfl h8⟩)
            (fun l H' h => by rw [h, List.length_map, List.length_range]; decide) (fun v => rfl) (fun ll H' e1 h b hb H2 e2 H3 e3 Q q => ?_) (fun l H' e1 h b hb _ H2 e2 => ev_var rfl) (fun ll H' p2 H2 e1 h e2 hp2 h2 => ?_)
          · refine ⟨_, rfl, _, rfl, l, _, rfl, Or.inl (sq_of (((e1.trans e2).trans e3) _ _ hl8)), rfl, flat_strs2 us, _, rfl, ?_⟩
            rw [if_pos rfl, inV_str, ← decide_not]
            exact q H3 (Ex.refl _)
          · subst h
            have hfree := spare_free hul
            cases hh : ((List.range 676).map spare).filter fun t => decide (t ∉ us) with
            | nil => exact absurd hh hfree
            | cons t ts =>
              rw [hh] at h2
              have ht : t ∈ ((List.range 676).map spare).filter fun t => decide (t ∉ us) := by rw [hh]; exact List.mem_cons_self
              obtain ⟨ht1, ht2⟩ := List.mem_filter.mp ht
              obtain ⟨i, hi, rfl⟩ := List.mem_map.mp ht1
              exact ⟨p2, _, 0, .str (spare i), rfl, rfl, sq_of h2, atI_nat (j := 0) rfl, k _ H2 (spare_ok i (List.mem_range.mp hi)) (of_decide_eq_true ht2) (hP7.ex ((e8.trans e1).trans e2)) (e7.trans (ExP.ex ((e8.trans e1).trans e2)))⟩
      · rw [decide_eq_false m]
        exact it_f (by rfl) ⟨_, rfl, k wd H7 hok m hP7 e7⟩
def sp_l_words (K : PySem.W.Frag) : Sp := Pm (fun x : Addr × Nat => [.ref x.1, .int x.2]) fun x H Q => PotAt H x.1 ∧ x.2 ≤ 10 ∧
  ∀ (us : List Str) l H', us.length = x.2 → us.Nodup → (∀ t ∈ us, okName t) → PotAt H' x.1 → ExP x.1 H H' → H l = none → l ≠ x.1 → H' l = some (.lst (us.map .str)) → Q (.ref l) H'
theorem sp_l_words_len (K : PySem.W.Frag) : ∀ vs H Q E, sp_l_words K vs H Q E → vs.length = 2 := Pm.len fun _ => rfl
abbrev s_l_words : Stmt := (top 35)
theorem sc_l_words : FnScope ["_law_pot_here", "_law_number", "_law_found", "_law_turn"] ["_law_pot_here", "_law_number"] (defScope s_l_words) := ⟨rfl, rfl, rfl, by decide +kernel, rfl, by decide +kernel, by decide +kernel⟩
theorem ok_l_words (T : Txt K mg) : Okd P w K mg base 3 (aF K "_law_words") ["_law_pot_here", "_law_number"] (sp_l_words K) := by
  obtain ⟨fd, F⟩ := T.f_l_words
  refine Okd.mk F sc_l_words (sp_l_words_len K) (fun _ _ _ _ _ _ us hl => match us, hl with | [_, _], _ => rfl) (fun cdv A outer s H vs Q E hr h => ?_)
  have hu := hu_of hr
  refine ⟨_, (pss_cons (ps_set (i := 2) sc_l_words.nd rfl (Or.inl rfl) (pe_lst pa_nil))
    (pss_cons (ps_for PassesOwn.never rfl (pi_range1 (by rfl) T.b_range (pa_cons (pv 1) pa_nil)) (pg_name (i := 3) sc_l_words.nd rfl (Or.inl rfl) (Or.inl rfl))
    (pss_one (ps_expr (pe_bm PySem.F.plainAttrs_list PySem.F.slot_list_append PySem.F.type_list_append mt_append (pv 2) (pa_cons (pe_callO (ok_l_word (K := K) T) (hr.mono (by decide)) rfl T.g__law_word T.k__law_word (pa_cons (pv 0) (pa_cons (pv 2) pa_nil))) pa_nil)))))
    (pss_one (ps_ret (pv 2))))), ?_⟩
  obtain ⟨⟨p, n⟩, rfl, hP, hn, k⟩ := h
  dsimp only at hP hn k
  refine ⟨sz_of (n := 0) (by decide), fun L hL => ?_⟩
  have hLp : L ≠ p := fun z => by
    obtain ⟨a, b, h, _⟩ := hP
    rw [z, h] at hL
    cases hL
  have hP1 := hP.ex (Ex.new (o := HO.lst []) hL)
  refine ⟨_, rfl, (n : Int), rfl, by omega, by omega, for_range (lo := 0) (n := n) (fun i σ' H' => ∃ us y, σ' = [some (.ref p), some (.int (n : Nat)), some (.ref L), y] ∧ us.length = i ∧ us.Nodup ∧ (∀ t ∈ us, okName t) ∧ PotAt H' p ∧ ExP p H H' ∧ H' L = some (.lst (us.map .str)))
    ⟨[], _, rfl, rfl, List.nodup_nil, fun t ht => absurd ht (by simp), hP1, ExP.ex (Ex.new hL), upd_same⟩ (fun i σ' H' hi pr => ?_) (fun σ' H' pr => ?_)⟩
  · obtain ⟨us, y, rfl, hl, nd, ok, hP2, e2, h2⟩ := pr
    refine ⟨_, rfl, Or.inl ⟨rfl, _, sq_of h2⟩, _, rfl, _, rfl, (p, L, us), rfl, hP2, h2, fun z => hLp z.symm, by show us.length ≤ 10; omega, fun t H3 ht htu hP3 e3 => ?_⟩
    have h3 := e3 _ _ h2 hLp
    obtain ⟨a, b, h, h'⟩ := hP3
    have ee : us.map V.str ++ [V.str t] = (us ++ [t]).map V.str := by rw [List.map_append]; rfl
    refine ⟨L, _, _, rfl, rfl, h3, by rw [List.length_map]; exact sz_lt (by omega), ?_⟩
    rw [ee]
    refine ⟨us ++ [t], _, rfl, by rw [List.length_append, hl]; rfl, ?_, fun u hu => ?_, ⟨a, b, by rw [upd_ne (fun z => hLp z.symm)]; exact h, h'⟩, fun c o hc hcp => ?_, upd_same⟩
    · rw [List.nodup_append]
      exact ⟨nd, by simp, fun u hu v hv => by rw [List.mem_singleton.mp hv]; exact ne_mem hu htu⟩
    · rcases List.mem_append.mp hu with z | z
      · exact ok u z
      · rw [List.mem_singleton.mp z]
        exact ht
    · rw [upd_ne (fun z => by rw [z, hL] at hc; cases hc)]
      exact (e2.trans e3) _ _ hc hcp
  · obtain ⟨us, y, rfl, hl, nd, ok, hP2, e2, h2⟩ := pr
    exact ⟨_, rfl, k us L H' hl nd ok hP2 e2 hL hLp h2⟩
end
end CR
set_option maxRecDepth 100000
set_option maxHeartbeats 4000000
/-! Cycleready: the law's tables are made. -/
namespace CR
open PySem PySem.Spec PyProof.Rows L2 Evl
local macro_rules | `(tactic| walk_at "red") => `(tactic| dsimp only [tNext, tSeq, tRet, tRetN, tDrop, tIfS, tAsg, tPar, tTest, tB, tNot, tAnd, tOr, tCB, tCons, tNil, tCall, tOp, tUn, tVar, tC, tIf])
local macro_rules | `(tactic| walk_at "nrm") => `(tactic| dsimp only [gName, tNext])
/-- a layout beside an object F that still changes -/
structure LayF (H0 : Hp) (F : Addr) (A : Mo → Addr) (C : Mo → Option HO) (H : Hp) : Prop where
  at_ : At A C H
  nw : ∀ a, own A C a → H0 a = none ∧ a ≠ F
  ex : Ex H0 H
  hF : ∃ kvs, H F = some (.dK kvs)
section
variable {H0 H H' : Hp} {F p : Addr} {A A' : Mo → Addr} {C C' : Mo → Option HO}
theorem LayF.grow (h : LayF H0 F A C H) (e : Ex H H') : LayF H0 F A C H' := ⟨h.at_.ex e, h.nw, h.ex.trans e, let ⟨k, q⟩ := h.hF; ⟨k, e _ _ q⟩⟩
theorem LayF.put (h : LayF H0 F A C H) (hF0 : H0 F = none) (kvs : List (Key × V)) : LayF H0 F A C (upd H F (.dK kvs)) :=
  ⟨h.at_.fr fun a ha => upd_ne (h.nw a ha).2, h.nw, Ex.mut h.ex hF0, ⟨_, upd_same⟩⟩
theorem LayF.adopt {S : Mo → Prop} (h : LayF H0 F A C H) (e : Ex H H') (hold : ∀ j, ¬ S j → C' j = C j ∧ A' j = A j) (hnew : ∀ j o, S j → C' j = some o → H (A' j) = none ∧ H' (A' j) = some o)
    (hinj : ∀ i j, S i → S j → (C' i).isSome = true → (C' j).isSome = true → A' i = A' j → i = j) : LayF H0 F A' C' H' := by
  obtain ⟨a1, s1⟩ := At.adopt h.at_ e hold hnew hinj
  refine ⟨a1, fun a ha => ?_, h.ex.trans e, let ⟨k, q⟩ := h.hF; ⟨k, e _ _ q⟩⟩
  rcases s1.nw a ha with z | z
  · exact h.nw a z
  · refine ⟨fresh_back h.ex z, fun y => ?_⟩
    obtain ⟨k, q⟩ := h.hF
    rw [y, q] at z
    cases z
theorem LayF.one (h : LayF H0 F A C H) (e : Ex H H') (i : Mo) (hp : H p = none) {u : HO} (hu : H' p = some u) : LayF H0 F (fun j => if j = i then p else A j) (fun j => if j = i then some u else C j) H' :=
  h.adopt (S := fun j => j = i) e (fun j hj => ⟨if_neg hj, if_neg hj⟩) (fun j o' hj ho => by
    subst hj
    rw [if_pos rfl] at ho
    rw [if_pos rfl]
    cases ho
    exact ⟨hp, hu⟩) fun i j hi hj _ _ _ => hi.trans hj.symm
/-- at last F itself -/
theorem LayF.last (h : LayF H0 F A C H) (hF0 : H0 F = none) (i : Mo) {o : HO} (ho : H F = some o) :
    At (fun j => if j = i then F else A j) (fun j => if j = i then some o else C j) H ∧ ∀ a, own (fun j => if j = i then F else A j) (fun j => if j = i then some o else C j) a → H0 a = none := by
  refine ⟨⟨fun j u hu => ?_, fun j k lj lk e => ?_⟩, fun a ⟨j, lj, e⟩ => ?_⟩
  · by_cases z : j = i
    · rw [if_pos z] at hu ⊢
      cases hu
      exact ho
    · rw [if_neg z] at hu ⊢
      exact h.at_.is j u hu
  · by_cases z : j = i
    · by_cases y : k = i
      · exact z.trans y.symm
      · simp only [if_pos z, if_neg y] at lk e
        exact absurd e.symm (h.nw _ ⟨k, lk, rfl⟩).2
    · by_cases y : k = i
      · simp only [if_pos y, if_neg z] at lj e
        exact absurd e (h.nw _ ⟨j, lj, rfl⟩).2
      · simp only [if_neg z, if_neg y] at lj lk e
        exact h.at_.inj j k lj lk e
  · by_cases z : j = i
    · simp only [if_pos z] at e
      exact e ▸ hF0
    · simp only [if_neg z] at lj e
      exact (h.nw a ⟨j, lj, e⟩).1
end
section
variable {P : Program} {w : World} {K : PySem.W.Frag} {mg : Str → Option Value} {base : Heap}
def sp_l_empty (K : PySem.W.Frag) : Sp := Pm (fun x : Addr × List Str => [.ref x.1]) fun x H Q => H x.1 = some (.lst (x.2.map .str)) ∧ (∀ n ∈ x.2, okName n) ∧ x.2.Nodup ∧ x.2.length ≤ 40 ∧
  ∀ x' H', TabAt (srtS x.2) 0 [] [] x' H' → Ex H H' → (∀ a, own x'.μ (CM x') a → H a = none) → x'.c = c0 → Q (.ref (x'.μ .m)) H'
theorem sp_l_empty_len (K : PySem.W.Frag) : ∀ vs H Q E, sp_l_empty K vs H Q E → vs.length = 1 := Pm.len fun _ => rfl
abbrev s_l_empty : Stmt := (top 42)
theorem sc_l_empty : FnScope ["_law_names", "_law_m", "_law_name"] ["_law_names"] (defScope s_l_empty) := ⟨rfl, rfl, rfl, by decide +kernel, rfl, by decide +kernel, by decide +kernel⟩
theorem ok_l_empty (T : Txt K mg) : Okd P w K mg base 1 (aF K "_law_empty") ["_law_names"] (sp_l_empty K) := by
  obtain ⟨fd, F⟩ := T.f_l_empty
  refine Okd.mk F sc_l_empty (sp_l_empty_len K) (fun _ _ _ _ _ _ us hl => match us, hl with | [_], _ => rfl) (fun cdv A outer s H vs Q E hr h => ?_)
  have hu := hu_of hr
  refine ⟨_, (pss_cons (ps_set (i := 1) sc_l_empty.nd rfl (Or.inl rfl) (pe_disp (pps_cons pe_str (pe_callTy (call_dictPK (K := K) rfl rfl) (by rfl) T.b_dict (by decide +kernel) (pa_cons (pe_lc (own := [("_law_name", 2)]) rfl sc_l_empty.nd (pi_listK (K := K) rfl (pv 0)) (blkOk_by (own := [("_law_name", 2)]) (N := ["_law_names", "_law_m", "_law_name"]) (sc := defScope s_l_empty) (by decide +kernel)) (fun _ _ _ _ _ => (pg_name (i := 2) sc_l_empty.nd rfl (Or.inl rfl) (Or.inr rfl))) (fun _ _ _ _ _ => pts_nil) (fun _ _ _ _ _ => (pe_tup (pa_cons (pv 2) (pa_cons pe_str pa_nil))))) pa_nil)) pps_nil) (by rfl) (by rfl) (fun z => by cases z) (by decide)))
    (pss_cons (ps_dput hu (pv 1) pe_str (pe_callTy (call_dictPK (K := K) rfl rfl) (by rfl) T.b_dict (by decide +kernel) (pa_cons (pe_lc (own := [("_law_name", 2)]) rfl sc_l_empty.nd (pi_listK (K := K) rfl (pv 0)) (blkOk_by (own := [("_law_name", 2)]) (N := ["_law_names", "_law_m", "_law_name"]) (sc := defScope s_l_empty) (by decide +kernel)) (fun _ _ _ _ _ => (pg_name (i := 2) sc_l_empty.nd rfl (Or.inl rfl) (Or.inr rfl))) (fun _ _ _ _ _ => pts_nil) (fun _ _ _ _ _ => (pe_tup (pa_cons (pv 2) (pa_cons pe_dnewK pa_nil))))) pa_nil)) rfl)
    (pss_cons (ps_asg (pe_tup (pa_cons (pe_lst pa_nil) (pa_cons (pe_lst pa_nil) (pa_cons (pe_lst pa_nil) (pa_cons (pe_lst pa_nil) (pa_cons pe_dnewK pa_nil)))))) (pg_tupK (K := K) (n := 5) rfl rfl (pgs_cons (pg_sub (pv 1) pe_str (set_dput hu)) (pgs_cons (pg_sub (pv 1) pe_str (set_dput hu)) (pgs_cons (pg_sub (pv 1) pe_str (set_dput hu)) (pgs_cons (pg_sub (pv 1) pe_str (set_dput hu)) (pgs_cons (pg_sub (pv 1) pe_str (set_dput hu)) pgs_nil)))))))
    (pss_one (ps_ret (pv 1)))))), ?_⟩
  obtain ⟨⟨a, ns⟩, rfl, ha, hok, nd, hl, k⟩ := h
  dsimp only at ha hok nd hl k
  intro F hF
  have eF := Ex.new (o := HO.dK []) hF
  have hF1 : upd H F (.dK []) F = some (.dK []) := upd_same
  have haF := eF _ _ ha
  have lay0 : LayF H F (fun _ => 0) (fun _ => none) (upd H F (.dK [])) := ⟨⟨fun _ _ e => (nomatch e), fun _ _ e => (nomatch e)⟩, fun b ⟨_, e, _⟩ => (nomatch e), eF, ⟨_, hF1⟩⟩
  generalize upd H F (.dK []) = H1 at eF hF1 haF lay0 ⊢
  -- the states
  dsimp only [tPairs]
  walk_at "red"
  refine lcP (J := Itl K a) (H1 := H1) (fun R r => ⟨_, rfl, a, rfl, ⟨_, sq_of haF⟩, r⟩) walk_list fun D hD =>
    ⟨fun i H' => Ex H1 H' ∧ ∃ ps : List Addr, H' D = some (.lst (ps.map V.ref)) ∧ ps.length = i ∧ Paired (fun p (kv : Key × V) => H' p = some (.tup [kV kv.1, kv.2])) ps (stsD (ns.take i) fun _ => "new"), ⟨Ex.new hD, [], upd_same, rfl, .nil⟩, fun i H' _ p => sq_of (p.1 _ _ haF), fun i v H5 H6 hi pr y => ?_, fun H5 pr => ?_⟩
  · obtain ⟨e1, ps, hD1, hpl, hpp⟩ := pr
    obtain ⟨rfl, hx⟩ := y
    obtain ⟨n, hn, rfl⟩ := at_map hx
    rw [List.length_map] at hi
    have tk : ns.take (i + 1) = ns.take i ++ [n] := by
      rw [List.take_add_one, hn]
      rfl
    refine ⟨rfl, _, rfl, sz_of (n := 2) (by decide), fun q hq => ⟨_, (Ex.new hq) _ _ hD1, by rw [List.length_map]; exact sz_lt (by omega), Ex.mut (e1.trans (Ex.new hq)) hD, ps ++ [q], ?_, by rw [List.length_append, hpl]; rfl, ?_⟩⟩
    · rw [upd_same, List.map_append]
      rfl
    · have e2 : stsD (ns.take (i + 1)) (fun _ => "new") = stsD (ns.take i) (fun _ => "new") ++ [(Sum.inr n, V.str "new")] := by
        rw [tk]
        unfold stsD dS
        rw [List.map_append, List.map_append]
        rfl
      rw [e2]
      refine Paired.snoc (Paired.mono (fun p kv h => ?_) hpp) ?_
      · rw [upd_ne (ne_of h hD1 (fun z => nomatch z))]
        exact (Ex.new hq) _ _ h
      · show upd _ D _ q = _
        rw [upd_ne (fun z => by rw [z, hD1] at hq; cases hq)]
        exact upd_same
  obtain ⟨e1, ps, hD1, hpl, hpp⟩ := pr
  rw [List.length_map, List.take_length] at hpp
  refine ⟨D, ps, stsD ns fun _ => "new", rfl, sq_of hD1, Paired.mono (fun p kv h => st_of h) hpp, fun S hS => ?_⟩
  have ndk : ((ns.map fun n => (n, ("new" : Str))).map (·.1)).Nodup := by
    rw [List.map_map]
    show (ns.map fun n => n).Nodup
    rw [List.map_id']
    exact nd
  have em : mergeK [] (stsD ns fun _ => "new") = stsD ns fun _ => "new" := mergeK_dS (f := V.str) ndk
  rw [em]
  have eS := Ex.new (o := HO.dK (stsD ns fun _ => "new")) hS
  have lay1 := (lay0.grow e1).one eS .sts hS upd_same
  have hF2 := eS _ _ (e1 _ _ hF1)
  have ha2 := eS _ _ (e1 _ _ haF)
  generalize upd H5 S (.dK (stsD ns fun _ => "new")) = H6 at lay1 hF2 ha2 ⊢
  refine ⟨hF2, [(Sum.inr "states", .ref S)], rfl, (by decide : 1 ≤ 15), ?_⟩
  have lay2 := lay1.put hF [(Sum.inr "states", .ref S)]
  have haF2 : a ≠ F := fun z => by rw [z, hF] at ha; cases ha
  have ha3 : upd H6 F (.dK (mergeK [] [(Sum.inr "states", .ref S)])) a = some (.lst (ns.map .str)) := by
    rw [upd_ne haF2]
    exact ha2
  have hF3 : upd H6 F (.dK (mergeK [] [(Sum.inr "states", .ref S)])) F = some (.dK [(Sum.inr "states", .ref S)]) := upd_same
  have lay2 : LayF H F _ _ (upd H6 F (.dK (mergeK [] [(Sum.inr "states", .ref S)]))) := lay2
  generalize upd H6 F (.dK (mergeK [] [(Sum.inr "states", .ref S)])) = H7 at lay2 ha3 hF3 ⊢
  clear lay1 lay0
  -- the exports
  walk_at "nrm"
  walk_at "red"
  dsimp only [sDPut]
  walk_at "red"
  refine lcP (J := Itl K a) (H1 := H7) (fun R r => ⟨_, rfl, a, rfl, ⟨_, sq_of ha3⟩, r⟩) walk_list fun D hD =>
    ⟨fun i H' => Ex H7 H' ∧ ∃ (ps : List Addr) (ei : Str → Addr), H' D = some (.lst (ps.map V.ref)) ∧ ps.length = i ∧ Paired (fun p (kv : Key × V) => H' p = some (.tup [kV kv.1, kv.2])) ps ((ns.take i).map fun n => ((Sum.inr n : Key), V.ref (ei n))) ∧
      (∀ n ∈ ns.take i, H' (ei n) = some (.dK []) ∧ H7 (ei n) = none) ∧ ∀ n ∈ ns.take i, ∀ m ∈ ns.take i, ei n = ei m → n = m, ⟨Ex.new hD, [], fun _ => 0, upd_same, rfl, .nil, fun n hn => absurd hn (by simp), fun n hn => absurd hn (by simp)⟩, fun i H' _ p => sq_of (p.1 _ _ ha3), fun i v H5 H6 hi pr y => ?_, fun H5 pr => ?_⟩
  · obtain ⟨e1, ps, ei, hD1, hpl, hpp, i2, i3⟩ := pr
    obtain ⟨rfl, hx⟩ := y
    obtain ⟨n, hn, rfl⟩ := at_map hx
    rw [List.length_map] at hi
    have tk : ns.take (i + 1) = ns.take i ++ [n] := by
      rw [List.take_add_one, hn]
      rfl
    have nq := take_not nd hn
    refine ⟨rfl, _, rfl, fun u hu => ⟨sz_of (n := 2) (by decide), fun q hq => ⟨_, ((Ex.new hu).trans (Ex.new hq)) _ _ hD1, by rw [List.length_map]; exact sz_lt (by omega), Ex.mut ((e1.trans (Ex.new hu)).trans (Ex.new hq)) hD, ps ++ [q], upd1 ei n u, ?_, by rw [List.length_append, hpl]; rfl, ?_, fun r hr => ?_, fun r hr r' hr' e => ?_⟩⟩⟩
    all_goals have huD : u ≠ D := fun z => by rw [z, hD1] at hu; cases hu
    all_goals have hqD : q ≠ D := fun z => by (rw [z, (Ex.new hu) _ _ hD1] at hq; cases hq)
    all_goals have u1 : ∀ r ∈ ns.take i, upd1 ei n u r = ei r := fun r hr => upd1_ne (ne_mem hr nq)
    all_goals have u2 : upd1 ei n u n = u := upd1_same
    · rw [upd_same, List.map_append]
      rfl
    · rw [tk, List.map_append]
      refine Paired.snoc ?_ ?_
      · rw [show (ns.take i).map (fun n_1 => ((Sum.inr n_1 : Key), V.ref (upd1 ei n u n_1))) = (ns.take i).map (fun n => ((Sum.inr n : Key), V.ref (ei n))) from List.map_congr_left fun r hr => by rw [u1 r hr]]
        refine Paired.mono (fun p kv h => ?_) hpp
        rw [upd_ne (ne_of h hD1 (fun z => nomatch z))]
        exact ((Ex.new hu).trans (Ex.new hq)) _ _ h
      · show upd _ D _ q = some (.tup [.str n, .ref (upd1 ei n u n)])
        rw [upd_ne hqD, u2]
        exact upd_same
    · rw [tk] at hr
      rcases List.mem_append.mp hr with z | z
      · rw [u1 r z]
        obtain ⟨j1, j2⟩ := i2 r z
        refine ⟨?_, j2⟩
        rw [upd_ne (ne_of j1 hD1 (fun z => nomatch z))]
        exact ((Ex.new hu).trans (Ex.new hq)) _ _ j1
      · rw [List.mem_singleton.mp z, u2]
        refine ⟨?_, fresh_back e1 hu⟩
        rw [upd_ne huD]
        exact (Ex.new hq) _ _ upd_same
    · have inp : ∀ r ∈ ns.take i, ei r ≠ u := fun r hr => ne_of_none (i2 r hr).1 hu
      rw [tk] at hr hr'
      rcases List.mem_append.mp hr with z | z
      · rcases List.mem_append.mp hr' with z' | z'
        · rw [u1 r z, u1 r' z'] at e
          exact i3 r z r' z' e
        · rw [List.mem_singleton.mp z', u1 r z, u2] at e
          exact absurd e (inp r z)
      · rcases List.mem_append.mp hr' with z' | z'
        · rw [List.mem_singleton.mp z, u1 r' z', u2] at e
          exact absurd e.symm (inp r' z')
        · rw [List.mem_singleton.mp z, List.mem_singleton.mp z']
  obtain ⟨e1, ps, ei, hD1, hpl, hpp, i2, i3⟩ := pr
  rw [List.length_map, List.take_length] at hpp i2 i3
  refine ⟨D, ps, ns.map fun n => ((Sum.inr n : Key), V.ref (ei n)), rfl, sq_of hD1, Paired.mono (fun p kv h => st_of h) hpp, fun E hE => ?_⟩
  have nde : ((ns.map fun n => (n, n)).map (·.1)).Nodup := by
    rw [List.map_map]
    show (ns.map fun n => n).Nodup
    rw [List.map_id']
    exact nd
  have eme : (ns.map fun n => ((Sum.inr n : Key), V.ref (ei n))) = dS (fun n => V.ref (ei n)) (ns.map fun n => (n, n)) := by
    unfold dS
    rw [List.map_map]
    rfl
  rw [eme, mergeK_dS nde]
  have eE := Ex.new (o := HO.dK (dS (fun n => V.ref (ei n)) (ns.map fun n => (n, n)))) hE
  have hF5 := eE _ _ (e1 _ _ hF3)
  have hE5 : upd H5 E (.dK (dS (fun n => V.ref (ei n)) (ns.map fun n => (n, n)))) E = some (.dK (dS (fun n => V.ref (ei n)) (ns.map fun n => (n, n)))) := upd_same
  have i2' : ∀ n ∈ ns, upd H5 E (.dK (dS (fun n => V.ref (ei n)) (ns.map fun n => (n, n)))) (ei n) = some (.dK []) ∧ H7 (ei n) = none ∧ ei n ≠ E := fun n hn => ⟨eE _ _ (i2 n hn).1, (i2 n hn).2, fun z => by
    have := (i2 n hn).1
    rw [z, hE] at this
    cases this⟩
  have e7 := e1.trans eE
  generalize upd H5 E (.dK (dS (fun n => V.ref (ei n)) (ns.map fun n => (n, n)))) = H8 at hF5 hE5 i2' e7 ⊢
  have lay3 := lay2.adopt (S := fun j => match j with | .exd => True | .exi _ => True | _ => False) (A' := fun j => match j with | .exd => E | .exi n => ei n | j => (fun j => if j = Mo.sts then S else 0) j)
    (C' := fun j => match j with | .exd => some (.dK (dS (fun n => V.ref (ei n)) (ns.map fun n => (n, n)))) | .exi n => if n ∈ ns then some (.dK []) else none | j => (fun j => if j = Mo.sts then some (HO.dK (stsD ns fun _ => "new")) else none) j) e7
    (fun j hj => by cases j <;> first | exact absurd True.intro hj | exact ⟨rfl, rfl⟩) (fun j o hj ho => by
      cases j <;> first | exact absurd hj id | skip
      · cases ho
        exact ⟨fresh_back e1 hE, hE5⟩
      · rename_i n
        have ho : (if n ∈ ns then some (HO.dK []) else none) = some o := ho
        split at ho
        · rename_i hn
          cases ho
          exact ⟨(i2' n hn).2.1, (i2' n hn).1⟩
        · cases ho) (fun i j hi hj li lj e => by
      have hmem : ∀ n : Str, (if n ∈ ns then some (HO.dK []) else none).isSome = true → n ∈ ns := fun n h => by
        by_cases z : n ∈ ns
        · exact z
        · rw [if_neg z] at h
          cases h
      cases i <;> first | exact absurd hi id | skip
      · cases j <;> first | exact absurd hj id | rfl | skip
        rename_i n
        exact absurd e.symm (i2' n (hmem n lj)).2.2
      · rename_i n
        cases j <;> first | exact absurd hj id | skip
        · exact absurd e (i2' n (hmem n li)).2.2
        · rename_i m
          rw [i3 n (hmem n li) m (hmem m lj) e])
  refine ⟨_, rfl, F, _, rfl, Or.inl ⟨_, Sum.inr "exports", hF5, rfl, sz_lt (by show 1 < 100000; decide), rfl⟩, ?_⟩
  have lay4 := lay3.put hF (putK [(Sum.inr "states", .ref S)] (Sum.inr "exports") (.ref E))
  have hF9 : upd H8 F (.dK (putK [(Sum.inr "states", .ref S)] (Sum.inr "exports") (.ref E))) F = some (.dK [(Sum.inr "states", .ref S), (Sum.inr "exports", .ref E)]) := upd_same
  generalize upd H8 F (.dK (putK [(Sum.inr "states", .ref S)] (Sum.inr "exports") (.ref E))) = H9 at lay4 hF9 ⊢
  -- the lists, the chains
  refine ⟨sz_of (n := 0) (by decide), fun p1 h1 => ⟨sz_of (n := 0) (by decide), fun p2 h2 => ⟨sz_of (n := 0) (by decide), fun p3 h3 => ⟨sz_of (n := 0) (by decide), fun p4 h4 p5 h5 => ⟨sz_of (n := 5) (by decide), fun tp htp => ⟨tp, _, rfl, st_of upd_same, rfl, ?_⟩⟩⟩⟩⟩⟩
  have lay9 := (((((lay4.one (Ex.new (o := HO.lst []) h1) .nds h1 upd_same).one (Ex.new (o := HO.lst []) h2) .rcd h2 upd_same).one (Ex.new (o := HO.lst []) h3) .ear h3 upd_same).one (Ex.new (o := HO.lst []) h4) .hel h4 upd_same).one (Ex.new (o := HO.dK []) h5) .chd h5 upd_same).grow (Ex.new (o := HO.tup [.ref p1, .ref p2, .ref p3, .ref p4, .ref p5]) htp)
  have hF10 := ((((((Ex.new (o := HO.lst []) h1).trans (Ex.new (o := HO.lst []) h2)).trans (Ex.new (o := HO.lst []) h3)).trans (Ex.new (o := HO.lst []) h4)).trans (Ex.new (o := HO.dK []) h5)).trans (Ex.new (o := HO.tup [.ref p1, .ref p2, .ref p3, .ref p4, .ref p5]) htp)) _ _ hF9
  generalize upd (upd (upd (upd (upd (upd H9 p1 (.lst [])) p2 (.lst [])) p3 (.lst [])) p4 (.lst [])) p5 (.dK [])) tp (.tup [.ref p1, .ref p2, .ref p3, .ref p4, .ref p5]) = H10 at lay9 hF10 ⊢
  have dp : ∀ (Hx : Hp) (kvs : List (Key × V)) (key : Str) (v : V), kvs.length < 100 → Hx F = some (.dK kvs) → DPut Hx F (.str key) v (upd Hx F (.dK (putK kvs (Sum.inr key) v))) := fun Hx kvs key v hz hx => Or.inl ⟨_, Sum.inr key, hx, rfl, sz_lt (by omega), rfl⟩
  refine ⟨_, _, rfl, _, rfl, F, _, rfl, dp _ _ "needs" _ (by show 2 < 100; decide) hF10, _, _, rfl, _, rfl, F, _, rfl, dp _ _ "recorded" _ (by show 3 < 100; decide) upd_same, _, _, rfl, _, rfl, F, _, rfl, dp _ _ "early" _ (by show 4 < 100; decide) upd_same, _, _, rfl, _, rfl, F, _, rfl, dp _ _ "held" _ (by show 5 < 100; decide) upd_same, _, _, rfl, _, rfl, F, _, rfl, dp _ _ "chains" _ (by show 6 < 100; decide) upd_same, rfl, _, rfl, ?_⟩
  obtain ⟨f1, f2⟩ := (((((lay9.put hF (putK _ (Sum.inr "needs") (.ref p1))).put hF (putK _ (Sum.inr "recorded") (.ref p2))).put hF (putK _ (Sum.inr "early") (.ref p3))).put hF (putK _ (Sum.inr "held") (.ref p4))).put hF (putK (putK (putK (putK (putK [(Sum.inr "states", .ref S), (Sum.inr "exports", .ref E)] (Sum.inr "needs") (.ref p1)) (Sum.inr "recorded") (.ref p2)) (Sum.inr "early") (.ref p3)) (Sum.inr "held") (.ref p4)) (Sum.inr "chains") (.ref p5))).last hF .m upd_same
  have ex5 := (((((lay9.put hF (putK [(Sum.inr "states", .ref S), (Sum.inr "exports", .ref E)] (Sum.inr "needs") (.ref p1))).put hF (putK (putK [(Sum.inr "states", .ref S), (Sum.inr "exports", .ref E)] (Sum.inr "needs") (.ref p1)) (Sum.inr "recorded") (.ref p2))).put hF (putK (putK (putK [(Sum.inr "states", .ref S), (Sum.inr "exports", .ref E)] (Sum.inr "needs") (.ref p1)) (Sum.inr "recorded") (.ref p2)) (Sum.inr "early") (.ref p3))).put hF (putK (putK (putK (putK [(Sum.inr "states", .ref S), (Sum.inr "exports", .ref E)] (Sum.inr "needs") (.ref p1)) (Sum.inr "recorded") (.ref p2)) (Sum.inr "early") (.ref p3)) (Sum.inr "held") (.ref p4))).put hF (putK (putK (putK (putK (putK [(Sum.inr "states", .ref S), (Sum.inr "exports", .ref E)] (Sum.inr "needs") (.ref p1)) (Sum.inr "recorded") (.ref p2)) (Sum.inr "early") (.ref p3)) (Sum.inr "held") (.ref p4)) (Sum.inr "chains") (.ref p5))).ex
  have fin : ∀ (A : Mo → Addr) (C : Mo → Option HO) (Hf : Hp), At A C Hf → (∀ a, own A C a → H a = none) → Ex H Hf → A .m = F → (∀ j, CM ⟨A, ns, c0, [], [], []⟩ j = C j) → Q (.ref F) Hf := fun A C Hf hA hn he hm hC => by
    have := k ⟨A, ns, c0, [], [], []⟩ Hf ⟨⟨hA.congr hC (fun _ _ => rfl), fun b hb => absurd hb (by simp), fun b hb => absurd hb (by simp), fun b hb => absurd hb (by simp)⟩, ⟨ROk.c0 nd hl hok, rfl, rfl, List.nodup_nil, List.nodup_nil, fun a b => by simp [tg, lookA], fun a b => by simp [tg, lookA]⟩⟩ he (fun a ⟨j, lj, e⟩ => hn a ⟨j, by rw [← hC j]; exact lj, e⟩) rfl
    rw [← hm]
    exact this
  refine fin _ _ _ f1 f2 ex5 rfl fun j => ?_
  cases j <;> rfl
end
end CR
set_option maxRecDepth 100000
set_option maxHeartbeats 4000000
/-! Cycleready: which step comes next. -/
namespace CR
open PySem PySem.Spec PyProof.Rows L2 Evl
local macro_rules | `(tactic| walk_at "red") => `(tactic| dsimp only [tNext, tSeq, tRet, tRetN, tDrop, tIfS, tAsg, tPar, tTest, tB, tNot, tAnd, tOr, tCB, tCons, tNil, tCall, tOp, tUn, tVar, tC, tIf])
local macro_rules | `(tactic| walk_at "nrm") => `(tactic| dsimp only [gName, tNext])
/-- a row of the law: what is done next -/
inductive Row where
  | req (s : Option Str) (t : Str) | acc (s t : Str) | exp (m n : Str) (v : Int) | fin (m : Str) | fai (m : Str) (b : Option Str) | rel (m : Str) | ret (m : Str) | unl (ks : List Str)
/-- it may be done -/
def Row.ok (sn : List Str) (c : Core) (g : Graph) : Row → Prop
  | .req s t => t ∈ sn ∧ ∀ x, s = some x → x ∈ sn ∧ c.st x = "running"
  | .acc s t => s ∈ sn ∧ t ∈ sn ∧ c.st s = "running" ∧ t ∈ tg g s ∧ ansC c (Eg g) (some s) t ≠ "wait"
  | .exp m n v => m ∈ sn ∧ c.st m = "running" ∧ n ∈ exN ∧ v.natAbs ≤ 10 ^ 30
  | .fin m => m ∈ sn ∧ c.st m = "running"
  | .fai m b => m ∈ sn ∧ c.st m = "running" ∧ ∀ x, b = some x → x ∈ sn ∧ c.st x = "failed"
  | .rel m => m ∈ c.held
  | .ret m => m ∈ sn ∧ c.st m = "failed" ∧ m ∉ c.held ∧ ∀ a, m ∉ tg g a
  | .unl ks => (∀ y ∈ ks, y ∈ sn) ∧ ks.length ≤ 40
/-- the tuple it is told by, the list of an unloading at l -/
def Row.tup (l : Addr) : Row → List V
  | .req s t => [.str "request", vO s, .str t]
  | .acc s t => [.str "access", .str s, .str t]
  | .exp m n v => [.str "export", .str m, .str n, .int v]
  | .fin m => [.str "finish", .str m]
  | .fai m b => [.str "fail", .str m, vO b]
  | .rel m => [.str "release", .str m]
  | .ret m => [.str "retry", .str m]
  | .unl _ => [.str "unload", .ref l]
theorem TabO.exP {x : MX} {H H' : Hp} {p : Addr} (h : TabO x H) (hP : PotAt H p) (hn : ¬ own x.μ (CM x) p) (e : ExP p H H') : TabO x H' := by
  obtain ⟨a, b, hp, _⟩ := hP
  have kp : ∀ c xs, H c = some (.tup xs) → H' c = some (.tup xs) := fun c xs hc => e c _ hc fun z => by
    rw [z, hp] at hc
    cases hc
  exact ⟨⟨fun i o ho => e _ _ (h.is.is i o ho) fun z => hn ⟨i, by rw [ho]; rfl, z⟩, h.is.inj⟩, h.pn.fr kp, h.pr.fr kp, h.pe.fr kp⟩
section
variable {K : PySem.W.Frag} {σ : L2.St} {H : Hp} {ta : TE} {p : Addr}
theorem eqv_nilD (ds : List PyData) : PyData.eqv (.list ds) (.list []) = ds.isEmpty := by
  cases ds with
  | nil => simp [PyData.eqv, PyData.eqvAll]
  | cons x xs => simp [PyData.eqv, PyData.eqvAll]
/-- xs == [] -/
theorem et_eq_nilD {xs : List V} {ds : List PyData} (h : Ev ta σ H (.ref p)) (hp : SqL K H p xs) (hd : ∀ H', Ex H H' → DpAll K H' xs ds) (hs : SeqAt.shaped (.list ds) = true) : EvT (tTest (tOp (rEqD K) ta (tLst tNil))) σ H ds.isEmpty :=
  et_test (ev_opL h (el_lst ea_nil (by decide)) fun q H1 hq e1 H2 e2 Q k => ⟨.list ds, .list [], .lst (ex_l (e1.trans e2) hp) (hd _ (e1.trans e2)), .lst (sq_of (e2 _ _ hq)) .nil, hs, by unfold SeqAt.shaped; simp [PyData.canLay0, PyData.canLayAll0, PyData.depth, PyData.depthAll], by
    have := k H2 (Ex.refl _)
    rw [← eqv_nilD] at this
    exact this⟩)
/-- xs != [] -/
theorem et_ne_nilD {xs : List V} {ds : List PyData} (h : Ev ta σ H (.ref p)) (hp : SqL K H p xs) (hd : ∀ H', Ex H H' → DpAll K H' xs ds) (hs : SeqAt.shaped (.list ds) = true) : EvT (tTest (tOp (rNeD K) ta (tLst tNil))) σ H (!ds.isEmpty) :=
  et_test (ev_opL h (el_lst ea_nil (by decide)) fun q H1 hq e1 H2 e2 Q k => ⟨.list ds, .list [], .lst (ex_l (e1.trans e2) hp) (hd _ (e1.trans e2)), .lst (sq_of (e2 _ _ hq)) .nil, hs, by unfold SeqAt.shaped; simp [PyData.canLay0, PyData.canLayAll0, PyData.depth, PyData.depthAll], by
    have := k H2 (Ex.refl _)
    rw [← eqv_nilD] at this
    exact this⟩)
end
section
variable {P : Program} {w : World} {K : PySem.W.Frag} {mg : Str → Option Value} {base : Heap}
def sp_l_row (K : PySem.W.Frag) : Sp := Pm (fun x : Addr × MQ => [.ref x.1, .ref (x.2.x.μ .m)]) fun x H Q => PotAt H x.1 ∧ TabAt x.2.sn x.2.B x.2.g x.2.r x.2.x H ∧ ¬ own x.2.x.μ (CM x.2.x) x.1 ∧ x.2.sn ≠ [] ∧
  (∀ H', ExP x.1 H H' → PotAt H' x.1 → Q .non H') ∧ ∀ (rw : Row) H' q l, rw.ok x.2.sn x.2.x.c x.2.g → H' q = some (.tup (rw.tup l)) → (∀ ks, rw = .unl ks → H' l = some (.lst (ks.map .str)) ∧ H l = none) → ExP x.1 H H' → PotAt H' x.1 → Q (.ref q) H'
theorem sp_l_row_len (K : PySem.W.Frag) : ∀ vs H Q E, sp_l_row K vs H Q E → vs.length = 2 := Pm.len fun _ => rfl
abbrev s_l_row : Stmt := (top 49)
theorem sc_l_row : FnScope ["_law_pot_here", "_law_m", "_law_way", "_law_running", "_law_source", "_law_pairs", "_law_name", "_law_loose", "_law_pair", "_law_one"] ["_law_pot_here", "_law_m"] (defScope s_l_row) := ⟨rfl, rfl, rfl, by decide +kernel, rfl, by decide +kernel, by decide +kernel⟩
theorem ok_l_row (T : Txt K mg) : Okd P w K mg base 3 (aF K "_law_row") ["_law_pot_here", "_law_m"] (sp_l_row K) := by
  obtain ⟨fd, F⟩ := T.f_l_row
  refine Okd.mk F sc_l_row (sp_l_row_len K) (fun _ _ _ _ _ _ us hl => match us, hl with | [_, _], _ => rfl) (fun cdv A outer s H vs Q E hr h => ?_)
  have hu := hu_of hr
  refine ⟨_, (pss_cons (ps_asg (pe_tup (pa_cons (pe_callO (ok_l_draw (K := K) T) (hr.mono (by decide)) rfl T.g__law_draw T.k__law_draw (pa_cons (pv 0) (pa_cons pe_int pa_nil))) (pa_cons (pe_callO (ok_l_in (K := K) T) (hr.mono (by decide)) rfl T.g__law_in T.k__law_in (pa_cons (pv 1) (pa_cons pe_str pa_nil))) pa_nil))) (pg_tupK (K := K) (n := 2) rfl rfl (pgs_cons (pg_name (i := 2) sc_l_row.nd rfl (Or.inl rfl) (Or.inl rfl)) (pgs_cons (pg_name (i := 3) sc_l_row.nd rfl (Or.inr rfl) (Or.inl rfl)) pgs_nil))))
    (pss_cons (ps_if (PW.pt (pw_or (pt_cmpR op_lt (pv 2) pe_int (nomark _)) (pw_or1 (pt_cmpR (op_eqDK (K := K) rfl hr.units) (pv 3) (pe_lst pa_nil) (nomark _))))) (pss_cons (ps_set (i := 4) sc_l_row.nd rfl (Or.inl rfl) (pe_callO (ok_l_choice (K := K) T) (hr.mono (by decide)) rfl T.g__law_choice T.k__law_choice (pa_cons (pv 0) (pa_cons (pe_op op_cat (pv 3) (pe_lst (pa_cons pe_non pa_nil))) pa_nil))))
    (pss_one (ps_ret (pe_tup (pa_cons pe_str (pa_cons (pv 4) (pa_cons (pe_callO (ok_l_choice (K := K) T) (hr.mono (by decide)) rfl T.g__law_choice T.k__law_choice (pa_cons (pv 0) (pa_cons (pe_callB (call_sortedD rfl) (by rfl) T.b_sorted (by decide +kernel) (pa_cons (pe_dget hu (pv 1) pe_str (fun _ _ => rfl)) pa_nil)) pa_nil))) pa_nil))))))) pss_nil)
    (pss_cons (ps_if (pt_cmpR op_lt (pv 2) pe_int (nomark _)) (pss_cons (ps_setLc (own := [("_law_pair", 8)]) (i := 5) rfl sc_l_row.nd rfl rfl (sw_true rfl rfl rfl (by decide +kernel)) (pi_listK (K := K) rfl (pe_callB (cr_sortedP2K (K := K) rfl hr.units) (by rfl) T.b_sorted (by decide +kernel) (pa_cons (pe_dget hu (pv 1) pe_str (fun _ _ => rfl)) pa_nil))) (blkOk_by (own := [("_law_pair", 8)]) (N := ["_law_pot_here", "_law_m", "_law_way", "_law_running", "_law_source", "_law_pairs", "_law_name", "_law_loose", "_law_pair", "_law_one"]) (sc := defScope s_l_row) (by decide +kernel)) (fun _ _ _ _ _ => (pg_name (i := 8) sc_l_row.nd rfl (Or.inl rfl) (Or.inr rfl))) (fun _ _ _ _ _ => (pts_one (pt_cmpR (op_in_seqK (K := K) rfl) (pe_ix (ix_tupK (K := K) rfl) (pv 8) pe_int (fun _ _ => rfl)) (pv 3) (by rfl)))) (fun _ _ _ _ _ => (pv 8)))
    (pss_cons (ps_setLc (own := [("_law_pair", 8)]) (i := 5) rfl sc_l_row.nd rfl rfl (sw_true rfl rfl rfl (by decide +kernel)) (pi_listK (K := K) rfl (pv 5)) (blkOk_by (own := [("_law_pair", 8)]) (N := ["_law_pot_here", "_law_m", "_law_way", "_law_running", "_law_source", "_law_pairs", "_law_name", "_law_loose", "_law_pair", "_law_one"]) (sc := defScope s_l_row) (by decide +kernel)) (fun _ _ _ _ _ => (pg_name (i := 8) sc_l_row.nd rfl (Or.inl rfl) (Or.inr rfl))) (fun _ _ _ _ _ => (pts_one (pt_cmpR op_ne (pe_callO (ok_l_answer (K := K) T) (hr.mono (by decide)) rfl T.g__law_answer T.k__law_answer (pa_cons (pv 1) (pa_cons (pe_ix (ix_tupK (K := K) rfl) (pv 8) pe_int (fun _ _ => rfl)) (pa_cons (pe_ix (ix_tupK (K := K) rfl) (pv 8) pe_int (fun _ _ => rfl)) pa_nil)))) pe_str (nomark _)))) (fun _ _ _ _ _ => (pv 8)))
    (pss_one (ps_ret (pe_ifExp (pt_cmpR (op_neDK (K := K) rfl hr.units) (pv 5) (pe_lst pa_nil) (nomark _)) (pe_op (op_catTK (K := K) rfl) (pe_tup (pa_cons pe_str pa_nil)) (pe_callO (ok_l_choice (K := K) T) (hr.mono (by decide)) rfl T.g__law_choice T.k__law_choice (pa_cons (pv 0) (pa_cons (pv 5) pa_nil)))) pe_non))))) pss_nil)
    (pss_cons (ps_set (i := 6) sc_l_row.nd rfl (Or.inl rfl) (pe_callO (ok_l_choice (K := K) T) (hr.mono (by decide)) rfl T.g__law_choice T.k__law_choice (pa_cons (pv 0) (pa_cons (pv 3) pa_nil))))
    (pss_cons (ps_if (pt_cmpR op_lt (pv 2) pe_int (nomark _)) (pss_one (ps_ret (pe_tup (pa_cons pe_str (pa_cons (pv 6) (pa_cons (pe_callO (ok_l_choice (K := K) T) (hr.mono (by decide)) rfl T.g__law_choice T.k__law_choice (pa_cons (pv 0) (pa_cons (pe_lst (pa_cons pe_str (pa_cons pe_str (pa_cons pe_str pa_nil)))) pa_nil))) (pa_cons (pe_op op_add (pe_op op_sub (pe_callO (ok_l_draw (K := K) T) (hr.mono (by decide)) rfl T.g__law_draw T.k__law_draw (pa_cons (pv 0) (pa_cons (pe_op op_sub (pe_op op_mul pe_int (pe_op op_pow pe_int pe_int)) pe_int) pa_nil))) (pe_op op_pow pe_int pe_int)) pe_int) pa_nil))))))) pss_nil)
    (pss_cons (ps_if (pt_cmpR op_lt (pv 2) pe_int (nomark _)) (pss_one (ps_ret (pe_tup (pa_cons pe_str (pa_cons (pv 6) pa_nil))))) pss_nil)
    (pss_cons (ps_if (pt_cmpR op_eq (pv 2) pe_int (nomark _)) (pss_one (ps_ret (pe_tup (pa_cons pe_str (pa_cons (pv 6) (pa_cons (pe_callO (ok_l_choice (K := K) T) (hr.mono (by decide)) rfl T.g__law_choice T.k__law_choice (pa_cons (pv 0) (pa_cons (pe_op op_cat (pe_callO (ok_l_in (K := K) T) (hr.mono (by decide)) rfl T.g__law_in T.k__law_in (pa_cons (pv 1) (pa_cons pe_str pa_nil))) (pe_lst (pa_cons pe_non pa_nil))) pa_nil))) pa_nil)))))) pss_nil)
    (pss_cons (ps_if (pt_cmpR op_eq (pv 2) pe_int (nomark _)) (pss_one (ps_ret (pe_ifExp (pt_cmpR (op_neDK (K := K) rfl hr.units) (pe_dget hu (pv 1) pe_str (fun _ _ => rfl)) (pe_lst pa_nil) (nomark _)) (pe_tup (pa_cons pe_str (pa_cons (pe_callO (ok_l_choice (K := K) T) (hr.mono (by decide)) rfl T.g__law_choice T.k__law_choice (pa_cons (pv 0) (pa_cons (pe_dget hu (pv 1) pe_str (fun _ _ => rfl)) pa_nil))) pa_nil))) pe_non))) pss_nil)
    (pss_cons (ps_if (pt_cmpR op_eq (pv 2) pe_int (nomark _)) (pss_cons (ps_setLc (own := [("_law_one", 9)]) (i := 7) rfl sc_l_row.nd rfl rfl (sw_true rfl rfl rfl (by decide +kernel)) (pi_listK (K := K) rfl (pe_callB (call_sortedD rfl) (by rfl) T.b_sorted (by decide +kernel) (pa_cons (pe_dget hu (pv 1) pe_str (fun _ _ => rfl)) pa_nil))) (blkOk_by (own := [("_law_one", 9)]) (N := ["_law_pot_here", "_law_m", "_law_way", "_law_running", "_law_source", "_law_pairs", "_law_name", "_law_loose", "_law_pair", "_law_one"]) (sc := defScope s_l_row) (by decide +kernel)) (fun _ _ _ _ _ => (pg_name (i := 9) sc_l_row.nd rfl (Or.inl rfl) (Or.inr rfl))) (fun _ _ _ _ _ => (pts_one (pt_val (pe_callO (ok_l_can_retry (K := K) T) (hr.mono (by decide)) rfl T.g__law_can_retry T.k__law_can_retry (pa_cons (pv 1) (pa_cons (pv 9) pa_nil)))))) (fun _ _ _ _ _ => (pv 9)))
    (pss_one (ps_ret (pe_ifExp (pt_cmpR (op_neDK (K := K) rfl hr.units) (pv 7) (pe_lst pa_nil) (nomark _)) (pe_tup (pa_cons pe_str (pa_cons (pe_callO (ok_l_choice (K := K) T) (hr.mono (by decide)) rfl T.g__law_choice T.k__law_choice (pa_cons (pv 0) (pa_cons (pv 7) pa_nil))) pa_nil))) pe_non)))) pss_nil)
    (pss_one (ps_ret (pe_tup (pa_cons pe_str (pa_cons (pe_lc (own := [("_law_one", 9)]) rfl sc_l_row.nd (pi_listK (K := K) rfl (pe_callB (call_sortedD rfl) (by rfl) T.b_sorted (by decide +kernel) (pa_cons (pe_dget hu (pv 1) pe_str (fun _ _ => rfl)) pa_nil))) (blkOk_by (own := [("_law_one", 9)]) (N := ["_law_pot_here", "_law_m", "_law_way", "_law_running", "_law_source", "_law_pairs", "_law_name", "_law_loose", "_law_pair", "_law_one"]) (sc := defScope s_l_row) (by decide +kernel)) (fun _ _ _ _ _ => (pg_name (i := 9) sc_l_row.nd rfl (Or.inl rfl) (Or.inr rfl))) (fun _ _ _ _ _ => (pts_one (pt_cmpR op_eq (pe_callO (ok_l_draw (K := K) T) (hr.mono (by decide)) rfl T.g__law_draw T.k__law_draw (pa_cons (pv 0) (pa_cons pe_int pa_nil))) pe_int (nomark _)))) (fun _ _ _ _ _ => (pv 9))) pa_nil)))))))))))))), ?_⟩
  obtain ⟨⟨p, ⟨sn, B, g, r, x⟩⟩, rfl, hP, ⟨hO, hk⟩, hn, hsn, k0, k⟩ := h
  dsimp only at hP hO hk hn hsn k0 k
  have hnl := hk.ok.len
  have hns := hk.nsl
  refine ⟨_, rfl, (p, 16), rfl, hP, (show (0 : Int) < 16 by decide), (show (16 : Int) ≤ 10 ^ 31 by decide), fun way H1 w0 w1 hP1 e1 => ?_⟩
  dsimp only at w0 w1 hP1 e1
  have hO1 := hO.exP hP hn e1
  refine ⟨_, rfl, (⟨sn, B, g, r, x⟩, "running"), rfl, ⟨hO1, hk⟩, fun p1 H2 hp1 e2 h2 => ⟨sz_of (n := 2) (by decide), fun tp htp => ⟨tp, _, rfl, st_of upd_same, rfl, _, _, rfl, _, _, rfl, rfl, ?_⟩⟩⟩
  dsimp only at h2
  have hrun : ∀ y ∈ inC sn x.c "running", y ∈ sn ∧ x.c.st y = "running" := fun y hy => ⟨(List.mem_filter.mp hy).1, of_decide_eq_true (List.mem_filter.mp hy).2⟩
  have hrl : (inC sn x.c "running").length ≤ sn.length := List.length_filter_le _ _
  generalize inC sn x.c "running" = run at h2 hrun hrl
  have e3 := e2.trans (Ex.new (o := HO.tup [V.int way, V.ref p1]) htp)
  have h3 := (Ex.new (o := HO.tup [V.int way, V.ref p1]) htp) _ _ h2
  generalize upd H2 tp (.tup [V.int way, V.ref p1]) = H3 at e3 h3 ⊢
  have okr : ∀ y ∈ run, okName y := fun y hy => hk.ok.nm y (hrun y hy).1
  have hE0 : EvT (tOr (tTest (tOp (rI0 fun i j => V.bl (decide (i < j))) (tVar 2) (tC (V.int 5)))) (tTest (tOp (rEqD K) (tVar 3) (tLst tNil)))) [some (.ref p), some (.ref (x.μ .m)), some (.int way), some (.ref p1), none, none, none, none, none, none] H3 (decide (way < 5) || (run.map PyData.str).isEmpty) :=
    et_or (fun H4 e4 Q q => ⟨_, rfl, _, _, rfl, rfl, _, rfl, q H4 (Ex.refl _)⟩) (fun _ => et_eq_nilD (ev_var rfl) (sq_of h3) (fun H' e => dpAll_strs run) (shaped_strs run okr))
  refine hE0 _ (Ex.refl _) _ fun H4 e4 => ?_
  have hO4 := hO1.ex (e3.trans e4)
  have hP4 := hP1.ex (e3.trans e4)
  have e14 : ExP p H H4 := e1.trans (ExP.ex (e3.trans e4))
  have h4 := e4 _ _ h3
  refine it_c (fun hb => ?_) (fun hb => ?_)
  · refine ⟨_, rfl, _, rfl, sz_of (n := 1) (by decide), fun l hl => ⟨p1, l, _, _, rfl, rfl, (Ex.new hl) _ _ h4, upd_same, ?_, fun q hq => ?_⟩⟩
    · rw [List.length_map]
      exact sz_of (n := run.length + 1) (by omega)
    have e5 := (Ex.new (o := HO.lst [V.non]) hl).trans (Ex.new (o := HO.lst (run.map V.str ++ [V.non])) hq)
    have hqp : p ≠ q := fun z => by
      obtain ⟨a, b, h, _⟩ := hP4.ex (Ex.new (o := HO.lst [V.non]) hl)
      rw [z, hq] at h
      cases h
    refine ⟨(p, q, run.map V.str ++ [V.non]), rfl, hP4.ex e5, upd_same, hqp, by simp, by show (run.map V.str ++ [V.non]).length ≤ 10000; rw [List.length_append, List.length_map]; show run.length + 1 ≤ 10000; omega, fun v H5 hv hP5 e6 => ?_⟩
    dsimp only at hv hP5 e6
    obtain ⟨s, rfl, hs⟩ : ∃ s : Option Str, v = vO s ∧ ∀ y, s = some y → y ∈ run := by
      rcases List.mem_append.mp hv with z | z
      · obtain ⟨y, hy, rfl⟩ := List.mem_map.mp z
        exact ⟨some y, rfl, fun y' e => by cases e; exact hy⟩
      · exact ⟨none, List.mem_singleton.mp z, fun y' e => nomatch e⟩
    have e15 := (e14.trans (ExP.ex e5)).trans e6
    have hO5 := hO.exP hP hn e15
    refine ⟨_, rfl, _, rfl, _, rfl, _, _, rfl, hO5.gsts, _, _, x.ns, rfl, Or.inl hO5.sts, stsD_keys, by omega, fun ys q2 hpm hs2 hq2 => ?_⟩
    rw [srtD hO5 hk ys hpm hs2]
    have hqp2 : p ≠ q2 := fun z => by
      obtain ⟨a, b, h, _⟩ := hP5
      rw [z, hq2] at h
      cases h
    refine ⟨(p, q2, sn.map V.str), rfl, hP5.ex (Ex.new hq2), upd_same, hqp2, by simpa using hsn, by show (sn.map V.str).length ≤ 10000; rw [List.length_map]; omega, fun v2 H6 hv2 hP6 e7 => ?_⟩
    dsimp only at hv2 hP6 e7
    obtain ⟨t, ht, rfl⟩ := List.mem_map.mp hv2
    refine ⟨sz_of (n := 3) (by decide), fun q3 hq3 => k (.req s t) _ q3 0 ⟨ht, fun y e => hrun y (hs y e)⟩ upd_same (fun ks e => nomatch e) (((e15.trans (ExP.ex (Ex.new hq2))).trans e7).trans (ExP.ex (Ex.new hq3))) (hP6.ex (Ex.new hq3))⟩
  · have hb1 : ¬ way < 5 := fun z => by rw [decide_eq_true z] at hb; cases hb
    have hb2 : run ≠ [] := fun z => by
      rw [z] at hb
      simp at hb
    refine ⟨_, rfl, _, _, rfl, rfl, _, rfl, ?_⟩
    refine it_c (fun hb3 => ?_) (fun hb3 => ?_)
    · -- an access
      obtain ⟨l1, l2, l3, l4⟩ := hk.bln
      walk_at "red"
      refine lcG (α := Addr × Str × Str) (fun b => V.ref b.1) (fun b => V.ref b.1) (fun cs H' => cs.Perm x.bn ∧ Prs H' cs) (fun b => decide (b.2.1 ∈ run)) (fun R rr => ⟨_, rfl, _, _, rfl, hO4.gnds, _, x.bn, rfl, sq_of hO4.nds, hO4.pn, by omega, fun cs q hpm hcs hq => ⟨q, rfl, ⟨_, sq_of upd_same⟩, rr q cs _ (Ex.new hq) ⟨hpm, fun b hb => (Ex.new hq) _ _ (hO4.pn b (hpm.mem_iff.mp hb))⟩ upd_same⟩⟩)
        (fun cs H' h => by rw [h.1.length_eq]; omega) (fun v => rfl) (fun cs H' e1 h b hb H2 e2 H3 e3 Q q => ?_) (fun cs H' e1 h b hb _ H2 e2 => ev_var rfl) (fun cs H5 q H6 e5 h e6 hq h6 => ?_)
      · refine ⟨_, rfl, _, _, 0, .str b.2.1, rfl, rfl, st_of ((e2.trans e3) _ _ (h.2 b hb)), rfl, _, rfl, p1, _, rfl, Or.inl (sq_of (((e1.trans e2).trans e3) _ _ h4)), rfl, flat_strs2 run, _, rfl, ?_⟩
        rw [if_neg Bool.false_ne_true, inV_str]
        exact q H3 (Ex.refl _)
      walk_at "nrm"
      have hO6 := hO4.ex (e5.trans e6)
      have hl1 : ∀ b ∈ cs.filter (fun b => decide (b.2.1 ∈ run)), b ∈ x.bn ∧ b.2.1 ∈ run := fun b hb => ⟨h.1.mem_iff.mp (List.mem_filter.mp hb).1, of_decide_eq_true (List.mem_filter.mp hb).2⟩
      have hll : (cs.filter (fun b => decide (b.2.1 ∈ run))).length ≤ 1600 := by
        have := List.length_filter_le (fun b : Addr × Str × Str => decide (b.2.1 ∈ run)) cs
        have := h.1.length_eq
        omega
      generalize cs.filter (fun b => decide (b.2.1 ∈ run)) = l5 at h6 hl1 hll
      have hedge : ∀ b ∈ l5, b.2.2 ∈ tg g b.2.1 := fun b hb => (hk.ng b.2.1 b.2.2).mp (List.mem_map.mpr ⟨b, (hl1 b hb).1, rfl⟩)
      walk_at "red"
      refine lcG (α := Addr × Str × Str) (fun b => V.ref b.1) (fun b => V.ref b.1) (fun cs H' => cs = l5) (fun b => decide (ansC x.c (Eg g) (some b.2.1) b.2.2 ≠ "wait")) (fun R rr => ⟨_, rfl, q, rfl, ⟨_, sq_of h6⟩, rr q l5 H6 (Ex.refl _) rfl h6⟩)
        (fun cs H' h => by rw [h]; omega) (fun v => rfl) (fun cs H' e1 h b hb H2 e2 H3 e3 Q q => ?_) (fun cs H' e1 h b hb _ H2 e2 => ev_var rfl) (fun cs H7 q2 H8 e7 h e8 hq2 h8 => ?_)
      · subst h
        have hOb := hO6.ex ((e1.trans e2).trans e3)
        have hbt := hOb.pn b (hl1 b hb).1
        refine ⟨_, rfl, _, rfl, _, _, 0, .str b.2.1, rfl, rfl, st_of hbt, rfl, _, rfl, _, _, 1, .str b.2.2, rfl, rfl, st_of hbt, rfl, (⟨sn, B, g, r, x⟩, some b.2.1, b.2.2), rfl, ⟨hOb, hk⟩, (l4 b (hl1 b hb).1).2, fun s e => by cases e; exact (l4 b (hl1 b hb).1).1, fun H9 e9 => ⟨rfl, _, rfl, ?_⟩⟩
        have := q H9 e9
        rw [dec_V]
        rw [decide_not] at this
        exact this
      subst h
      walk_at "nrm"
      have hO8 := hO6.ex (e7.trans e8)
      have hl2 : ∀ b ∈ cs.filter (fun b => decide (ansC x.c (Eg g) (some b.2.1) b.2.2 ≠ "wait")), b ∈ cs ∧ ansC x.c (Eg g) (some b.2.1) b.2.2 ≠ "wait" := fun b hb => ⟨(List.mem_filter.mp hb).1, of_decide_eq_true (List.mem_filter.mp hb).2⟩
      have hll2 : (cs.filter (fun b => decide (ansC x.c (Eg g) (some b.2.1) b.2.2 ≠ "wait"))).length ≤ 1600 := Nat.le_trans (List.length_filter_le _ _) hll
      generalize cs.filter (fun b => decide (ansC x.c (Eg g) (some b.2.1) b.2.2 ≠ "wait")) = l6 at h8 hl2 hll2
      have hnm6 : ∀ q ∈ l6.map (·.2), okName q.1 ∧ okName q.2 := fun q hq => by
        obtain ⟨b, hb, rfl⟩ := List.mem_map.mp hq
        obtain ⟨z1, z2⟩ := l4 b (hl1 b (hl2 b hb).1).1
        exact ⟨hk.ok.nm _ z1, hk.ok.nm _ z2⟩
      have hpr6 : Prs H8 l6 := fun b hb => hO8.pn b (hl1 b (hl2 b hb).1).1
      refine (et_ne_nilD (ds := (l6.map (·.2)).map enc2) (ev_var rfl) (sq_of h8) (fun H' e => dpAll_pairs (hpr6.ex e)) (shaped_enc2s _ hnm6)) _ (Ex.refl _) _ fun H9 e9 => ?_
      have e49 := (((e5.trans e6).trans e7).trans e8).trans e9
      have e19 := e14.trans (ExP.ex e49)
      have hP9 := hP4.ex e49
      refine it_c (fun hc => ?_) (fun hc => k0 H9 e19 hP9)
      have hne6 : l6 ≠ [] := fun z => by
        rw [z] at hc
        simp at hc
      refine ⟨sz_of (n := 1) (by decide), fun q3 hq3 => ?_⟩
      have h9 := e9 _ _ h8
      have hq3' := (Ex.new (o := HO.tup [V.str "access"]) hq3) _ _ h9
      have hP10 := hP9.ex (Ex.new (o := HO.tup [V.str "access"]) hq3)
      have hpq : p ≠ q2 := fun z => by
        obtain ⟨a, b, h, _⟩ := hP4.ex (e5.trans e6)
        rw [z, hq2] at h
        cases h
      refine ⟨_, rfl, _, rfl, (p, q2, l6.map fun b => V.ref b.1), rfl, hP10, hq3', hpq, by simpa using hne6, by show (l6.map fun b => V.ref b.1).length ≤ 10000; rw [List.length_map]; omega, fun v H10 hv hP11 e10 => ?_⟩
      dsimp only at hv hP11 e10
      obtain ⟨b, hb, rfl⟩ := List.mem_map.mp hv
      obtain ⟨z1, z2⟩ := hl2 b hb
      obtain ⟨z3, z4⟩ := hl1 b z1
      obtain ⟨y1, y2⟩ := l4 b z3
      have e1a := (e19.trans (ExP.ex (Ex.new (o := HO.tup [V.str "access"]) hq3))).trans e10
      have hOa := hO.exP hP hn e1a
      have hq3a := e10 _ _ upd_same (fun z => by
        obtain ⟨a, b, h, _⟩ := hP9
        rw [z, h] at hq3
        cases hq3)
      refine ⟨q3, b.1, [.str "access"], [.str b.2.1, .str b.2.2], rfl, rfl, st_of hq3a, st_of (hOa.pn b z3), by simp, sz_of (n := 3) (by decide), (fun z => absurd z (by simp)), (fun _ q4 hq4 => ?_)⟩
      exact k (.acc b.2.1 b.2.2) _ q4 0 ⟨y1, y2, (hrun _ z4).2, hedge b z1, z2⟩ upd_same (fun ks e => nomatch e) (e1a.trans (ExP.ex (Ex.new hq4))) (hP11.ex (Ex.new hq4))
    · have hpp1 : p ≠ p1 := fun z => by
        obtain ⟨a, b, h, _⟩ := hP1
        rw [z, hp1] at h
        cases h
      refine ⟨_, rfl, _, rfl, (p, p1, run.map V.str), rfl, hP4, h4, hpp1, by simpa using hb2, by show (run.map V.str).length ≤ 10000; rw [List.length_map]; omega, fun v H5 hv hP5 e5 => ?_⟩
      dsimp only at hv hP5 e5
      obtain ⟨m, hm, rfl⟩ := List.mem_map.mp hv
      obtain ⟨hm1, hm2⟩ := hrun m hm
      have e15 := e14.trans e5
      have hO5 := hO.exP hP hn e15
      refine ⟨_, rfl, _, _, rfl, rfl, _, rfl, ?_⟩
      refine it_c (fun _ => ?_) (fun _ => ?_)
      · -- an export
        refine ⟨_, rfl, _, rfl, sz_of (n := 3) (by decide), fun q hq => ⟨(p, q, [V.str "x", V.str "y", V.str "need"]), rfl, hP5.ex (Ex.new hq), upd_same, fun z => ?_, by simp, by show 3 ≤ 10000; decide, fun v2 H6 hv2 hP6 e6 => ?_⟩⟩
        · obtain ⟨a, b, h, _⟩ := hP5
          have z : p = q := z
          rw [z, hq] at h
          cases h
        dsimp only at hv2 hP6 e6
        obtain ⟨nm, hnm, rfl⟩ : ∃ nm : Str, nm ∈ exN ∧ v2 = V.str nm := by
          rcases List.mem_cons.mp hv2 with z | z
          · exact ⟨"x", by decide, z⟩
          rcases List.mem_cons.mp z with z | z
          · exact ⟨"y", by decide, z⟩
          · exact ⟨"need", by decide, List.mem_singleton.mp z⟩
        refine ⟨_, rfl, _, _, rfl, rfl, ⟨by decide, by decide, by decide⟩, _, _, rfl, rfl, Or.inl ⟨by decide, by decide⟩, _, _, rfl, rfl, (p, _), rfl, hP6, (show (0 : Int) < 2 * 10 ^ 30 - 1 by decide), (show (2 * 10 ^ 30 - 1 : Int) ≤ 10 ^ 31 by decide), fun d H7 d0 d1 hP7 e7 => ?_⟩
        have d1 : d < 2 * 10 ^ 30 - 1 := d1
        refine ⟨_, _, rfl, rfl, ⟨by decide, by decide, by decide⟩, _, _, rfl, rfl, _, _, rfl, rfl, sz_of (n := 4) (by decide), fun q2 hq2 => ?_⟩
        exact k (.exp m nm (d - 10 ^ 30 + 1)) _ q2 0 ⟨hm1, hm2, hnm, by omega⟩ upd_same (fun ks e => nomatch e) ((((e15.trans (ExP.ex (Ex.new hq))).trans e6).trans e7).trans (ExP.ex (Ex.new hq2))) (hP7.ex (Ex.new hq2))
      · refine ⟨_, rfl, _, _, rfl, rfl, _, rfl, ?_⟩
        refine it_c (fun _ => ?_) (fun _ => ?_)
        · exact ⟨_, rfl, sz_of (n := 2) (by decide), fun q2 hq2 => k (.fin m) _ q2 0 ⟨hm1, hm2⟩ upd_same (fun ks e => nomatch e) (e15.trans (ExP.ex (Ex.new hq2))) (hP5.ex (Ex.new hq2))⟩
        refine ⟨_, rfl, rfl, _, rfl, ?_⟩
        refine it_c (fun _ => ?_) (fun _ => ?_)
        · have hfl : (inC sn x.c "failed").length ≤ sn.length := List.length_filter_le _ _
          refine ⟨_, rfl, _, rfl, _, rfl, (⟨sn, B, g, r, x⟩, "failed"), rfl, ⟨hO5, hk⟩, fun p6 H6 hp6 e6 h6 => ⟨sz_of (n := 1) (by decide), fun l hl => ⟨p6, l, _, _, rfl, rfl, (Ex.new hl) _ _ h6, upd_same, ?_, fun q hq => ?_⟩⟩⟩
          · rw [List.length_map]
            exact sz_of (n := (inC sn x.c "failed").length + 1) (by omega)
          dsimp only at h6
          have e7 := (e6.trans (Ex.new (o := HO.lst [V.non]) hl)).trans (Ex.new (o := HO.lst ((inC sn x.c "failed").map V.str ++ [V.non])) hq)
          have hqp : p ≠ q := fun z => by
            obtain ⟨a, b, h, _⟩ := hP5.ex (e6.trans (Ex.new (o := HO.lst [V.non]) hl))
            rw [z, show _ = none from hq] at h
            cases h
          refine ⟨(p, q, (inC sn x.c "failed").map V.str ++ [V.non]), rfl, hP5.ex e7, upd_same, hqp, by simp, by show ((inC sn x.c "failed").map V.str ++ [V.non]).length ≤ 10000; rw [List.length_append, List.length_map]; show (inC sn x.c "failed").length + 1 ≤ 10000; omega, fun v H8 hv hP8 e8 => ?_⟩
          dsimp only at hv hP8 e8
          obtain ⟨s, rfl, hs⟩ : ∃ s : Option Str, v = vO s ∧ ∀ y, s = some y → y ∈ inC sn x.c "failed" := by
            rcases List.mem_append.mp hv with z | z
            · obtain ⟨y, hy, rfl⟩ := List.mem_map.mp z
              exact ⟨some y, rfl, fun y' e => by cases e; exact hy⟩
            · exact ⟨none, List.mem_singleton.mp z, fun y' e => nomatch e⟩
          exact ⟨sz_of (n := 3) (by decide), fun q3 hq3 => k (.fai m s) _ q3 0 ⟨hm1, hm2, fun y e => ⟨(List.mem_filter.mp (hs y e)).1, of_decide_eq_true (List.mem_filter.mp (hs y e)).2⟩⟩ upd_same (fun ks e => nomatch e) (((e15.trans (ExP.ex e7)).trans e8).trans (ExP.ex (Ex.new hq3))) (hP8.ex (Ex.new hq3))⟩
        refine ⟨_, rfl, rfl, _, rfl, ?_⟩
        refine it_c (fun _ => ?_) (fun _ => ?_)
        · have hhn : x.c.held.length ≤ sn.length := hk.ok.hnd.length_le_of_subset hk.ok.hin
          refine (et_ne_nilD (ds := x.c.held.map PyData.str) (fun H' e Q q => ⟨_, rfl, _, _, rfl, (hO5.ex e).ghel, q H' (Ex.refl _)⟩) (sq_of hO5.hel) (fun H' e => dpAll_strs x.c.held) (shaped_strs _ fun y hy => hk.ok.nm y (hk.ok.hin y hy))) _ (Ex.refl _) _ fun H6 e6 => ?_
          have hO6 := hO5.ex e6
          refine it_c (fun hc => ?_) (fun hc => k0 H6 (e15.trans (ExP.ex e6)) (hP5.ex e6))
          have hne : x.c.held ≠ [] := fun z => by
            rw [z] at hc
            simp at hc
          have hph : p ≠ x.μ .hel := fun z => hn ⟨.hel, rfl, z.symm⟩
          refine ⟨_, rfl, _, rfl, _, _, rfl, hO6.ghel, (p, x.μ .hel, x.c.held.map V.str), rfl, hP5.ex e6, hO6.hel, hph, by simpa using hne, by show (x.c.held.map V.str).length ≤ 10000; rw [List.length_map]; omega, fun v H7 hv hP7 e7 => ?_⟩
          dsimp only at hv hP7 e7
          obtain ⟨y, hy, rfl⟩ := List.mem_map.mp hv
          exact ⟨sz_of (n := 2) (by decide), fun q3 hq3 => k (.rel y) _ q3 0 hy upd_same (fun ks e => nomatch e) (((e15.trans (ExP.ex e6)).trans e7).trans (ExP.ex (Ex.new hq3))) (hP7.ex (Ex.new hq3))⟩
        refine ⟨_, rfl, rfl, _, rfl, ?_⟩
        refine it_c (fun _ => ?_) (fun _ => ?_)
        · walk_at "red"
          refine lcS sn (fun m => canR x m) (by omega) (fun R rr => ⟨_, rfl, _, _, rfl, hO5.gsts, _, _, x.ns, rfl, Or.inl hO5.sts, stsD_keys, by omega, fun ys q hpm hs hq => ⟨q, rfl, ⟨_, sq_of upd_same⟩, rr q _ (Ex.new hq) (by rw [srtD hO5 hk ys hpm hs]; exact upd_same)⟩⟩)
            (fun v => rfl) (fun n hn' H' e H6 e6 Q q => ⟨_, rfl, _, rfl, (⟨sn, B, g, r, x⟩, n), rfl, ⟨hO5.ex (e.trans e6), hk⟩, hn', fun H7 e7 => ⟨_, rfl, q H7 e7⟩⟩) (fun n hn' H' e => ev_var rfl) (fun q H6 hq e6 h6 => ?_)
          walk_at "nrm"
          have hlo : ∀ y ∈ sn.filter (fun m => canR x m), y ∈ sn ∧ canR x y = true := fun y hy => List.mem_filter.mp hy
          have hll : (sn.filter (fun m => canR x m)).length ≤ sn.length := List.length_filter_le _ _
          generalize sn.filter (fun m => canR x m) = lo at h6 hlo hll
          refine (et_ne_nilD (ds := lo.map PyData.str) (ev_var rfl) (sq_of h6) (fun H' e => dpAll_strs lo) (shaped_strs _ fun y hy => hk.ok.nm y (hlo y hy).1)) _ (Ex.refl _) _ fun H7 e7 => ?_
          refine it_c (fun hc => ?_) (fun hc => k0 H7 (e15.trans (ExP.ex (e6.trans e7))) (hP5.ex (e6.trans e7)))
          have hne : lo ≠ [] := fun z => by
            rw [z] at hc
            simp at hc
          have hpq : p ≠ q := fun z => by
            obtain ⟨a, b, h, _⟩ := hP5
            rw [z, hq] at h
            cases h
          refine ⟨_, rfl, _, rfl, (p, q, lo.map V.str), rfl, hP5.ex (e6.trans e7), e7 _ _ h6, hpq, by simpa using hne, by show (lo.map V.str).length ≤ 10000; rw [List.length_map]; omega, fun v H8 hv hP8 e8 => ?_⟩
          dsimp only at hv hP8 e8
          obtain ⟨y, hy, rfl⟩ := List.mem_map.mp hv
          obtain ⟨y1, y2⟩ := hlo y hy
          obtain ⟨y3, y4, y5⟩ := canR_ok hk y2
          exact ⟨sz_of (n := 2) (by decide), fun q3 hq3 => k (.ret y) _ q3 0 ⟨y1, y3, y4, y5⟩ upd_same (fun ks e => nomatch e) (((e15.trans (ExP.ex (e6.trans e7))).trans e8).trans (ExP.ex (Ex.new hq3))) (hP8.ex (Ex.new hq3))⟩
        · walk_at "red"
          refine ⟨_, rfl, _, _, rfl, hO5.gsts, _, _, x.ns, rfl, Or.inl hO5.sts, stsD_keys, by omega, fun ys qs hpm hs hqs => ⟨qs, rfl, ⟨_, sq_of upd_same⟩, ?_⟩⟩
          rw [srtD hO5 hk ys hpm hs]
          have e6 := Ex.new (o := HO.lst (sn.map V.str)) hqs
          have h6 : upd H5 qs (.lst (sn.map V.str)) qs = some (.lst (sn.map V.str)) := upd_same
          have hpq : qs ≠ p := fun z => by
            obtain ⟨a, b, h, _⟩ := hP5
            rw [z, h] at hqs
            cases hqs
          generalize upd H5 qs (.lst (sn.map V.str)) = H6 at e6 h6 ⊢
          have hP6 := hP5.ex e6
          have e16 := e15.trans (ExP.ex e6)
          refine fun D hD => turns_it (J := Itl K qs) (B := bodyLc (gName 9) (tTest (tOp rEq (tCall (sp_l_draw K) [] E0 (tCons (tVar 0) (tCons (tC (V.int 3)) tNil))) (tC (V.int 0)))) (tVar 9) _ _ D) walk_list
            (fun i H' => PotAt H' p ∧ ExP p H6 H' ∧ ∃ ks : List Str, H' D = some (.lst (ks.map V.str)) ∧ ks.length ≤ i ∧ ∀ y ∈ ks, y ∈ sn) ⟨hP6.ex (Ex.new hD), ExP.ex (Ex.new hD), [], upd_same, Nat.zero_le _, fun y hy => absurd hy (by simp)⟩ (fun i H' _ pr => sq_of (pr.2.1 _ _ h6 hpq)) (fun i v H7 H8 hi pr y => ?_) (fun H7 pr => ?_)
          · obtain ⟨hP7, e7, ks, h7, hkl, hks⟩ := pr
            obtain ⟨rfl, hx⟩ := y
            obtain ⟨n, hn', rfl⟩ := at_map hx
            rw [List.length_map] at hi
            have hDp : D ≠ p := fun z => by
              obtain ⟨a, b, h, _⟩ := hP6
              rw [z, h] at hD
              cases hD
            refine ⟨rfl, _, rfl, (p, 3), rfl, hP7, (show (0 : Int) < 3 by decide), (show (3 : Int) ≤ 10 ^ 31 by decide), fun d H9 d0 d1 hP9 e9 => ⟨rfl, _, rfl, ?_⟩⟩
            have h9 := e9 _ _ h7 hDp
            refine it_c (fun _ => ⟨_, rfl, _, h9, by rw [List.length_map]; exact sz_lt (by omega), ?_, fun c o hc hcp => ?_, ks ++ [n], ?_, ?_, fun y hy => ?_⟩) (fun _ => ⟨hP9, e7.trans e9, ks, h9, by omega, hks⟩)
            · obtain ⟨a, b, h, h'⟩ := hP9
              exact ⟨a, b, by rw [upd_ne (fun z => hDp z.symm)]; exact h, h'⟩
            · rw [upd_ne (fun z => by rw [z, hD] at hc; cases hc)]
              exact (e7.trans e9) _ _ hc hcp
            · rw [upd_same, List.map_append]
              rfl
            · rw [List.length_append]
              show ks.length + 1 ≤ i + 1
              omega
            · rcases List.mem_append.mp hy with z | z
              · exact hks y z
              · rw [List.mem_singleton.mp z]
                exact List.mem_of_getElem? hn'
          · obtain ⟨hP7, e7, ks, h7, hkl, hks⟩ := pr
            rw [List.length_map] at hkl
            have e17 := e16.trans e7
            have hDH : H D = none := by
              cases hh : H D with
              | none => rfl
              | some o =>
                have hDp : D ≠ p := fun z => by
                  obtain ⟨a, b, h, _⟩ := hP6
                  rw [z, h] at hD
                  cases hD
                rw [e16 _ _ hh hDp] at hD
                cases hD
            exact ⟨sz_of (n := 2) (by decide), fun q3 hq3 => k (.unl ks) _ q3 D ⟨hks, by omega⟩ upd_same (fun ks' e => by cases e; exact ⟨(Ex.new hq3) _ _ h7, hDH⟩) (e17.trans (ExP.ex (Ex.new hq3))) (hP7.ex (Ex.new hq3))⟩
end
end CR
set_option maxRecDepth 100000
set_option maxHeartbeats 4000000
/-! Cycleready: a row's outcome as plain steps; what is kept beside ROk; how long the shown text gets. -/
namespace CR
open PySem PySem.Spec PyProof.Rows L2 Evl
noncomputable def rowC (sn : List Str) (c : Core) (g : Graph) : Row → Core
  | .req _ t => reqC c t
  | .acc s t => accC c s t (ansC c (Eg g) (some s) t)
  | .exp m n v => expC c m n v
  | .fin m => finC sn c (Eg g) m
  | .fai m b => failC (sn.length + 2) c m b
  | .rel m => relC c m
  | .ret m => retC c m
  | .unl ks => unlC sn c (Eg g) ks
noncomputable def rowG (sn : List Str) (c : Core) (g : Graph) : Row → Graph
  | .req s t => reqG g s t
  | .acc s t => accG g s t (ansC c (Eg g) (some s) t)
  | .exp _ _ _ => g
  | .fin _ => g
  | .fai m b => failG (failC (sn.length + 2) c m b).held g (failedC (sn.length + 2) c m b).2
  | .rel m => delAllG g m
  | .ret _ => g
  | .unl ks => (unlL sn c (Eg g) ks).foldl delAllG g
def rowR (r : Graph) : Row → Graph
  | .req s t => reqG r s t
  | _ => r
def rowB (B : Nat) : Row → Nat
  | .fai _ _ => B + 50
  | _ => B
noncomputable def rowD (sn : List Str) (c : Core) (g : Graph) : Row → PyData
  | .req _ t => .bool (decide (c.st t = "new"))
  | .acc s t => .str (ansC c (Eg g) (some s) t)
  | .exp _ _ _ => .none
  | .fin m => .list ((finL sn c (Eg g) m).map .str)
  | .fai m b => .list ((srtS (failedC (sn.length + 2) c m b).2).map .str)
  | .rel _ => .none
  | .ret _ => .none
  | .unl ks => .list ((unlL sn c (Eg g) ks).map .str)
theorem rowB_le {B : Nat} (rw : Row) : rowB B rw ≤ B + 50 := by cases rw <;> simp [rowB]

/-! ### what is kept beside ROk -/
structure Okx (sn : List Str) (c : Core) : Prop where
  st : ∀ n, c.st n ∈ states
  chf : ∀ n ∈ c.ch.map (·.1), c.st n = "failed"
  chn : ∀ q ∈ c.ch, ∀ y ∈ q.2, y ∈ sn
theorem Okx.c0 {sn : List Str} : Okx sn CR.c0 := ⟨fun _ => (by decide : ("new" : Str) ∈ states), fun n hn => absurd hn (by simp [CR.c0]), fun q hq => absurd hq (by simp [CR.c0])⟩
section
variable {sn : List Str} {c : Core} {B : Nat} {g r : Graph}
theorem Okx.same {c' : Core} (h : Okx sn c) (e1 : c'.st = c.st) (e2 : c'.ch = c.ch) : Okx sn c' := ⟨by rw [e1]; exact h.st, by rw [e1, e2]; exact h.chf, by rw [e2]; exact h.chn⟩
theorem Okx.ne {n m : Str} (h : Okx sn c) (hn : n ∈ c.ch.map (·.1)) (hm : c.st m ≠ "failed") : n ≠ m := fun e => hm (e ▸ h.chf n hn)
/-- states that are no failed module's change -/
theorem Okx.sts {st' : Str → Str} (h : Okx sn c) (h1 : ∀ n, st' n ∈ states) (h2 : ∀ n, c.st n = "failed" → st' n = "failed") : Okx sn { c with st := st' } := ⟨h1, fun n hn => h2 n (h.chf n hn), h.chn⟩
theorem st1 {n m v : Str} (h : Okx sn c) (hv : v ∈ states) : upd1 c.st m v n ∈ states := by
  unfold upd1
  split
  · exact hv
  · exact h.st n
theorem Okx.chain (h : Okx sn c) {m y : Str} (hy : y ∈ chainC c m) : y ∈ sn := by
  unfold chainC at hy
  cases e : lookA c.ch m with
  | none =>
    rw [e] at hy
    exact absurd hy (by simp)
  | some l =>
    rw [e] at hy
    exact h.chn (m, l) (lookA_mem e) y hy
theorem Okx.down (h : Okx sn c) {m : Str} {l : List Str} (hl : ∀ y ∈ l, y ∈ sn) : Okx sn (downC c m l) := by
  refine ⟨fun n => st1 h (by decide), fun n hn => ?_, fun q hq y hy => ?_⟩
  · have hn : n ∈ (putA c.ch m l).map (·.1) := hn
    show upd1 c.st m "failed" n = "failed"
    by_cases e : n = m
    · rw [e]
      exact upd1_same
    · rw [upd1_ne e]
      rw [keys_putA] at hn
      split at hn
      · exact h.chf n hn
      · rcases List.mem_append.mp hn with z | z
        · exact h.chf n z
        · exact absurd (List.mem_singleton.mp z) e
  · rcases mem_putA (show q ∈ putA c.ch m l from hq) with z | z
    · rw [z] at hy
      exact hl y hy
    · exact h.chn q z.1 y hy
theorem Okx.downs (h : Okx sn c) {fo : List (Str × Str)} (hf : ∀ p ∈ fo, p.1 ∈ sn) : Okx sn (downsC c fo) := by
  induction fo using accF_snocRec with
  | h0 => exact h
  | hs l p ih =>
    have i := ih fun q hq => hf q (List.mem_append_left _ hq)
    rw [downs_snoc]
    refine i.down fun y hy => ?_
    rcases List.mem_cons.mp hy with z | z
    · rw [z]
      exact hf p (List.mem_append_right _ (List.mem_singleton.mpr rfl))
    · exact i.chain z
theorem downs_early {c : Core} (fo : List (Str × Str)) : (downsC c fo).early = c.early := by
  induction fo using accF_snocRec with
  | h0 => rfl
  | hs l p ih => rw [downs_snoc]; exact ih
theorem accs_in {c : Core} {cur : List Str} {p : Str × Str} (h : p ∈ accsC c cur) : p ∈ c.early := mem_srtP.mp ((accF_ok (c := c) (cur := cur) (srtP c.early)).2.2 p h).1
theorem accs_nd {c : Core} {cur : List Str} : ((accsC c cur).map (·.1)).Nodup := (accF_ok (c := c) (cur := cur) (srtP c.early)).1
theorem Okx.rounds (hlen : sn.length ≤ 40) : ∀ (n : Nat) {c : Core} {cur f : List Str}, Okx sn c → (∀ p ∈ c.early, p.1 ∈ sn) → (∀ y ∈ f, y ∈ sn) → Okx sn (roundsC n c cur f).1 ∧ (∀ y ∈ (roundsC n c cur f).2, y ∈ sn) ∧ (roundsC n c cur f).2.length ≤ f.length + 40 * n
  | 0, c, cur, f, h, _, hf => ⟨h, hf, by show f.length ≤ _; omega⟩
  | n + 1, c, cur, f, h, he, hf => by
    by_cases e : cur = []
    · rw [e, rounds_nil]
      exact ⟨h, hf, by show f.length ≤ _; omega⟩
    · rw [rounds_go e]
      have hk : ∀ y ∈ (accsC c cur).map (·.1), y ∈ sn := fun y hy => by
        obtain ⟨p, hp, rfl⟩ := List.mem_map.mp hy
        exact he p (accs_in hp)
      have hl := (accs_nd (c := c) (cur := cur)).length_le_of_subset hk
      obtain ⟨h1, h2, h3⟩ := Okx.rounds hlen n (cur := (accsC c cur).map (·.1)) (f := f ++ (accsC c cur).map (·.1)) (h.downs fun p hp => he p (accs_in hp)) (by rw [downs_early]; exact he) fun y hy => (List.mem_append.mp hy).elim (hf y) (hk y)
      refine ⟨h1, h2, ?_⟩
      rw [List.length_append] at h3
      omega
theorem Okx.failed (h : Okx sn c) (hk : ROk B sn c g r) {m : Str} {b : Option Str} (hm : m ∈ sn) : Okx sn (failC (sn.length + 2) c m b) ∧ (∀ y ∈ (failedC (sn.length + 2) c m b).2, y ∈ sn) ∧ (failedC (sn.length + 2) c m b).2.length ≤ 1700 := by
  have hl := hk.len
  have h1 : Okx sn (downC c m (m :: restC c b)) := h.down fun y hy => by
    rcases List.mem_cons.mp hy with z | z
    · rw [z]
      exact hm
    · cases b with
      | none => exact absurd z (by simp [restC])
      | some b => exact h.chain z
  obtain ⟨a1, a2, a3⟩ := Okx.rounds hl (sn.length + 2) (cur := [m]) (f := [m]) h1 (fun p hp => (hk.ein p hp).1) fun y hy => by rw [List.mem_singleton.mp hy]; exact hm
  refine ⟨a1.same rfl rfl, a2, ?_⟩
  show (roundsC (sn.length + 2) _ [m] [m]).2.length ≤ 1700
  have : ([m] : List Str).length = 1 := rfl
  omega
theorem Okx.row (h : Okx sn c) (hk : ROk B sn c g r) {rw_ : Row} (ok : rw_.ok sn c g) : Okx sn (rowC sn c g rw_) := by
  have nf : ∀ {v : Str}, v ≠ "failed" → ∀ {a : Str}, a = v → a ≠ "failed" := fun h _ e z => h (e.symm.trans z)
  cases rw_ with
  | req s t =>
    show Okx sn (reqC c t)
    unfold reqC
    split
    · rename_i e
      exact h.sts (fun n => st1 h (by decide)) fun n hn => by rw [upd1_ne (fun z => by rw [z, e] at hn; exact absurd hn (by decide))]; exact hn
    · exact h
  | acc s t =>
    show Okx sn (accC c s t _)
    unfold accC
    split
    · exact h.same rfl rfl
    · exact h
  | exp m n v => exact h.same rfl rfl
  | fin m =>
    obtain ⟨hm, e⟩ := ok
    refine Okx.same (c := { c with st := updAll (upd1 c.st m "done") (finL sn c (Eg g) m) "ready" }) (h.sts (fun n => ?_) fun n hn => ?_) rfl rfl
    · unfold updAll
      split
      · decide
      · exact st1 h (by decide)
    · have n1 : n ≠ m := fun z => by rw [z, e] at hn; exact absurd hn (by decide)
      have e1 : upd1 c.st m "done" n = "failed" := by rw [upd1_ne n1]; exact hn
      unfold updAll
      rw [if_neg (fun z => by
        have := of_decide_eq_true (Bool.and_eq_true_iff.mp (List.mem_filter.mp z).2).1
        rw [e1] at this
        exact absurd this (by decide))]
      exact e1
  | fai m b => exact (h.failed hk ok.1).1
  | rel m => exact h.same rfl rfl
  | ret m =>
    refine ⟨fun n => st1 h (by decide), fun n hn => ?_, fun q hq => h.chn q (List.mem_filter.mp hq).1⟩
    have hn : n ∈ (dropA c.ch m).map (·.1) := hn
    rw [keys_dropA] at hn
    obtain ⟨h1, h2⟩ := List.mem_filter.mp hn
    show upd1 c.st m "new" n = "failed"
    rw [upd1_ne (of_decide_eq_true h2)]
    exact h.chf n h1
  | unl ks =>
    refine Okx.same (c := { c with st := updAll c.st (unlL sn c (Eg g) ks) "new" }) (h.sts (fun n => ?_) fun n hn => ?_) rfl rfl
    · unfold updAll
      split
      · decide
      · exact h.st n
    · unfold updAll
      rw [if_neg (fun z => by
        have := of_decide_eq_true (Bool.and_eq_true_iff.mp (List.mem_filter.mp z).2).1
        rw [hn] at this
        exact absurd this (by decide))]
      exact hn
end

/-! ### how long the shown text gets -/
structure Sh (d : PyData) (k n : Nat) : Prop where
  s : d.showable = true
  dep : d.depth ≤ k
  l : d.shown.length ≤ n
structure ShL (ds : List PyData) (k n : Nat) : Prop where
  s : PyData.showableAll ds = true
  dep : PyData.depthAll ds ≤ k
  l : ((PyData.shownAll ds).map (·.length)).sum + 2 * ds.length ≤ n
theorem ShL.nil {k : Nat} : ShL [] k 0 := ⟨rfl, by simp [PyData.depthAll], by simp [PyData.shownAll]⟩
theorem ShL.cons {d : PyData} {ds : List PyData} {k a b : Nat} (h : Sh d k a) (t : ShL ds k b) : ShL (d :: ds) k (a + b + 2) := by
  refine ⟨?_, ?_, ?_⟩
  · simp [PyData.showableAll, h.s, t.s]
  · have h1 := h.dep
    have h2 := t.dep
    simp only [PyData.depthAll]
    omega
  · have h1 := h.l
    have h2 := t.l
    simp only [PyData.shownAll, List.map_cons, List.sum_cons, List.length_cons]
    omega
theorem ShL.mono {ds : List PyData} {k k' n n' : Nat} (h : ShL ds k n) (hk : k ≤ k') (hn : n ≤ n') : ShL ds k' n' := ⟨h.s, Nat.le_trans h.dep hk, Nat.le_trans h.l hn⟩
theorem Sh.mono {d : PyData} {k k' n n' : Nat} (h : Sh d k n) (hk : k ≤ k') (hn : n ≤ n') : Sh d k' n' := ⟨h.s, Nat.le_trans h.dep hk, Nat.le_trans h.l hn⟩
theorem ShL.all {k n m : Nat} : ∀ {ds : List PyData}, (∀ d ∈ ds, Sh d k n) → ds.length ≤ m → ShL ds k (m * (n + 2))
  | [], _, _ => ShL.nil.mono (Nat.le_refl _) (Nat.zero_le _)
  | d :: ds, h, hl => by
    have hl : ds.length + 1 ≤ m := hl
    obtain ⟨j, rfl⟩ : ∃ j, m = j + 1 := ⟨m - 1, by omega⟩
    have t := ShL.all (m := j) (fun e he => h e (List.mem_cons_of_mem _ he)) (by omega)
    refine (ShL.cons (h d List.mem_cons_self) t).mono (Nat.le_refl _) ?_
    rw [Nat.add_mul, Nat.one_mul]
    omega
theorem Sh.list {ds : List PyData} {k n : Nat} (h : ShL ds k n) : Sh (.list ds) (k + 1) (n + 3) := by
  refine ⟨by rw [PyData.showable]; exact h.s, ?_, ?_⟩
  · have := h.dep
    simp only [PyData.depth]
    omega
  · have h1 := h.l
    have h2 := listText_len_le (PyData.shownAll ds)
    have h3 := PyData.shownAll_length ds
    simp only [PyData.shown]
    omega
theorem Sh.tup {ds : List PyData} {k n : Nat} (h : ShL ds k n) : Sh (.tuple ds) (k + 1) (n + 3) := by
  refine ⟨by rw [PyData.showable]; exact h.s, ?_, ?_⟩
  · have := h.dep
    simp only [PyData.depth]
    omega
  · have h1 := h.l
    have h2 := tupleText_len_le (PyData.shownAll ds)
    have h3 := PyData.shownAll_length ds
    simp only [PyData.shown]
    omega
theorem Sh.non : Sh .none 0 5 := ⟨by simp [PyData.showable], by simp [PyData.depth], by decide⟩
theorem Sh.bl (b : Bool) : Sh (.bool b) 0 5 := ⟨by simp [PyData.showable], by simp [PyData.depth], by cases b <;> decide⟩
theorem Sh.str8 {x : Str} (hl : x.length ≤ 8) (hc : ∀ c ∈ x.cps.toList, c < 16 ^ 8) : Sh (.str x) 0 82 := ⟨by simp [PyData.showable], by simp [PyData.depth], by
  have := StrLaws.reprText_len x hc
  simp only [PyData.shown]
  omega⟩
theorem letter_small : ∀ c ∈ letters.cps.toList, c < 16 ^ 8 := by decide
theorem Sh.name {x : Str} (h : okName x) : Sh (.str x) 0 82 := Sh.str8 h.2.1 fun c hc => letter_small c (h.2.2 c hc)
theorem Sh.st {x : Str} (h : x ∈ states) : Sh (.str x) 0 82 := by
  have hd : ∀ y ∈ states, y.length ≤ 8 ∧ ∀ c ∈ y.cps.toList, c < 16 ^ 8 := by decide
  exact Sh.str8 (hd x h).1 (hd x h).2
theorem Sh.int {i : Int} (h : i.natAbs ≤ 10 ^ 30) : Sh (.int i) 0 110 := by
  have h2 : i.natAbs < 2 ^ 100 := Nat.lt_of_le_of_lt h (by decide)
  refine ⟨?_, by simp [PyData.depth], ?_⟩
  · simp only [PyData.showable, decide_eq_true_eq]
    by_cases z : i.natAbs = 0
    · rw [z]
      decide
    · have := (Nat.log2_lt z).mpr h2
      omega
  · have e := int_text_length_le10 (a := i) (k := 31) (by decide) (Nat.lt_of_le_of_lt h (by decide))
    show (Str.ofString (toString i)).length ≤ 110
    rw [PySem.ofString_length]
    omega
theorem ShL.names {m : Nat} {ks : List Str} (h : ∀ y ∈ ks, okName y) (hl : ks.length ≤ m) : ShL (ks.map .str) 0 (m * 84) := ShL.all (n := 82) (fun d hd => by
  obtain ⟨y, hy, rfl⟩ := List.mem_map.mp hd
  exact Sh.name (h y hy)) (by rw [List.length_map]; exact hl)
theorem Sh.exps {l : List (Str × Int)} (h : ∀ q ∈ l, q.1 ∈ exN ∧ q.2.natAbs ≤ 10 ^ 30) : PyData.showableKv (l.map fun q => (PyData.str q.1, PyData.int q.2)) = true ∧ PyData.depthKv (l.map fun q => (PyData.str q.1, PyData.int q.2)) ≤ 0 ∧ ((PyData.shownKv (l.map fun q => (PyData.str q.1, PyData.int q.2))).map (·.length)).sum ≤ 200 * l.length := by
  induction l with
  | nil => exact ⟨rfl, by simp [PyData.depthKv], by simp [PyData.shownKv]⟩
  | cons q l ih =>
    obtain ⟨a1, a2, a3⟩ := ih fun p hp => h p (List.mem_cons_of_mem _ hp)
    obtain ⟨b1, b2⟩ := h q List.mem_cons_self
    have s1 : Sh (.str q.1) 0 82 := by
      have hd : ∀ y ∈ exN, okName y := by
        intro y hy
        rcases List.mem_cons.mp hy with z | z
        · rw [z]; exact ⟨by decide, by decide, by decide⟩
        rcases List.mem_cons.mp z with z | z
        · rw [z]; exact ⟨by decide, by decide, by decide⟩
        · rw [List.mem_singleton.mp z]; exact ⟨by decide, by decide, by decide⟩
      exact Sh.name (hd _ b1)
    have s2 := Sh.int b2
    refine ⟨?_, ?_, ?_⟩
    · simp only [List.map_cons, PyData.showableKv, s1.s, s2.s, a1, Bool.and_self]
    · have := s1.dep
      have := s2.dep
      simp only [List.map_cons, PyData.depthKv]
      omega
    · have := s1.l
      have := s2.l
      have e2 : ((PyData.str q.1).shown ++ ": " ++ (PyData.int q.2).shown).length = (PyData.str q.1).shown.length + 2 + (PyData.int q.2).shown.length := by
        rw [strLen_append, strLen_append]; rfl
      simp only [List.map_cons, PyData.shownKv, List.sum_cons, List.length_cons]
      omega
theorem Sh.exp {l : List (Str × Int)} (h : ∀ q ∈ l, q.1 ∈ exN ∧ q.2.natAbs ≤ 10 ^ 30) (hl : l.length ≤ 3) : Sh (.dict (l.map fun q => (PyData.str q.1, PyData.int q.2))) 1 700 := by
  obtain ⟨a1, a2, a3⟩ := Sh.exps h
  refine ⟨by rw [PyData.showable]; exact a1, ?_, ?_⟩
  · simp only [PyData.depth]
    omega
  · have h2 := dictText_len_le (PyData.shownKv (l.map fun q => (PyData.str q.1, PyData.int q.2)))
    have h3 := PyData.shownKv_length (l.map fun q => (PyData.str q.1, PyData.int q.2))
    rw [List.length_map] at h3
    simp only [PyData.shown]
    omega
theorem Sh.pairs {l : List (Str × Str)} {m : Nat} (h : ∀ p ∈ l, okName p.1 ∧ okName p.2) (hl : l.length ≤ m) : Sh (.list (l.map enc2)) 2 (m * 173 + 3) := Sh.list (ShL.all (n := 171) (fun d hd => by
  obtain ⟨p, hp, rfl⟩ := List.mem_map.mp hd
  exact Sh.tup (ShL.cons (Sh.name (h p hp).1) (ShL.cons (Sh.name (h p hp).2) ShL.nil))) (by rw [List.length_map]; exact hl))
theorem Sh.names {m : Nat} {ks : List Str} (h : ∀ y ∈ ks, okName y) (hl : ks.length ≤ m) : Sh (.list (ks.map .str)) 1 (m * 84 + 3) := Sh.list (ShL.names h hl)

/-! ### a state as the law shows it -/
noncomputable def rowE (c : Core) (n : Str) : PyData := .list [.str n, .str (c.st n), .dict ((srtI (c.ex n)).map fun q => (.str q.1, .int q.2)), .bool (decide (n ∈ c.held))]
noncomputable def dueD (sn : List Str) (c : Core) (g r : Graph) : PyData := .list [.list (sn.map .str), .list (sn.map (rowE c)), .list ((srtP (pairsG g)).map enc2), .list ((srtP (pairsG r)).map enc2), .list ((srtP c.early).map enc2),
  .list ((inC sn c "failed").map fun n => .list ((chainC c n).map .str)), .list ((inC sn c "new").map .str), .list ((inC sn c "running").map .str), .list ((inC sn c "done").map .str), .list ((inC sn c "ready").map .str), .list ((inC sn c "failed").map .str)]
theorem pairs_len {sn : List Str} (hl : sn.length ≤ 40) {l : List (Str × Str)} (nd : l.Nodup) (h : ∀ p ∈ l, p.1 ∈ sn ∧ p.2 ∈ sn) : l.length ≤ 1600 := by
  have h1 := nd.length_le_of_subset (l₂ := sn.flatMap fun a => sn.map fun b => (a, b)) fun p hp => List.mem_flatMap.mpr ⟨p.1, (h p hp).1, List.mem_map.mpr ⟨p.2, (h p hp).2, rfl⟩⟩
  have h2 : (sn.flatMap fun a => sn.map fun b => (a, b)).length = sn.length * sn.length := by
    rw [List.length_flatMap]
    have : (fun a : Str => (sn.map fun b => (a, b)).length) = fun _ => sn.length := funext fun a => List.length_map _
    rw [this, List.map_const', List.sum_replicate_nat]
  have h4 : sn.length * sn.length ≤ 40 * 40 := Nat.mul_le_mul hl hl
  omega
section
variable {sn : List Str} {c : Core} {B : Nat} {g r : Graph}
theorem Sh.due (hk : ROk B sn c g r) (hx : Okx sn c) (hB : B ≤ 3100) : Sh (dueD sn c g r) 4 16000000 := by
  have hl := hk.len
  have nms : ∀ st, Sh (.list ((inC sn c st).map .str)) 1 (40 * 84 + 3) := fun st => Sh.names (fun y hy => hk.nm y (List.mem_filter.mp hy).1) (Nat.le_trans (List.length_filter_le _ _) hl)
  have prs : ∀ {G : Graph}, GOk G → GIn sn G → Sh (.list ((srtP (pairsG G)).map enc2)) 2 (1600 * 173 + 3) := fun {G} h1 h2 => by
    have hin : ∀ p ∈ pairsG G, p.1 ∈ sn ∧ p.2 ∈ sn := fun p hp => h2.tg ((mem_pairsG h1 (a := p.1) (b := p.2)).mp hp)
    refine Sh.pairs (fun p hp => ?_) (by rw [length_srtP]; exact pairs_len hl (nodup_pairsG h1) hin)
    obtain ⟨z1, z2⟩ := hin p (mem_srtP.mp hp)
    exact ⟨hk.nm _ z1, hk.nm _ z2⟩
  have ear : Sh (.list ((srtP c.early).map enc2)) 2 (1600 * 173 + 3) := by
    refine Sh.pairs (fun p hp => ?_) (by rw [length_srtP]; exact pairs_len hl hk.end_ hk.ein)
    obtain ⟨z1, z2⟩ := hk.ein p (mem_srtP.mp hp)
    exact ⟨hk.nm _ z1, hk.nm _ z2⟩
  have rws : Sh (.list (sn.map (rowE c))) 3 (40 * 900 + 3) := Sh.list (ShL.all (n := 898) (fun d hd => by
    obtain ⟨n, hn, rfl⟩ := List.mem_map.mp hd
    have he : Sh (.dict ((srtI (c.ex n)).map fun q => (PyData.str q.1, PyData.int q.2))) 1 700 := Sh.exp (fun q hq => hk.xin n hn q ((srtI_perm _).mem_iff.mp hq)) (by rw [(srtI_perm _).length_eq]; exact hk.xln n hn)
    exact (Sh.list (ShL.cons ((Sh.name (hk.nm n hn)).mono (Nat.zero_le 1) (Nat.le_refl _)) (ShL.cons ((Sh.st (hx.st n)).mono (Nat.zero_le _) (Nat.le_refl _)) (ShL.cons he (ShL.cons ((Sh.bl _).mono (Nat.zero_le _) (Nat.le_refl _)) ShL.nil))))).mono (Nat.le_refl _) (by decide)) (by rw [List.length_map]; exact hl))
  have chs : Sh (.list ((inC sn c "failed").map fun n => .list ((chainC c n).map .str))) 2 (40 * (3100 * 84 + 3 + 2) + 3) := Sh.list (ShL.all (fun d hd => by
    obtain ⟨n, hn, rfl⟩ := List.mem_map.mp hd
    obtain ⟨z1, z2⟩ := List.mem_filter.mp hn
    exact Sh.names (fun y hy => hk.nm y (hx.chain hy)) (Nat.le_trans (hk.chain z1 (of_decide_eq_true z2)).2 hB)) (by rw [List.length_map]; exact Nat.le_trans (List.length_filter_le _ _) hl))
  have up : ∀ {d : PyData} {k n : Nat}, k ≤ 3 → Sh d k n → Sh d 3 n := fun hk h => h.mono hk (Nat.le_refl _)
  exact (Sh.list (ShL.cons (up (by decide) (Sh.names hk.nm hl)) (ShL.cons rws (ShL.cons (up (by decide) (prs hk.gok hk.gin)) (ShL.cons (up (by decide) (prs hk.rok hk.rin)) (ShL.cons (up (by decide) ear) (ShL.cons (up (by decide) chs)
    (ShL.cons (up (by decide) (nms _)) (ShL.cons (up (by decide) (nms _)) (ShL.cons (up (by decide) (nms _)) (ShL.cons (up (by decide) (nms _)) (ShL.cons (up (by decide) (nms _)) ShL.nil)))))))))))).mono (by decide) (by decide)
theorem ansC_in {E : Str → Str → Prop} {s : Option Str} {t : Str} : ansC c E s t = c.st t ∨ ansC c E s t = "early" ∨ ansC c E s t = "wait" := by
  unfold ansC
  split
  · exact Or.inl rfl
  · cases s with
    | none => exact Or.inr (Or.inr rfl)
    | some s =>
      dsimp only
      split
      · exact Or.inr (Or.inl rfl)
      · exact Or.inr (Or.inr rfl)
theorem Sh.row (hk : ROk B sn c g r) (hx : Okx sn c) {rw_ : Row} (ok : rw_.ok sn c g) : Sh (rowD sn c g rw_) 1 200000 := by
  have hl := hk.len
  have nms : ∀ p : Str → Bool, Sh (.list ((sn.filter p).map .str)) 1 200000 := fun p => (Sh.names (fun y hy => hk.nm y (List.mem_filter.mp hy).1) (Nat.le_trans (List.length_filter_le _ _) hl)).mono (Nat.le_refl _) (by decide)
  have non : Sh .none 1 200000 := Sh.non.mono (by decide) (by decide)
  cases rw_ with
  | req s t => exact (Sh.bl _).mono (by decide) (by decide)
  | acc s t =>
    have ha : okName (ansC c (Eg g) (some s) t) ∨ ansC c (Eg g) (some s) t ∈ states := by
      rcases ansC_in (c := c) (E := Eg g) (s := some s) (t := t) with e | e | e
      · exact Or.inr (by rw [e]; exact hx.st t)
      · exact Or.inl (by rw [e]; exact ⟨by decide, by decide, by decide⟩)
      · exact Or.inl (by rw [e]; exact ⟨by decide, by decide, by decide⟩)
    show Sh (.str (ansC c (Eg g) (some s) t)) 1 200000
    exact (ha.elim Sh.name Sh.st).mono (by decide) (by decide)
  | exp m n v => exact non
  | fin m => exact nms _
  | fai m b =>
    obtain ⟨_, h2, h3⟩ := hx.failed hk (b := b) ok.1
    exact (Sh.names (fun y hy => hk.nm y (h2 y (mem_srtS.mp hy))) (by rw [length_srtS]; exact h3)).mono (Nat.le_refl _) (by decide)
  | rel m => exact non
  | ret m => exact non
  | unl ks => exact nms _
end
end CR
set_option maxRecDepth 100000
set_option maxHeartbeats 4000000
/-! Cycleready: a row done by the registry, a row applied to the tables. -/
namespace CR
open PySem PySem.Spec PyProof.Rows L2 Evl
local macro_rules | `(tactic| walk_at "red") => `(tactic| dsimp only [tNext, tSeq, tRet, tRetN, tDrop, tIfS, tAsg, tPar, tTest, tB, tNot, tAnd, tOr, tCB, tCons, tNil, tCall, tOp, tUn, tVar, tC, tIf])
local macro_rules | `(tactic| walk_at "nrm") => `(tactic| dsimp only [gName, tNext])
theorem rpAll_strs {H : Hp} : ∀ ks : List Str, RpAll H (ks.map V.str) (ks.map PyData.str)
  | [] => .nil
  | k :: ks => .cons (.str k) (rpAll_strs ks)
theorem rp_strs {H : Hp} {p : Addr} {ks : List Str} (h : H p = some (.lst (ks.map V.str))) : Rp H (.ref p) (.list (ks.map PyData.str)) := .lst h (rpAll_strs ks)
section
variable {P : Program} {w : World} {K : PySem.W.Frag} {mg : Str → Option Value} {base : Heap}
def sp_l_done (K : PySem.W.Frag) : Sp := Pm (fun x : RX × Row × Addr × Addr => [.ref (x.1.ρ .reg), .ref x.2.2.1]) fun x H Q => RegAt K x.1 H ∧ x.2.1.ok x.1.sn x.1.c x.1.g ∧ H x.2.2.1 = some (.tup (x.2.1.tup x.2.2.2)) ∧ (∀ ks, x.2.1 = .unl ks → H x.2.2.2 = some (.lst (ks.map .str))) ∧ x.1.B ≤ 10000 ∧
  ∀ x' H' v, RegAt K x' H' → RStp K x.1 H x' H' → x'.B = rowB x.1.B x.2.1 → x'.c = rowC x.1.sn x.1.c x.1.g x.2.1 → x'.g = rowG x.1.sn x.1.c x.1.g x.2.1 → x'.r = rowR x.1.r x.2.1 → Rp H' v (rowD x.1.sn x.1.c x.1.g x.2.1) → Q v H'
theorem sp_l_done_len (K : PySem.W.Frag) : ∀ vs H Q E, sp_l_done K vs H Q E → vs.length = 2 := Pm.len fun _ => rfl
abbrev s_l_done : Stmt := (top 50)
theorem sc_l_done : FnScope ["_law_here", "_law_row_here", "_law_word_here", "_law_one"] ["_law_here", "_law_row_here"] (defScope s_l_done) := ⟨rfl, rfl, rfl, by decide +kernel, rfl, by decide +kernel, by decide +kernel⟩
theorem ok_l_done (T : Txt K mg) : Okd P w K mg base 7 (aF K "_law_done") ["_law_here", "_law_row_here"] (sp_l_done K) := by
  obtain ⟨fd, F⟩ := T.f_l_done
  refine Okd.mk F sc_l_done (sp_l_done_len K) (fun _ _ _ _ _ _ us hl => match us, hl with | [_, _], _ => rfl) (fun cdv A outer s H vs Q E hr h => ?_)
  have hu := hu_of hr
  refine ⟨_, (pss_cons (ps_par (i := 2) (j := 3) (by rfl) sc_l_done.nd rfl rfl (by decide) rfl rfl (pa_cons (pe_ix (ix_tupK (K := K) rfl) (pv 1) pe_int (fun _ _ => rfl)) (pa_cons (pe_ix (ix_tupK (K := K) rfl) (pv 1) pe_int (fun _ _ => rfl)) pa_nil)) (by rfl))
    (pss_cons (ps_if (pt_cmpR op_eq (pv 2) pe_str (nomark _)) (pss_one (ps_ret (pe_methO (pv 0) T.cl_Registry T.m_Registry_request (ok_R_request (K := K) T) (hr.mono (by decide)) (pa_cons (pv 3) (pa_cons (pe_ix (ix_tupK (K := K) rfl) (pv 1) pe_int (fun _ _ => rfl)) pa_nil))))) pss_nil)
    (pss_cons (ps_if (pt_cmpR op_eq (pv 2) pe_str (nomark _)) (pss_one (ps_ret (pe_methO (pv 0) T.cl_Registry T.m_Registry_access (ok_R_access (K := K) T) (hr.mono (by decide)) (pa_cons (pv 3) (pa_cons (pe_ix (ix_tupK (K := K) rfl) (pv 1) pe_int (fun _ _ => rfl)) pa_nil))))) pss_nil)
    (pss_cons (ps_if (pt_cmpR op_eq (pv 2) pe_str (nomark _)) (pss_one (ps_ret (pe_methO (pv 0) T.cl_Registry T.m_Registry_export (ok_R_export (K := K) T) (hr.mono (by decide)) (pa_cons (pv 3) (pa_cons (pe_ix (ix_tupK (K := K) rfl) (pv 1) pe_int (fun _ _ => rfl)) (pa_cons (pe_ix (ix_tupK (K := K) rfl) (pv 1) pe_int (fun _ _ => rfl)) pa_nil)))))) pss_nil)
    (pss_cons (ps_if (pt_cmpR op_eq (pv 2) pe_str (nomark _)) (pss_one (ps_ret (pe_methO (pv 0) T.cl_Registry T.m_Registry_finish (ok_R_finish (K := K) T) (hr.mono (by decide)) (pa_cons (pv 3) pa_nil)))) pss_nil)
    (pss_cons (ps_if (pt_cmpR op_eq (pv 2) pe_str (nomark _)) (pss_one (ps_ret (pe_ifExp (pt_cmp (pc_isN (pe_ix (ix_tupK (K := K) rfl) (pv 1) pe_int (fun _ _ => rfl)))) (pe_methO (pv 0) T.cl_Registry T.m_Registry_fail (ok_R_fail0 (K := K) T) (hr.mono (by decide)) (pa_cons (pv 3) pa_nil)) (pe_methKO (pv 0) T.cl_Registry T.m_Registry_fail (ok_R_failK (K := K) T) (hr.mono (by decide)) (pa_cons (pv 3) pa_nil) (pk_cons (pe_ix (ix_tupK (K := K) rfl) (pv 1) pe_int (fun _ _ => rfl)) pk_nil))))) pss_nil)
    (pss_cons (ps_if (pt_cmpR op_eq (pv 2) pe_str (nomark _)) (pss_one (ps_ret (pe_methO (pv 0) T.cl_Registry T.m_Registry_release (ok_R_release (K := K) T) (hr.mono (by decide)) (pa_cons (pv 3) pa_nil)))) pss_nil)
    (pss_one (ps_ret (pe_ifExp (pt_cmpR op_eq (pv 2) pe_str (nomark _)) (pe_methO (pv 0) T.cl_Registry T.m_Registry_retry (ok_R_retry (K := K) T) (hr.mono (by decide)) (pa_cons (pv 3) pa_nil)) (pe_methKO0 (pv 0) T.cl_Registry T.m_Registry_unload (ok_R_unloadK (K := K) T) (hr.mono (by decide)) (pk_cons (pv 3) pk_nil)))))))))))), ?_⟩
  obtain ⟨⟨x, rw_, q, l⟩, rfl, hR, ok, hq, hl, hB, k⟩ := h
  dsimp only at hR ok hq hl hB k
  cases rw_ with
  | req s t =>
    refine ⟨_, rfl, q, _, 0, _, rfl, rfl, st_of hq, rfl, _, rfl, q, _, 1, _, rfl, rfl, st_of hq, rfl, _, _, rfl, ?_⟩
    refine ⟨_, rfl, rfl, _, rfl, it_t (by decide) ?_⟩
    exact ⟨_, rfl, _, _, _, rfl, hR.reg, rfl, _, rfl, _, rfl, q, _, 2, _, rfl, rfl, st_of hq, rfl, (x, s, t), rfl, hR, ok.1, ok.2, fun x' H' a1 a2 a3 a4 a5 a6 => k x' H' _ a1 a2 a3 a4 a5 a6 (.bl _)⟩
  | acc s t =>
    obtain ⟨o1, o2, o3, o4, o5⟩ := ok
    refine ⟨_, rfl, q, _, 0, _, rfl, rfl, st_of hq, rfl, _, rfl, q, _, 1, _, rfl, rfl, st_of hq, rfl, _, _, rfl, ?_⟩
    refine ⟨_, rfl, rfl, _, rfl, it_f (by decide) ?_⟩
    refine ⟨_, rfl, rfl, _, rfl, it_t (by decide) ?_⟩
    exact ⟨_, rfl, _, _, _, rfl, hR.reg, rfl, _, rfl, _, rfl, q, _, 2, _, rfl, rfl, st_of hq, rfl, (x, s, t), rfl, hR, o1, o2, o3, o4, o5, fun x' H' a1 a2 a3 a4 a5 a6 => k x' H' _ a1 a2 a3 a4 a5 a6 (.str _)⟩
  | exp m n i =>
    obtain ⟨o1, o2, o3, o4⟩ := ok
    refine ⟨_, rfl, q, _, 0, _, rfl, rfl, st_of hq, rfl, _, rfl, q, _, 1, _, rfl, rfl, st_of hq, rfl, _, _, rfl, ?_⟩
    refine ⟨_, rfl, rfl, _, rfl, it_f (by decide) ?_⟩
    refine ⟨_, rfl, rfl, _, rfl, it_f (by decide) ?_⟩
    refine ⟨_, rfl, rfl, _, rfl, it_t (by decide) ?_⟩
    exact ⟨_, rfl, _, _, _, rfl, hR.reg, rfl, _, rfl, _, rfl, q, _, 2, _, rfl, rfl, st_of hq, rfl, _, rfl, q, _, 3, _, rfl, rfl, st_of hq, rfl, (x, m, n, i), rfl, hR, o1, o2, o3, o4, fun x' H' a1 a2 a3 a4 a5 a6 => k x' H' _ a1 a2 a3 a4 a5 a6 .non⟩
  | fin m =>
    obtain ⟨o1, o2⟩ := ok
    refine ⟨_, rfl, q, _, 0, _, rfl, rfl, st_of hq, rfl, _, rfl, q, _, 1, _, rfl, rfl, st_of hq, rfl, _, _, rfl, ?_⟩
    refine ⟨_, rfl, rfl, _, rfl, it_f (by decide) ?_⟩
    refine ⟨_, rfl, rfl, _, rfl, it_f (by decide) ?_⟩
    refine ⟨_, rfl, rfl, _, rfl, it_f (by decide) ?_⟩
    refine ⟨_, rfl, rfl, _, rfl, it_t (by decide) ?_⟩
    exact ⟨_, rfl, _, _, _, rfl, hR.reg, rfl, _, rfl, (x, m), rfl, hR, o1, o2, fun x' H' p a1 a2 a3 a4 a5 a6 a7 => k x' H' _ a1 a2 a3 a4 a5 a6 (rp_strs a7)⟩
  | fai m b =>
    obtain ⟨o1, o2, o3⟩ := ok
    refine ⟨_, rfl, q, _, 0, _, rfl, rfl, st_of hq, rfl, _, rfl, q, _, 1, _, rfl, rfl, st_of hq, rfl, _, _, rfl, ?_⟩
    refine ⟨_, rfl, rfl, _, rfl, it_f (by decide) ?_⟩
    refine ⟨_, rfl, rfl, _, rfl, it_f (by decide) ?_⟩
    refine ⟨_, rfl, rfl, _, rfl, it_f (by decide) ?_⟩
    refine ⟨_, rfl, rfl, _, rfl, it_f (by decide) ?_⟩
    refine ⟨_, rfl, rfl, _, rfl, it_t (by decide) ?_⟩
    cases b with
    | none => exact ⟨_, rfl, q, _, 2, _, rfl, rfl, st_of hq, rfl, _, rfl, it_t (by rfl) ⟨_, rfl, _, _, _, rfl, hR.reg, rfl, _, rfl, (x, m, none), rfl, hR, o1, o2, o3, hB, fun x' H' p a1 a2 a3 a4 a5 a6 a7 => k x' H' _ a1 a2 a3 a4 a5 a6 (rp_strs a7)⟩⟩
    | some b => exact ⟨_, rfl, q, _, 2, _, rfl, rfl, st_of hq, rfl, _, rfl, it_f (by rfl) ⟨_, rfl, _, _, _, rfl, hR.reg, rfl, _, rfl, _, rfl, q, _, 2, _, rfl, rfl, st_of hq, rfl, rfl, rfl, (x, m, some b), rfl, hR, o1, o2, o3, hB, fun x' H' p a1 a2 a3 a4 a5 a6 a7 => k x' H' _ a1 a2 a3 a4 a5 a6 (rp_strs a7)⟩⟩
  | rel m =>
    refine ⟨_, rfl, q, _, 0, _, rfl, rfl, st_of hq, rfl, _, rfl, q, _, 1, _, rfl, rfl, st_of hq, rfl, _, _, rfl, ?_⟩
    refine ⟨_, rfl, rfl, _, rfl, it_f (by decide) ?_⟩
    refine ⟨_, rfl, rfl, _, rfl, it_f (by decide) ?_⟩
    refine ⟨_, rfl, rfl, _, rfl, it_f (by decide) ?_⟩
    refine ⟨_, rfl, rfl, _, rfl, it_f (by decide) ?_⟩
    refine ⟨_, rfl, rfl, _, rfl, it_f (by decide) ?_⟩
    refine ⟨_, rfl, rfl, _, rfl, it_t (by decide) ?_⟩
    exact ⟨_, rfl, _, _, _, rfl, hR.reg, rfl, _, rfl, (x, m), rfl, hR, ok, fun x' H' a1 a2 a3 a4 a5 a6 => k x' H' _ a1 a2 a3 a4 a5 a6 .non⟩
  | ret m =>
    obtain ⟨o1, o2, o3, o4⟩ := ok
    refine ⟨_, rfl, q, _, 0, _, rfl, rfl, st_of hq, rfl, _, rfl, q, _, 1, _, rfl, rfl, st_of hq, rfl, _, _, rfl, ?_⟩
    refine ⟨_, rfl, rfl, _, rfl, it_f (by decide) ?_⟩
    refine ⟨_, rfl, rfl, _, rfl, it_f (by decide) ?_⟩
    refine ⟨_, rfl, rfl, _, rfl, it_f (by decide) ?_⟩
    refine ⟨_, rfl, rfl, _, rfl, it_f (by decide) ?_⟩
    refine ⟨_, rfl, rfl, _, rfl, it_f (by decide) ?_⟩
    refine ⟨_, rfl, rfl, _, rfl, it_f (by decide) ?_⟩
    exact ⟨_, rfl, rfl, _, rfl, it_t (by decide) ⟨_, rfl, _, _, _, rfl, hR.reg, rfl, _, rfl, (x, m), rfl, hR, o1, o2, o3, o4, fun x' H' a1 a2 a3 a4 a5 a6 => k x' H' _ a1 a2 a3 a4 a5 a6 .non⟩⟩
  | unl ks =>
    obtain ⟨o1, o2⟩ := ok
    refine ⟨_, rfl, q, _, 0, _, rfl, rfl, st_of hq, rfl, _, rfl, q, _, 1, _, rfl, rfl, st_of hq, rfl, _, _, rfl, ?_⟩
    refine ⟨_, rfl, rfl, _, rfl, it_f (by decide) ?_⟩
    refine ⟨_, rfl, rfl, _, rfl, it_f (by decide) ?_⟩
    refine ⟨_, rfl, rfl, _, rfl, it_f (by decide) ?_⟩
    refine ⟨_, rfl, rfl, _, rfl, it_f (by decide) ?_⟩
    refine ⟨_, rfl, rfl, _, rfl, it_f (by decide) ?_⟩
    refine ⟨_, rfl, rfl, _, rfl, it_f (by decide) ?_⟩
    exact ⟨_, rfl, rfl, _, rfl, it_f (by decide) ⟨_, rfl, _, _, _, rfl, hR.reg, rfl, _, rfl, rfl, rfl, (x, l, ks), rfl, hR, hl ks rfl, o1, o2, fun x' H' p a1 a2 a3 a4 a5 a6 a7 => k x' H' _ a1 a2 a3 a4 a5 a6 (rp_strs a7)⟩⟩

theorem MOk.exp {B : Nat} {sn : List Str} {g r : Graph} {x : MX} (h : MOk B sn g r x) {m n : Str} {v : Int} (hn : n ∈ exN) (hv : v.natAbs ≤ 10 ^ 30) : MOk B sn g r (x.setEx m n v) := ⟨h.ok.exp hn hv, h.srt, h.be, h.nn, h.rn, h.ng, h.rg⟩
def sp_l_applied (K : PySem.W.Frag) : Sp := Pm (fun x : MQ × Row × Addr × Addr => [.ref (x.1.x.μ .m), .ref x.2.2.1]) fun x H Q => TabAt x.1.sn x.1.B x.1.g x.1.r x.1.x H ∧ x.2.1.ok x.1.sn x.1.x.c x.1.g ∧ H x.2.2.1 = some (.tup (x.2.1.tup x.2.2.2)) ∧ (∀ ks, x.2.1 = .unl ks → H x.2.2.2 = some (.lst (ks.map .str))) ∧ x.1.B ≤ 10000 ∧
  ∀ x' H' v, TabAt x.1.sn (rowB x.1.B x.2.1) (rowG x.1.sn x.1.x.c x.1.g x.2.1) (rowR x.1.r x.2.1) x' H' → TStp x.1.x H x' H' → x'.c = rowC x.1.sn x.1.x.c x.1.g x.2.1 → x'.μ .m = x.1.x.μ .m → Rp H' v (rowD x.1.sn x.1.x.c x.1.g x.2.1) → Q v H'
theorem sp_l_applied_len (K : PySem.W.Frag) : ∀ vs H Q E, sp_l_applied K vs H Q E → vs.length = 2 := Pm.len fun _ => rfl
abbrev s_l_applied : Stmt := (top 51)
theorem sc_l_applied : FnScope ["_law_m", "_law_row_here", "_law_word_here", "_law_one"] ["_law_m", "_law_row_here"] (defScope s_l_applied) := ⟨rfl, rfl, rfl, by decide +kernel, rfl, by decide +kernel, by decide +kernel⟩
theorem ok_l_applied (T : Txt K mg) : Okd P w K mg base 4 (aF K "_law_applied") ["_law_m", "_law_row_here"] (sp_l_applied K) := by
  obtain ⟨fd, F⟩ := T.f_l_applied
  refine Okd.mk F sc_l_applied (sp_l_applied_len K) (fun _ _ _ _ _ _ us hl => match us, hl with | [_, _], _ => rfl) (fun cdv A outer s H vs Q E hr h => ?_)
  have hu := hu_of hr
  refine ⟨_, (pss_cons (ps_par (i := 2) (j := 3) (by rfl) sc_l_applied.nd rfl rfl (by decide) rfl rfl (pa_cons (pe_ix (ix_tupK (K := K) rfl) (pv 1) pe_int (fun _ _ => rfl)) (pa_cons (pe_ix (ix_tupK (K := K) rfl) (pv 1) pe_int (fun _ _ => rfl)) pa_nil)) (by rfl))
    (pss_cons (ps_if (pt_cmpR op_eq (pv 2) pe_str (nomark _)) (pss_one (ps_ret (pe_callO (ok_l_asks (K := K) T) (hr.mono (by decide)) rfl T.g__law_asks T.k__law_asks (pa_cons (pv 0) (pa_cons (pv 3) (pa_cons (pe_ix (ix_tupK (K := K) rfl) (pv 1) pe_int (fun _ _ => rfl)) pa_nil)))))) pss_nil)
    (pss_cons (ps_if (pt_cmpR op_eq (pv 2) pe_str (nomark _)) (pss_one (ps_ret (pe_callO (ok_l_accesses (K := K) T) (hr.mono (by decide)) rfl T.g__law_accesses T.k__law_accesses (pa_cons (pv 0) (pa_cons (pv 3) (pa_cons (pe_ix (ix_tupK (K := K) rfl) (pv 1) pe_int (fun _ _ => rfl)) pa_nil)))))) pss_nil)
    (pss_cons (ps_if (pt_cmpR op_eq (pv 2) pe_str (nomark _)) (pss_cons (ps_dput hu (pe_dget hu (pe_dget hu (pv 0) pe_str (fun _ _ => rfl)) (pv 3) (fun _ _ => rfl)) (pe_ix (ix_tupK (K := K) rfl) (pv 1) pe_int (fun _ _ => rfl)) (pe_ix (ix_tupK (K := K) rfl) (pv 1) pe_int (fun _ _ => rfl)) rfl)
    (pss_one (ps_ret pe_non))) pss_nil)
    (pss_cons (ps_if (pt_cmpR op_eq (pv 2) pe_str (nomark _)) (pss_one (ps_ret (pe_callO (ok_l_finished (K := K) T) (hr.mono (by decide)) rfl T.g__law_finished T.k__law_finished (pa_cons (pv 0) (pa_cons (pv 3) pa_nil))))) pss_nil)
    (pss_cons (ps_if (pt_cmpR op_eq (pv 2) pe_str (nomark _)) (pss_one (ps_ret (pe_callO (ok_l_failed (K := K) T) (hr.mono (by decide)) rfl T.g__law_failed T.k__law_failed (pa_cons (pv 0) (pa_cons (pv 3) (pa_cons (pe_ix (ix_tupK (K := K) rfl) (pv 1) pe_int (fun _ _ => rfl)) pa_nil)))))) pss_nil)
    (pss_cons (ps_if (pt_cmpR op_eq (pv 2) pe_str (nomark _)) (pss_one (ps_ret (pe_callO (ok_l_released (K := K) T) (hr.mono (by decide)) rfl T.g__law_released T.k__law_released (pa_cons (pv 0) (pa_cons (pv 3) pa_nil))))) pss_nil)
    (pss_one (ps_ret (pe_ifExp (pt_cmpR op_eq (pv 2) pe_str (nomark _)) (pe_callO (ok_l_retried (K := K) T) (hr.mono (by decide)) rfl T.g__law_retried T.k__law_retried (pa_cons (pv 0) (pa_cons (pv 3) pa_nil))) (pe_callO (ok_l_unloaded (K := K) T) (hr.mono (by decide)) rfl T.g__law_unloaded T.k__law_unloaded (pa_cons (pv 0) (pa_cons (pv 3) pa_nil))))))))))))), ?_⟩
  obtain ⟨⟨y, rw_, q, l⟩, rfl, hT, ok, hq, hl, hB, k⟩ := h
  dsimp only at hT ok hq hl hB k
  cases rw_ with
  | req s t =>
    refine ⟨_, rfl, q, _, 0, _, rfl, rfl, st_of hq, rfl, _, rfl, q, _, 1, _, rfl, rfl, st_of hq, rfl, _, _, rfl, ?_⟩
    refine ⟨_, rfl, rfl, _, rfl, it_t (by decide) ?_⟩
    exact ⟨_, rfl, _, rfl, _, rfl, q, _, 2, _, rfl, rfl, st_of hq, rfl, (y, s, t), rfl, hT, ok.1, fun z e => (ok.2 z e).1, fun x' H' a1 a2 a3 a4 => k x' H' _ a1 a2 a3 a4 (.bl _)⟩
  | acc s t =>
    obtain ⟨o1, o2, o3, o4, o5⟩ := ok
    refine ⟨_, rfl, q, _, 0, _, rfl, rfl, st_of hq, rfl, _, rfl, q, _, 1, _, rfl, rfl, st_of hq, rfl, _, _, rfl, ?_⟩
    refine ⟨_, rfl, rfl, _, rfl, it_f (by decide) ?_⟩
    refine ⟨_, rfl, rfl, _, rfl, it_t (by decide) ?_⟩
    exact ⟨_, rfl, _, rfl, _, rfl, q, _, 2, _, rfl, rfl, st_of hq, rfl, (y, s, t), rfl, hT, o1, o2, fun x' H' a1 a2 a3 a4 => k x' H' _ a1 a2 a3 a4 (.str _)⟩
  | exp m n i =>
    obtain ⟨o1, o2, o3, o4⟩ := ok
    have hm := hT.2.mem.mpr o1
    obtain ⟨b1, b2⟩ := hT.1.setEx hm n i
    refine ⟨_, rfl, q, _, 0, _, rfl, rfl, st_of hq, rfl, _, rfl, q, _, 1, _, rfl, rfl, st_of hq, rfl, _, _, rfl, ?_⟩
    refine ⟨_, rfl, rfl, _, rfl, it_f (by decide) ?_⟩
    refine ⟨_, rfl, rfl, _, rfl, it_f (by decide) ?_⟩
    refine ⟨_, rfl, rfl, _, rfl, it_t (by decide) ?_⟩
    exact ⟨_, rfl, q, _, 3, _, rfl, rfl, st_of hq, rfl, _, rfl, _, _, rfl, hT.1.gexd, _, rfl, _, _, rfl, hT.1.gex hm, _, rfl, q, _, 2, _, rfl, rfl, st_of hq, rfl, _, _, rfl, Or.inl ⟨_, Sum.inr n, hT.1.exi hm, rfl, by rw [length_dS]; exact sz_lt (Nat.lt_of_le_of_lt (hT.2.ok.xln m o1) (by decide)), rfl⟩,
      k _ _ _ ⟨b1, hT.2.exp o3 o4⟩ b2 rfl rfl .non⟩
  | fin m =>
    obtain ⟨o1, o2⟩ := ok
    refine ⟨_, rfl, q, _, 0, _, rfl, rfl, st_of hq, rfl, _, rfl, q, _, 1, _, rfl, rfl, st_of hq, rfl, _, _, rfl, ?_⟩
    refine ⟨_, rfl, rfl, _, rfl, it_f (by decide) ?_⟩
    refine ⟨_, rfl, rfl, _, rfl, it_f (by decide) ?_⟩
    refine ⟨_, rfl, rfl, _, rfl, it_f (by decide) ?_⟩
    refine ⟨_, rfl, rfl, _, rfl, it_t (by decide) ?_⟩
    exact ⟨_, rfl, _, rfl, (y, m), rfl, hT, o1, o2, fun x' H' p a1 a2 a3 a4 a7 => k x' H' _ a1 a2 a3 a4 (rp_strs a7)⟩
  | fai m b =>
    obtain ⟨o1, o2, o3⟩ := ok
    refine ⟨_, rfl, q, _, 0, _, rfl, rfl, st_of hq, rfl, _, rfl, q, _, 1, _, rfl, rfl, st_of hq, rfl, _, _, rfl, ?_⟩
    refine ⟨_, rfl, rfl, _, rfl, it_f (by decide) ?_⟩
    refine ⟨_, rfl, rfl, _, rfl, it_f (by decide) ?_⟩
    refine ⟨_, rfl, rfl, _, rfl, it_f (by decide) ?_⟩
    refine ⟨_, rfl, rfl, _, rfl, it_f (by decide) ?_⟩
    refine ⟨_, rfl, rfl, _, rfl, it_t (by decide) ?_⟩
    exact ⟨_, rfl, _, rfl, _, rfl, q, _, 2, _, rfl, rfl, st_of hq, rfl, (y, m, b), rfl, hT, o1, o2, o3, hB, fun x' H' p a1 a2 a3 a4 a7 => k x' H' _ a1 a2 a3 a4 (rp_strs a7)⟩
  | rel m =>
    refine ⟨_, rfl, q, _, 0, _, rfl, rfl, st_of hq, rfl, _, rfl, q, _, 1, _, rfl, rfl, st_of hq, rfl, _, _, rfl, ?_⟩
    refine ⟨_, rfl, rfl, _, rfl, it_f (by decide) ?_⟩
    refine ⟨_, rfl, rfl, _, rfl, it_f (by decide) ?_⟩
    refine ⟨_, rfl, rfl, _, rfl, it_f (by decide) ?_⟩
    refine ⟨_, rfl, rfl, _, rfl, it_f (by decide) ?_⟩
    refine ⟨_, rfl, rfl, _, rfl, it_f (by decide) ?_⟩
    refine ⟨_, rfl, rfl, _, rfl, it_t (by decide) ?_⟩
    exact ⟨_, rfl, _, rfl, (y, m), rfl, hT, ok, fun x' H' a1 a2 a3 a4 => k x' H' _ a1 a2 a3 a4 .non⟩
  | ret m =>
    obtain ⟨o1, o2, o3, o4⟩ := ok
    refine ⟨_, rfl, q, _, 0, _, rfl, rfl, st_of hq, rfl, _, rfl, q, _, 1, _, rfl, rfl, st_of hq, rfl, _, _, rfl, ?_⟩
    refine ⟨_, rfl, rfl, _, rfl, it_f (by decide) ?_⟩
    refine ⟨_, rfl, rfl, _, rfl, it_f (by decide) ?_⟩
    refine ⟨_, rfl, rfl, _, rfl, it_f (by decide) ?_⟩
    refine ⟨_, rfl, rfl, _, rfl, it_f (by decide) ?_⟩
    refine ⟨_, rfl, rfl, _, rfl, it_f (by decide) ?_⟩
    refine ⟨_, rfl, rfl, _, rfl, it_f (by decide) ?_⟩
    exact ⟨_, rfl, rfl, _, rfl, it_t (by decide) ⟨_, rfl, _, rfl, (y, m), rfl, hT, o1, o2, o3, fun x' H' a1 a2 a3 a4 => k x' H' _ a1 a2 a3 a4 .non⟩⟩
  | unl ks =>
    obtain ⟨o1, o2⟩ := ok
    refine ⟨_, rfl, q, _, 0, _, rfl, rfl, st_of hq, rfl, _, rfl, q, _, 1, _, rfl, rfl, st_of hq, rfl, _, _, rfl, ?_⟩
    refine ⟨_, rfl, rfl, _, rfl, it_f (by decide) ?_⟩
    refine ⟨_, rfl, rfl, _, rfl, it_f (by decide) ?_⟩
    refine ⟨_, rfl, rfl, _, rfl, it_f (by decide) ?_⟩
    refine ⟨_, rfl, rfl, _, rfl, it_f (by decide) ?_⟩
    refine ⟨_, rfl, rfl, _, rfl, it_f (by decide) ?_⟩
    refine ⟨_, rfl, rfl, _, rfl, it_f (by decide) ?_⟩
    exact ⟨_, rfl, rfl, _, rfl, it_f (by decide) ⟨_, rfl, _, rfl, (y, l, ks), rfl, hT, hl ks rfl, o1, o2, fun x' H' p a1 a2 a3 a4 a7 => k x' H' _ a1 a2 a3 a4 (rp_strs a7)⟩⟩
end
end CR
set_option maxRecDepth 100000
set_option maxHeartbeats 4000000
/-! Cycleready: comprehensions whose elements are lists of texts. -/
namespace CR
open PySem PySem.Spec PyProof.Rows L2 Evl
theorem wo_ne {H : Hp} {p a : Addr} (h : a ≠ p) : wo H p a = H a := if_neg h
theorem wo_put {H : Hp} {p : Addr} {o : HO} : wo (upd H p o) p = wo H p := by
  funext a
  by_cases z : a = p
  · rw [z, wo_same, wo_same]
  · rw [wo_ne z, wo_ne z, upd_ne z]
theorem wo_grow {H H' : Hp} {p : Addr} (e : Ex H H') : Ex (wo H p) (wo H' p) := fun a o h => by
  have z : a ≠ p := fun z => by rw [z, wo_same] at h; cases h
  rw [wo_ne z] at h ⊢
  exact e a o h
theorem wo_back {H : Hp} {p : Addr} : Ex (wo H p) H := fun a o h => by
  have z : a ≠ p := fun z => by rw [z, wo_same] at h; cases h
  rwa [wo_ne z] at h
theorem wo_get {H : Hp} {p a : Addr} {o : HO} (h : H a = some o) (z : a ≠ p) : wo H p a = some o := by rw [wo_ne z]; exact h
theorem RpAll.snoc {H : Hp} : ∀ {vs : List V} {ds : List PyData} {v : V} {d : PyData}, RpAll H vs ds → Rp H v d → RpAll H (vs ++ [v]) (ds ++ [d])
  | _, _, _, _, .nil, r => .cons r .nil
  | _, _, _, _, .cons h t, r => .cons h (t.snoc r)
theorem RpAll.app {H : Hp} : ∀ {vs ws : List V} {ds es : List PyData}, RpAll H vs ds → RpAll H ws es → RpAll H (vs ++ ws) (ds ++ es)
  | _, _, _, _, .nil, r => r
  | _, _, _, _, .cons h t, r => .cons h (t.app r)
theorem rpAll_pairs {H : Hp} : ∀ {bs : PB3}, Prs H bs → RpAll H (refsB bs) ((bs.map (·.2)).map enc2)
  | [], _ => .nil
  | b :: bs, h => .cons (.tup (h b List.mem_cons_self) (.cons (.str _) (.cons (.str _) .nil))) (rpAll_pairs fun c hc => h c (List.mem_cons_of_mem _ hc))
theorem rp_pairs {H : Hp} {p : Addr} {bs : PB3} {l : List (Str × Str)} (h : H p = some (.lst (refsB bs))) (hp : Prs H bs) (e : bs.map (·.2) = l) : Rp H (.ref p) (.list (l.map enc2)) := e ▸ .lst h (rpAll_pairs hp)
section
variable {K : PySem.W.Frag}
theorem rpAll_paired {α : Type} {H : Hp} {f : α → List Str} : ∀ {qs : List Addr} {l : List α}, Paired (fun q n => H q = some (.lst ((f n).map V.str))) qs l → RpAll H (qs.map V.ref) (l.map fun n => .list ((f n).map .str))
  | _, _, .nil => .nil
  | _, _, .cons h t => .cons (rp_strs h) (rpAll_paired t)
/-- a comprehension whose elements are lists of texts, new or known before -/
theorem lcL {α : Type} {σ : L2.St} {H : Hp} {Q : VK} {wi : TI} {tt : TT} {te : TE} {j : Nat} {vs : List Nat} (Hk : Hp) (l : List α) (enc : α → V) (f : α → List Str) (P : α → Bool) (hk : Ex Hk H)
    (hl : l.length < 100000)
    (hwi : ∀ R : It → Hp → Prop, (∀ (J : It) (G : Hp → Prop) (H1 : Hp), Ex H H1 → Walk J (l.map enc).length G (YAt (l.map enc)) → (∀ H', Ex H1 H' → G H') → R J H1) → wi σ H R)
    (hw : ∀ v, wipe ((wipe σ vs).set j v) vs = wipe σ vs)
    (ht : ∀ n ∈ l, ∀ H', Ex H H' → EvT tt ((wipe σ vs).set j (some (enc n))) H' (P n))
    (he : ∀ n ∈ l, P n = true → ∀ H', Ex H H' → ∀ Q : VK, (∀ q H2, Ex H' H2 → (H' q = none ∨ ∃ o, Hk q = some o) → H2 q = some (.lst ((f n).map .str)) → Q (.ref q) H2) → te ((wipe σ vs).set j (some (enc n))) H' Q)
    (hQ : ∀ p H' qs, H p = none → Ex H H' → H' p = some (.lst (qs.map V.ref)) → qs.length ≤ l.length → Paired (fun q n => (H q = none ∨ ∃ o, Hk q = some o) ∧ q ≠ p ∧ H' q = some (.lst ((f n).map V.str))) qs (l.filter P) → Q (.ref p) H') : tLc wi (gName j) tt te vs σ H Q := by
  refine hwi _ fun J G H1 e w hG D hD => turns_it (B := bodyLc (gName j) tt te vs σ D) w
    (fun i H' => Ex H1 H' ∧ ∃ qs : List Addr, H' D = some (.lst (qs.map V.ref)) ∧ qs.length ≤ i ∧ Paired (fun q n => (H q = none ∨ ∃ o, Hk q = some o) ∧ q ≠ D ∧ H' q = some (.lst ((f n).map V.str))) qs ((l.take i).filter P)) ⟨Ex.new hD, [], upd_same, Nat.le_refl _, .nil⟩ (fun i H' _ p => hG H' p.1) (fun i v H2 H3 hi pr y => ?_) (fun H2 pr => ?_)
  · obtain ⟨e2, qs, h2, hwl, hrp⟩ := pr
    obtain ⟨rfl, hx⟩ := y
    obtain ⟨n, hn, rfl⟩ := at_map hx
    rw [List.length_map] at hi
    have hm := List.mem_of_getElem? hn
    have tk : l.take (i + 1) = l.take i ++ [n] := by
      rw [List.take_add_one, hn]
      rfl
    refine ⟨hw _, ht n hm _ (e.trans e2) H3 (Ex.refl _) _ fun H4 e4 => it_c (fun hp => ?_) fun hp => ?_⟩
    · refine he n hm hp H4 ((e.trans e2).trans e4) _ fun q H5 e5 hq h5 => ⟨qs.map V.ref, e5 _ _ (e4 _ _ h2), by rw [List.length_map]; exact sz_lt (by omega), Ex.mut ((e2.trans e4).trans e5) hD, qs ++ [q], by rw [List.map_append]; exact upd_same, by rw [List.length_append]; show qs.length + 1 ≤ i + 1; omega, ?_⟩
      have hqD : q ≠ D := fun z => by
        rcases hq with u | ⟨o, u⟩
        · rw [z, e4 _ _ h2] at u
          cases u
        · rw [z] at u
          rw [e _ _ (hk _ _ u)] at hD
          cases hD
      rw [tk, List.filter_append, List.filter_cons_of_pos hp, List.filter_nil]
      refine Paired.snoc (Paired.mono (fun p m h => ⟨h.1, h.2.1, ?_⟩) hrp) ⟨hq.imp (fun u => fresh_back ((e.trans e2).trans e4) u) id, hqD, by rw [upd_ne hqD]; exact h5⟩
      rw [upd_ne h.2.1]
      exact e5 _ _ (e4 _ _ h.2.2)
    · refine ⟨e2.trans e4, qs, e4 _ _ h2, by omega, ?_⟩
      rw [tk, List.filter_append, List.filter_cons_of_neg (by rw [hp]; decide), List.filter_nil, List.append_nil]
      exact Paired.mono (fun p m h => ⟨h.1, h.2.1, e4 _ _ h.2.2⟩) hrp
  · obtain ⟨e2, qs, h2, hwl, hrp⟩ := pr
    rw [List.length_map] at hwl
    rw [List.length_map, List.take_length] at hrp
    exact hQ D H2 qs (fresh_back e hD) (e.trans e2) h2 hwl hrp
end
end CR
set_option maxRecDepth 100000
set_option maxHeartbeats 4000000
/-! Cycleready: what the tables say is due. -/
namespace CR
open PySem PySem.Spec PyProof.Rows L2 Evl
local macro_rules | `(tactic| walk_at "red") => `(tactic| dsimp only [tNext, tSeq, tRet, tRetN, tDrop, tIfS, tAsg, tPar, tTest, tB, tNot, tAnd, tOr, tCB, tCons, tNil, tCall, tOp, tUn, tVar, tC, tIf])
local macro_rules | `(tactic| walk_at "nrm") => `(tactic| dsimp only [gName, tNext])
/-- the law's chains stand for failed modules alone -/
theorem chains_failed {sn : List Str} {c : Core} {B : Nat} {g r : Graph} (hk : ROk B sn c g r) (hx : Okx sn c) {n : Str} (hn : n ∈ sn) : decide (n ∈ c.ch.map (·.1)) = decide (c.st n = "failed") := by
  by_cases h : c.st n = "failed"
  · rw [decide_eq_true h, decide_eq_true (hk.cst n hn h)]
  · rw [decide_eq_false h, decide_eq_false fun z => h (hx.chf n z)]
section
variable {P : Program} {w : World} {K : PySem.W.Frag} {mg : Str → Option Value} {base : Heap}
def sp_l_due (K : PySem.W.Frag) : Sp := Pm (fun x : MQ => [.ref (x.x.μ .m)]) fun x H Q => TabAt x.sn x.B x.g x.r x.x H ∧ Okx x.sn x.x.c ∧
  ∀ p H', Ex H H' → Rp H' (.ref p) (dueD x.sn x.x.c x.g x.r) → Q (.ref p) H'
theorem sp_l_due_len (K : PySem.W.Frag) : ∀ vs H Q E, sp_l_due K vs H Q E → vs.length = 1 := Pm.len fun _ => rfl
abbrev s_l_due : Stmt := (top 53)
theorem sc_l_due : FnScope ["_law_m", "_law_names", "_law_rows", "_law_name", "_law_exported", "_law_found", "_law_state"] ["_law_m"] (defScope s_l_due) := ⟨rfl, rfl, rfl, by decide +kernel, rfl, by decide +kernel, by decide +kernel⟩
theorem ok_l_due (T : Txt K mg) : Okd P w K mg base 2 (aF K "_law_due") ["_law_m"] (sp_l_due K) := by
  obtain ⟨fd, F⟩ := T.f_l_due
  refine Okd.mk F sc_l_due (sp_l_due_len K) (fun _ _ _ _ _ _ us hl => match us, hl with | [_], _ => rfl) (fun cdv A outer s H vs Q E hr h => ?_)
  have hu := hu_of hr
  refine ⟨_, (pss_cons (ps_set (i := 1) sc_l_due.nd rfl (Or.inl rfl) (pe_callB (call_sortedD rfl) (by rfl) T.b_sorted (by decide +kernel) (pa_cons (pe_dget hu (pv 0) pe_str (fun _ _ => rfl)) pa_nil)))
    (pss_cons (ps_set (i := 2) sc_l_due.nd rfl (Or.inl rfl) (pe_lst pa_nil))
    (pss_cons (ps_for PassesOwn.never rfl (pi_listK (K := K) rfl (pv 1)) (pg_name (i := 3) sc_l_due.nd rfl (Or.inl rfl) (Or.inl rfl))
    (pss_cons (ps_set (i := 4) sc_l_due.nd rfl (Or.inl rfl) (pe_callTy (call_dictPK (K := K) rfl rfl) (by rfl) T.b_dict (by decide +kernel) (pa_cons (pe_callB (cr_sortedIt rfl hr.units) (by rfl) T.b_sorted (by decide +kernel) (pa_cons (pe_bm0 PySem.F.plainAttrs_dict PySem.F.slot_dict_items PySem.F.type_dict_items mt_itemsK (pe_dget hu (pe_dget hu (pv 0) pe_str (fun _ _ => rfl)) (pv 3) (fun _ _ => rfl))) pa_nil)) pa_nil)))
    (pss_one (ps_expr (pe_bm PySem.F.plainAttrs_list PySem.F.slot_list_append PySem.F.type_list_append mt_append (pv 2) (pa_cons (pe_lst (pa_cons (pv 3) (pa_cons (pe_dget hu (pe_dget hu (pv 0) pe_str (fun _ _ => rfl)) (pv 3) (fun _ _ => rfl)) (pa_cons (pv 4) (pa_cons (pe_cmpR (op_in_seqK (K := K) rfl) (pv 3) (pe_dget hu (pv 0) pe_str (fun _ _ => rfl)) (by rfl)) pa_nil))))) pa_nil))))))
    (pss_cons (ps_set (i := 5) sc_l_due.nd rfl (Or.inl rfl) (pe_lst (pa_cons (pv 1) (pa_cons (pv 2) (pa_cons (pe_callB (cr_sortedP2K (K := K) rfl hr.units) (by rfl) T.b_sorted (by decide +kernel) (pa_cons (pe_dget hu (pv 0) pe_str (fun _ _ => rfl)) pa_nil)) (pa_cons (pe_callB (cr_sortedP2K (K := K) rfl hr.units) (by rfl) T.b_sorted (by decide +kernel) (pa_cons (pe_dget hu (pv 0) pe_str (fun _ _ => rfl)) pa_nil)) (pa_cons (pe_callB (cr_sortedP2K (K := K) rfl hr.units) (by rfl) T.b_sorted (by decide +kernel) (pa_cons (pe_dget hu (pv 0) pe_str (fun _ _ => rfl)) pa_nil)) pa_nil)))))))
    (pss_cons (ps_expr (pe_bm PySem.F.plainAttrs_list PySem.F.slot_list_append PySem.F.type_list_append mt_append (pv 5) (pa_cons (pe_lc (own := [("_law_name", 3)]) rfl sc_l_due.nd (pi_listK (K := K) rfl (pv 1)) (blkOk_by (own := [("_law_name", 3)]) (N := ["_law_m", "_law_names", "_law_rows", "_law_name", "_law_exported", "_law_found", "_law_state"]) (sc := defScope s_l_due) (by decide +kernel)) (fun _ _ _ _ _ => (pg_name (i := 3) sc_l_due.nd rfl (Or.inl rfl) (Or.inr rfl))) (fun _ _ _ _ _ => (pts_one (pt_cmp (pc_din hu (pv 3) (pe_dget hu (pv 0) pe_str (fun _ _ => rfl)))))) (fun _ _ _ _ _ => (pe_dget hu (pe_dget hu (pv 0) pe_str (fun _ _ => rfl)) (pv 3) (fun _ _ => rfl)))) pa_nil)))
    (pss_one (ps_ret (pe_op op_cat (pv 5) (pe_lc (own := [("_law_state", 6)]) rfl sc_l_due.nd (pi_tupK (K := K) rfl (pe_tup (pa_cons pe_str (pa_cons pe_str (pa_cons pe_str (pa_cons pe_str (pa_cons pe_str pa_nil))))))) (blkOk_by (own := [("_law_state", 6)]) (N := ["_law_m", "_law_names", "_law_rows", "_law_name", "_law_exported", "_law_found", "_law_state"]) (sc := defScope s_l_due) (by decide +kernel)) (fun _ _ _ _ _ => (pg_name (i := 6) sc_l_due.nd rfl (Or.inl rfl) (Or.inr rfl))) (fun _ _ _ _ _ => pts_nil) (fun _ _ _ _ _ => (pe_callO (ok_l_in (K := K) T) (hr.mono (by decide)) rfl T.g__law_in T.k__law_in (pa_cons (pv 0) (pa_cons (pv 6) pa_nil))))))))))))), ?_⟩
  obtain ⟨⟨sn, B, g, r, x⟩, rfl, ⟨hO, hk⟩, hx, k⟩ := h
  dsimp only at hO hk hx k
  have hns := hk.nsl
  have hsl := hk.ok.len
  -- the names
  refine ⟨_, rfl, _, _, rfl, hO.gsts, _, _, x.ns, rfl, Or.inl hO.sts, stsD_keys, by omega, fun ys a0 hpm hs ha0 => ?_⟩
  rw [srtD hO hk ys hpm hs]
  have e0 := Ex.new (o := HO.lst (sn.map V.str)) ha0
  have h0 : upd H a0 (.lst (sn.map V.str)) a0 = some (.lst (sn.map V.str)) := upd_same
  generalize upd H a0 (.lst (sn.map V.str)) = H0 at e0 h0 ⊢
  refine ⟨sz_of (n := 0) (by decide), fun L hL => ?_⟩
  -- the rows
  refine q_forLn (ev_var rfl) (sq_of ((Ex.new (o := HO.lst []) hL) _ _ h0)) (fun i σ' H' => ∃ y3 y4 ws, σ' = [some (.ref (x.μ .m)), some (.ref a0), some (.ref L), y3, y4, none, none] ∧ Ex H0 H' ∧ H' L = some (.lst ws) ∧ ws.length ≤ i ∧ RpAll (wo H' L) ws ((sn.take i).map (rowE x.c)))
    (fun H1 e1 => ⟨_, _, [], rfl, (Ex.new hL).trans e1, e1 _ _ upd_same, Nat.le_refl _, .nil⟩) (fun i σ' H' _ ⟨_, _, _, _, p, _⟩ => sq_of (p _ _ h0)) (fun i v σ' H' hi pr => ?_) (fun σ' H' pr => ?_)
  · obtain ⟨y3, y4, ws, rfl, e1, h1, hwl, hrp⟩ := pr
    obtain ⟨n, hn, rfl⟩ := at_map hi
    have hm := List.mem_of_getElem? hn
    have hmn := hk.mem.mpr hm
    have il := (List.getElem?_eq_some_iff.mp hn).1
    have tk : sn.take (i + 1) = sn.take i ++ [n] := by
      rw [List.take_add_one, hn]
      rfl
    have hO1 := hO.ex (e0.trans e1)
    have hxl := hk.ok.xln n hm
    have hxd := hk.ok.xnd n hm
    refine ⟨_, rfl, _, _, rfl, hO1.gexd, _, rfl, _, _, rfl, hO1.gex hmn, Or.inr (Or.inr (Or.inl ⟨rfl, Or.inl ⟨_, hO1.exi hmn⟩⟩)), _, _, rfl, rfl, Or.inl (hO1.exi hmn), fun p hp =>
      ⟨p, _, x.c.ex n, rfl, upd_same, Or.inl ((Ex.new hp) _ _ (hO1.exi hmn)), hxd, by omega, fun H2 t cs e2 ht hs hl hb => ⟨t, cs.map (·.1), dS V.int (cs.map (·.2)), rfl, sq_of (hl.trans (by rw [List.map_map]; rfl)), ?_, fun p2 hp2 => ?_⟩⟩⟩
    · unfold dS
      rw [List.map_map]
      clear hl hs
      induction cs with
      | nil => exact .nil
      | cons c cs ih => exact .cons (st_of (hb c List.mem_cons_self)) (ih fun b hb' => hb b (List.mem_cons_of_mem _ hb'))
    rw [hs, mergeK_dS (((srtI_perm _).map _).nodup_iff.mpr hxd)]
    have e3 := ((Ex.new hp).trans e2).trans (Ex.new (o := HO.dK (dS V.int (srtI (x.c.ex n)))) hp2)
    have h3 : upd H2 p2 (.dK (dS V.int (srtI (x.c.ex n)))) p2 = some (.dK (dS V.int (srtI (x.c.ex n)))) := upd_same
    have hp2L : p2 ≠ L := fun z => by
      rw [z, ((Ex.new hp).trans e2) _ _ h1] at hp2
      cases hp2
    generalize upd H2 p2 (.dK (dS V.int (srtI (x.c.ex n)))) = H3 at e3 h3 ⊢
    have hO3 := hO1.ex e3
    refine ⟨_, rfl, Or.inl ⟨rfl, ws, sq_of (e3 _ _ h1)⟩, _, rfl, _, rfl, _, _, rfl, hO3.gsts, _, rfl, _, _, rfl, hO3.gst hmn, _, rfl, _, rfl, _, rfl, _, _, rfl, hO3.ghel, x.μ .hel, _, rfl, Or.inl (sq_of hO3.hel), rfl, flat_strs2 x.c.held, ?_⟩
    rw [if_neg Bool.false_ne_true, inV_str]
    refine ⟨sz_of (n := 4) (by decide), fun b hb => ⟨L, ws, .ref b, rfl, rfl, (Ex.new hb) _ _ (e3 _ _ h1), sz_lt (by omega), _, _, ws ++ [.ref b], rfl, Ex.mut ((e1.trans e3).trans (Ex.new hb)) hL, upd_same, by rw [List.length_append]; show ws.length + 1 ≤ i + 1; omega, ?_⟩⟩
    have hbL : b ≠ L := fun z => by
      rw [z, e3 _ _ h1] at hb
      cases hb
    rw [wo_put, tk, List.map_append]
    refine (hrp.ex (wo_grow (e3.trans (Ex.new hb)))).snoc (.lst (wo_get upd_same hbL) (.cons (.str _) (.cons (.str _) (.cons (.dct (wo_get ((Ex.new hb) _ _ h3) hp2L)) (.cons (.bl _) .nil)))))
  · obtain ⟨y3, y4, ws, rfl, e1, h1, hwl, hrp⟩ := pr
    rw [List.length_map] at hwl
    rw [List.length_map, List.take_length] at hrp
    have hO1 := hO.ex (e0.trans e1)
    obtain ⟨l1, l2, l3, l4⟩ := hk.bln
    refine ⟨_, rfl, _, rfl, _, rfl, _, _, rfl, hO1.gnds, _, x.bn, rfl, sq_of hO1.nds, hO1.pn, by omega, fun cs1 q1 hc1 hs1 hq1 => ?_⟩
    have e2 := Ex.new (o := HO.lst (cs1.map fun b => V.ref b.1)) hq1
    have hO2 := hO1.ex e2
    have g1 : upd H' q1 (.lst (cs1.map fun b => V.ref b.1)) q1 = some (.lst (cs1.map fun b => V.ref b.1)) := upd_same
    have pr1 : Prs (upd H' q1 (.lst (cs1.map fun b => V.ref b.1))) cs1 := fun b hb => hO2.pn b (hc1.mem_iff.mp hb)
    have eL := e2 _ _ h1
    have rL := hrp.ex (wo_grow e2)
    have e12 := e1.trans e2
    generalize upd H' q1 (.lst (cs1.map fun b => V.ref b.1)) = H2 at hO2 g1 pr1 eL rL e12 ⊢
    clear hO1 e2 hrp h1 e1 hq1
    refine ⟨_, rfl, _, _, rfl, hO2.grcd, _, x.br, rfl, sq_of hO2.rcd, hO2.pr, by omega, fun cs2 q2 hc2 hs2 hq2 => ?_⟩
    have e3 := Ex.new (o := HO.lst (cs2.map fun b => V.ref b.1)) hq2
    have g2 : upd H2 q2 (.lst (cs2.map fun b => V.ref b.1)) q2 = some (.lst (cs2.map fun b => V.ref b.1)) := upd_same
    have hO3 := hO2.ex e3
    have pr2 : Prs (upd H2 q2 (.lst (cs2.map fun b => V.ref b.1))) cs2 := fun b hb => hO3.pr b (hc2.mem_iff.mp hb)
    have eL3 := e3 _ _ eL
    have rL3 := rL.ex (wo_grow e3)
    have e13 := e12.trans e3
    have g13 := e3 _ _ g1
    have pr13 := pr1.ex e3
    generalize upd H2 q2 (.lst (cs2.map fun b => V.ref b.1)) = H3 at hO3 g2 pr2 eL3 rL3 e13 g13 pr13 ⊢
    clear hO2 e3 rL eL e12 g1 pr1 hq2
    refine ⟨_, rfl, _, _, rfl, hO3.gear, _, x.be, rfl, sq_of hO3.ear, hO3.pe, by omega, fun cs3 q3 hc3 hs3 hq3 => ?_⟩
    have e4 := Ex.new (o := HO.lst (cs3.map fun b => V.ref b.1)) hq3
    have g3 : upd H3 q3 (.lst (cs3.map fun b => V.ref b.1)) q3 = some (.lst (cs3.map fun b => V.ref b.1)) := upd_same
    have hO4 := hO3.ex e4
    have pr3 : Prs (upd H3 q3 (.lst (cs3.map fun b => V.ref b.1))) cs3 := fun b hb => hO4.pe b (hc3.mem_iff.mp hb)
    have eL4 := e4 _ _ eL3
    have rL4 := rL3.ex (wo_grow e4)
    have e14 := e13.trans e4
    have g14 := e4 _ _ g13
    have pr14 := pr13.ex e4
    have g24 := e4 _ _ g2
    have pr24 := pr2.ex e4
    generalize upd H3 q3 (.lst (cs3.map fun b => V.ref b.1)) = H4 at hO4 g3 pr3 eL4 rL4 e14 g14 pr14 g24 pr24 ⊢
    clear hO3 e4 rL3 eL3 e13 g13 pr13 g2 pr2 hq3
    -- the five parts that are there
    have P : RpAll H4 [.ref a0, .ref L, .ref q1, .ref q2, .ref q3] [.list (sn.map .str), .list (sn.map (rowE x.c)), .list ((srtP (pairsG g)).map enc2), .list ((srtP (pairsG r)).map enc2), .list ((srtP x.c.early).map enc2)] := by
      refine .cons (rp_strs (e14 _ _ h0)) (.cons (.lst eL4 (rL4.ex wo_back)) (.cons (rp_pairs g14 pr14 ?_) (.cons (rp_pairs g24 pr24 ?_) (.cons (rp_pairs g3 pr3 ?_) .nil))))
      · rw [hs1]
        exact srtP_congr_set hk.nn (nodup_pairsG hk.ok.gok) fun p => (hk.ng p.1 p.2).trans (mem_pairsG hk.ok.gok).symm
      · rw [hs2]
        exact srtP_congr_set hk.rn (nodup_pairsG hk.ok.rok) fun p => (hk.rg p.1 p.2).trans (mem_pairsG hk.ok.rok).symm
      · rw [hs3, hk.be]
    clear rL4 eL4 pr14 pr24 pr3 g14 g24 g3
    have h04 := e14 _ _ h0
    refine ⟨sz_of (n := 5) (by decide), fun F hF => ?_⟩
    have eF := Ex.new (o := HO.lst [.ref a0, .ref L, .ref q1, .ref q2, .ref q3]) hF
    have hF5 : upd H4 F (.lst [.ref a0, .ref L, .ref q1, .ref q2, .ref q3]) F = some (.lst [.ref a0, .ref L, .ref q1, .ref q2, .ref q3]) := upd_same
    generalize upd H4 F (.lst [.ref a0, .ref L, .ref q1, .ref q2, .ref q3]) = H5 at eF hF5 ⊢
    have hO5 := hO4.ex eF
    refine ⟨_, rfl, Or.inl ⟨rfl, _, sq_of hF5⟩, ?_⟩
    refine lcL H4 sn V.str (chainC x.c) (fun n => decide (n ∈ x.c.ch.map (·.1))) eF (by omega) (fun R rr => ⟨_, rfl, a0, rfl, ⟨_, sq_of (eF _ _ h04)⟩, rr (Itl K a0) (fun H => SqL K H a0 (sn.map V.str)) H5 (Ex.refl _) walk_list fun H' e => sq_of (e _ _ (eF _ _ h04))⟩) (fun v => rfl)
      (fun n hn H' e H6 e6 Q q => ⟨_, rfl, _, rfl, _, _, rfl, (hO5.ex (e.trans e6)).gchd, _, _, rfl, dg_in (f := fun n => V.ref (x.μ (.cht n))) (k := n) (hO5.ex (e.trans e6)).chd, _, rfl, ?_⟩) (fun n hn hp H' e Q q => ?_) (fun D H6 qs hD e6 h6 hql hqs => ?_)
    · rw [some_map, lookG, some_map, in_isSome]
      exact q H6 (Ex.refl _)
    · have hch := of_decide_eq_true hp
      have hf := hx.chf n hch
      obtain ⟨lk, _⟩ := hk.ok.chain hn hf
      obtain ⟨c1, c2⟩ := (hO5.ex e).gch lk
      obtain ⟨_, c3⟩ := hO4.gch lk
      exact ⟨_, rfl, _, _, rfl, (hO5.ex e).gchd, _, rfl, _, _, rfl, c1, q _ H' (Ex.refl _) (Or.inr ⟨_, c3⟩) c2⟩
    · have nF : ∀ q, (H5 q = none ∨ ∃ o, H4 q = some o) → q ≠ F := fun q hq z => by
        rcases hq with u | ⟨o, u⟩
        · rw [z, hF5] at u
          cases u
        · rw [z, hF] at u
          cases u
      refine ⟨F, _, .ref D, rfl, rfl, e6 _ _ hF5, sz_lt (by show 5 < 100000; decide), ?_⟩
      have e7 : Ex H4 (upd H6 F (.lst ([.ref a0, .ref L, .ref q1, .ref q2, .ref q3] ++ [.ref D]))) := Ex.mut (eF.trans e6) hF
      have h7 : upd H6 F (.lst ([.ref a0, .ref L, .ref q1, .ref q2, .ref q3] ++ [.ref D])) F = some (.lst ([.ref a0, .ref L, .ref q1, .ref q2, .ref q3] ++ [.ref D])) := upd_same
      have P7 : RpAll (upd H6 F (.lst ([.ref a0, .ref L, .ref q1, .ref q2, .ref q3] ++ [.ref D]))) ([.ref a0, .ref L, .ref q1, .ref q2, .ref q3] ++ [.ref D]) _ := (P.ex e7).snoc (.lst ((upd_ne (nF D (Or.inl hD))).trans h6) (rpAll_paired (Paired.mono (fun q n h => (upd_ne (nF q h.1)).trans h.2.2) hqs)))
      generalize upd H6 F (.lst ([.ref a0, .ref L, .ref q1, .ref q2, .ref q3] ++ [.ref D])) = H7 at e7 h7 P7 ⊢
      have hO7 := hO4.ex e7
      have ec : sn.filter (fun n => decide (n ∈ x.c.ch.map (·.1))) = inC sn x.c "failed" := List.filter_congr fun n hn => chains_failed hk.ok hx hn
      rw [ec] at P7
      refine ⟨_, rfl, ?_⟩
      refine lcL H7 states V.str (fun st => inC sn x.c st) (fun _ => true) (Ex.refl _) (by decide) (fun R rr => ⟨sz_of (n := 5) (by decide), fun tp htp => ⟨tp, rfl, ⟨_, st_of upd_same⟩, rr (Itt K tp) (fun H => SqT K H tp (states.map V.str)) _ (Ex.new htp) walk_tup fun H' e => st_of (e _ _ upd_same)⟩⟩) (fun v => rfl)
        (fun n hn H' e H6 e6 Q q => q H6 (Ex.refl _)) (fun st hst hp H' e Q q => ⟨_, rfl, _, rfl, (⟨sn, B, g, r, x⟩, st), rfl, ⟨hO7.ex e, hk⟩, fun p H2 hp e2 h2 => q p H2 e2 (Or.inl hp) h2⟩) (fun D2 H8 ps hD2 e8 h8 hpl hps => ?_)
      have hlen : ([.ref a0, .ref L, .ref q1, .ref q2, .ref q3] ++ [.ref D] : List V).length + (ps.map V.ref).length ≤ 100000 := by
        rw [List.length_map]
        show 6 + ps.length ≤ 100000
        have : states.length = 5 := rfl
        omega
      refine ⟨F, D2, _, _, rfl, rfl, e8 _ _ h7, h8, sz_of hlen, fun z hz => k z _ ((((e0.trans e14).trans e7).trans e8).trans (Ex.new hz)) (.lst upd_same ?_)⟩
      exact ((P7.ex e8).app (rpAll_paired (Paired.mono (fun q n h => h.2.2) hps))).ex (Ex.new hz)
end
end CR
set_option maxRecDepth 100000
set_option maxHeartbeats 4000000
/-! Cycleready: what the registry shows. -/
namespace CR
open PySem PySem.Spec PyProof.Rows L2 Evl
local macro_rules | `(tactic| walk_at "red") => `(tactic| dsimp only [tNext, tSeq, tRet, tRetN, tDrop, tIfS, tAsg, tPar, tTest, tB, tNot, tAnd, tOr, tCB, tCons, tNil, tCall, tOp, tUn, tVar, tC, tIf])
local macro_rules | `(tactic| walk_at "nrm") => `(tactic| dsimp only [gName, tNext])
/-- what is shown is new: its parts, its rows' dicts -/
structure Told (H0 H : Hp) (p a0 a1 : Addr) (bs rs : List Addr) : Prop where
  hp : H p = some (.lst (V.ref a0 :: V.ref a1 :: bs.map V.ref))
  h1 : H a1 = some (.lst (rs.map V.ref))
  bl : bs.length ≤ 20
  rl : rs.length ≤ 40
  pt : ∀ a ∈ a0 :: bs, H0 a = none ∧ a ≠ p ∧ a ≠ a1 ∧ a ∉ rs ∧ ∃ xs, H a = some (.lst xs) ∧ xs.length ≤ 20000
  rw_ : ∀ b ∈ rs, ∃ v0 v1 d v3 l, H b = some (.lst [v0, v1, .ref d, v3]) ∧ H0 d = none ∧ H d = some (.dK (dS V.int l)) ∧ l.length ≤ 3
theorem inC_len {sn : List Str} {c : Core} {st : Str} : (inC sn c st).length ≤ sn.length := List.length_filter_le _ _
section
variable {P : Program} {w : World} {K : PySem.W.Frag} {mg : Str → Option Value} {base : Heap}
def sp_l_shown (K : PySem.W.Frag) : Sp := Pm (fun x : RX => [.ref (x.ρ .reg)]) fun x H Q => RegAt K x H ∧ Okx x.sn x.c ∧
  ∀ p H' a0 a1 bs rs, Ex H H' → Rp H' (.ref p) (dueD x.sn x.c x.g x.r) → Told H H' p a0 a1 bs rs → Q (.ref p) H'
theorem sp_l_shown_len (K : PySem.W.Frag) : ∀ vs H Q E, sp_l_shown K vs H Q E → vs.length = 1 := Pm.len fun _ => rfl
abbrev s_l_shown : Stmt := (top 54)
theorem sc_l_shown : FnScope ["_law_here", "_law_names", "_law_rows", "_law_name", "_law_row_here", "_law_found", "_law_state"] ["_law_here"] (defScope s_l_shown) := ⟨rfl, rfl, rfl, by decide +kernel, rfl, by decide +kernel, by decide +kernel⟩
theorem ok_l_shown (T : Txt K mg) : Okd P w K mg base 5 (aF K "_law_shown") ["_law_here"] (sp_l_shown K) := by
  obtain ⟨fd, F⟩ := T.f_l_shown
  refine Okd.mk F sc_l_shown (sp_l_shown_len K) (fun _ _ _ _ _ _ us hl => match us, hl with | [_], _ => rfl) (fun cdv A outer s H vs Q E hr h => ?_)
  have hu := hu_of hr
  refine ⟨_, (pss_cons (ps_set (i := 1) sc_l_shown.nd rfl (Or.inl rfl) (pe_methO0 (pv 0) T.cl_Registry T.m_Registry_names (ok_R_names (K := K) T) (hr.mono (by decide))))
    (pss_cons (ps_set (i := 2) sc_l_shown.nd rfl (Or.inl rfl) (pe_lst pa_nil))
    (pss_cons (ps_for PassesOwn.never rfl (pi_listK (K := K) rfl (pv 1)) (pg_name (i := 3) sc_l_shown.nd rfl (Or.inl rfl) (Or.inl rfl))
    (pss_cons (ps_set (i := 4) sc_l_shown.nd rfl (Or.inl rfl) (pe_lst (pa_cons (pv 3) (pa_cons (pe_methO (pv 0) T.cl_Registry T.m_Registry_state_of (ok_R_state_of (K := K) T) (hr.mono (by decide)) (pa_cons (pv 3) pa_nil)) (pa_cons (pe_methO (pv 0) T.cl_Registry T.m_Registry_exports (ok_R_exports (K := K) T) (hr.mono (by decide)) (pa_cons (pv 3) pa_nil)) pa_nil)))))
    (pss_one (ps_expr (pe_bm PySem.F.plainAttrs_list PySem.F.slot_list_append PySem.F.type_list_append mt_append (pv 2) (pa_cons (pe_op op_cat (pv 4) (pe_lst (pa_cons (pe_methO (pv 0) T.cl_Registry T.m_Registry_is_held (ok_R_is_held (K := K) T) (hr.mono (by decide)) (pa_cons (pv 3) pa_nil)) pa_nil))) pa_nil))))))
    (pss_cons (ps_set (i := 5) sc_l_shown.nd rfl (Or.inl rfl) (pe_lst (pa_cons (pv 1) (pa_cons (pv 2) (pa_cons (pe_methO0 (pe_methO0 (pv 0) T.cl_Registry T.m_Registry_needs (ok_R_needs (K := K) T) (hr.mono (by decide))) T.cl_Needs T.m_Needs_pairs (ok_N_pairs (K := K) T) (hr.mono (by decide))) (pa_cons (pe_methO0 (pe_methO0 (pv 0) T.cl_Registry T.m_Registry_recorded (ok_R_recorded (K := K) T) (hr.mono (by decide))) T.cl_Needs T.m_Needs_pairs (ok_N_pairs (K := K) T) (hr.mono (by decide))) (pa_cons (pe_methO0 (pv 0) T.cl_Registry T.m_Registry_early (ok_R_early (K := K) T) (hr.mono (by decide))) pa_nil)))))))
    (pss_cons (ps_expr (pe_bm PySem.F.plainAttrs_list PySem.F.slot_list_append PySem.F.type_list_append mt_append (pv 5) (pa_cons (pe_lc (own := [("_law_name", 3)]) rfl sc_l_shown.nd (pi_listK (K := K) rfl (pe_methO (pv 0) T.cl_Registry T.m_Registry_in_state (ok_R_in_state (K := K) T) (hr.mono (by decide)) (pa_cons pe_str pa_nil))) (blkOk_by (own := [("_law_name", 3)]) (N := ["_law_here", "_law_names", "_law_rows", "_law_name", "_law_row_here", "_law_found", "_law_state"]) (sc := defScope s_l_shown) (by decide +kernel)) (fun _ _ _ _ _ => (pg_name (i := 3) sc_l_shown.nd rfl (Or.inl rfl) (Or.inr rfl))) (fun _ _ _ _ _ => pts_nil) (fun _ _ _ _ _ => (pe_methO (pv 0) T.cl_Registry T.m_Registry_chain (ok_R_chain (K := K) T) (hr.mono (by decide)) (pa_cons (pv 3) pa_nil)))) pa_nil)))
    (pss_one (ps_ret (pe_op op_cat (pv 5) (pe_lc (own := [("_law_state", 6)]) rfl sc_l_shown.nd (pi_tupK (K := K) rfl (pe_tup (pa_cons pe_str (pa_cons pe_str (pa_cons pe_str (pa_cons pe_str (pa_cons pe_str pa_nil))))))) (blkOk_by (own := [("_law_state", 6)]) (N := ["_law_here", "_law_names", "_law_rows", "_law_name", "_law_row_here", "_law_found", "_law_state"]) (sc := defScope s_l_shown) (by decide +kernel)) (fun _ _ _ _ _ => (pg_name (i := 6) sc_l_shown.nd rfl (Or.inl rfl) (Or.inr rfl))) (fun _ _ _ _ _ => pts_nil) (fun _ _ _ _ _ => (pe_methO (pv 0) T.cl_Registry T.m_Registry_in_state (ok_R_in_state (K := K) T) (hr.mono (by decide)) (pa_cons (pv 6) pa_nil)))))))))))), ?_⟩
  obtain ⟨x, rfl, hR, hx, k⟩ := h
  have hsl := hR.ok.len
  -- the names
  refine ⟨_, rfl, _, _, _, rfl, hR.reg, rfl, x, rfl, hR, fun a0 H0 ha0 e0 h0 => ?_⟩
  refine ⟨sz_of (n := 0) (by decide), fun L hL => ?_⟩
  have ha0L : a0 ≠ L := ne_of_none h0 hL
  -- the rows
  refine q_forLn (ev_var rfl) (sq_of ((Ex.new (o := HO.lst []) hL) _ _ h0)) (fun i σ' H' => ∃ y3 y4 rs, σ' = [some (.ref (x.ρ .reg)), some (.ref a0), some (.ref L), y3, y4, none, none] ∧ Ex H0 H' ∧ H' L = some (.lst (rs.map V.ref)) ∧ rs.length ≤ i ∧ RpAll (wo H' L) (rs.map V.ref) ((x.sn.take i).map (rowE x.c)) ∧
      ∀ b ∈ rs, b ≠ L ∧ H0 b = none ∧ ∃ v0 v1 d v3 l, H' b = some (.lst [v0, v1, .ref d, v3]) ∧ H0 d = none ∧ H' d = some (.dK (dS V.int l)) ∧ l.length ≤ 3)
    (fun H1 e1 => ⟨_, _, [], rfl, (Ex.new hL).trans e1, e1 _ _ upd_same, Nat.le_refl _, .nil, fun b hb => absurd hb (by simp)⟩) (fun i σ' H' _ ⟨_, _, _, _, p, _⟩ => sq_of (p _ _ h0)) (fun i v σ' H' hi pr => ?_) (fun σ' H' pr => ?_)
  · obtain ⟨y3, y4, rs, rfl, e1, h1, hwl, hrp, hrs⟩ := pr
    obtain ⟨n, hn, rfl⟩ := at_map hi
    have hm := List.mem_of_getElem? hn
    have il := (List.getElem?_eq_some_iff.mp hn).1
    have tk : x.sn.take (i + 1) = x.sn.take i ++ [n] := by
      rw [List.take_add_one, hn]
      rfl
    have hR1 := hR.ex (e0.trans e1)
    have hxl := hR.ok.xln n hm
    refine ⟨_, rfl, _, rfl, _, _, _, rfl, hR1.reg, rfl, _, rfl, (x, n), rfl, hR1, hm, fun H2 e2 => ⟨_, rfl, _, _, _, rfl, (hR1.ex e2).reg, rfl, _, rfl, (x, n), rfl, hR1.ex e2, hm, fun d H3 e3 hd h3 => ⟨sz_of (n := 3) (by decide), fun t ht => ?_⟩⟩⟩
    have e4 := (e2.trans e3).trans (Ex.new (o := HO.lst [V.str n, V.str (x.c.st n), V.ref d]) ht)
    have h4 : upd H3 t (.lst [V.str n, V.str (x.c.st n), V.ref d]) t = some (.lst [V.str n, V.str (x.c.st n), V.ref d]) := upd_same
    have d4 := (Ex.new (o := HO.lst [V.str n, V.str (x.c.st n), V.ref d]) ht) _ _ h3
    have hd1 : H' d = none := fresh_back e2 hd
    generalize upd H3 t (.lst [V.str n, V.str (x.c.st n), V.ref d]) = H4 at e4 h4 d4 ⊢
    have hR4 := hR1.ex e4
    refine ⟨_, rfl, Or.inl ⟨rfl, _, sq_of (e4 _ _ h1)⟩, _, rfl, _, rfl, _, _, _, rfl, hR4.reg, rfl, _, rfl, (x, n), rfl, hR4, hm, fun H5 e5 => ⟨sz_of (n := 1) (by decide), fun u hu => ⟨t, u, _, _, rfl, rfl, (Ex.new hu) _ _ (e5 _ _ h4), upd_same, sz_of (n := 4) (by decide), fun b hb => ?_⟩⟩⟩
    have e6 := (e4.trans e5).trans (Ex.new (o := HO.lst [V.bl (decide (n ∈ x.c.held))]) hu)
    have e7 := e6.trans (Ex.new (o := HO.lst ([V.str n, V.str (x.c.st n), V.ref d] ++ [V.bl (decide (n ∈ x.c.held))])) hb)
    have hb1 : H' b = none := fresh_back e6 hb
    have hbL : b ≠ L := fun z => by rw [z, h1] at hb1; cases hb1
    have hdL : d ≠ L := fun z => by rw [z, h1] at hd1; cases hd1
    have d7 := ((e5.trans (Ex.new (o := HO.lst [V.bl (decide (n ∈ x.c.held))]) hu)).trans (Ex.new (o := HO.lst ([V.str n, V.str (x.c.st n), V.ref d] ++ [V.bl (decide (n ∈ x.c.held))])) hb)) _ _ d4
    have h7 : upd (upd H5 u (.lst [V.bl (decide (n ∈ x.c.held))])) b (.lst ([V.str n, V.str (x.c.st n), V.ref d] ++ [V.bl (decide (n ∈ x.c.held))])) b = some (.lst [V.str n, V.str (x.c.st n), V.ref d, V.bl (decide (n ∈ x.c.held))]) := upd_same
    generalize upd (upd H5 u (.lst [V.bl (decide (n ∈ x.c.held))])) b (.lst ([V.str n, V.str (x.c.st n), V.ref d] ++ [V.bl (decide (n ∈ x.c.held))])) = H7 at e7 d7 h7 ⊢
    refine ⟨L, _, .ref b, rfl, rfl, e7 _ _ h1, by rw [List.length_map]; exact sz_lt (by omega), _, _, rs ++ [b], rfl, Ex.mut (e1.trans e7) hL, by rw [List.map_append]; exact upd_same, by rw [List.length_append]; show rs.length + 1 ≤ i + 1; omega, ?_, fun c hc => ?_⟩
    · rw [wo_put, tk, List.map_append, List.map_append]
      exact (hrp.ex (wo_grow e7)).snoc (.lst (wo_get h7 hbL) (.cons (.str _) (.cons (.str _) (.cons (.dct (wo_get d7 hdL)) (.cons (.bl _) .nil)))))
    · rcases List.mem_append.mp hc with z | z
      · obtain ⟨c1, c2, v0, v1, d', v3, l, c3, c4, c5, c6⟩ := hrs c z
        refine ⟨c1, c2, v0, v1, d', v3, l, (upd_ne c1).trans (e7 _ _ c3), c4, ?_, c6⟩
        have : d' ≠ L := fun z => by rw [z, h1] at c5; cases c5
        exact (upd_ne this).trans (e7 _ _ c5)
      · rw [List.mem_singleton.mp z]
        exact ⟨hbL, fresh_back e1 hb1, _, _, d, _, srtI (x.c.ex n), (upd_ne hbL).trans h7, fresh_back e1 hd1, (upd_ne hdL).trans d7, by rw [(srtI_perm _).length_eq]; exact hxl⟩
  · obtain ⟨y3, y4, rs, rfl, e1, h1, hwl, hrp, hrs⟩ := pr
    rw [List.length_map] at hwl
    rw [List.length_map, List.take_length] at hrp
    have hR1 := hR.ex (e0.trans e1)
    have gl := hR.ok
    have pl : ∀ {G : Graph}, GOk G → GIn x.sn G → (pairsG G).length ≤ 1600 := fun {G} h1 h2 => pairs_len hsl (nodup_pairsG h1) fun p hp => h2.tg ((mem_pairsG h1 (a := p.1) (b := p.2)).mp hp)
    have pl1 := pl gl.gok gl.gin
    have pl2 := pl gl.rok gl.rin
    refine ⟨_, rfl, _, rfl, _, rfl, _, _, _, rfl, hR1.reg, rfl, x, rfl, hR1, fun ν1 H2 e2 hN1 _ => ⟨_, _, _, rfl, hN1.pi, rfl, (ν1, x.g), rfl, hN1, gl.gok, by show (pairsG x.g).length ≤ 10000; omega, fun b1 q1 H3 e3 hq1 hb1 pr1 g1 => ?_⟩⟩
    have e13 := e2.trans e3
    have hR3 := hR1.ex e13
    refine ⟨_, rfl, _, _, _, rfl, hR3.reg, rfl, x, rfl, hR3, fun ν2 H4 e4 hN2 _ => ⟨_, _, _, rfl, hN2.pi, rfl, (ν2, x.r), rfl, hN2, gl.rok, by show (pairsG x.r).length ≤ 10000; omega, fun b2 q2 H5 e5 hq2 hb2 pr2 g2 => ?_⟩⟩
    have e35 := e4.trans e5
    have hR5 := hR3.ex e35
    refine ⟨_, rfl, _, _, _, rfl, hR5.reg, rfl, x, rfl, hR5, fun b3 q3 H6 e6 hq3 hb3 pr3 g3 => ?_⟩
    have e16 := (e13.trans e35).trans e6
    have P : RpAll H6 [.ref a0, .ref L, .ref q1, .ref q2, .ref q3] [.list (x.sn.map .str), .list (x.sn.map (rowE x.c)), .list ((srtP (pairsG x.g)).map enc2), .list ((srtP (pairsG x.r)).map enc2), .list ((srtP x.c.early).map enc2)] :=
      .cons (rp_strs ((e1.trans e16) _ _ h0)) (.cons (.lst (e16 _ _ h1) ((hrp.ex (wo_grow e16)).ex wo_back)) (.cons (rp_pairs ((e35.trans e6) _ _ g1) (pr1.ex (e35.trans e6)) hb1) (.cons (rp_pairs (e6 _ _ g2) (pr2.ex e6) hb2) (.cons (rp_pairs g3 pr3 hb3) .nil))))
    have f1 : H' q1 = none := fresh_back e2 hq1
    have f2 : H' q2 = none := fresh_back (e13.trans e4) hq2
    have f3 : H' q3 = none := fresh_back (e13.trans e35) hq3
    have l1 := congrArg List.length hb1
    have l2 := congrArg List.length hb2
    have l3 := congrArg List.length hb3
    rw [List.length_map, length_srtP] at l1 l2 l3
    dsimp only at l1 l2 l3
    have pl3 := gl.elen
    refine ⟨sz_of (n := 5) (by decide), fun F hF => ?_⟩
    have eF := Ex.new (o := HO.lst [.ref a0, .ref L, .ref q1, .ref q2, .ref q3]) hF
    have hF7 : upd H6 F (.lst [.ref a0, .ref L, .ref q1, .ref q2, .ref q3]) F = some (.lst [.ref a0, .ref L, .ref q1, .ref q2, .ref q3]) := upd_same
    have hR6 := hR5.ex e6
    generalize upd H6 F (.lst [.ref a0, .ref L, .ref q1, .ref q2, .ref q3]) = H7 at eF hF7 ⊢
    have hR7 := hR6.ex eF
    have hfl : ∀ n ∈ inC x.sn x.c "failed", n ∈ x.sn ∧ x.c.st n = "failed" := fun n hn => ⟨(List.mem_filter.mp hn).1, of_decide_eq_true (List.mem_filter.mp hn).2⟩
    refine ⟨_, rfl, Or.inl ⟨rfl, _, sq_of hF7⟩, ?_⟩
    refine lcL (fun _ => none) (inC x.sn x.c "failed") V.str (chainC x.c) (fun _ => true) (fun _ _ h => nomatch h) (Nat.lt_of_le_of_lt inC_len (by omega)) (fun R rr => ⟨_, rfl, _, _, _, rfl, hR7.reg, rfl, (x, .str "failed"), rfl, hR7, Or.inl ⟨"failed", rfl, by decide, fun p H8 hp e8 h8 => ⟨p, rfl, ⟨_, sq_of h8⟩, rr (Itl K p) (fun H => SqL K H p ((inC x.sn x.c "failed").map V.str)) H8 e8 walk_list fun H' e => sq_of (e _ _ h8)⟩⟩⟩) (fun v => rfl)
      (fun n hn H' e H6 e6 Q q => q H6 (Ex.refl _)) (fun n hn hp H' e Q q => ⟨_, rfl, _, _, _, rfl, (hR7.ex e).reg, rfl, _, rfl, (x, n), rfl, hR7.ex e, (hfl n hn).1, (hfl n hn).2, fun p H2 hp e2 h2 => q p H2 e2 (Or.inl hp) h2⟩) (fun D H8 qs hD e8 h8 hql hqs => ?_)
    rw [List.filter_eq_self.mpr fun _ _ => rfl] at hqs
    have hDF : D ≠ F := fun z => by rw [z, hF7] at hD; cases hD
    refine ⟨F, _, .ref D, rfl, rfl, e8 _ _ hF7, sz_lt (by show 5 < 100000; decide), ?_⟩
    have e9 : Ex H6 (upd H8 F (.lst ([.ref a0, .ref L, .ref q1, .ref q2, .ref q3] ++ [.ref D]))) := Ex.mut (eF.trans e8) hF
    have h9 : upd H8 F (.lst ([.ref a0, .ref L, .ref q1, .ref q2, .ref q3] ++ [.ref D])) F = some (.lst ([.ref a0, .ref L, .ref q1, .ref q2, .ref q3] ++ [.ref D])) := upd_same
    have hD9 : upd H8 F (.lst ([.ref a0, .ref L, .ref q1, .ref q2, .ref q3] ++ [.ref D])) D = some (.lst (qs.map V.ref)) := (upd_ne hDF).trans h8
    have P9 : RpAll (upd H8 F (.lst ([.ref a0, .ref L, .ref q1, .ref q2, .ref q3] ++ [.ref D]))) ([.ref a0, .ref L, .ref q1, .ref q2, .ref q3] ++ [.ref D]) _ := (P.ex e9).snoc (.lst hD9 (rpAll_paired (Paired.mono (fun q n h => (upd_ne (fun z => by
      rcases h.1 with u | ⟨o, u⟩
      · rw [z, hF7] at u
        cases u
      · cases u)).trans h.2.2) hqs)))
    generalize upd H8 F (.lst ([.ref a0, .ref L, .ref q1, .ref q2, .ref q3] ++ [.ref D])) = H9 at e9 h9 hD9 P9 ⊢
    have hR9 := hR6.ex e9
    refine ⟨_, rfl, ?_⟩
    refine lcL (fun _ => none) states V.str (fun st => inC x.sn x.c st) (fun _ => true) (fun _ _ h => nomatch h) (by decide) (fun R rr => ⟨sz_of (n := 5) (by decide), fun tp htp => ⟨tp, rfl, ⟨_, st_of upd_same⟩, rr (Itt K tp) (fun H => SqT K H tp (states.map V.str)) _ (Ex.new htp) walk_tup fun H' e => st_of (e _ _ upd_same)⟩⟩) (fun v => rfl)
      (fun n hn H' e H6 e6 Q q => q H6 (Ex.refl _)) (fun st hst hp H' e Q q => ⟨_, rfl, _, _, _, rfl, (hR9.ex e).reg, rfl, _, rfl, (x, .str st), rfl, hR9.ex e, Or.inl ⟨st, rfl, hst, fun p H2 hp e2 h2 => q p H2 e2 (Or.inl hp) h2⟩⟩) (fun D2 H10 ps hD2 e10 h10 hpl hps => ?_)
    rw [List.filter_eq_self.mpr fun _ _ => rfl] at hps
    have hps' : ∀ a ∈ ps, H9 a = none ∧ ∃ st, H10 a = some (.lst ((inC x.sn x.c st).map V.str)) := fun a ha => by
      have : ∀ {as : List Addr} {bs : List Str}, Paired (fun q n => (H9 q = none ∨ ∃ o, (none : Option HO) = some o) ∧ q ≠ D2 ∧ H10 q = some (.lst ((inC x.sn x.c n).map V.str))) as bs → ∀ a ∈ as, H9 a = none ∧ ∃ st, H10 a = some (.lst ((inC x.sn x.c st).map V.str)) := fun {as bs} h => by
        induction h with
        | nil => exact fun a ha => absurd ha (by simp)
        | cons h _ ih =>
          intro a ha
          rcases List.mem_cons.mp ha with z | z
          · rw [z]
            exact ⟨h.1.elim id (fun ⟨o, u⟩ => nomatch u), _, h.2.2⟩
          · exact ih a z
      exact this hps a ha
    have hstl : states.length = 5 := rfl
    have hlen : ([.ref a0, .ref L, .ref q1, .ref q2, .ref q3] ++ [.ref D] : List V).length + (ps.map V.ref).length ≤ 100000 := by
      rw [List.length_map]
      show 6 + ps.length ≤ 100000
      omega
    refine ⟨F, D2, _, _, rfl, rfl, e10 _ _ h9, h10, sz_of hlen, fun z hz => ?_⟩
    have e11 := Ex.new (o := HO.lst ([.ref a0, .ref L, .ref q1, .ref q2, .ref q3] ++ [.ref D] ++ ps.map V.ref)) hz
    have e6z := (e9.trans e10).trans e11
    have e1z := e16.trans e6z
    have e0z := e1.trans e1z
    have ehz : Ex H (upd H10 z (.lst ([.ref a0, .ref L, .ref q1, .ref q2, .ref q3] ++ [.ref D] ++ ps.map V.ref))) := e0.trans e0z
    have nz : ∀ {a : Addr} {o : HO}, H10 a = some o → a ≠ z := fun h => ne_of_none h hz
    have fresh : ∀ a, H' a = none → H a = none ∧ a ≠ L ∧ a ∉ rs := fun a ha => ⟨fresh_back (e0.trans e1) ha, fun u => (by rw [u, h1] at ha; cases ha), fun u => by
      obtain ⟨_, _, _, _, _, _, _, c3, _⟩ := hrs a u
      rw [c3] at ha
      cases ha⟩
    have e610 := e9.trans e10
    refine k z _ a0 L (q1 :: q2 :: q3 :: D :: ps) rs ehz (.lst upd_same (((P9.ex e10).app (rpAll_paired (Paired.mono (fun q n h => h.2.2) hps))).ex e11)) ⟨upd_same, e1z _ _ h1, by show ps.length + 4 ≤ 20; omega, by omega, fun a ha => ?_, fun b hb => ?_⟩
    · rcases List.mem_cons.mp ha with u | u
      · rw [u]
        exact ⟨ha0, nz ((e1.trans (e16.trans e610)) _ _ h0), ha0L, fun v => (by have := (hrs a0 v).2.1; rw [h0] at this; cases this), _, e0z _ _ h0, by rw [List.length_map]; omega⟩
      rcases List.mem_cons.mp u with u | u
      · rw [u]
        obtain ⟨c1, c2, c3⟩ := fresh q1 f1
        have g := (e35.trans e6) _ _ g1
        exact ⟨c1, nz (e610 _ _ g), c2, c3, _, e6z _ _ g, by unfold refsB; rw [List.length_map]; omega⟩
      rcases List.mem_cons.mp u with u | u
      · rw [u]
        obtain ⟨c1, c2, c3⟩ := fresh q2 f2
        have g := e6 _ _ g2
        exact ⟨c1, nz (e610 _ _ g), c2, c3, _, e6z _ _ g, by unfold refsB; rw [List.length_map]; omega⟩
      rcases List.mem_cons.mp u with u | u
      · rw [u]
        obtain ⟨c1, c2, c3⟩ := fresh q3 f3
        exact ⟨c1, nz (e610 _ _ g3), c2, c3, _, e6z _ _ g3, by unfold refsB; rw [List.length_map]; omega⟩
      rcases List.mem_cons.mp u with u | u
      · rw [u]
        obtain ⟨c1, c2, c3⟩ := fresh D (fresh_back (e16.trans eF) hD)
        have := inC_len (sn := x.sn) (c := x.c) (st := "failed")
        exact ⟨c1, nz (e10 _ _ hD9), c2, c3, _, (e10.trans e11) _ _ hD9, by rw [List.length_map]; omega⟩
      · obtain ⟨d1, st, d2⟩ := hps' a u
        obtain ⟨c1, c2, c3⟩ := fresh a (fresh_back (e16.trans e9) d1)
        have := inC_len (sn := x.sn) (c := x.c) (st := st)
        exact ⟨c1, nz d2, c2, c3, _, e11 _ _ d2, by rw [List.length_map]; omega⟩
    · obtain ⟨c1, c2, v0, v1, d, v3, l, c3, c4, c5, c6⟩ := hrs b hb
      exact ⟨v0, v1, d, v3, l, e1z _ _ c3, fresh_back e0 c4, e1z _ _ c5, c6⟩
end
end CR
set_option maxRecDepth 100000
set_option maxHeartbeats 4000000
/-! Cycleready: the registry and the tables beside each other; their answers. -/
namespace CR
open PySem PySem.Spec PyProof.Rows L2 Evl
local macro_rules | `(tactic| walk_at "red") => `(tactic| dsimp only [tNext, tSeq, tRet, tRetN, tDrop, tIfS, tAsg, tPar, tTest, tB, tNot, tAnd, tOr, tCB, tCons, tNil, tCall, tOp, tUn, tVar, tC, tIf])
local macro_rules | `(tactic| walk_at "nrm") => `(tactic| dsimp only [gName, tNext])
/-- the registry and the law's tables tell the same -/
structure Rel (K : PySem.W.Frag) (xr : RX) (x : MX) (H : Hp) : Prop where
  R : RegAt K xr H
  T : TabAt xr.sn xr.B xr.g xr.r x H
  c : x.c = xr.c
  d : ∀ a, own xr.ρ (CRg K xr) a → ¬ own x.μ (CM x) a
  x : Okx xr.sn xr.c
theorem Rel.ex {K : PySem.W.Frag} {xr : RX} {x : MX} {H H' : Hp} (h : Rel K xr x H) (e : Ex H H') : Rel K xr x H' := ⟨h.R.ex e, h.T.ex e, h.c, h.d, h.x⟩
def mq (xr : RX) (x : MX) : MQ := ⟨xr.sn, xr.B, xr.g, xr.r, x⟩
/-- a for over a list, the list there -/
theorem q_list {K : PySem.W.Frag} {a : Addr} {xs : List V} {g : TG} {tu : TS} {tz : TS} {D : Ends} {σ : L2.St} {H : Hp} (Pv : Nat → L2.St → Hp → Prop) (h0 : Pv 0 σ H) (hl : ∀ i σ' H', i ≤ xs.length → Pv i σ' H' → SqL K H' a xs)
    (hs : ∀ i x σ' H', xs[i]? = some x → Pv i σ' H' → g x σ' H' fun σ2 H2 => tu { D with nx := Pv (i + 1), ct := Pv (i + 1), bk := tz D } σ2 H2) (hd : ∀ σ' H', Pv xs.length σ' H' → tz D σ' H') :
    ∃ W : Nat → Nat → L2.St → Hp → Prop, (∃ m, W 0 m σ H) ∧ ∀ i m σ H, W i m σ H → ((Itl K a).stop i H ∧ tz D σ H) ∨ ((Itl K a).go i H ∧ ∃ N : L2.St → Hp → Prop, (∀ σ' H', N σ' H' → ∃ m', m' < m ∧ W (i + 1) m' σ' H') ∧
      ∀ x H', (Itl K a).yld i H x H' → g x σ H' fun σ2 H2 => tu { D with nx := N, ct := N, bk := tz D } σ2 H2) := for_list (D := { D with nx := tz D }) Pv h0 hl hs hd
section
variable {P : Program} {w : World} {K : PySem.W.Frag} {mg : Str → Option Value} {base : Heap}
def sp_l_answers_right (K : PySem.W.Frag) : Sp := Pm (fun x : RX × MX => [.ref (x.1.ρ .reg), .ref (x.2.μ .m)]) fun x H Q => Rel K x.1 x.2 H ∧ RetV (.bl true) H Q
theorem sp_l_answers_right_len (K : PySem.W.Frag) : ∀ vs H Q E, sp_l_answers_right K vs H Q E → vs.length = 2 := Pm.len fun _ => rfl
abbrev s_l_answers_right : Stmt := (top 55)
theorem sc_l_answers_right : FnScope ["_law_here", "_law_m", "_law_running", "_law_source", "_law_target", "_law_pair", "_law_name"] ["_law_here", "_law_m"] (defScope s_l_answers_right) := ⟨rfl, rfl, rfl, by decide +kernel, rfl, by decide +kernel, by decide +kernel⟩
theorem ok_l_answers_right (T : Txt K mg) : Okd P w K mg base 6 (aF K "_law_answers_right") ["_law_here", "_law_m"] (sp_l_answers_right K) := by
  obtain ⟨fd, F⟩ := T.f_l_answers_right
  refine Okd.mk F sc_l_answers_right (sp_l_answers_right_len K) (fun _ _ _ _ _ _ us hl => match us, hl with | [_, _], _ => rfl) (fun cdv A outer s H vs Q E hr h => ?_)
  have hu := hu_of hr
  refine ⟨_, (pss_cons (ps_set (i := 2) sc_l_answers_right.nd rfl (Or.inr rfl) (pe_callO (ok_l_in (K := K) T) (hr.mono (by decide)) rfl T.g__law_in T.k__law_in (pa_cons (pv 1) (pa_cons pe_str pa_nil))))
    (pss_cons (ps_for PassesOwn.never rfl (pi_listK (K := K) rfl (pe_lc (own := [("_law_pair", 5)]) rfl sc_l_answers_right.nd (pi_listK (K := K) rfl (pe_callB (cr_sortedP2K (K := K) rfl hr.units) (by rfl) T.b_sorted (by decide +kernel) (pa_cons (pe_dget hu (pv 1) pe_str (fun _ _ => rfl)) pa_nil))) (blkOk_by (own := [("_law_pair", 5)]) (N := ["_law_here", "_law_m", "_law_running", "_law_source", "_law_target", "_law_pair", "_law_name"]) (sc := defScope s_l_answers_right) (by decide +kernel)) (fun _ _ _ _ _ => (pg_name (i := 5) sc_l_answers_right.nd rfl (Or.inl rfl) (Or.inr rfl))) (fun _ _ _ _ _ => (pts_one (pt_cmpR (op_in_seqK (K := K) rfl) (pe_ix (ix_tupK (K := K) rfl) (pv 5) pe_int (fun _ _ => rfl)) (pv 2) (by rfl)))) (fun _ _ _ _ _ => (pv 5)))) (pg_tupK (K := K) (n := 2) rfl rfl (pgs_cons (pg_name (i := 3) sc_l_answers_right.nd rfl (Or.inl rfl) (Or.inl rfl)) (pgs_cons (pg_name (i := 4) sc_l_answers_right.nd rfl (Or.inl rfl) (Or.inl rfl)) pgs_nil)))
    (pss_one (ps_if (pt_cmpR op_ne (pe_methO (pv 0) T.cl_Registry T.m_Registry_answer (ok_R_answer (K := K) T) (hr.mono (by decide)) (pa_cons (pv 3) (pa_cons (pv 4) pa_nil))) (pe_callO (ok_l_answer (K := K) T) (hr.mono (by decide)) rfl T.g__law_answer T.k__law_answer (pa_cons (pv 1) (pa_cons (pv 3) (pa_cons (pv 4) pa_nil)))) (nomark _)) (pss_one (ps_ret pe_bl)) pss_nil)))
    (pss_one (ps_ret (pe_callB (cr_allK (K := K) rfl rfl) (by rfl) T.b_all (by decide +kernel) (pa_cons (pe_lc (own := [("_law_name", 6)]) rfl sc_l_answers_right.nd (pi_listK (K := K) rfl (pe_callB (call_sortedD rfl) (by rfl) T.b_sorted (by decide +kernel) (pa_cons (pe_dget hu (pv 1) pe_str (fun _ _ => rfl)) pa_nil))) (blkOk_by (own := [("_law_name", 6)]) (N := ["_law_here", "_law_m", "_law_running", "_law_source", "_law_target", "_law_pair", "_law_name"]) (sc := defScope s_l_answers_right) (by decide +kernel)) (fun _ _ _ _ _ => (pg_name (i := 6) sc_l_answers_right.nd rfl (Or.inl rfl) (Or.inr rfl))) (fun _ _ _ _ _ => pts_nil) (fun _ _ _ _ _ => (pe_cmpR op_eq (pe_methO (pv 0) T.cl_Registry T.m_Registry_answer (ok_R_answer (K := K) T) (hr.mono (by decide)) (pa_cons pe_non (pa_cons (pv 6) pa_nil))) (pe_callO (ok_l_answer (K := K) T) (hr.mono (by decide)) rfl T.g__law_answer T.k__law_answer (pa_cons (pv 1) (pa_cons pe_non (pa_cons (pv 6) pa_nil)))) (nomark _)))) pa_nil)))))), ?_⟩
  obtain ⟨⟨xr, x⟩, rfl, hL, k⟩ := h
  dsimp only at hL k
  have hk := hL.T.2
  have hsl := hk.ok.len
  have hns := hk.nsl
  obtain ⟨l1, l2, l3, l4⟩ := hk.bln
  refine ⟨_, rfl, (mq xr x, "running"), rfl, hL.T, fun p1 H1 hp1 e1 h1 => ?_⟩
  have hrun : ∀ y ∈ inC xr.sn x.c "running", y ∈ xr.sn ∧ xr.c.st y = "running" := fun y hy => ⟨(List.mem_filter.mp hy).1, by have := of_decide_eq_true (List.mem_filter.mp hy).2; rw [hL.c] at this; exact this⟩
  have h1 : H1 p1 = some (.lst ((inC xr.sn x.c "running").map V.str)) := h1
  generalize inC xr.sn x.c "running" = run at h1 hrun
  have hL1 := hL.ex e1
  have hO1 := hL1.T.1
  dsimp only [gName]
  dsimp only [tSeq, tFor]
  dsimp only [iList]
  refine lcG (α := Addr × Str × Str) (fun b => V.ref b.1) (fun b => V.ref b.1) (fun cs H' => cs.Perm x.bn ∧ Prs H' cs) (fun b => decide (b.2.1 ∈ run)) (fun R rr => ⟨_, rfl, _, _, rfl, hO1.gnds, _, x.bn, rfl, sq_of hO1.nds, hO1.pn, by omega, fun cs q hpm hcs hq => ⟨q, rfl, ⟨_, sq_of upd_same⟩, rr q cs _ (Ex.new hq) ⟨hpm, fun b hb => (Ex.new hq) _ _ (hO1.pn b (hpm.mem_iff.mp hb))⟩ upd_same⟩⟩)
    (fun cs H' h => by rw [h.1.length_eq]; omega) (fun v => rfl) (fun cs H' e1' h b hb H2 e2 H3 e3 Q q => ?_) (fun cs H' e1 h b hb _ H2 e2 => ev_var rfl) (fun cs H5 q H6 e5 h e6 hq h6 => ?_)
  · refine ⟨_, rfl, _, _, 0, .str b.2.1, rfl, rfl, st_of ((e2.trans e3) _ _ (h.2 b hb)), rfl, _, rfl, p1, _, rfl, Or.inl (sq_of (((e1'.trans e2).trans e3) _ _ h1)), rfl, flat_strs2 run, _, rfl, ?_⟩
    rw [if_neg Bool.false_ne_true, inV_str]
    exact q H3 (Ex.refl _)
  have hl1 : ∀ b ∈ cs.filter (fun b => decide (b.2.1 ∈ run)), b ∈ x.bn ∧ b.2.1 ∈ run := fun b hb => ⟨h.1.mem_iff.mp (List.mem_filter.mp hb).1, of_decide_eq_true (List.mem_filter.mp hb).2⟩
  generalize cs.filter (fun b => decide (b.2.1 ∈ run)) = l5 at h6 hl1
  have hL6 := hL1.ex (e5.trans e6)
  refine ⟨q, rfl, ⟨_, sq_of h6⟩, q_list (fun i σ' H' => ∃ y3 y4 y5 y6, σ' = [some (.ref (xr.ρ .reg)), some (.ref (x.μ .m)), some (.ref p1), y3, y4, y5, y6] ∧ Ex H6 H') ⟨_, _, _, _, rfl, Ex.refl _⟩ (fun i σ' H' _ ⟨_, _, _, _, _, e⟩ => sq_of (e _ _ h6)) (fun i v σ' H' hi pr => ?_) (fun σ' H' pr => ?_)⟩
  · obtain ⟨y3, y4, y5, y6, rfl, e7⟩ := pr
    obtain ⟨b, hb, rfl⟩ := at_map hi
    obtain ⟨z1, z2⟩ := hl1 b (List.mem_of_getElem? hb)
    obtain ⟨z3, z4⟩ := hrun _ z2
    obtain ⟨z5, z6⟩ := l4 b z1
    have hed : b.2.2 ∈ tg xr.g b.2.1 := (hk.ng b.2.1 b.2.2).mp (List.mem_map.mpr ⟨b, z1, rfl⟩)
    have hL7 := hL6.ex e7
    refine ⟨_, _, rfl, st_of (hL7.T.1.pn b z1), rfl, _, _, rfl, _, _, rfl, ⟨rfl, ?_⟩⟩
    refine ⟨_, rfl, _, _, _, rfl, hL7.R.reg, rfl, _, rfl, _, rfl, (xr, some b.2.1, b.2.2), rfl, hL7.R, z6, fun s e => by cases e; exact ⟨z3, z4, hed⟩, fun H8 e8 => ⟨_, rfl, _, rfl, _, rfl, (mq xr x, some b.2.1, b.2.2), rfl, hL7.T.ex e8, z6, fun s e => by cases e; exact z3, fun H9 e9 => ⟨rfl, _, rfl, it_f ?_ ⟨_, _, _, _, rfl, (e7.trans e8).trans e9⟩⟩⟩⟩
    have : ansC xr.c (Eg xr.g) (some b.2.1) b.2.2 = ansC x.c (Eg xr.g) (some b.2.1) b.2.2 := by rw [hL.c]
    show (!decide (V.str (ansC xr.c (Eg xr.g) (some b.2.1) b.2.2) = V.str (ansC x.c (Eg xr.g) (some b.2.1) b.2.2))) = false
    rw [this, decide_eq_true rfl]
    rfl
  · obtain ⟨y3, y4, y5, y6, rfl, e7⟩ := pr
    have hL7 := hL6.ex e7
    have hO7 := hL7.T.1
    walk_at "red"
    refine lcG (α := Str) V.str (fun _ => V.bl true) (fun l H' => l = xr.sn) (fun _ => true) (fun R rr => ⟨_, rfl, _, _, rfl, hO7.gsts, _, _, x.ns, rfl, Or.inl hO7.sts, stsD_keys, by omega, fun ys q hpm hs hq => ⟨q, rfl, ⟨_, sq_of upd_same⟩, rr q xr.sn _ (Ex.new hq) rfl (by rw [srtD hO7 hk ys hpm hs]; exact upd_same)⟩⟩)
      (fun l H' h => by rw [h]; omega) (fun v => rfl) (fun l H' e1 h n hn H2 e2 H3 e3 Q q => q H3 (Ex.refl _)) (fun l H' e1 h n hn _ H2 e2 H3 e3 Q q => ?_) (fun l H8 q H9 e8 h e9 hq h9 => ?_)
    · subst h
      have hL3 := hL7.ex ((e1.trans e2).trans e3)
      refine ⟨_, rfl, _, _, _, rfl, hL3.R.reg, rfl, _, rfl, (xr, none, n), rfl, hL3.R, hn, (fun s e => nomatch e), fun H4 e4 => ⟨_, rfl, _, rfl, (mq xr x, none, n), rfl, hL3.T.ex e4, hn, (fun s e => nomatch e), fun H5 e5 => ⟨rfl, ?_⟩⟩⟩
      have e : ansC xr.c (Eg xr.g) none n = ansC x.c (Eg xr.g) none n := by rw [hL.c]
      have := q H5 (e4.trans e5)
      show Q (.bl (decide (V.str (ansC xr.c (Eg xr.g) none n) = V.str (ansC x.c (Eg xr.g) none n)))) H5
      rw [e, decide_eq_true rfl]
      exact this
    · subst h
      rw [List.filter_eq_self.mpr fun _ _ => rfl] at h9
      refine ⟨q, xr.sn.map fun _ => true, rfl, sq_of (h9.trans (by rw [List.map_map]; rfl)), ?_⟩
      rw [show (xr.sn.map fun _ => true).all id = true by simp]
      exact k _ ((((e1.trans e5).trans e6).trans e7).trans (e8.trans e9))
end
end CR
set_option maxRecDepth 100000
set_option maxHeartbeats 4000000
/-! Cycleready: what is shown is spoilt; the registry stays. -/
namespace CR
open PySem PySem.Spec PyProof.Rows L2 Evl
local macro_rules | `(tactic| walk_at "red") => `(tactic| dsimp only [tNext, tSeq, tRet, tRetN, tDrop, tIfS, tAsg, tPar, tTest, tB, tNot, tAnd, tOr, tCB, tCons, tNil, tCall, tOp, tUn, tVar, tC, tIf])
local macro_rules | `(tactic| walk_at "nrm") => `(tactic| dsimp only [gName, tNext])
theorem cut_a {x y : V} {r : List V} : cutV (x :: y :: r) none (some 1) = [x] := by
  have h1 : HT.sIx (x :: y :: r).length 0 none = 0 := rfl
  have h2 : HT.sIx (x :: y :: r).length (x :: y :: r).length (some 1) = 1 := by
    unfold HT.sIx
    simp
  unfold cutV
  rw [h1, h2]
  rfl
theorem cut_b {x y : V} {r : List V} : cutV (x :: y :: r) (some 2) none = r := by
  have h1 : HT.sIx (x :: y :: r).length 0 (some 2) = 2 := by
    unfold HT.sIx
    simp
  have h2 : HT.sIx (x :: y :: r).length (x :: y :: r).length none = (x :: y :: r).length := rfl
  unfold cutV
  rw [h1, h2]
  show r.take _ = r
  exact List.take_of_length_le (by simp)
theorem len_putA {l : List (Str × Int)} {k : Str} {v : Int} : (putA l k v).length ≤ l.length + 1 := by
  have h := congrArg List.length (keys_putA l k v)
  rw [List.length_map] at h
  rw [h]
  split
  · rw [List.length_map]
    omega
  · rw [List.length_append, List.length_map]
    exact Nat.le_refl _
/-- the rows' dicts within the loops -/
def RowsAt (H0 H : Hp) (rs : List Addr) (m : Nat) : Prop := ∀ b ∈ rs, ∃ v0 v1 d v3 l, H b = some (.lst [v0, v1, .ref d, v3]) ∧ H0 d = none ∧ H d = some (.dK (dS V.int l)) ∧ l.length ≤ m
section
variable {P : Program} {w : World} {K : PySem.W.Frag} {mg : Str → Option Value} {base : Heap}
def sp_l_spoil (K : PySem.W.Frag) : Sp := Pm (fun x : RX => [.ref (x.ρ .reg)]) fun x H Q => RegAt K x H ∧ Okx x.sn x.c ∧ ∀ H', Ex H H' → Q .non H'
theorem sp_l_spoil_len (K : PySem.W.Frag) : ∀ vs H Q E, sp_l_spoil K vs H Q E → vs.length = 1 := Pm.len fun _ => rfl
abbrev s_l_spoil : Stmt := (top 56)
theorem sc_l_spoil : FnScope ["_law_here", "_law_told", "_law_part", "_law_row_here", "_law_graph"] ["_law_here"] (defScope s_l_spoil) := ⟨rfl, rfl, rfl, by decide +kernel, rfl, by decide +kernel, by decide +kernel⟩
theorem ok_l_spoil (T : Txt K mg) : Okd P w K mg base 6 (aF K "_law_spoil") ["_law_here"] (sp_l_spoil K) := by
  obtain ⟨fd, F⟩ := T.f_l_spoil
  refine Okd.mk F sc_l_spoil (sp_l_spoil_len K) (fun _ _ _ _ _ _ us hl => match us, hl with | [_], _ => rfl) (fun cdv A outer s H vs Q E hr h => ?_)
  have hu := hu_of hr
  refine ⟨_, (pss_cons (ps_set (i := 1) sc_l_spoil.nd rfl (Or.inl rfl) (pe_callO (ok_l_shown (K := K) T) (hr.mono (by decide)) rfl T.g__law_shown T.k__law_shown (pa_cons (pv 0) pa_nil)))
    (pss_cons (ps_for PassesOwn.never rfl (pi_listK (K := K) rfl (pe_op op_cat (pe_slice (sl_listK (K := K) rfl) (pv 1) po_none (po_some pe_int)) (pe_slice (sl_listK (K := K) rfl) (pv 1) (po_some pe_int) po_none))) (pg_name (i := 2) sc_l_spoil.nd rfl (Or.inl rfl) (Or.inl rfl))
    (pss_one (ps_expr (pe_bm PySem.F.plainAttrs_list PySem.F.slot_list_append PySem.F.type_list_append mt_append (pv 2) (pa_cons pe_str pa_nil)))))
    (pss_cons (ps_for PassesOwn.never rfl (pi_listK (K := K) rfl (pe_ix (ix_listK (K := K) rfl) (pv 1) pe_int (fun _ _ => rfl))) (pg_name (i := 3) sc_l_spoil.nd rfl (Or.inl rfl) (Or.inl rfl))
    (pss_one (ps_dput hu (pe_ix (ix_listK (K := K) rfl) (pv 3) pe_int (fun _ _ => rfl)) pe_str pe_int rfl)))
    (pss_one (ps_for PassesOwn.never rfl (pi_tupK (K := K) rfl (pe_tup (pa_cons (pe_methO0 (pv 0) T.cl_Registry T.m_Registry_needs (ok_R_needs (K := K) T) (hr.mono (by decide))) (pa_cons (pe_methO0 (pv 0) T.cl_Registry T.m_Registry_recorded (ok_R_recorded (K := K) T) (hr.mono (by decide))) pa_nil)))) (pg_name (i := 4) sc_l_spoil.nd rfl (Or.inl rfl) (Or.inl rfl))
    (pss_one (ps_expr (pe_methO (pv 4) T.cl_Needs T.m_Needs_record (ok_N_record (K := K) T) (hr.mono (by decide)) (pa_cons pe_str (pa_cons pe_str pa_nil)))))))))), ?_⟩
  obtain ⟨x, rfl, hR, hx, k⟩ := h
  have hsl := hR.ok.len
  refine ⟨_, rfl, x, rfl, hR, hx, fun p H1 a0 a1 bs rs e1 _ hT => ?_⟩
  dsimp only [gName]
  refine ⟨_, rfl, 1, rfl, p, _, rfl, sq_of hT.hp, fun s1 hs1 => ⟨_, rfl, 2, rfl, p, _, rfl, sq_of ((Ex.new hs1) _ _ hT.hp), fun s2 hs2 => ⟨s1, s2, _, _, rfl, rfl, (Ex.new hs2) _ _ upd_same, upd_same, ?_, fun L hL => ?_⟩⟩⟩
  · rw [cut_a, cut_b, List.length_map]
    have := hT.bl
    exact sz_of (n := 1 + bs.length) (by omega)
  rw [cut_a] at hs2
  rw [cut_a, cut_b] at hL ⊢
  have e2 := ((Ex.new (o := HO.lst [V.ref a0]) hs1).trans (Ex.new (o := HO.lst (bs.map V.ref)) hs2)).trans (Ex.new (o := HO.lst ([V.ref a0] ++ bs.map V.ref)) hL)
  have hLs : upd (upd (upd H1 s1 (.lst [V.ref a0])) s2 (.lst (bs.map V.ref))) L (.lst ([V.ref a0] ++ bs.map V.ref)) L = some (.lst ((a0 :: bs).map V.ref)) := upd_same
  have nL : ∀ {a : Addr} {o : HO}, H1 a = some o → a ≠ L := fun h => ne_of_none (((Ex.new (o := HO.lst [V.ref a0]) hs1).trans (Ex.new (o := HO.lst (bs.map V.ref)) hs2)) _ _ h) hL
  generalize upd (upd (upd H1 s1 (.lst [V.ref a0])) s2 (.lst (bs.map V.ref))) L (.lst ([V.ref a0] ++ bs.map V.ref)) = H2 at e2 hLs ⊢
  refine ⟨L, rfl, ⟨_, sq_of hLs⟩, q_list (xs := (a0 :: bs).map V.ref) (fun i σ' H' => ∃ y2, σ' = [some (.ref (x.ρ .reg)), some (.ref p), y2, none, none] ∧ Ex H H' ∧ H' L = some (.lst ((a0 :: bs).map V.ref)) ∧ H' p = some (.lst (V.ref a0 :: V.ref a1 :: bs.map V.ref)) ∧ H' a1 = some (.lst (rs.map V.ref)) ∧ RowsAt H H' rs 3 ∧ ∀ a ∈ a0 :: bs, ∃ xs, H' a = some (.lst xs) ∧ xs.length ≤ 20000 + i)
    ⟨_, rfl, e1.trans e2, hLs, e2 _ _ hT.hp, e2 _ _ hT.h1, fun b hb => ?_, fun a ha => ?_⟩ (fun i σ' H' _ ⟨_, _, _, h, _⟩ => sq_of h) (fun i v σ' H' hi pr => ?_) (fun σ' H' pr => ?_)⟩
  · obtain ⟨v0, v1, d, v3, l, c3, c4, c5, c6⟩ := hT.rw_ b hb
    exact ⟨v0, v1, d, v3, l, e2 _ _ c3, c4, e2 _ _ c5, c6⟩
  · obtain ⟨_, _, _, _, xs, c1, c2⟩ := hT.pt a ha
    exact ⟨xs, e2 _ _ c1, by omega⟩
  · obtain ⟨y2, rfl, e3, g1, g2, g3, g4, g5⟩ := pr
    obtain ⟨a, ha, rfl⟩ := at_map hi
    have hm := List.mem_of_getElem? ha
    have il := (List.getElem?_eq_some_iff.mp ha).1
    have bl := hT.bl
    rw [List.length_cons] at il
    obtain ⟨c1, c2, c3, c4, xs0, c5, c6⟩ := hT.pt a hm
    obtain ⟨xs, d1, d2⟩ := g5 a hm
    refine ⟨_, rfl, Or.inl ⟨rfl, xs, sq_of d1⟩, a, xs, .str "spoilt", rfl, rfl, d1, sz_lt (by omega), _, rfl, Ex.mut e3 c1, (upd_ne (nL c5).symm).trans g1, (upd_ne c2.symm).trans g2, (upd_ne c3.symm).trans g3, fun b hb => ?_, fun a' ha' => ?_⟩
    · obtain ⟨v0, v1, d, v3, l, f3, f4, f5, f6⟩ := g4 b hb
      refine ⟨v0, v1, d, v3, l, (upd_ne (fun z => c4 (by rw [← z]; exact hb))).trans f3, f4, (upd_ne fun z => ?_).trans f5, f6⟩
      rw [z, d1] at f5
      cases f5
    · by_cases z : a' = a
      · rw [z]
        exact ⟨_, upd_same, by rw [List.length_append]; show xs.length + 1 ≤ _; omega⟩
      · obtain ⟨xs', k1, k2⟩ := g5 a' ha'
        exact ⟨xs', (upd_ne z).trans k1, by omega⟩
  · obtain ⟨y2, rfl, e3, g1, g2, g3, g4, g5⟩ := pr
    clear g5 g1
    have rl := hT.rl
    refine ⟨_, rfl, p, _, 1, _, rfl, rfl, sq_of g2, atI_nat (j := 1) rfl, a1, rfl, ⟨_, sq_of g3⟩, q_list (xs := rs.map V.ref) (fun i σ' H' => ∃ y2 y3, σ' = [some (.ref (x.ρ .reg)), some (.ref p), y2, y3, none] ∧ Ex H H' ∧ H' a1 = some (.lst (rs.map V.ref)) ∧ RowsAt H H' rs (3 + i))
      ⟨_, _, rfl, e3, g3, g4⟩ (fun i σ' H' _ ⟨_, _, _, _, h, _⟩ => sq_of h) (fun i v σ' H' hi pr => ?_) (fun σ' H' pr => ?_)⟩
    · obtain ⟨y2, y3, rfl, e4, h3, h4⟩ := pr
      obtain ⟨b, hb, rfl⟩ := at_map hi
      have hm := List.mem_of_getElem? hb
      have il := (List.getElem?_eq_some_iff.mp hb).1
      obtain ⟨v0, v1, d, v3, l, f3, f4, f5, f6⟩ := h4 b hm
      have ne : ∀ {a : Addr} {ys : List V}, H' a = some (.lst ys) → a ≠ d := fun h z => by
        rw [z, f5] at h
        cases h
      refine ⟨_, rfl, b, _, 2, _, rfl, rfl, sq_of f3, rfl, _, _, rfl, dp_s (f := V.int) f5 (k := "spoilt") 7 (by omega), _, _, rfl, Ex.mut e4 f4, (upd_ne (ne h3)).trans h3, fun b' hb' => ?_⟩
      obtain ⟨w0, w1, d', w3, l', m3, m4, m5, m6⟩ := h4 b' hb'
      by_cases z : d' = d
      · have := len_putA (l := l) (k := "spoilt") (v := 7)
        exact ⟨w0, w1, d', w3, putA l "spoilt" 7, (upd_ne (ne m3)).trans m3, m4, by rw [z]; exact upd_same, by omega⟩
      · exact ⟨w0, w1, d', w3, l', (upd_ne (ne m3)).trans m3, m4, (upd_ne z).trans m5, by omega⟩
    · obtain ⟨y2, y3, rfl, e4, h3, h4⟩ := pr
      clear h3 h4
      have hR4 := hR.ex e4
      have lg := gin_len hR.ok.gin hR.ok.gok
      have lr := gin_len hR.ok.rin hR.ok.rok
      have lg2 := lg.2.1 "spoilt"
      have lr2 := lr.2.1 "spoilt"
      have okn : okName "spoilt" := ⟨by decide, by decide, by decide⟩
      refine ⟨_, rfl, _, _, _, rfl, hR4.reg, rfl, x, rfl, hR4, fun ν1 H5 e5 hN1 hf1 => ⟨_, rfl, _, _, _, rfl, (hR4.ex e5).reg, rfl, x, rfl, hR4.ex e5, fun ν2 H6 e6 hN2 hf2 => ⟨sz_of (n := 2) (by decide), fun tp htp => ?_⟩⟩⟩
      have e46 := e5.trans e6
      have dis : ∀ a, own ν2 (CN K ν2 x.r) a → ¬ own ν1 (CN K ν1 x.g) a := fun a h2 h1 => by
        obtain ⟨o, ho⟩ := hN1.own_some h1
        rw [hf2 a h2] at ho
        cases ho
      have f1 : ∀ a, own ν1 (CN K ν1 x.g) a → H a = none := fun a h1 => fresh_back e4 (hf1 a h1)
      have f2 : ∀ a, own ν2 (CN K ν2 x.r) a → H a = none := fun a h2 => fresh_back (e4.trans e5) (hf2 a h2)
      have n1 : ¬ own ν1 (CN K ν1 x.g) tp := fun h1 => by
        obtain ⟨o, ho⟩ := hN1.own_some h1
        rw [e6 _ _ ho] at htp
        cases htp
      have n2 : ¬ own ν2 (CN K ν2 x.r) tp := fun h2 => by
        obtain ⟨o, ho⟩ := hN2.own_some h2
        rw [ho] at htp
        cases htp
      have e7 := Ex.new (o := HO.tup [V.ref (ν1 .p), V.ref (ν2 .p)]) htp
      have htp7 : upd H6 tp (.tup [V.ref (ν1 .p), V.ref (ν2 .p)]) tp = some (.tup [V.ref (ν1 .p), V.ref (ν2 .p)]) := upd_same
      have hN1 := hN1.ex (e6.trans e7)
      have hN2 := hN2.ex e7
      have e8 := e4.trans (e46.trans e7)
      generalize upd H6 tp (.tup [V.ref (ν1 .p), V.ref (ν2 .p)]) = H7 at e8 htp7 hN1 hN2 ⊢
      have frame : ∀ {ν ν' : NL} {g g' : Graph} {H8 H9 : Hp}, Ex H H8 → (∀ a, own ν (CN K ν g) a → H a = none) → Stp ν (CN K ν g) H8 ν' (CN K ν' g') H9 → Ex H H9 := fun {ν ν' g g' H8 H9} e f s a o ha => s.fr a o (e a o ha) fun z => by
        rw [f a z] at ha
        cases ha
      refine ⟨tp, rfl, ⟨_, st_of htp7⟩, for_tup (D := { nx := fun _ H' => Q .non H', rt := Q }) (xs := [V.ref (ν1 .p), V.ref (ν2 .p)]) (fun i σ' H' => ∃ y1 y2 y3 y4, σ' = [some (.ref (x.ρ .reg)), y1, y2, y3, y4] ∧ Ex H H' ∧ H' tp = some (.tup [V.ref (ν1 .p), V.ref (ν2 .p)]) ∧ (i = 0 → NAt K ν1 x.g H') ∧ (i ≤ 1 → NAt K ν2 x.r H'))
        ⟨_, _, _, _, rfl, e8, htp7, fun _ => hN1, fun _ => hN2⟩ (fun i σ' H' _ ⟨_, _, _, _, _, _, h, _⟩ => st_of h) (fun i v σ' H' hi pr => ?_) (fun σ' H' pr => ?_)⟩
      · obtain ⟨y1, y2, y3, y4, rfl, e9, t9, m1, m2⟩ := pr
        match i, hi with
        | 0, hi =>
          cases hi
          have m1 := m1 rfl
          have m2 := m2 (by decide)
          refine ⟨_, rfl, _, _, _, rfl, m1.pi, rfl, ((ν1, x.g), "spoilt", "spoilt"), rfl, m1, hR.ok.gok, okn, okn, by show (tg x.g "spoilt").length < 1000; omega, by show x.g.length < 1000; omega, fun ν' H8 v r1 r2 r3 => ?_⟩
          refine ⟨_, _, _, _, rfl, frame e9 f1 r2, r2.fr _ _ t9 n1, fun z => absurd z (by decide), fun _ => m2.fr fun a ha => ?_⟩
          obtain ⟨o, ho⟩ := m2.own_some ha
          rw [ho]
          exact r2.fr _ _ ho (dis a ha)
        | 1, hi =>
          cases hi
          have m2 := m2 (by decide)
          refine ⟨_, rfl, _, _, _, rfl, m2.pi, rfl, ((ν2, x.r), "spoilt", "spoilt"), rfl, m2, hR.ok.rok, okn, okn, by show (tg x.r "spoilt").length < 1000; omega, by show x.r.length < 1000; omega, fun ν' H8 v r1 r2 r3 => ?_⟩
          exact ⟨_, _, _, _, rfl, frame e9 f2 r2, r2.fr _ _ t9 n2, fun z => absurd z (by decide), fun z => absurd z (by decide)⟩
        | i + 2, hi => exact absurd hi (by simp)
      · obtain ⟨y1, y2, y3, y4, rfl, e9, _⟩ := pr
        exact k _ e9
end
end CR
set_option maxRecDepth 100000
set_option maxHeartbeats 4000000
/-! Cycleready: defs that want no guard (repr); a step of the law. -/
namespace CR
open PySem PySem.Spec PyProof.Rows L2 Evl
local macro_rules | `(tactic| walk_at "red") => `(tactic| dsimp only [tNext, tSeq, tRet, tRetN, tDrop, tIfS, tAsg, tPar, tTest, tB, tNot, tAnd, tOr, tCB, tCons, tNil, tCall, tOp, tUn, tVar, tC, tIf])
local macro_rules | `(tactic| walk_at "nrm") => `(tactic| dsimp only [gName, tNext])
/-! ### a def of the text that is called where no repr is under way -/
section
variable {P : Program} {w : World} {K : PySem.W.Frag} {mg : Str → Option Value} {base : Heap}
structure FnG (P : Program) (w : World) (K : PySem.W.Frag) (mg : Str → Option Value) (base : Heap) (k : Nat) (f : Addr) (fd : FuncData) (ps : List Str) (sp : Sp) : Prop where
  num : ∀ vs H Q E, sp vs H Q E → vs.length = ps.length
  go : ∀ (A : Around) (outer : List Env) (s : Shared) (H : Hp) (args : Args) (us : List Value) (vs : List V) (Q : VK) (E : XK), A.guards = some [] → Room k A → Env0 P w K mg base A outer s H → BindsTo s fd args (ps.zip us) → Vals vs us → sp vs H Q E →
    codeAny (model P w) A (.call (.ref f) args) (CR CX0 outer P w H s Q E) s
theorem FnG.mk_ {x qual : Str} {st : Stmt} {f : Addr} {fd : FuncData} {N ps : List Str} {k : Nat} {sp : Sp} (F : FunD K x qual (defArgs st) (defBody st) (defScope st) [] [] f fd) (S : FnScope N ps (defScope st))
    (num : ∀ vs H Q E, sp vs H Q E → vs.length = ps.length)
    (body : ∀ (cdv : Value) (A : Around) (outer : List Env) (s : Shared) (H : Hp) (vs : List V) (Q : VK) (E : XK), (A.deeper (envOfC qual (defScope st) s.heap.objs.size f cdv)).guards = some [] → Room k (A.deeper (envOfC qual (defScope st) s.heap.objs.size f cdv)) → sp vs H Q E →
      ∃ t, PSs (cxOf CX0 P w K mg base N qual (defScope st) f cdv A outer s H E).nox (defBody st) t ∧ t { nx := fun _ H' => Q .non H', rt := Q } (start N vs) H) : FnG P w K mg base (k + 1) f fd ps sp := by
  obtain ⟨oc, od, dV, kV, doc, pm, an, cdv, ct, osl, rfl, at_, code, _, _⟩ := F.ex
  refine ⟨num, fun A outer s H args us vs Q E hg hr e0 hb rv hs => ?_⟩
  have inH : K.In s.heap := e0.mod.kin.keeps fun b o q => (e0.bs b o q).1
  refine Att.call_fn inH (e0.mod.nolimit.keeps fun b o q => (e0.bs b o q).1) at_ code hr.depth hb (List.all_eq_true.mpr fun y hy => ?_) (fun s1 X => ?_) S.co S.gen S.kind
  · rcases S.par y.1 (List.of_mem_zip (show (y.1, y.2) ∈ ps.zip us from hy)).1 with q | q
    · rw [q]
      rfl
    · rw [q]
      rfl
  obtain ⟨t, ht, hq⟩ := body cdv A outer s H vs Q E hg (hr.deeper _) hs
  have J := inv_start (CX := CX0) (E := E) S hr.hd e0 (num _ _ _ _ hs) rv X
  refine wpAny_mono (ht.nox.run [] s1 (start N vs) H _ J hq) (fun fl s2 r => ?_) fun _ _ r => r
  have back : ∀ {σ2 : L2.St} {H2 : Hp} {v : V} {u : Value}, Inv (cxOf CX0 P w K mg base N qual (defScope st) f cdv A outer s H E) [] σ2 H2 s2 → RelV v u → Q v H2 → CE outer P w H s Q u s2 := fun J2 r2 q2 => ⟨_, _, J2.os, J2.bare, J2.base, J2.hok, r2, q2⟩
  match fl, r with
  | .ret u, ⟨_, _, _, J2, r2, q2⟩ => exact back J2 r2 q2
  | .next, ⟨_, _, J2, q2⟩ => exact back (v := V.non) (u := Value.none) J2 rfl q2
  | .brk, ⟨_, _, _, q2⟩ => exact q2.elim
  | .cont, ⟨_, _, _, q2⟩ => exact q2.elim
/-- .. all its parameters written -/
def OkG (P : Program) (w : World) (K : PySem.W.Frag) (mg : Str → Option Value) (base : Heap) (k : Nat) (f : Addr) (ps : List Str) (sp : Sp) : Prop := ∃ fd : FuncData, FnG P w K mg base k f fd ps sp ∧ Binds K fd ps []
theorem OkG.mk {x qual : Str} {st : Stmt} {f : Addr} {fd : FuncData} {N ps : List Str} {k : Nat} {sp : Sp} (F : FunD K x qual (defArgs st) (defBody st) (defScope st) [] [] f fd) (S : FnScope N ps (defScope st))
    (num : ∀ vs H Q E, sp vs H Q E → vs.length = ps.length)
    (hb : ∀ (kV doc pm : Value) (an : Option Addr) (cdv ct : Value) (us : List Value), us.length = ps.length → bindArgs (PySem.W.fnOf x qual (defArgs st) (defBody st) (defScope st) .none kV doc pm an cdv ct) ⟨us, []⟩ = pure (ps.zip us))
    (body : ∀ (cdv : Value) (A : Around) (outer : List Env) (s : Shared) (H : Hp) (vs : List V) (Q : VK) (E : XK), (A.deeper (envOfC qual (defScope st) s.heap.objs.size f cdv)).guards = some [] → Room k (A.deeper (envOfC qual (defScope st) s.heap.objs.size f cdv)) → sp vs H Q E →
      ∃ t, PSs (cxOf CX0 P w K mg base N qual (defScope st) f cdv A outer s H E).nox (defBody st) t ∧ t { nx := fun _ H' => Q .non H', rt := Q } (start N vs) H) : OkG P w K mg base (k + 1) f ps sp := ⟨fd, FnG.mk_ F S num body, F.bindsN hb⟩
end
section
variable {X : Cx} {k : Nat} {f : Addr} {ps : List Str} {sp : Sp} {x : Str} {p pos : Pos} {e : Expr} {es : List Expr} {t : TA}
theorem pe_callG (G : OkG X.prog X.w X.K X.mg X.base k f ps sp) (hgu : X.A.guards = some []) (hr : Room k X.A) (hg : Gl X x) (hm : X.mg x = some (.ref f)) (hk : PySem.W.keepIn X.K (.ref f) = true) (ha : PA X (e :: es) t) (hdb : (x == ("__debug__" : Str)) = false := by decide)
    (he : starEach (e :: es) X.env = (false, eval e X.env) :: starEach es X.env := by rfl) (hpl : (backTo pos (starEach es X.env)).any (·.1) = false := by rfl) : PE X (.Call (.Name x p) (e :: es) [] pos) (tCall sp [] E0 t) := by
  obtain ⟨fd, F, hb⟩ := G
  refine ⟨fun pn z σ H Q J h => wpAny_Call_Name_kw (ld_glob J hg hm (PySem.W.callWith_K (h₀ := X.base) J.ok.mod.kin hk (thn (ha.run pos pn z σ H _ J h) fun us z1 ⟨vs, H1, J1, r, q⟩ => ⟨J1.kIn, ?_⟩) he hpl) hdb)⟩
  dsimp only at q
  rw [List.append_nil] at q
  have hl : us.length = ps.length := r.length.symm.trans (F.num _ _ _ _ q)
  have b := hb z1 us J1.kIn (by rw [List.append_nil]; exact hl)
  rw [List.append_nil] at b
  refine wpAny_call (codeAny_mono (F.go X.A X.stack z1 H1 ⟨us, []⟩ us vs Q E0 hgu hr J1.env0 b r q) fun r2 z2 hq => ?_)
  match r2, hq with
  | .ok (.ret u), hq => exact J1.after hq
end
/-! ### a step -/
theorem Rel.exP {K : PySem.W.Frag} {xr : RX} {x : MX} {H H' : Hp} {p : Addr} (h : Rel K xr x H) (hP : PotAt H p) (n1 : ¬ own xr.ρ (CRg K xr) p) (n2 : ¬ own x.μ (CM x) p) (e : ExP p H H') : Rel K xr x H' := by
  obtain ⟨a, b, hp, _⟩ := id hP
  refine ⟨⟨⟨⟨fun i o ho => e _ _ (h.R.is.is i o ho) fun z => n1 ⟨i, by rw [ho]; rfl, z⟩, h.R.is.inj⟩, fun q hq => e _ _ (h.R.tup q hq) fun z => ?_⟩, h.R.ok⟩, ⟨h.T.1.exP hP n2 e, h.T.2⟩, h.c, h.d, h.x⟩
  have := h.R.tup q hq
  rw [z, hp] at this
  cases this
/-- the tables stand behind a step of the registry -/
theorem Rel.tab {K : PySem.W.Frag} {xr xr' : RX} {x : MX} {H H' : Hp} (h : Rel K xr x H) (s : RStp K xr H xr' H') : TabAt xr.sn xr.B xr.g xr.r x H' := by
  have kp : ∀ a xs, H a = some (.tup xs) → H' a = some (.tup xs) := fun a xs e => s.s.fr a _ e (h.R.ntup e)
  refine ⟨⟨h.T.1.is.fr fun a ha => ?_, h.T.1.pn.fr kp, h.T.1.pr.fr kp, h.T.1.pe.fr kp⟩, h.T.2⟩
  obtain ⟨o, ho⟩ := h.T.1.is.own_some ha
  rw [ho]
  exact s.s.fr a o ho fun z => h.d a z ha
/-- behind a row done and applied -/
theorem Rel.step {K : PySem.W.Frag} {xr xr' : RX} {x x' : MX} {H H1 H2 : Hp} {rw_ : Row} (h : Rel K xr x H) (ok : rw_.ok xr.sn xr.c xr.g) (hR : RegAt K xr' H1) (s : RStp K xr H xr' H1) (eB : xr'.B = rowB xr.B rw_) (ec : xr'.c = rowC xr.sn xr.c xr.g rw_) (eg : xr'.g = rowG xr.sn xr.c xr.g rw_) (er : xr'.r = rowR xr.r rw_)
    (hT : TabAt xr.sn (rowB xr.B rw_) (rowG xr.sn x.c xr.g rw_) (rowR xr.r rw_) x' H2) (t : TStp x H1 x' H2) (tc : x'.c = rowC xr.sn x.c xr.g rw_) : Rel K xr' x' H2 := by
  have own_t : ∀ a, own x.μ (CM x) a → ∃ o, H a = some o := fun a ha => h.T.1.is.own_some ha
  have dis : ∀ a, own xr'.ρ (CRg K xr') a → ¬ own x.μ (CM x) a := fun a ha hb => by
    rcases s.s.nw a ha with z | z
    · exact h.d a z hb
    · obtain ⟨o, ho⟩ := own_t a hb
      rw [z] at ho
      cases ho
  refine ⟨⟨⟨?_, fun q hq => t.fr _ _ (hR.tup q hq) fun z => ?_⟩, hR.ok⟩, ?_, ?_, fun a ha hb => ?_, ?_⟩
  · exact hR.is.fr fun a ha => by
      obtain ⟨o, ho⟩ := hR.is.own_some ha
      rw [ho]
      exact t.fr _ _ ho (dis a ha)
  · obtain ⟨i, l, e⟩ := z
    have h1 : ∃ o, CM x i = some o ∧ H1 (x.μ i) = some o := by
      obtain ⟨o, o1, o2⟩ := h.T.1.is.live l
      exact ⟨o, o1, s.s.fr _ _ o2 fun z => h.d _ z ⟨i, l, rfl⟩⟩
    obtain ⟨o, o1, o2⟩ := h1
    rw [e, hR.tup q hq] at o2
    exact CM_ntup (o1.trans o2.symm)
  · rw [s.n, eB, eg, er, ← h.c]
    exact hT
  · rw [tc, ec, h.c]
  · rcases t.nw a hb with z | z
    · exact dis a ha z
    · obtain ⟨o, ho⟩ := hR.is.own_some ha
      rw [z] at ho
      cases ho
  · rw [s.n, ec]
    exact h.x.row h.R.ok ok
section
variable {P : Program} {w : World} {K : PySem.W.Frag} {mg : Str → Option Value} {base : Heap}
/-- all but the pot and what the two own stays -/
def sp_l_step (K : PySem.W.Frag) : Sp := Pm (fun x : Addr × RX × MX => [.ref x.1, .ref (x.2.1.ρ .reg), .ref (x.2.2.μ .m)]) fun x H Q => PotAt H x.1 ∧ Rel K x.2.1 x.2.2 H ∧ ¬ own x.2.1.ρ (CRg K x.2.1) x.1 ∧ ¬ own x.2.2.μ (CM x.2.2) x.1 ∧ x.2.1.sn ≠ [] ∧ x.2.1.B ≤ 10000 ∧
  ∀ xr' x' H', PotAt H' x.1 → Rel K xr' x' H' → ¬ own xr'.ρ (CRg K xr') x.1 → ¬ own x'.μ (CM x') x.1 → xr'.sn = x.2.1.sn → xr'.B ≤ x.2.1.B + 50 → xr'.ρ .reg = x.2.1.ρ .reg → x'.μ .m = x.2.2.μ .m →
    (∀ a o, H a = some o → a ≠ x.1 → ¬ own x.2.1.ρ (CRg K x.2.1) a → ¬ own x.2.2.μ (CM x.2.2) a → H' a = some o) → (∀ a, own xr'.ρ (CRg K xr') a ∨ own x'.μ (CM x') a → own x.2.1.ρ (CRg K x.2.1) a ∨ own x.2.2.μ (CM x.2.2) a ∨ H a = none) → Q (.bl true) H'
theorem sp_l_step_len (K : PySem.W.Frag) : ∀ vs H Q E, sp_l_step K vs H Q E → vs.length = 3 := Pm.len fun _ => rfl
abbrev s_l_step : Stmt := (top 52)
theorem sc_l_step : FnScope ["_law_pot_here", "_law_here", "_law_m", "_law_row_here"] ["_law_pot_here", "_law_here", "_law_m"] (defScope s_l_step) := ⟨rfl, rfl, rfl, by decide +kernel, rfl, by decide +kernel, by decide +kernel⟩
theorem ok_l_step (T : Txt K mg) : OkG P w K mg base 8 (aF K "_law_step") ["_law_pot_here", "_law_here", "_law_m"] (sp_l_step K) := by
  obtain ⟨fd, F⟩ := T.f_l_step
  refine OkG.mk F sc_l_step (sp_l_step_len K) (fun _ _ _ _ _ _ us hl => match us, hl with | [_, _, _], _ => rfl) (fun cdv A outer s H vs Q E hgu hr h => ?_)
  have hu := hu_of hr
  refine ⟨_, (pss_cons (ps_set (i := 3) sc_l_step.nd rfl (Or.inl rfl) (pe_callO (ok_l_row (K := K) T) (hr.mono (by decide)) rfl T.g__law_row T.k__law_row (pa_cons (pv 0) (pa_cons (pv 2) pa_nil))))
    (pss_cons (ps_if (pt_cmp (pc_isN (pv 3))) (pss_one (ps_ret pe_bl)) pss_nil)
    (pss_one (ps_ret (pe_cmpR op_eq (pe_callB (cr_repr hgu hr.units T.sysm) (by rfl) T.b_repr (by decide +kernel) (pa_cons (pe_callO (ok_l_done (K := K) T) (hr.mono (by decide)) rfl T.g__law_done T.k__law_done (pa_cons (pv 1) (pa_cons (pv 3) pa_nil))) pa_nil)) (pe_callB (cr_repr hgu hr.units T.sysm) (by rfl) T.b_repr (by decide +kernel) (pa_cons (pe_callO (ok_l_applied (K := K) T) (hr.mono (by decide)) rfl T.g__law_applied T.k__law_applied (pa_cons (pv 2) (pa_cons (pv 3) pa_nil))) pa_nil)) (nomark _)))))), ?_⟩
  obtain ⟨⟨p, xr, x⟩, rfl, hP, hL, n1, n2, hsn, hB, k⟩ := h
  dsimp only at hP hL n1 n2 hsn hB k
  refine ⟨_, rfl, _, rfl, (p, mq xr x), rfl, hP, hL.T, n2, hsn, fun H1 e1 hP1 => ?_, fun rw_ H1 q l ok hq hl e1 hP1 => ?_⟩
  · exact ⟨_, rfl, _, rfl, it_t (by rfl) (k xr x H1 hP1 (hL.exP hP n1 n2 e1) n1 n2 rfl (by omega) rfl rfl (fun a o ha hp _ _ => e1 a o ha hp) fun a ha => ha.elim Or.inl fun u => Or.inr (Or.inl u))⟩
  have hL1 := hL.exP hP n1 n2 e1
  have ok1 : rw_.ok xr.sn x.c xr.g := ok
  have ok2 : rw_.ok xr.sn xr.c xr.g := by rw [← hL.c]; exact ok1
  have hq : H1 q = some (.tup (rw_.tup l)) := hq
  obtain ⟨pa, pb, hp1, pr1, pr2, pr3⟩ := id hP1
  have sh := Sh.row hL1.R.ok hL1.x ok2
  have ed : rowD xr.sn x.c xr.g rw_ = rowD xr.sn xr.c xr.g rw_ := by rw [hL.c]
  have szl : 200000 ≤ sizeLine := by decide
  refine ⟨_, rfl, _, rfl, it_f (by rfl) ⟨_, rfl, _, rfl, (xr, rw_, q, l), rfl, hL1.R, ok2, hq, fun ks e => (hl ks e).1, hB, fun xr' H2 v a1 a2 a3 a4 a5 a6 a7 => ⟨v, _, rfl, a7, sh.s, Nat.le_trans sh.dep (by decide), Nat.le_trans sh.l szl, ?_⟩⟩⟩
  have hT2 := hL1.tab a2
  have hq2 := a2.s.fr _ _ hq (hL1.R.ntup hq)
  have hp2 := a2.s.fr _ _ hp1 n1
  refine ⟨_, rfl, _, rfl, (mq xr x, rw_, q, l), rfl, hT2, ok1, hq2, fun ks e => a2.s.fr _ _ (hl ks e).1 (hL1.R.nlst (hl ks e).1), hB, fun x' H3 v' b1 b2 b3 b4 b5 => ⟨v', _, rfl, b5, by show (rowD xr.sn x.c xr.g rw_).showable = true; rw [ed]; exact sh.s, by show (rowD xr.sn x.c xr.g rw_).depth ≤ 60; rw [ed]; have := sh.dep; omega, by show (rowD xr.sn x.c xr.g rw_).shown.length ≤ sizeLine; rw [ed]; exact Nat.le_trans sh.l szl, rfl, ?_⟩⟩
  have hp3 := b2.fr _ _ hp2 n2
  have fin := k xr' x' H3 ⟨pa, pb, hp3, pr1, pr2, pr3⟩ (hL1.step ok2 a1 a2 a3 a4 a5 a6 b1 b2 b3) (fun z => (a2.s.nw p z).elim n1 fun u => by rw [hp1] at u; cases u) (fun z => (b2.nw p z).elim n2 fun u => by rw [hp2] at u; cases u) a2.n (by have := rowB_le (B := xr.B) rw_; rw [a3]; exact this) a2.r b4 (fun a o ha hap m1 m2 => b2.fr _ _ (a2.s.fr _ _ (e1 a o ha hap) m1) m2) (fun a ha => by
    have back : ∀ {a : Addr}, H1 a = none → H a = none := fun {a} hn => by
      cases hh : H a with
      | none => rfl
      | some o =>
        have hap : a ≠ p := fun z => by
          rw [z, hp1] at hn
          cases hn
        rw [e1 a o hh hap] at hn
        cases hn
    rcases ha with u | u
    · exact (a2.s.nw a u).imp id fun v => Or.inr (back v)
    · rcases b2.nw a u with v | v
      · exact Or.inr (Or.inl v)
      · cases hh : H1 a with
        | none => exact Or.inr (Or.inr (back hh))
        | some o =>
          by_cases z : own xr.ρ (CRg K xr) a
          · exact Or.inl z
          · rw [a2.s.fr a o hh z] at v
            cases v)
  show Q (.bl (decide (V.str (rowD xr.sn xr.c xr.g rw_).shown = V.str (rowD xr.sn x.c xr.g rw_).shown))) H3
  rw [ed, decide_eq_true rfl]
  exact fin
end
end CR
set_option maxRecDepth 100000
set_option maxHeartbeats 4000000
/-! Cycleready: the law. -/
namespace CR
open PySem PySem.Spec PyProof.Rows L2 Evl
local macro_rules | `(tactic| walk_at "red") => `(tactic| dsimp only [tNext, tSeq, tRet, tRetN, tDrop, tIfS, tAsg, tPar, tTest, tB, tNot, tAnd, tOr, tCB, tCons, tNil, tCall, tOp, tUn, tVar, tC, tIf])
local macro_rules | `(tactic| walk_at "nrm") => `(tactic| dsimp only [gName, tNext])
theorem ExP.keep {p : Addr} {H H1 H2 : Hp} (e : Ex H H1) (u : ExP p H1 H2) (hp : H p = none) : Ex H H2 := fun a o h => u a o (e a o h) (ne_of_none h hp)
section
variable {P : Program} {w : World} {K : PySem.W.Frag} {mg : Str → Option Value} {base : Heap}
def sp_law (K : PySem.W.Frag) : Sp := Pm (fun x : Addr × List Int => [.ref x.1]) fun x H Q => SqL K H x.1 (x.2.map .int) ∧ x.2.length ≤ 63 ∧ ∀ H', Q (.bl true) H'
theorem sp_law_len (K : PySem.W.Frag) : ∀ vs H Q E, sp_law K vs H Q E → vs.length = 1 := Pm.len fun _ => rfl
abbrev s_law : Stmt := (top 57)
theorem sc_law : FnScope ["_law_script", "_law_index", "_law_pot_here", "_law_names", "_law_here", "_law_m", "_law_turn", "_law_due_here", "_law_thing"] ["_law_script"] (defScope s_law) := ⟨rfl, rfl, rfl, by decide +kernel, rfl, by decide +kernel, by decide +kernel⟩
theorem ok_law (T : Txt K mg) : OkG P w K mg base 9 (aF K "law") ["_law_script"] (sp_law K) := by
  obtain ⟨fd, F⟩ := T.f_law
  refine OkG.mk F sc_law (sp_law_len K) (fun _ _ _ _ _ _ us hl => match us, hl with | [_], _ => rfl) (fun cdv A outer s H vs Q E hgu hr h => ?_)
  have hu := hu_of hr
  refine ⟨_, (pss_cons (ps_for PassesOwn.never rfl (pi_range1 (by rfl) T.b_range (pa_cons (pe_callB (call_max2 rfl) (by rfl) T.b_max (by decide +kernel) (pa_cons pe_int (pa_cons (pe_callB (call_min2 rfl) (by rfl) T.b_min (by decide +kernel) (pa_cons (pe_callB (call_len_seqK (K := K) rfl) (by rfl) T.b_len (by decide +kernel) (pa_cons (pv 0) pa_nil)) (pa_cons pe_int pa_nil))) pa_nil))) pa_nil)) (pg_name (i := 1) sc_law.nd rfl (Or.inl rfl) (Or.inl rfl))
    (pss_cons (ps_set (i := 2) sc_law.nd rfl (Or.inl rfl) (pe_callO (ok_l_pot (K := K) T) (hr.mono (by decide)) rfl T.g__law_pot T.k__law_pot (pa_cons (pv 0) (pa_cons (pv 1) pa_nil))))
    (pss_cons (ps_set (i := 3) sc_law.nd rfl (Or.inl rfl) (pe_callO (ok_l_words (K := K) T) (hr.mono (by decide)) rfl T.g__law_words T.k__law_words (pa_cons (pv 2) (pa_cons (pe_op op_add pe_int (pe_callO (ok_l_draw (K := K) T) (hr.mono (by decide)) rfl T.g__law_draw T.k__law_draw (pa_cons (pv 2) (pa_cons pe_int pa_nil)))) pa_nil))))
    (pss_cons (ps_asg (pe_tup (pa_cons (pe_makeO T.mk_Registry (ok_R_init (K := K) T) (hr.mono (by decide)) rfl T.g_Registry (pa_cons (pv 3) pa_nil)) (pa_cons (pe_callO (ok_l_empty (K := K) T) (hr.mono (by decide)) rfl T.g__law_empty T.k__law_empty (pa_cons (pv 3) pa_nil)) pa_nil))) (pg_tupK (K := K) (n := 2) rfl rfl (pgs_cons (pg_name (i := 4) sc_law.nd rfl (Or.inr rfl) (Or.inl rfl)) (pgs_cons (pg_name (i := 5) sc_law.nd rfl (Or.inl rfl) (Or.inl rfl)) pgs_nil))))
    (pss_cons (ps_if (pt_val (pe_callB (cr_anyK (K := K) rfl rfl) (by rfl) T.b_any (by decide +kernel) (pa_cons (pe_lc (own := [("_law_thing", 8)]) rfl sc_law.nd (pi_listK (K := K) rfl (pe_lst (pa_cons pe_non (pa_cons (pe_lst pa_nil) (pa_cons pe_dnewK (pa_cons pe_str (pa_cons pe_int (pa_cons (pe_tup (pa_cons pe_str pa_nil)) (pa_cons (pe_lst (pa_cons pe_str pa_nil)) (pa_cons pe_str pa_nil)))))))))) (blkOk_by (own := [("_law_thing", 8)]) (N := ["_law_script", "_law_index", "_law_pot_here", "_law_names", "_law_here", "_law_m", "_law_turn", "_law_due_here", "_law_thing"]) (sc := defScope s_law) (by decide +kernel)) (fun _ _ _ _ _ => (pg_name (i := 8) sc_law.nd rfl (Or.inl rfl) (Or.inr rfl))) (fun _ _ _ _ _ => pts_nil) (fun _ _ _ _ _ => (pe_cmpR (op_neDK (K := K) rfl hr.units) (pe_methO (pv 4) T.cl_Registry T.m_Registry_in_state (ok_R_in_state (K := K) T) (hr.mono (by decide)) (pa_cons (pv 8) pa_nil)) (pe_lst pa_nil) (nomark _)))) pa_nil))) (pss_one (ps_ret pe_bl)) pss_nil)
    (pss_one (ps_for PassesOwn.never rfl (pi_range1 (by rfl) T.b_range (pa_cons (pe_callO (ok_l_draw (K := K) T) (hr.mono (by decide)) rfl T.g__law_draw T.k__law_draw (pa_cons (pv 2) (pa_cons pe_int pa_nil))) pa_nil)) (pg_name (i := 6) sc_law.nd rfl (Or.inl rfl) (Or.inl rfl))
    (pss_cons (ps_if (pt_not (pt_val (pe_callG (ok_l_step (K := K) T) hgu (hr.mono (by decide)) rfl T.g__law_step T.k__law_step (pa_cons (pv 2) (pa_cons (pv 4) (pa_cons (pv 5) pa_nil)))))) (pss_one (ps_ret pe_bl)) pss_nil)
    (pss_cons (ps_set (i := 7) sc_law.nd rfl (Or.inl rfl) (pe_callB (cr_repr hgu hr.units T.sysm) (by rfl) T.b_repr (by decide +kernel) (pa_cons (pe_callO (ok_l_due (K := K) T) (hr.mono (by decide)) rfl T.g__law_due T.k__law_due (pa_cons (pv 5) pa_nil)) pa_nil)))
    (pss_cons (ps_if (PW.pt (pw_or (pt_cmpR op_ne (pe_callB (cr_repr hgu hr.units T.sysm) (by rfl) T.b_repr (by decide +kernel) (pa_cons (pe_callO (ok_l_shown (K := K) T) (hr.mono (by decide)) rfl T.g__law_shown T.k__law_shown (pa_cons (pv 4) pa_nil)) pa_nil)) (pv 7) (nomark _)) (pw_or1 (pt_not (pt_val (pe_callO (ok_l_answers_right (K := K) T) (hr.mono (by decide)) rfl T.g__law_answers_right T.k__law_answers_right (pa_cons (pv 4) (pa_cons (pv 5) pa_nil)))))))) (pss_one (ps_ret pe_bl)) pss_nil)
    (pss_one (ps_if (pt_cmpR op_eq (pe_op op_mod (pv 6) pe_int) pe_int (nomark _)) (pss_cons (ps_expr (pe_callO (ok_l_spoil (K := K) T) (hr.mono (by decide)) rfl T.g__law_spoil T.k__law_spoil (pa_cons (pv 4) pa_nil)))
    (pss_one (ps_if (pt_cmpR op_ne (pe_callB (cr_repr hgu hr.units T.sysm) (by rfl) T.b_repr (by decide +kernel) (pa_cons (pe_callO (ok_l_shown (K := K) T) (hr.mono (by decide)) rfl T.g__law_shown T.k__law_shown (pa_cons (pv 4) pa_nil)) pa_nil)) (pv 7) (nomark _)) (pss_one (ps_ret pe_bl)) pss_nil))) pss_nil))))))))))))
    (pss_one (ps_ret pe_bl))), ?_⟩
  obtain ⟨⟨a, ns⟩, rfl, hS, hlen, k⟩ := h
  dsimp only at hS hlen k
  have hsz : ns.length ≤ sizeLine := sz_of (by omega)
  obtain ⟨n, hn0, hn2, hn⟩ : ∃ n : Int, 0 ≤ n ∧ n ≤ 2 ∧ EvA (tCons (tCB rMax2 (tCons (tC (V.int 1)) (tCons (tCB (fun xs H Q => ∃ i j, xs = [V.int i, V.int j] ∧ Q (.int (if j < i then j else i)) H) (tCons (tCB (rLenS K) (tCons (tVar 0) tNil)) (tCons (tC (V.int 2)) tNil))) tNil))) tNil) (start ["_law_script", "_law_index", "_law_pot_here", "_law_names", "_law_here", "_law_m", "_law_turn", "_law_due_here", "_law_thing"] [V.ref a]) H [.int n] := by
    refine ⟨_, ?_, ?_, fun H1 e Q q => ⟨_, rfl, a, _, rfl, Or.inl (ex_l e hS), _, _, rfl, _, _, rfl, q H1 (Ex.refl _)⟩⟩
    · split <;> split <;> omega
    · split <;> split <;> omega
  refine q_forR1 hn ⟨hn0, by omega⟩ (fun i σ' H' => Ex H H' ∧ ∃ y1 y2 y3 y4 y5 y6 y7 y8, σ' = [some (.ref a), y1, y2, y3, y4, y5, y6, y7, y8]) (fun H1 e1 => ⟨e1, _, _, _, _, _, _, _, _, rfl⟩) (fun i σ' H' hi pr => ?_) (fun σ' H' pr => ?_)
  · obtain ⟨e1, y1, y2, y3, y4, y5, y6, y7, y8, rfl⟩ := pr
    have hi1 : i ≤ 1 := by omega
    refine ⟨_, rfl, _, rfl, (a, ns, i), rfl, ex_l e1 hS, hi1, hsz, fun p H1 e2 hp hP1 => ?_⟩
    have hp0 : H p = none := fresh_back e1 hp
    -- the names
    refine ⟨_, rfl, _, rfl, (p, 9), rfl, hP1, (show (0 : Int) < 9 by decide), (show (9 : Int) ≤ 10 ^ 31 by decide), fun d H2 d0 d1 hP2 e3 => ?_⟩
    dsimp only at d0 d1 hP2 e3
    obtain ⟨j, rfl⟩ : ∃ j : Nat, d = (j : Int) := ⟨d.toNat, by omega⟩
    refine ⟨_, _, rfl, rfl, (p, 1 + j), rfl, hP2, by show 1 + j ≤ 10; omega, fun us l H3 u1 u2 u3 hP3 e4 hl hlp h3 => ?_⟩
    dsimp only at u1 u2 u3 hP3 e4 hl hlp h3
    have e13 : Ex H H3 := e4.keep (e3.keep (e1.trans e2) hp0) hp0
    have ul : 1 ≤ us.length := by omega
    have ul2 : us.length ≤ 40 := by omega
    -- the registry, the tables
    refine ⟨_, rfl, fun r rD hr1 hr2 hr3 => ?_⟩
    have em := (Ex.new (o := HO.own r) hr2).trans (Ex.new (o := HO.ins (aF K "Registry") rD []) (p := r) (by rw [upd_ne (fun z => hr3 z.symm)]; exact hr1))
    have mr : upd (upd H3 rD (.own r)) r (.ins (aF K "Registry") rD []) r = some (.ins (aF K "Registry") rD []) := upd_same
    have mD : upd (upd H3 rD (.own r)) r (.ins (aF K "Registry") rD []) rD = some (.own r) := (upd_ne hr3).trans upd_same
    refine ⟨((r, rD), l, us), rfl, mr, mD, em _ _ h3, u3, u2, ul, ul2, fun xr H4 hR f1 f2 f3 f4 f5 f6 f7 f8 => ⟨rfl, ?_⟩⟩
    dsimp only at f1 f2 f3 f7 f8
    have nr : ∀ {b : Addr} {o : HO}, H3 b = some o → b ≠ r := fun h => ne_of_none h hr1
    have e34 : Ex H3 H4 := fun b o h => f7 b o (em _ _ h) (nr h)
    have hP4 := hP3.ex e34
    refine ⟨_, rfl, (l, us), rfl, e34 _ _ h3, u3, u2, ul2, fun x H5 hT e6 f9 f10 => ⟨sz_of (n := 2) (by decide), fun tp htp => ⟨tp, _, rfl, st_of upd_same, rfl, _, _, rfl, _, _, rfl, rfl, ?_⟩⟩⟩
    dsimp only at hT f9
    have e46 := e6.trans (Ex.new (o := HO.tup [V.ref r, V.ref (x.μ .m)]) htp)
    have ownr : ∀ b, own xr.ρ (CRg K xr) b → H3 b = none ∧ b ≠ p := fun b hb => by
      have z : H3 b = none := by
        rcases f8 b hb with z | z | z
        · rw [z]; exact hr1
        · rw [z]; exact hr2
        · exact fresh_back em z
      refine ⟨z, fun y => ?_⟩
      obtain ⟨q1, q2, q3, _⟩ := hP3
      rw [y, q3] at z
      cases z
    have ownx : ∀ b, own x.μ (CM x) b → H4 b = none := f9
    have hL : Rel K xr x (upd H5 tp (.tup [V.ref r, V.ref (x.μ .m)])) := by
      refine ⟨hR.ex e46, ?_, f10.trans f4.symm, fun b hb hc => ?_, ?_⟩
      · rw [f3, f2, f5, f6]
        exact hT.ex (Ex.new htp)
      · obtain ⟨o, ho⟩ := hR.is.own_some hb
        rw [ownx b hc] at ho
        cases ho
      · rw [f4]
        exact Okx.c0
    have hP6 := hP4.ex e46
    have n1 : ¬ own xr.ρ (CRg K xr) p := fun z => (ownr p z).2 rfl
    have n2 : ¬ own x.μ (CM x) p := fun z => by
      obtain ⟨q1, q2, q3, _⟩ := hP4
      rw [ownx p z] at q3
      cases q3
    have e06 := e13.trans (e34.trans e46)
    have fr1 : ∀ b, own xr.ρ (CRg K xr) b ∨ own x.μ (CM x) b → H b = none := fun b hb => hb.elim (fun z => fresh_back e13 (ownr b z).1) fun z => fresh_back (e13.trans e34) (ownx b z)
    have hsn : xr.sn ≠ [] := fun z => by
      have := congrArg List.length (f3.symm.trans z)
      rw [length_srtS] at this
      have : us.length = 0 := this
      omega
    have hreg : V.ref r = V.ref (xr.ρ .reg) := by rw [f1]
    have hB0 : xr.B = 0 := f2
    rw [hreg] at hL hP6 e06 ⊢
    clear hR f7 f8 f9 f10 hT hP4 hP3 hP2 hP1 e34 e46 e6 em mr mD e13 ownr ownx
    generalize upd H5 tp (.tup [V.ref (xr.ρ .reg), V.ref (x.μ .m)]) = H6 at hL hP6 e06 ⊢
    dsimp only [List.set]
    refine q_when (b := false) (et_B fun Hq eq Qq kq => ?_) (fun hb => nomatch hb) (fun _ H7 e7 => ?_)
    · have hLq := hL.ex eq
      walk_at "red"
      refine lcG (K := K) (α := V) (fun v => v) (fun _ => .bl false) (fun xs H' => xs.length = 8 ∧ ∀ v ∈ xs, (∃ st, v = .str st ∧ st ∉ states) ∨ ∃ t, (∀ H2, Ex H' H2 → TyX K H2 v t) ∧ PySem.W.kitOne K t (.type "str") = some false) (fun _ => true) (fun R rr => ?_)
        (fun xs H' h => by rw [h.1]; decide) (fun v => rfl) (fun xs H' e1 h v hv H2 e2 H3 e3 Q q => q H3 (Ex.refl _)) (fun xs H' e1 h v hv _ H2 e2 H3 e3 Q q => ?_) (fun xs H8 q H9 e8 h e9 hq h9 => ?_)
      · refine ⟨sz_of (n := 0) (by decide), fun l1 hl1 dd hdd => ⟨sz_of (n := 1) (by decide), fun t1 ht1 => ⟨sz_of (n := 1) (by decide), fun l2 hl2 => ⟨sz_of (n := 8) (by decide), fun L hL' => ?_⟩⟩⟩⟩
        have x1 := Ex.new (o := HO.lst []) hl1
        have x2 := Ex.new (o := HO.dK []) hdd
        have x3 := Ex.new (o := HO.tup [V.str "new"]) ht1
        have x4 := Ex.new (o := HO.lst [V.str "new"]) hl2
        have x5 := Ex.new (o := HO.lst [V.non, V.ref l1, V.ref dd, V.str "lost", V.int 7, V.ref t1, V.ref l2, V.str ""]) hL'
        have z5 := x5 _ _ (show _ = some (HO.lst [V.str "new"]) from upd_same)
        have z4 := (x4.trans x5) _ _ (show _ = some (HO.tup [V.str "new"]) from upd_same)
        have z3 := ((x3.trans x4).trans x5) _ _ (show _ = some (HO.dK []) from upd_same)
        have z2 := (((x2.trans x3).trans x4).trans x5) _ _ (show _ = some (HO.lst []) from upd_same)
        refine ⟨L, rfl, ⟨_, sq_of upd_same⟩, rr L [V.non, V.ref l1, V.ref dd, V.str "lost", V.int 7, V.ref t1, V.ref l2, V.str ""] _ ((((x1.trans x2).trans x3).trans x4).trans x5) ⟨rfl, fun v hv => ?_⟩ upd_same⟩
        rcases List.mem_cons.mp hv with u | u
        · rw [u]
          exact Or.inr ⟨_, fun H2 e => .base .non, rfl⟩
        rcases List.mem_cons.mp u with u | u
        · rw [u]
          exact Or.inr ⟨_, fun H2 e => .base (.lst (e _ _ z2)), rfl⟩
        rcases List.mem_cons.mp u with u | u
        · rw [u]
          exact Or.inr ⟨_, fun H2 e => .base (.dK (e _ _ z3)), rfl⟩
        rcases List.mem_cons.mp u with u | u
        · exact Or.inl ⟨"lost", u, by decide⟩
        rcases List.mem_cons.mp u with u | u
        · rw [u]
          exact Or.inr ⟨_, fun H2 e => .base (.int 7), rfl⟩
        rcases List.mem_cons.mp u with u | u
        · rw [u]
          exact Or.inr ⟨_, fun H2 e => .base (.tup (e _ _ z4)), rfl⟩
        rcases List.mem_cons.mp u with u | u
        · rw [u]
          exact Or.inr ⟨_, fun H2 e => .base (.lst (e _ _ z5)), rfl⟩
        · exact Or.inl ⟨"", List.mem_singleton.mp u, by decide⟩
      · have hL3 := hLq.ex ((e1.trans e2).trans e3)
        refine ⟨_, rfl, _, _, _, rfl, hL3.R.reg, rfl, _, rfl, (xr, v), rfl, hL3.R, Or.inr ⟨(h.2 v hv).imp id fun ⟨t, u1, u2⟩ => ⟨t, u1 _ (e2.trans e3), u2⟩, fun q0 H4 hq e4 h4 => ⟨sz_of (n := 0) (by decide), fun l hl => ⟨.list [], .list [], .lst (sq_of ((Ex.new hl) _ _ h4)) .nil, .lst (sq_of upd_same) .nil, by unfold SeqAt.shaped; simp [PyData.canLay0, PyData.canLayAll0, PyData.depth, PyData.depthAll], by unfold SeqAt.shaped; simp [PyData.canLay0, PyData.canLayAll0, PyData.depth, PyData.depthAll], ?_⟩⟩⟩⟩
        have := q _ (e4.trans (Ex.new (o := HO.lst []) hl))
        rw [eqv_nilD]
        exact this
      · rw [List.filter_eq_self.mpr fun _ _ => rfl] at h9
        refine ⟨q, xs.map fun _ => false, rfl, sq_of (h9.trans (by rw [List.map_map]; rfl)), ?_⟩
        rw [show (xs.map fun _ => false).any id = false by simp]
        exact kq _ (e8.trans e9)
    · -- the turns
      have hL7 := hL.ex e7
      have hP7 := hP6.ex e7
      refine ⟨_, rfl, (p, 61), rfl, hP7, (show (0 : Int) < 61 by decide), (show (61 : Int) ≤ 10 ^ 31 by decide), fun d H8 d0 d1 hP8 e8 => ?_⟩
      dsimp only at d0 d1 hP8 e8
      have e08 : Ex H H8 := e8.keep (e06.trans e7) hp0
      refine ⟨d, rfl, by omega, by omega, for_range (lo := 0) (n := d.toNat) (fun i' σ' H' => ∃ xr x y6 y7 y8, σ' = [some (.ref a), some (.int (i : Nat)), some (.ref p), some (.ref l), some (.ref (xr.ρ .reg)), some (.ref (x.μ .m)), y6, y7, y8] ∧ PotAt H' p ∧ Rel K xr x H' ∧ ¬ own xr.ρ (CRg K xr) p ∧ ¬ own x.μ (CM x) p ∧ xr.sn ≠ [] ∧ xr.B ≤ 50 * i' ∧ Ex H H' ∧ ∀ b, own xr.ρ (CRg K xr) b ∨ own x.μ (CM x) b → H b = none)
        ⟨xr, x, _, _, _, rfl, hP8, hL7.exP hP7 n1 n2 e8, n1, n2, hsn, by omega, e08, fr1⟩ (fun i' σ' H' hi' pr => ?_) (fun σ' H' pr => ?_)⟩
      · clear hL hP6 hL7 hP7 e7 e8 e06 e08 hP8 fr1 n1 n2 hsn hreg hB0 f1 f2 f3 f4 f5 f6 hr1 hr2 hr3 nr htp
        obtain ⟨xr, x, y6, y7, y8, rfl, hP, hL, n1, n2, hsn, hB, e0, fr⟩ := pr
        dsimp only [gName]
        dsimp only [List.set]
        generalize (0 : Int) + (i' : Int) = tn
        have hi61 : i' + 1 ≤ 61 := by omega
        refine ⟨_, rfl, _, rfl, _, rfl, (p, xr, x), rfl, hP, hL, n1, n2, hsn, by show xr.B ≤ 10000; omega, fun xr' x' H9 hP9 hL9 m1 m2 g1 g2 g3 g4 g5 g6 => ⟨true, rfl, it_f (by rfl) ?_⟩⟩
        dsimp only at hP9 hL9 m1 m2 g1 g2 g3 g4 g5 g6
        have e9 : Ex H H9 := fun b o hb => g5 b o (e0 b o hb) (ne_of_none hb hp0) (fun z => by rw [fr b (Or.inl z)] at hb; cases hb) (fun z => by rw [fr b (Or.inr z)] at hb; cases hb)
        have fr9 : ∀ b, own xr'.ρ (CRg K xr') b ∨ own x'.μ (CM x') b → H b = none := fun b hb => (g6 b hb).elim (fun z => fr b (Or.inl z)) fun z => z.elim (fun z => fr b (Or.inr z)) fun z => fresh_back e0 z
        have hsn9 : xr'.sn ≠ [] := by rw [g1]; exact hsn
        have hB9 : xr'.B ≤ 50 * (i' + 1) := by omega
        rw [← g3, ← g4]
        clear g1 g2 g3 g4 g5 g6 fr e0 hL hP n1 n2 hsn hB
        have sh := Sh.due hL9.R.ok hL9.x (by omega)
        have szl : 16000000 ≤ sizeLine := by decide
        have ed : dueD xr'.sn x'.c xr'.g xr'.r = dueD xr'.sn xr'.c xr'.g xr'.r := by rw [hL9.c]
        -- what is due
        refine ⟨_, rfl, mq xr' x', rfl, hL9.T, by show Okx xr'.sn x'.c; rw [hL9.c]; exact hL9.x, fun q H10 e10 hq => ⟨_, _, rfl, hq, by show (dueD xr'.sn x'.c xr'.g xr'.r).showable = true; rw [ed]; exact sh.s, by show (dueD xr'.sn x'.c xr'.g xr'.r).depth ≤ 60; rw [ed]; exact Nat.le_trans sh.dep (by decide), by show (dueD xr'.sn x'.c xr'.g xr'.r).shown.length ≤ sizeLine; rw [ed]; exact Nat.le_trans sh.l szl, ?_⟩⟩
        rw [show dueD (mq xr' x').sn (mq xr' x').x.c (mq xr' x').g (mq xr' x').r = dueD xr'.sn xr'.c xr'.g xr'.r from ed]
        dsimp only [gName]
        dsimp only [List.set]
        have hL10 := hL9.ex e10
        have sz1 := Nat.le_trans sh.l szl
        have sd1 : (dueD xr'.sn xr'.c xr'.g xr'.r).depth ≤ 60 := Nat.le_trans sh.dep (by decide)
        have seen : ∀ {σ : L2.St} {H' : Hp}, σ[4]? = some (some (.ref (xr'.ρ .reg))) → σ[7]? = some (some (.str (dueD xr'.sn xr'.c xr'.g xr'.r).shown)) → Ex H9 H' → EvT (tTest (tOp rNe (tCB rRepr (tCons (tCall (sp_l_shown K) [] E0 (tCons (tVar 4) tNil)) tNil)) (tVar 7))) σ H' false := fun {σ H'} s4 s7 e H1 e1 Qb qb => by
          refine ⟨_, s4, xr', rfl, (hL9.ex (e.trans e1)).R, hL9.x, fun q2 H11 a0 a1 bs rs e11 hq2 _ => ⟨_, _, rfl, hq2, sh.s, sd1, sz1, _, s7, rfl, _, rfl, ?_⟩⟩
          have := qb H11 e11
          rw [decide_eq_true rfl]
          exact this
        refine q_when (b := false) (et_or (a := false) (b := false) (seen rfl rfl e10) fun _ => et_not (a := true) (et_B fun H1 e Qb qb => ⟨_, rfl, _, rfl, (xr', x'), rfl, hL10.ex e, fun H2 e2 => qb H2 e2⟩)) (fun hb => nomatch hb) (fun _ H11 e11 => ?_)
        have fin : ∀ H', Ex H10 H' → ∃ xr x z6 z7 z8, [some (V.ref a), some (V.int (i : Nat)), some (V.ref p), some (V.ref l), some (V.ref (xr'.ρ .reg)), some (V.ref (x'.μ .m)), some (V.int tn), some (V.str (dueD xr'.sn xr'.c xr'.g xr'.r).shown), y8] = [some (V.ref a), some (V.int (i : Nat)), some (V.ref p), some (V.ref l), some (V.ref (xr.ρ .reg)), some (V.ref (x.μ .m)), z6, z7, z8] ∧ PotAt H' p ∧ Rel K xr x H' ∧ ¬ own xr.ρ (CRg K xr) p ∧ ¬ own x.μ (CM x) p ∧ xr.sn ≠ [] ∧ xr.B ≤ 50 * (i' + 1) ∧ Ex H H' ∧ ∀ b, own xr.ρ (CRg K xr) b ∨ own x.μ (CM x) b → H b = none :=
          fun H' e => ⟨xr', x', _, _, _, rfl, hP9.ex (e10.trans e), hL10.ex e, m1, m2, hsn9, hB9, e9.trans (e10.trans e), fr9⟩
        refine s_when (b := decide (V.int (tn % 7) = V.int 0)) (fun H1 e Qb qb => ⟨_, rfl, _, _, rfl, rfl, (show (0 : Int) < 7 by decide), rfl, _, rfl, qb H1 (Ex.refl _)⟩) (fun _ H12 e12 => ?_) (fun _ H12 e12 => fin _ (e11.trans e12))
        have e0c := e11.trans e12
        refine ⟨_, rfl, xr', rfl, (hL10.ex e0c).R, hL9.x, fun H13 e13 => ?_⟩
        refine s_when (b := false) (seen rfl rfl (e10.trans (e0c.trans e13))) (fun hb => nomatch hb) (fun _ H14 e14 => fin _ ((e0c.trans e13).trans e14))
      · obtain ⟨xr, x, y6, y7, y8, rfl, _, _, _, _, _, _, e0, _⟩ := pr
        exact ⟨e0, _, _, _, _, _, _, _, _, rfl⟩
  · exact k H'
end
end CR
set_option maxRecDepth 100000
set_option maxHeartbeats 0
/-! Cycleready: the head: what the top has left, by the kernel's run. -/
namespace CR
open PySem PySem.Spec PyProof.Rows L2
abbrev RR : PySem.W.OpenRow := PySem.W.OpenLaw.row PySem.Challenge.rw_cycleready_k45_whole_registry_by_an_own
def loose1 : List Str := ["_wall", "__name__", "LoaderError", "InvalidName", "InvalidModules", "InvalidNumber", "UnknownModule", "NoNeed", "WrongState", "MustWait", "StillNeeded", "MOST_LETTERS", "LETTERS", "is_name", "is_integer", "MOST_MODULES", "want_names", "Needs", "NEW", "RUNNING", "DONE", "READY", "FAILED", "EARLY", "WAIT", "are_modules", "Registry"]
def loose2 : List Str := ["_law_pot", "_law_draw", "_law_choice", "_law_word", "_law_words", "_law_reach", "_law_answer", "_law_finished", "_law_down", "_law_failed", "_law_released", "_law_empty", "_law_in", "_law_asks", "_law_accesses", "_law_unloaded", "_law_retried", "_law_can_retry", "_law_row", "_law_done", "_law_applied", "_law_step", "_law_due", "_law_shown", "_law_answers_right", "_law_spoil"]
def loose : List Str := loose1 ++ loose2
/-! ### what is asked of the part K of the heap -/
def aSt (K : PySem.W.Frag) : Addr := match PySem.W.findCls K (.ref (aF K "Registry")) (.type "type") "STATES" with
  | some (.val (.ref a)) => a
  | _ => 0
def smB (K : PySem.W.Frag) : Bool := PySem.W.plainGet K (aF K "Registry") Str.empty && (PySem.W.isClsIn K (aF K "Registry") && (He.eqO (PySem.W.findIn K (.ref (aF K "Registry")) "is_state") (some (some (.ref (aM K "Registry" "is_state")))) &&
  (decide (PySem.W.typeIn K (.ref (aM K "Registry" "is_state")) = some (.type "staticmethod")) && (He.eqO (PySem.W.specialIn K (.ref (aM K "Registry" "is_state")) "__get__") (some (some (.builtin "staticmethod.__get__"))) &&
  (decide (PySem.W.takesIn K (.ref (aM K "Registry" "is_state")) = some false) && ((match PySem.W.recIn K (aM K "Registry" "is_state") "staticmethod" with
    | some (.ref _ :: _) => true
    | _ => false) && PySem.W.keepIn K (.ref (He5.wf K (aF K "Registry") "staticmethod" "is_state"))))))))
def stB (K : PySem.W.Frag) : Bool := PySem.W.readsIn K (aF K "Registry") (.type "type") && (He.eqO (PySem.W.specialIn K (.ref (aF K "Registry")) "__getattribute__") (some (some (.builtin "type.__getattribute__"))) &&
  ((match PySem.W.findCls K (.ref (aF K "Registry")) (.type "type") "STATES" with
    | some (.val (.ref _)) => true
    | _ => false) && (match K.lookup (aSt K) with
    | some ⟨.type c, _, .seq its _, _⟩ => decide (c = "tuple") && (decide (its.size ≤ sizeLine) && He.relAll (states.map V.str) its.toList)
    | _ => false)))
def syB (K : PySem.W.Frag) : Bool := (K.lookup sysModules).isSome
theorem smB_ok {K : PySem.W.Frag} (h : smB K = true) : SInst K (aF K "Registry") "is_state" (aM K "Registry" "is_state") (He5.wf K (aF K "Registry") "staticmethod" "is_state") := by
  obtain ⟨h1, h⟩ := He.ba h
  obtain ⟨h2, h⟩ := He.ba h
  obtain ⟨h3, h⟩ := He.ba h
  obtain ⟨h4, h⟩ := He.ba h
  obtain ⟨h5, h⟩ := He.ba h
  obtain ⟨h6, h⟩ := He.ba h
  obtain ⟨h7, h8⟩ := He.ba h
  refine ⟨h1, h2, He.eqO_ok h3, of_decide_eq_true h4, He.eqO_ok h5, of_decide_eq_true h6, by decide +kernel, ?_, h8⟩
  unfold He5.wf
  show ∃ rest, PySem.W.recIn K (aM K "Registry" "is_state") "staticmethod" = some (.ref (match PySem.W.recIn K (aM K "Registry" "is_state") "staticmethod" with
    | some (.ref f :: _) => f
    | _ => 0) :: rest)
  revert h7
  generalize PySem.W.recIn K (aM K "Registry" "is_state") "staticmethod" = R
  intro h7
  split at h7
  · exact ⟨_, rfl⟩
  · cases h7
theorem stB_ok {K : PySem.W.Frag} (h : stB K = true) : ∃ (a : Addr) (mc u : Value), ClX.CRead K (aF K "Registry") mc ∧ ClX.CVal K (aF K "Registry") mc "STATES" (.ref a) u ∧ ∀ H : Hp, SqT K H a (states.map .str) := by
  obtain ⟨h1, h⟩ := He.ba h
  obtain ⟨h2, h⟩ := He.ba h
  obtain ⟨h3, h4⟩ := He.ba h
  refine ⟨aSt K, .type "type", .ref (aSt K), ⟨h1, He.eqO_ok h2⟩, ⟨?_, rfl⟩, fun H => ?_⟩
  · clear h4
    show PySem.W.findCls K (.ref (aF K "Registry")) (.type "type") "STATES" = some (.val (.ref (match PySem.W.findCls K (.ref (aF K "Registry")) (.type "type") "STATES" with
      | some (.val (.ref a)) => a
      | _ => 0)))
    revert h3
    generalize PySem.W.findCls K (.ref (aF K "Registry")) (.type "type") "STATES" = R
    intro h3
    split at h3
    · rfl
    · cases h3
  · clear h3
    revert h4
    generalize aSt K = a
    intro h4
    split at h4
    · rename_i c od its n sl e
      obtain ⟨g1, g2⟩ := He.ba h4
      obtain ⟨g3, g4⟩ := He.ba g2
      exact .inr ⟨_, its, n, e, congrArg Value.type (of_decide_eq_true g1), rfl, of_decide_eq_true g3, He.relAll_ok g4⟩
    · cases h4
theorem syB_ok {K : PySem.W.Frag} (h : syB K = true) : ∃ o, K.lookup sysModules = some o := Option.isSome_iff_exists.mp h
def fa0 : List He.Fa := [.glo "is_name", .keep "is_name", .glo "is_integer", .keep "is_integer", .glo "want_names", .keep "want_names", .glo "are_modules", .keep "are_modules", .meth "Needs" "clone", .meth "Needs" "pairs", .meth "Needs" "record", .meth "Needs" "targets", .meth "Needs" "sources", .meth "Needs" "delete", .meth "Needs" "delete_all", .meth "Needs" "paths_from", .meth "Needs" "depends", .meth "Needs" "closure", .meth "Registry" "names", .meth "Registry" "want_module", .meth "Registry" "want_state", .meth "Registry" "want_loose", .meth "Registry" "state_of", .meth "Registry" "in_state", .meth "Registry" "needs", .meth "Registry" "recorded", .meth "Registry" "early", .meth "Registry" "want_request", .meth "Registry" "request", .meth "Registry" "is_early"]
def fa1 : List He.Fa := [.meth "Registry" "answer", .meth "Registry" "access", .meth "Registry" "export", .meth "Registry" "exports", .meth "Registry" "is_complete", .meth "Registry" "finish", .meth "Registry" "forget_early", .meth "Registry" "mark_failed", .meth "Registry" "accessors", .meth "Registry" "fail", .meth "Registry" "chain", .meth "Registry" "is_held", .meth "Registry" "release", .meth "Registry" "retry", .meth "Registry" "unload", .glo "_law_pot", .keep "_law_pot", .glo "_law_draw", .keep "_law_draw", .glo "_law_choice", .keep "_law_choice", .glo "_law_word", .keep "_law_word", .glo "_law_words", .keep "_law_words", .glo "_law_reach", .keep "_law_reach", .glo "_law_answer", .keep "_law_answer", .glo "_law_finished"]
def fa2 : List He.Fa := [.keep "_law_finished", .glo "_law_down", .keep "_law_down", .glo "_law_failed", .keep "_law_failed", .glo "_law_released", .keep "_law_released", .glo "_law_empty", .keep "_law_empty", .glo "_law_in", .keep "_law_in", .glo "_law_asks", .keep "_law_asks", .glo "_law_accesses", .keep "_law_accesses", .glo "_law_unloaded", .keep "_law_unloaded", .glo "_law_retried", .keep "_law_retried", .glo "_law_can_retry", .keep "_law_can_retry", .glo "_law_row", .keep "_law_row", .glo "_law_done", .keep "_law_done", .glo "_law_applied", .keep "_law_applied", .glo "_law_step", .keep "_law_step", .glo "_law_due"]
def fa3 : List He.Fa := [.keep "_law_due", .glo "_law_shown", .keep "_law_shown", .glo "_law_answers_right", .keep "_law_answers_right", .glo "_law_spoil", .keep "_law_spoil", .glo "law", .keep "law", .glo "Needs", .cls "Needs", .mkr "Needs", .glo "Registry", .cls "Registry", .mkr "Registry", .noat "Needs" "own_targets", .noat "Registry" "own_states", .noat "Registry" "own_exports", .noat "Registry" "own_needs", .noat "Registry" "own_recorded", .noat "Registry" "own_early", .noat "Registry" "own_held", .noat "Registry" "own_chains", .int "MOST_LETTERS" 8, .int "MOST_MODULES" 40, .str "LETTERS" "abcdefghijklmnopqrstuvwxyz", .str "NEW" "new", .str "RUNNING" "running", .str "DONE" "done", .str "READY" "ready"]
def fa4 : List He.Fa := [.str "FAILED" "failed", .str "EARLY" "early", .str "WAIT" "wait", .free "len", .free "isinstance", .free "all", .free "any", .free "sorted", .free "list", .free "tuple", .free "dict", .free "abs", .free "max", .free "min", .free "divmod", .free "repr", .free "set", .free "range", .free "str", .free "int", .free "bool"]
def fa : List He.Fa := fa0 ++ (fa1 ++ (fa2 ++ (fa3 ++ (fa4))))

def fn0 : List He5.DefA := [⟨fun K => (aF K "is_name"), "is_name", "is_name", defArgs (top 14), defBody (top 14), defScope (top 14), [], []⟩, ⟨fun K => (aF K "is_integer"), "is_integer", "is_integer", defArgs (top 15), defBody (top 15), defScope (top 15), [], []⟩, ⟨fun K => (aF K "want_names"), "want_names", "want_names", defArgs (top 18), defBody (top 18), defScope (top 18), [], []⟩, ⟨fun K => (aF K "are_modules"), "are_modules", "are_modules", defArgs (top 28), defBody (top 28), defScope (top 28), [], []⟩, ⟨fun K => (aM K "Needs" "__init__"), "__init__", "Needs.__init__", defArgs (inClass (top 19) 0), defBody (inClass (top 19) 0), defScope (inClass (top 19) 0), [], []⟩, ⟨fun K => (aM K "Needs" "clone"), "clone", "Needs.clone", defArgs (inClass (top 19) 6), defBody (inClass (top 19) 6), defScope (inClass (top 19) 6), [], []⟩, ⟨fun K => (aM K "Needs" "pairs"), "pairs", "Needs.pairs", defArgs (inClass (top 19) 7), defBody (inClass (top 19) 7), defScope (inClass (top 19) 7), [], []⟩, ⟨fun K => (aM K "Needs" "record"), "record", "Needs.record", defArgs (inClass (top 19) 8), defBody (inClass (top 19) 8), defScope (inClass (top 19) 8), [], []⟩, ⟨fun K => (aM K "Needs" "targets"), "targets", "Needs.targets", defArgs (inClass (top 19) 9), defBody (inClass (top 19) 9), defScope (inClass (top 19) 9), [], []⟩, ⟨fun K => (aM K "Needs" "sources"), "sources", "Needs.sources", defArgs (inClass (top 19) 10), defBody (inClass (top 19) 10), defScope (inClass (top 19) 10), [], []⟩, ⟨fun K => (aM K "Needs" "delete"), "delete", "Needs.delete", defArgs (inClass (top 19) 11), defBody (inClass (top 19) 11), defScope (inClass (top 19) 11), [], []⟩, ⟨fun K => (aM K "Needs" "delete_all"), "delete_all", "Needs.delete_all", defArgs (inClass (top 19) 12), defBody (inClass (top 19) 12), defScope (inClass (top 19) 12), [], []⟩, ⟨fun K => (aM K "Needs" "paths_from"), "paths_from", "Needs.paths_from", defArgs (inClass (top 19) 13), defBody (inClass (top 19) 13), defScope (inClass (top 19) 13), [], []⟩, ⟨fun K => (aM K "Needs" "depends"), "depends", "Needs.depends", defArgs (inClass (top 19) 14), defBody (inClass (top 19) 14), defScope (inClass (top 19) 14), [], []⟩, ⟨fun K => (aM K "Needs" "closure"), "closure", "Needs.closure", defArgs (inClass (top 19) 15), defBody (inClass (top 19) 15), defScope (inClass (top 19) 15), [], []⟩, ⟨fun K => (aM K "Registry" "__init__"), "__init__", "Registry.__init__", defArgs (inClass (top 29) 1), defBody (inClass (top 29) 1), defScope (inClass (top 29) 1), [], []⟩, ⟨fun K => (aM K "Registry" "names"), "names", "Registry.names", defArgs (inClass (top 29) 7), defBody (inClass (top 29) 7), defScope (inClass (top 29) 7), [], []⟩, ⟨fun K => (aM K "Registry" "want_module"), "want_module", "Registry.want_module", defArgs (inClass (top 29) 8), defBody (inClass (top 29) 8), defScope (inClass (top 29) 8), [], []⟩, ⟨fun K => (aM K "Registry" "want_state"), "want_state", "Registry.want_state", defArgs (inClass (top 29) 9), defBody (inClass (top 29) 9), defScope (inClass (top 29) 9), [], []⟩, ⟨fun K => (aM K "Registry" "want_loose"), "want_loose", "Registry.want_loose", defArgs (inClass (top 29) 10), defBody (inClass (top 29) 10), defScope (inClass (top 29) 10), [], []⟩]
def fn1 : List He5.DefA := [⟨fun K => (aM K "Registry" "state_of"), "state_of", "Registry.state_of", defArgs (inClass (top 29) 11), defBody (inClass (top 29) 11), defScope (inClass (top 29) 11), [], []⟩, ⟨fun K => (aM K "Registry" "in_state"), "in_state", "Registry.in_state", defArgs (inClass (top 29) 12), defBody (inClass (top 29) 12), defScope (inClass (top 29) 12), [], []⟩, ⟨fun K => (aM K "Registry" "needs"), "needs", "Registry.needs", defArgs (inClass (top 29) 13), defBody (inClass (top 29) 13), defScope (inClass (top 29) 13), [], []⟩, ⟨fun K => (aM K "Registry" "recorded"), "recorded", "Registry.recorded", defArgs (inClass (top 29) 14), defBody (inClass (top 29) 14), defScope (inClass (top 29) 14), [], []⟩, ⟨fun K => (aM K "Registry" "early"), "early", "Registry.early", defArgs (inClass (top 29) 15), defBody (inClass (top 29) 15), defScope (inClass (top 29) 15), [], []⟩, ⟨fun K => (aM K "Registry" "want_request"), "want_request", "Registry.want_request", defArgs (inClass (top 29) 16), defBody (inClass (top 29) 16), defScope (inClass (top 29) 16), [], []⟩, ⟨fun K => (aM K "Registry" "request"), "request", "Registry.request", defArgs (inClass (top 29) 17), defBody (inClass (top 29) 17), defScope (inClass (top 29) 17), [], []⟩, ⟨fun K => (aM K "Registry" "is_early"), "is_early", "Registry.is_early", defArgs (inClass (top 29) 18), defBody (inClass (top 29) 18), defScope (inClass (top 29) 18), [], []⟩, ⟨fun K => (aM K "Registry" "answer"), "answer", "Registry.answer", defArgs (inClass (top 29) 19), defBody (inClass (top 29) 19), defScope (inClass (top 29) 19), [], []⟩, ⟨fun K => (aM K "Registry" "access"), "access", "Registry.access", defArgs (inClass (top 29) 20), defBody (inClass (top 29) 20), defScope (inClass (top 29) 20), [], []⟩, ⟨fun K => (aM K "Registry" "export"), "export", "Registry.export", defArgs (inClass (top 29) 21), defBody (inClass (top 29) 21), defScope (inClass (top 29) 21), [], []⟩, ⟨fun K => (aM K "Registry" "exports"), "exports", "Registry.exports", defArgs (inClass (top 29) 22), defBody (inClass (top 29) 22), defScope (inClass (top 29) 22), [], []⟩, ⟨fun K => (aM K "Registry" "is_complete"), "is_complete", "Registry.is_complete", defArgs (inClass (top 29) 24), defBody (inClass (top 29) 24), defScope (inClass (top 29) 24), [], []⟩, ⟨fun K => (aM K "Registry" "finish"), "finish", "Registry.finish", defArgs (inClass (top 29) 25), defBody (inClass (top 29) 25), defScope (inClass (top 29) 25), [], []⟩, ⟨fun K => (aM K "Registry" "forget_early"), "forget_early", "Registry.forget_early", defArgs (inClass (top 29) 26), defBody (inClass (top 29) 26), defScope (inClass (top 29) 26), [], []⟩, ⟨fun K => (aM K "Registry" "mark_failed"), "mark_failed", "Registry.mark_failed", defArgs (inClass (top 29) 27), defBody (inClass (top 29) 27), defScope (inClass (top 29) 27), [], []⟩, ⟨fun K => (aM K "Registry" "accessors"), "accessors", "Registry.accessors", defArgs (inClass (top 29) 28), defBody (inClass (top 29) 28), defScope (inClass (top 29) 28), [], []⟩, ⟨fun K => (aM K "Registry" "fail"), "fail", "Registry.fail", defArgs (inClass (top 29) 29), defBody (inClass (top 29) 29), defScope (inClass (top 29) 29), [], [("because", .non)]⟩, ⟨fun K => (aM K "Registry" "chain"), "chain", "Registry.chain", defArgs (inClass (top 29) 30), defBody (inClass (top 29) 30), defScope (inClass (top 29) 30), [], []⟩, ⟨fun K => (aM K "Registry" "is_held"), "is_held", "Registry.is_held", defArgs (inClass (top 29) 31), defBody (inClass (top 29) 31), defScope (inClass (top 29) 31), [], []⟩]
def fn2 : List He5.DefA := [⟨fun K => (aM K "Registry" "release"), "release", "Registry.release", defArgs (inClass (top 29) 32), defBody (inClass (top 29) 32), defScope (inClass (top 29) 32), [], []⟩, ⟨fun K => (aM K "Registry" "retry"), "retry", "Registry.retry", defArgs (inClass (top 29) 33), defBody (inClass (top 29) 33), defScope (inClass (top 29) 33), [], []⟩, ⟨fun K => (aM K "Registry" "unload"), "unload", "Registry.unload", defArgs (inClass (top 29) 34), defBody (inClass (top 29) 34), defScope (inClass (top 29) 34), [], []⟩, ⟨fun K => (aF K "_law_pot"), "_law_pot", "_law_pot", defArgs (top 31), defBody (top 31), defScope (top 31), [], []⟩, ⟨fun K => (aF K "_law_draw"), "_law_draw", "_law_draw", defArgs (top 32), defBody (top 32), defScope (top 32), [], []⟩, ⟨fun K => (aF K "_law_choice"), "_law_choice", "_law_choice", defArgs (top 33), defBody (top 33), defScope (top 33), [], []⟩, ⟨fun K => (aF K "_law_word"), "_law_word", "_law_word", defArgs (top 34), defBody (top 34), defScope (top 34), [], []⟩, ⟨fun K => (aF K "_law_words"), "_law_words", "_law_words", defArgs (top 35), defBody (top 35), defScope (top 35), [], []⟩, ⟨fun K => (aF K "_law_reach"), "_law_reach", "_law_reach", defArgs (top 36), defBody (top 36), defScope (top 36), [], []⟩, ⟨fun K => (aF K "_law_answer"), "_law_answer", "_law_answer", defArgs (top 37), defBody (top 37), defScope (top 37), [], []⟩, ⟨fun K => (aF K "_law_finished"), "_law_finished", "_law_finished", defArgs (top 38), defBody (top 38), defScope (top 38), [], []⟩, ⟨fun K => (aF K "_law_down"), "_law_down", "_law_down", defArgs (top 39), defBody (top 39), defScope (top 39), [], []⟩, ⟨fun K => (aF K "_law_failed"), "_law_failed", "_law_failed", defArgs (top 40), defBody (top 40), defScope (top 40), [], []⟩, ⟨fun K => (aF K "_law_released"), "_law_released", "_law_released", defArgs (top 41), defBody (top 41), defScope (top 41), [], []⟩, ⟨fun K => (aF K "_law_empty"), "_law_empty", "_law_empty", defArgs (top 42), defBody (top 42), defScope (top 42), [], []⟩, ⟨fun K => (aF K "_law_in"), "_law_in", "_law_in", defArgs (top 43), defBody (top 43), defScope (top 43), [], []⟩, ⟨fun K => (aF K "_law_asks"), "_law_asks", "_law_asks", defArgs (top 44), defBody (top 44), defScope (top 44), [], []⟩, ⟨fun K => (aF K "_law_accesses"), "_law_accesses", "_law_accesses", defArgs (top 45), defBody (top 45), defScope (top 45), [], []⟩, ⟨fun K => (aF K "_law_unloaded"), "_law_unloaded", "_law_unloaded", defArgs (top 46), defBody (top 46), defScope (top 46), [], []⟩, ⟨fun K => (aF K "_law_retried"), "_law_retried", "_law_retried", defArgs (top 47), defBody (top 47), defScope (top 47), [], []⟩]
def fn3 : List He5.DefA := [⟨fun K => (aF K "_law_can_retry"), "_law_can_retry", "_law_can_retry", defArgs (top 48), defBody (top 48), defScope (top 48), [], []⟩, ⟨fun K => (aF K "_law_row"), "_law_row", "_law_row", defArgs (top 49), defBody (top 49), defScope (top 49), [], []⟩, ⟨fun K => (aF K "_law_done"), "_law_done", "_law_done", defArgs (top 50), defBody (top 50), defScope (top 50), [], []⟩, ⟨fun K => (aF K "_law_applied"), "_law_applied", "_law_applied", defArgs (top 51), defBody (top 51), defScope (top 51), [], []⟩, ⟨fun K => (aF K "_law_step"), "_law_step", "_law_step", defArgs (top 52), defBody (top 52), defScope (top 52), [], []⟩, ⟨fun K => (aF K "_law_due"), "_law_due", "_law_due", defArgs (top 53), defBody (top 53), defScope (top 53), [], []⟩, ⟨fun K => (aF K "_law_shown"), "_law_shown", "_law_shown", defArgs (top 54), defBody (top 54), defScope (top 54), [], []⟩, ⟨fun K => (aF K "_law_answers_right"), "_law_answers_right", "_law_answers_right", defArgs (top 55), defBody (top 55), defScope (top 55), [], []⟩, ⟨fun K => (aF K "_law_spoil"), "_law_spoil", "_law_spoil", defArgs (top 56), defBody (top 56), defScope (top 56), [], []⟩, ⟨fun K => (aF K "law"), "law", "law", defArgs (top 57), defBody (top 57), defScope (top 57), [], []⟩, ⟨fun K => (He5.wf K (aF K "Registry") "staticmethod" "is_state"), "is_state", "Registry.is_state", defArgs (inClass (top 29) 6), defBody (inClass (top 29) 6), defScope (inClass (top 29) 6), [], []⟩]
def fn : List He5.DefA := fn0 ++ (fn1 ++ (fn2 ++ (fn3)))

/-! ### the Hook -/
def obsB (K : PySem.W.Frag) : He.AlD := ((fa.all fun f => f.ok K) && ((fn.all fun d => d.ok K) && (smB K && (stB K && syB K))), fn.map fun d => He5.fnA K (d.at_ K))
def SaysB (K : PySem.W.Frag) : Prop := obsB K = He5.valA fn
/-- what an object names -/
def nms (g : Addr → Option Obj) (a : Addr) : List Addr := match g a with
  | some o => He.refsD o
  | none => []
/-- what two classes name, their spaces -/
def nm2 (g : Addr → Option Obj) (R N : Addr) : List Addr := nms g R ++ nms g N
/-- the addresses of the part: the module's space, its two classes, what they name, the functions' codes -/
def asW (g : Addr → Option Obj) (R N : Addr) : List Addr := [mainGlobals, R, N] ++ (nm2 g R N ++ ((nm2 g R N).flatMap (nms g) ++ (nms g mainGlobals ++ ((nms g mainGlobals).flatMap (nms g) ++ (((nm2 g R N).flatMap (nms g)).flatMap (nms g) ++ (nms g (He5.wf (He.frG g ([mainGlobals, R] ++ (nm2 g R N ++ (nm2 g R N).flatMap (nms g)))) R "staticmethod" "is_state") ++ [cStatics, sysModules]))))))
def obsBG (g : Addr → Option Obj) : He.AlD := obsB (He.frG g (asW g (He.ga (He.frG g [mainGlobals]) "Registry") (He.ga (He.frG g [mainGlobals]) "Needs")))
abbrev hk : PySem.W.Hook where
  α := He.AlD
  obs := fun s => obsBG s.heap.get?
  val := fun _ => He5.valA fn
  says := fun _ h => ∃ K : PySem.W.Frag, K.In h ∧ SaysB K
  of := fun _ _ e => ⟨_, He.frG_in, e⟩
  keeps := fun _ _ _ ⟨K, hK, c⟩ k => ⟨K, PySem.W.Frag.In.keeps hK k, c⟩
def ob (s : PySem.W.SharedT) : He.AlD := obsBG (HandSHeadRun.getT s)
theorem ob_eq (s : PySem.W.SharedT) : ob s = hk.obs s.abs := congrArg obsBG (funext (HandSHeadRun.getT_eq s))
section
variable {K : PySem.W.Frag} {h : Heap} {mg : Str → Option Value}
theorem SaysB.all (c : SaysB K) : ((fa.all fun f => f.ok K) && ((fn.all fun d => d.ok K) && (smB K && (stB K && syB K)))) = true := congrArg (fun z : He.AlD => z.1) c
theorem SaysB.fact (c : SaysB K) (i : Nat) {f : He.Fa} (h : fa[i]? = some f := by rfl) : f.ok K = true := List.all_eq_true.mp (He.ba c.all).1 f (List.mem_of_getElem? h)
theorem SaysB.def_ (c : SaysB K) (i : Nat) {d : He5.DefA} (h : fn[i]? = some d := by rfl) : ∃ fd, L2.FunD K d.name d.qual d.params d.body d.scope (d.dvs K) (d.kws K) (d.at_ K) fd := by
  have e : fn.map (fun d => He5.fnA K (d.at_ K)) = fn.map He5.DefA.val := congrArg (fun z : He.AlD => z.2) c
  have e2 : (fn.map fun d => He5.fnA K (d.at_ K))[i]? = (fn.map He5.DefA.val)[i]? := by rw [e]
  rw [List.getElem?_map, List.getElem?_map, h] at e2
  exact He5.DefA.funD (Option.some.inj e2) (List.all_eq_true.mp (He.ba (He.ba c.all).2).1 d (List.mem_of_getElem? h))
theorem SaysB.smB (c : SaysB K) : CR.smB K = true := (He.ba (He.ba (He.ba c.all).2).2).1
theorem SaysB.stB (c : SaysB K) : CR.stB K = true := (He.ba (He.ba (He.ba (He.ba c.all).2).2).2).1
theorem SaysB.syB (c : SaysB K) : CR.syB K = true := (He.ba (He.ba (He.ba (He.ba c.all).2).2).2).2
theorem txt_of (X : K.In h) (G : h.Ns mainGlobals mg) (c : SaysB K) : Txt K mg := { f_is_name := c.def_ 0, g_is_name := He.glo_ok X G (c.fact 0), k_is_name := He.keep_ok (c.fact 1), f_is_integer := c.def_ 1, g_is_integer := He.glo_ok X G (c.fact 2), k_is_integer := He.keep_ok (c.fact 3), f_want_names := c.def_ 2, g_want_names := He.glo_ok X G (c.fact 4), k_want_names := He.keep_ok (c.fact 5), f_are_modules := c.def_ 3, g_are_modules := He.glo_ok X G (c.fact 6), k_are_modules := He.keep_ok (c.fact 7), f_N_init := c.def_ 4, f_N_clone := c.def_ 5, m_Needs_clone := He.meth_ok (c.fact 8), f_N_pairs := c.def_ 6, m_Needs_pairs := He.meth_ok (c.fact 9), f_N_record := c.def_ 7, m_Needs_record := He.meth_ok (c.fact 10), f_N_targets := c.def_ 8, m_Needs_targets := He.meth_ok (c.fact 11), f_N_sources := c.def_ 9, m_Needs_sources := He.meth_ok (c.fact 12), f_N_delete := c.def_ 10, m_Needs_delete := He.meth_ok (c.fact 13), f_N_delete_all := c.def_ 11, m_Needs_delete_all := He.meth_ok (c.fact 14), f_N_paths_from := c.def_ 12, m_Needs_paths_from := He.meth_ok (c.fact 15), f_N_depends := c.def_ 13, m_Needs_depends := He.meth_ok (c.fact 16), f_N_closure := c.def_ 14, m_Needs_closure := He.meth_ok (c.fact 17), f_R_init := c.def_ 15, f_R_names := c.def_ 16, m_Registry_names := He.meth_ok (c.fact 18), f_R_want_module := c.def_ 17, m_Registry_want_module := He.meth_ok (c.fact 19), f_R_want_state := c.def_ 18, m_Registry_want_state := He.meth_ok (c.fact 20), f_R_want_loose := c.def_ 19, m_Registry_want_loose := He.meth_ok (c.fact 21), f_R_state_of := c.def_ 20, m_Registry_state_of := He.meth_ok (c.fact 22), f_R_in_state := c.def_ 21, m_Registry_in_state := He.meth_ok (c.fact 23), f_R_needs := c.def_ 22, m_Registry_needs := He.meth_ok (c.fact 24), f_R_recorded := c.def_ 23, m_Registry_recorded := He.meth_ok (c.fact 25), f_R_early := c.def_ 24, m_Registry_early := He.meth_ok (c.fact 26), f_R_want_request := c.def_ 25, m_Registry_want_request := He.meth_ok (c.fact 27), f_R_request := c.def_ 26, m_Registry_request := He.meth_ok (c.fact 28), f_R_is_early := c.def_ 27, m_Registry_is_early := He.meth_ok (c.fact 29), f_R_answer := c.def_ 28, m_Registry_answer := He.meth_ok (c.fact 30), f_R_access := c.def_ 29, m_Registry_access := He.meth_ok (c.fact 31), f_R_export := c.def_ 30, m_Registry_export := He.meth_ok (c.fact 32), f_R_exports := c.def_ 31, m_Registry_exports := He.meth_ok (c.fact 33), f_R_is_complete := c.def_ 32, m_Registry_is_complete := He.meth_ok (c.fact 34), f_R_finish := c.def_ 33, m_Registry_finish := He.meth_ok (c.fact 35), f_R_forget_early := c.def_ 34, m_Registry_forget_early := He.meth_ok (c.fact 36), f_R_mark_failed := c.def_ 35, m_Registry_mark_failed := He.meth_ok (c.fact 37), f_R_accessors := c.def_ 36, m_Registry_accessors := He.meth_ok (c.fact 38), f_R_fail := c.def_ 37, m_Registry_fail := He.meth_ok (c.fact 39), f_R_chain := c.def_ 38, m_Registry_chain := He.meth_ok (c.fact 40), f_R_is_held := c.def_ 39, m_Registry_is_held := He.meth_ok (c.fact 41), f_R_release := c.def_ 40, m_Registry_release := He.meth_ok (c.fact 42), f_R_retry := c.def_ 41, m_Registry_retry := He.meth_ok (c.fact 43), f_R_unload := c.def_ 42, m_Registry_unload := He.meth_ok (c.fact 44), f_l_pot := c.def_ 43, g__law_pot := He.glo_ok X G (c.fact 45), k__law_pot := He.keep_ok (c.fact 46), f_l_draw := c.def_ 44, g__law_draw := He.glo_ok X G (c.fact 47), k__law_draw := He.keep_ok (c.fact 48), f_l_choice := c.def_ 45, g__law_choice := He.glo_ok X G (c.fact 49), k__law_choice := He.keep_ok (c.fact 50), f_l_word := c.def_ 46, g__law_word := He.glo_ok X G (c.fact 51), k__law_word := He.keep_ok (c.fact 52), f_l_words := c.def_ 47, g__law_words := He.glo_ok X G (c.fact 53), k__law_words := He.keep_ok (c.fact 54), f_l_reach := c.def_ 48, g__law_reach := He.glo_ok X G (c.fact 55), k__law_reach := He.keep_ok (c.fact 56), f_l_answer := c.def_ 49, g__law_answer := He.glo_ok X G (c.fact 57), k__law_answer := He.keep_ok (c.fact 58), f_l_finished := c.def_ 50, g__law_finished := He.glo_ok X G (c.fact 59), k__law_finished := He.keep_ok (c.fact 60), f_l_down := c.def_ 51, g__law_down := He.glo_ok X G (c.fact 61), k__law_down := He.keep_ok (c.fact 62), f_l_failed := c.def_ 52, g__law_failed := He.glo_ok X G (c.fact 63), k__law_failed := He.keep_ok (c.fact 64), f_l_released := c.def_ 53, g__law_released := He.glo_ok X G (c.fact 65), k__law_released := He.keep_ok (c.fact 66), f_l_empty := c.def_ 54, g__law_empty := He.glo_ok X G (c.fact 67), k__law_empty := He.keep_ok (c.fact 68), f_l_in := c.def_ 55, g__law_in := He.glo_ok X G (c.fact 69), k__law_in := He.keep_ok (c.fact 70), f_l_asks := c.def_ 56, g__law_asks := He.glo_ok X G (c.fact 71), k__law_asks := He.keep_ok (c.fact 72), f_l_accesses := c.def_ 57, g__law_accesses := He.glo_ok X G (c.fact 73), k__law_accesses := He.keep_ok (c.fact 74), f_l_unloaded := c.def_ 58, g__law_unloaded := He.glo_ok X G (c.fact 75), k__law_unloaded := He.keep_ok (c.fact 76), f_l_retried := c.def_ 59, g__law_retried := He.glo_ok X G (c.fact 77), k__law_retried := He.keep_ok (c.fact 78), f_l_can_retry := c.def_ 60, g__law_can_retry := He.glo_ok X G (c.fact 79), k__law_can_retry := He.keep_ok (c.fact 80), f_l_row := c.def_ 61, g__law_row := He.glo_ok X G (c.fact 81), k__law_row := He.keep_ok (c.fact 82), f_l_done := c.def_ 62, g__law_done := He.glo_ok X G (c.fact 83), k__law_done := He.keep_ok (c.fact 84), f_l_applied := c.def_ 63, g__law_applied := He.glo_ok X G (c.fact 85), k__law_applied := He.keep_ok (c.fact 86), f_l_step := c.def_ 64, g__law_step := He.glo_ok X G (c.fact 87), k__law_step := He.keep_ok (c.fact 88), f_l_due := c.def_ 65, g__law_due := He.glo_ok X G (c.fact 89), k__law_due := He.keep_ok (c.fact 90), f_l_shown := c.def_ 66, g__law_shown := He.glo_ok X G (c.fact 91), k__law_shown := He.keep_ok (c.fact 92), f_l_answers_right := c.def_ 67, g__law_answers_right := He.glo_ok X G (c.fact 93), k__law_answers_right := He.keep_ok (c.fact 94), f_l_spoil := c.def_ 68, g__law_spoil := He.glo_ok X G (c.fact 95), k__law_spoil := He.keep_ok (c.fact 96), f_law := c.def_ 69, g_law := He.glo_ok X G (c.fact 97), k_law := He.keep_ok (c.fact 98), g_Needs := He.glo_ok X G (c.fact 99), cl_Needs := He.cls_ok (c.fact 100), mk_Needs := He.mkr_ok (c.fact 101), g_Registry := He.glo_ok X G (c.fact 102), cl_Registry := He.cls_ok (c.fact 103), mk_Registry := He.mkr_ok (c.fact 104), n_own_targets := He.noat_ok (c.fact 105), n_own_states := He.noat_ok (c.fact 106), n_own_exports := He.noat_ok (c.fact 107), n_own_needs := He.noat_ok (c.fact 108), n_own_recorded := He.noat_ok (c.fact 109), n_own_early := He.noat_ok (c.fact 110), n_own_held := He.noat_ok (c.fact 111), n_own_chains := He.noat_ok (c.fact 112), c_MOST_LETTERS := He.int_ok X G (c.fact 113), c_MOST_MODULES := He.int_ok X G (c.fact 114), c_LETTERS := He.str_ok X G (c.fact 115), c_NEW := He.str_ok X G (c.fact 116), c_RUNNING := He.str_ok X G (c.fact 117), c_DONE := He.str_ok X G (c.fact 118), c_READY := He.str_ok X G (c.fact 119), c_FAILED := He.str_ok X G (c.fact 120), c_EARLY := He.str_ok X G (c.fact 121), c_WAIT := He.str_ok X G (c.fact 122), b_len := He.free_ok X G (c.fact 123), b_isinstance := He.free_ok X G (c.fact 124), b_all := He.free_ok X G (c.fact 125), b_any := He.free_ok X G (c.fact 126), b_sorted := He.free_ok X G (c.fact 127), b_list := He.free_ok X G (c.fact 128), b_tuple := He.free_ok X G (c.fact 129), b_dict := He.free_ok X G (c.fact 130), b_abs := He.free_ok X G (c.fact 131), b_max := He.free_ok X G (c.fact 132), b_min := He.free_ok X G (c.fact 133), b_divmod := He.free_ok X G (c.fact 134), b_repr := He.free_ok X G (c.fact 135), b_set := He.free_ok X G (c.fact 136), b_range := He.free_ok X G (c.fact 137), b_str := He.free_ok X G (c.fact 138), b_int := He.free_ok X G (c.fact 139), b_bool := He.free_ok X G (c.fact 140), f_R_is_state := c.def_ 70, sm_is_state := smB_ok c.smB, s_STATES := stB_ok c.stB, sysm := syB_ok c.syB }
end
theorem run (w : World) : HandSHeadRun.RunEq RR (PySem.W.view RR.prog [57]) hk ob 6000 loose w := by
  intro os
  kernel_rfl
end CR
set_option maxRecDepth 100000
set_option maxHeartbeats 4000000
/-! Cycleready: the law's call behind the top, the end. -/
namespace CR
open PySem PySem.Spec PyProof.Rows L2 Evl
/-- the call of a law whose def wants no guard -/
theorem law_go {P : Program} {w : World} {K : PySem.W.Frag} {mg mb : Str → Option Value} {k : Nat} {fa a : Addr} {x : Str} {sp : Sp} {z : Shared} {vs : List Value} {ns : List Int} (KX : K.In z.heap) (gl : z.heap.Ns mainGlobals mg)
    (bl : z.heap.Ns builtinsNs mb) (bb : ∀ x : Str, x ≠ "__name__" → mb x = bootBuiltins x) (nl : z.heap.NoLimit) (ng : z.gens = #[]) (at_ : z.heap.get? a = some { cls := .type "list", data := .seq vs.toArray }) (hi : IntsAre vs ns) (sz : ns.length ≤ sizeLine) (room : Room k callerA)
    (F : ∀ base : Heap, OkG P w K mg base k fa [x] sp) (ask : ∀ H : Hp, SqL K H a (ns.map V.int) → sp [.ref a] H (fun v _ => v = .bl true) E0) :
    codeAny (model P w) callerA (.call (.ref fa) ⟨[.ref a], []⟩) (fun r s' => r = .ok (.ret (.bool true)) ∧ OldK z.heap s'.heap ∧ s'.os = z.os ∧ AllBare s'.gens) z := by
  have rvi := vals_ints hi
  have nvs := hi.length
  have go : ∀ H : Hp, (∀ b u, H b = some u → b = a ∧ K.lookup a = none ∧ ∃ o xs, u = .frz o (.lst xs)) → SqL K H a (ns.map V.int) → HOk P w H z.heap →
      codeAny (model P w) callerA (.call (.ref fa) ⟨[.ref a], []⟩) (fun r s' => r = .ok (.ret (.bool true)) ∧ OldK z.heap s'.heap ∧ s'.os = z.os ∧ AllBare s'.gens) z := by
    intro H only hS hok
    have away : ∀ {b : Addr}, b ≠ a → H b = none := fun {b} ne => by
      cases q : H b with
      | none => rfl
      | some u => exact absurd (only b u q).1 ne
    have ns_ : ∀ {b : Addr} {m : Str → Option Value}, z.heap.Ns b m → (hidT z.heap H).Ns b m := fun {b m} ⟨o, es, ep, e, d, r⟩ => ⟨o, es, ep, hidT_get e (away fun q => by
      rw [q, at_] at e
      cases e
      have d' : Data.seq vs.toArray _ = Data.dict es ep := d
      cases d'), d, r⟩
    have inB : K.In (hidT z.heap H) := fun b o e => hidT_get (KX b o e) (by
      cases q : H b with
      | none => rfl
      | some u =>
        obtain ⟨q1, q2, _⟩ := only b u q
        rw [q1, q2] at e
        cases e)
    obtain ⟨mc, c1, c2⟩ := nl
    have M : Mod K mg (hidT z.heap H) := ⟨inB, ns_ gl, ⟨mb, ns_ bl, bb⟩, ⟨mc, ns_ c1, c2⟩⟩
    obtain ⟨fd, F1, F2⟩ := F (hidT z.heap H)
    refine codeAny_mono (F1.go callerA [] z H ⟨[.ref a], []⟩ [.ref a] [.ref a] _ E0 rfl room ⟨rfl, M, fun b o e => of_hidT e, Nat.le_of_eq (hidT_size _ _), trivial, fun b hb => absurd (show b ∈ ([] : List Addr) from hb) (by simp), hok, .of_eq ng⟩ (F2 z [.ref a] KX rfl) (.cons rfl .nil) (ask H hS)) fun r s2 h => ?_
    match r, h with
    | .ok (.ret u), ⟨v, H', os, bare, un, hok', r', q⟩ =>
      have q' : v = .bl true := q
      subst q'
      obtain rfl : u = Value.bool true := r'
      refine ⟨rfl, OldK.of_keep fun b o e => ?_, os, bare⟩
      cases q : H b with
      | none => exact un.keep b o e q (fun y => absurd (show b ∈ ([] : List Addr) from y) (by simp)) (by simp)
      | some u =>
        obtain ⟨_, _, ob, xs, y⟩ := only b u q
        rw [y] at q
        have e1 := (hok b _ q).1
        rw [e] at e1
        cases e1
        exact (hok' b _ (un.frzs b _ _ q)).1
  cases hk : K.lookup a with
  | some o =>
    have e := KX a o hk
    rw [at_] at e
    cases e
    exact go (fun _ => none) (fun b u y => nomatch (show (none : Option HO) = some u from y)) (.inr ⟨_, vs.toArray, _, hk, rfl, rfl, rfl, by rw [List.size_toArray, nvs]; exact sz, by simpa using rvi⟩) (fun b u y => nomatch (show (none : Option HO) = some u from y))
  | none =>
    have one : ∀ {b : Addr} {u : HO}, (if b = a then some (HO.frz { cls := .type "list", data := .seq vs.toArray } (.lst (ns.map V.int))) else none) = some u → b = a ∧ u = HO.frz { cls := .type "list", data := .seq vs.toArray } (.lst (ns.map V.int)) := fun {b u} y => by
      by_cases hb : b = a
      · rw [if_pos hb] at y
        exact ⟨hb, (Option.some.inj y).symm⟩
      · rw [if_neg hb] at y
        cases y
    refine go (fun b => if b = a then some (.frz { cls := .type "list", data := .seq vs.toArray } (.lst (ns.map V.int))) else none) (fun b u y => ⟨(one y).1, hk, _, _, (one y).2⟩) (.inl (.inr ⟨{ cls := .type "list", data := .seq vs.toArray }, if_pos rfl⟩)) (fun b u y => ?_)
    obtain ⟨y1, y2⟩ := one y
    subst y1 y2
    exact ⟨at_, by rw [List.length_map]; exact sz, vs, _, rvi, at_⟩
end CR
open PySem PySem.W PySem.Calls PyProof.Rows
set_option maxHeartbeats 0 in
theorem PySem.Challenge.cw_cycleready_k45_whole_registry_by_an_own_holds : PySem.Challenge.rw_cycleready_k45_whole_registry_by_an_own.Holds := by
  w_on; o_law
  refine HandSHeadRun.head_any (r := OpenLaw.row PySem.Challenge.rw_cycleready_k45_whole_registry_by_an_own) (q := view (OpenLaw.row PySem.Challenge.rw_cycleready_k45_whole_registry_by_an_own).prog [57]) (H := CR.hk) (ob := CR.ob) (M := 6000) (loose := CR.loose) (d := HandSHeadRun.topDef (OpenLaw.row PySem.Challenge.rw_cycleready_k45_whole_registry_by_an_own).prog 57) (kwd := []) CR.ob_eq
    (by kernel_rfl) (fun s => by kernel_rfl) CR.run (by kernel_rfl) (by kernel_rfl) (by kernel_rfl) (by rfl) (by first | assumption | decide +kernel) (by decide +kernel) ⟨rfl, rfl, rfl, rfl, rfl, by decide +kernel⟩ ?hw ?hc
  case hw => w_witness2
  case hc =>
    refine Att.attach_call (n := 63) rfl (by kernel_rfl) fun w s₀ s₁ mg mb fa o pm cd doc a vs ns G Y ho hd hcd hmg hobj hints hlen hg => ?_
    obtain ⟨K, KX, c⟩ := Y
    have T := CR.txt_of KX G.T.g c
    have hmg : mg ("law" : PySem.Str) = some (.ref fa) := by
      have e : (HandSHeadRun.topDef (OpenLaw.row PySem.Challenge.rw_cycleready_k45_whole_registry_by_an_own).prog 57).name = ("law" : PySem.Str) := by kernel_rfl
      rw [← e]
      exact hmg
    have e := hmg.symm.trans T.g_law
    cases e
    exact CR.law_go KX G.T.g G.T.b G.T.builtins G.T.nolimit hg hobj hints (Nat.le_trans hlen (by decide)) ⟨rfl, by decide, by decide⟩ (fun base => CR.ok_law T) fun H hS => ⟨(a, ns), rfl, hS, hlen, fun _ => rfl⟩
