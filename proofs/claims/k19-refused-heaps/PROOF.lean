import PyProof.Rows.All
import Wide.All
import OpenK.AllK
import Wide.FinOn
import HandS.ForMost
import HandS.ForExc
import HandS.Walk
import HandS.IsInst
import HandS.Deep
import HandS.Style
import HandS.Zip
import HandS.SortInts
import HandS.EndBits
import KE.KeyNested
import HandS.ExcIs
import KE.SortData
import KE.DataCmp
import HandS.TupLe
import HandS.Conv
import HandS.Wide
import HandS.Lambda
import HandS.EndTab
import KE.KNest
import KE.KNestM
import PyProof.NeData
import HandS.HotCalls
import KE.IntBitsLaws
import KE.BitLaws
import PySem.Challenge.RW_heapmeld_k19_refused_heaps
set_option Elab.async false
set_option linter.all false
set_option maxRecDepth 100000
set_option maxHeartbeats 4000000
/-! ### promises of defs that are called where no text is being made -/
namespace VL
open PySem L2
structure FnGd (P : Program) (w : World) (K : PySem.W.Frag) (mg : Str → Option Value) (bs : Heap) (CX : CXT) (k : Nat) (f : Addr) (fd : FuncData) (ps : List Str) (sp : Sp) : Prop where
  ln : ∀ xs H Q E, sp xs H Q E → xs.length = ps.length
  go : ∀ (A : Around) (ou : List Env) (s : Shared) (H : Hp) (ar : Args) (us : List Value) (xs : List V) (Q : VK) (E : XK), A.guards = some [] → Room k A → Env0 P w K mg bs A ou s H → BindsTo s fd ar (ps.zip us) → Vals xs us → sp xs H Q E →
    codeAny (model P w) A (.call (.ref f) ar) (CR CX ou P w H s Q E) s
theorem FnGd.weak {P : Program} {w : World} {K : PySem.W.Frag} {mg : Str → Option Value} {bs : Heap} {CX : CXT} {k : Nat} {f : Addr} {fd : FuncData} {ps : List Str} {sp sp' : Sp} (F : FnGd P w K mg bs CX k f fd ps sp) (h : ∀ xs H Q E, sp' xs H Q E → sp xs H Q E) : FnGd P w K mg bs CX k f fd ps sp' :=
  ⟨fun xs H Q E q => F.ln xs H Q E (h _ _ _ _ q), fun A ou s H ar us xs Q E g r e b v q => F.go A ou s H ar us xs Q E g r e b v (h _ _ _ _ q)⟩
section
variable {X : Cx} {CX : CXT} {k : Nat} {f : Addr} {fd : FuncData} {ps : List Str} {sp : Sp} {E : L2.St → XK} {x : Str} {p pos : Pos} {e : Expr} {es : List Expr} {t : TA}
theorem go_in {pn : List (Addr × Obj)} {σ : L2.St} {H : Hp} {s : Shared} {Q : VK} {us : List Value} {xs : List V} (F : FnGd X.prog X.w X.K X.mg X.base CX k f fd ps sp) (hq : X.A.guards = some []) (hr : Room k X.A) (hb : Binds X.K fd ps []) (hx : PassesAt CX X σ (E σ))
    (I : Inv X pn σ H s) (r : Vals xs us) (h : sp xs H Q (E σ)) : wpAny (model X.prog X.w) X.A (call (.ref f) us) (EP X pn σ Q) X.xe s := by
  have n1 : us.length = ps.length := (r.length).symm.trans (F.ln _ _ _ _ h)
  have n2 : BindsTo s fd ⟨us, []⟩ (ps.zip us) := by
    have n3 := hb s us I.kIn (by rwa [List.append_nil])
    rwa [List.append_nil] at n3
  refine wpAny_call (codeAny_mono (F.go X.A X.stack s H ⟨us, []⟩ us xs Q (E σ) hq hr I.env0 n2 r h) fun z s2 w => ?_)
  rcases z with z | z
  · exact hx pn H s z s2 I w
  · cases z <;> first | exact I.after w | exact w.elim
theorem pe_callG (F : FnGd X.prog X.w X.K X.mg X.base CX k f fd ps sp) (hq : X.A.guards = some []) (hr : Room k X.A) (hg : Gl X x) (hm : X.mg x = some (.ref f)) (hk : PySem.W.keepIn X.K (.ref f) = true) (hb : Binds X.K fd ps []) (hx : ∀ σ, PassesAt CX X σ (E σ))
    (ha : PA X (e :: es) t) (hdb : (x == ("__debug__" : Str)) = false := by decide) (he : starEach (e :: es) X.env = (false, eval e X.env) :: starEach es X.env := by rfl) (hpl : (backTo pos (starEach es X.env)).any (·.1) = false := by rfl) : PE X (.Call (.Name x p) (e :: es) [] pos) (tCallS sp E t) :=
  ⟨fun pn s σ H Q I h => wpAny_Call_Name_kw (ld_glob I hg hm (PySem.W.callWith_K (h₀ := X.base) I.ok.mod.kin hk (thn (ha.run pos pn s σ H _ I h) fun us s1 ⟨xs, H1, I1, r, q⟩ => ⟨I1.kIn, go_in F hq hr hb (hx σ) I1 r q⟩) he hpl) hdb)⟩
theorem pe_callG0 (F : FnGd X.prog X.w X.K X.mg X.base CX k f fd ps sp) (hq : X.A.guards = some []) (hr : Room k X.A) (hg : Gl X x) (hm : X.mg x = some (.ref f)) (hk : PySem.W.keepIn X.K (.ref f) = true) (hb : Binds X.K fd ps []) (hx : ∀ σ, PassesAt CX X σ (E σ))
    (hdb : (x == ("__debug__" : Str)) = false := by decide) : PE X (.Call (.Name x p) [] [] pos) (tCallS sp E tNil) :=
  ⟨fun pn s σ H Q I h => wpAny_Call_Name_kw (ld_glob I hg hm (PySem.W.callWith_K0 I.kIn hk (go_in (us := []) F hq hr hb (hx σ) I .nil h)) hdb)⟩
end
theorem gd_mk {P : Program} {w : World} {K : PySem.W.Frag} {mg : Str → Option Value} {bs : Heap} {x qu : Str} {st : Stmt} {f : Addr} {fd : FuncData} {N ps : List Str} {k : Nat} {sp : Sp} (F : Fun K x qu st f fd) (S : FnScope N ps (defScope st)) (ln : ∀ xs H Q E, sp xs H Q E → xs.length = ps.length)
    (hb : ∀ (cdv : Value) (A : Around) (ou : List Env) (s : Shared) (H : Hp) (xs : List V) (Q : VK) (E : XK), A.guards = some [] → Room k (A.deeper (PyProof.Rows.envOfC qu (defScope st) s.heap.objs.size f cdv)) → sp xs H Q E →
      ∃ t, PSs (cxOf (L2.CX P w) P w K mg bs N qu (defScope st) f cdv A ou s H E) (defBody st) t ∧ t { nx := fun _ H' => Q .non H', rt := Q } (start N xs) H) : FnGd P w K mg bs (L2.CX P w) (k + 1) f fd ps sp := by
  obtain ⟨oc, od, kV, dc, pm, an, cdv, ct, osl, rfl, lk, hcd⟩ := F.ex
  refine ⟨ln, fun A ou s H ar us xs Q E hq hr e0 hbi r hsp => ?_⟩
  have stays : ∀ b o, bs.get? b = some o → s.heap.get? b = some o := fun b o e => (e0.bs b o e).1
  have inK : K.In s.heap := e0.mod.kin.keeps stays
  have kinds : ∀ y ∈ ps.zip us, (defScope st).names.lookup y.1 = some .local ∨ ((defScope st).names.lookup y.1 = some .cell ∧ ((cellsFrom (s.heap.objs.size + 1) (defScope st).names []).lookup y.1).isSome = true) := by
    rintro ⟨n, v⟩ hy
    exact (S.par n (List.of_mem_zip hy).1).imp id fun z => ⟨z, PySem.W.cellsFrom_some _ _ _ (.inl z)⟩
  refine codeAny_call_function hr.depth (inK _ _ lk) rfl S.co S.gen rfl (PySem.W.codeRec_of inK hcd) (hbi _ _ _ _ (wpAny_newFunctionEnv_cells S.kind kinds fun env he s1 nw => ?_))
  subst he
  refine ⟨(e0.mod.nolimit.keeps stays).keeps nw.toInCall.keep, codeAny_func ?_⟩
  obtain ⟨t, ht, w0⟩ := hb cdv A ou s H xs Q E hq (hr.deeper _) hsp
  refine wpAny_mono (ht.run [] s1 (start N xs) H _ (inv_start S hr.hd e0 (ln _ _ _ _ hsp) r nw) w0) (fun fl s2 z => ?_) fun _ _ z => z
  cases fl with
  | ret u => obtain ⟨v, σ2, H2, J, rv, q⟩ := z; exact ⟨v, H2, J.os, J.bare, J.base, J.hok, rv, q⟩
  | next => obtain ⟨σ2, H2, J, q⟩ := z; exact ⟨V.non, H2, J.os, J.bare, J.base, J.hok, rfl, q⟩
  | brk => obtain ⟨_, _, _, q⟩ := z; exact q.elim
  | cont => obtain ⟨_, _, _, q⟩ := z; exact q.elim
/-! ### the end: the law's def is called at the heap behind the top -/
section
open PySem.Spec PyProof.Rows
variable {P : Program} {w : World} {K : PySem.W.Frag} {mg mb : Str → Option Value} {k : Nat} {fa a : Addr} {fd : FuncData} {x : Str} {sp : Sp} {s1 : Shared} {vs : List Value} {ns : List Int}
/-- what is called, and what is due behind it -/
def Due (P : Program) (w : World) (fa a : Addr) (s1 : Shared) : Prop :=
  codeAny (model P w) callerA (.call (.ref fa) ⟨[.ref a], []⟩) (fun r s' => r = .ok (.ret (.bool true)) ∧ OldK s1.heap s'.heap ∧ s'.os = s1.os ∧ AllBare s'.gens) s1
theorem due_of (inK : K.In s1.heap) (hns : s1.heap.Ns mainGlobals mg) (hb : s1.heap.Ns builtinsNs mb) (hbb : ∀ x : Str, x ≠ "__name__" → mb x = bootBuiltins x) (lim : s1.heap.NoLimit) (hg : s1.gens = #[])
    (ha : s1.heap.get? a = some { cls := .type "list", data := .seq vs.toArray }) (hr : Room k callerA) (F : ∀ bs : Heap, K.In bs → FnGd P w K mg bs (L2.CX P w) k fa fd [x] sp) (hbi : ∀ (s : Shared) (u : Value), BindsTo s fd ⟨[u], []⟩ [(x, u)])
    {H : Hp} (on : Only H) (hs : sp [.ref a] H (fun v _ => v = .bl true) fun _ _ _ => False) (ok : HOk P w H s1.heap) (one : ∀ b, H b ≠ none → b = a) (out : H a ≠ none → K.lookup a = none) : Due P w fa a s1 := by
  have free : ∀ {b : Addr}, b ≠ a → H b = none := fun {b} n => Classical.byContradiction fun z => n (one b z)
  have nsB : ∀ {b : Addr} {m : Str → Option Value}, s1.heap.Ns b m → (hidT s1.heap H).Ns b m := by
    rintro b m ⟨o, es, ep, e, d, r⟩
    refine ⟨o, es, ep, hidT_get e (free ?_), d, r⟩
    rintro rfl
    rw [ha] at e
    cases e
    cases d
  have inB : K.In (hidT s1.heap H) := by
    intro b o e
    refine hidT_get (inK b o e) (Classical.byContradiction fun z => ?_)
    have eb := one b z
    subst eb
    rw [out z] at e
    cases e
  obtain ⟨mc, l1, l2⟩ := lim
  have md : Mod K mg (hidT s1.heap H) := ⟨inB, nsB hns, ⟨mb, nsB hb, hbb⟩, mc, nsB l1, l2⟩
  have e0 : Env0 P w K mg (hidT s1.heap H) callerA [] s1 H := ⟨rfl, md, fun _ _ e => of_hidT e, Nat.le_of_eq (hidT_size _ _), trivial, fun b z => absurd (show b ∈ ([] : List Addr) from z) List.not_mem_nil, ok, .of_eq hg⟩
  refine codeAny_mono ((F _ inB).go callerA [] s1 H ⟨[.ref a], []⟩ [.ref a] [.ref a] _ _ rfl hr e0 (hbi s1 (.ref a)) (.cons rfl .nil) hs) fun r s2 z => ?_
  rcases r with r | r
  · obtain ⟨_, _, _, _, _, _, _, _, _, _, _, _, z⟩ := z
    exact z.elim
  · cases r with
    | next => exact z.elim
    | brk => exact z.elim
    | cont => exact z.elim
    | ret u =>
      obtain ⟨v, H2, os, bare, un, ok2, rv, rfl⟩ := z
      obtain rfl : u = Value.bool true := rv
      refine ⟨rfl, OldK.of_keep fun b o e => ?_, os, bare⟩
      rcases on b with n | ⟨ob, xs, n⟩
      · exact un.keep b o e n (fun z => absurd (show b ∈ ([] : List Addr) from z) List.not_mem_nil) (by simp)
      · have g1 := (ok b _ n).1
        have g2 := (ok2 b _ (un.frzs b ob _ n)).1
        exact g2.trans (g1.symm.trans e)
theorem due_all (inK : K.In s1.heap) (hns : s1.heap.Ns mainGlobals mg) (hb : s1.heap.Ns builtinsNs mb) (hbb : ∀ x : Str, x ≠ "__name__" → mb x = bootBuiltins x) (lim : s1.heap.NoLimit) (hg : s1.gens = #[])
    (ha : s1.heap.get? a = some { cls := .type "list", data := .seq vs.toArray }) (hi : IntsAre vs ns) (hl : ns.length ≤ sizeLine) (hr : Room k callerA) (F : ∀ bs : Heap, K.In bs → FnGd P w K mg bs (L2.CX P w) k fa fd [x] sp) (hbi : ∀ (s : Shared) (u : Value), BindsTo s fd ⟨[u], []⟩ [(x, u)])
    (hs : ∀ H : Hp, Only H → SqL K H a (ns.map V.int) → sp [.ref a] H (fun v _ => v = .bl true) fun _ _ _ => False) : Due P w fa a s1 := by
  have rv := vals_ints hi
  have ln := hi.length
  cases q : K.lookup a with
  | some o =>
    have e := ha.symm.trans (inK a o q)
    cases e
    have on : Only (fun _ => none) := fun _ => .inl rfl
    exact due_of inK hns hb hbb lim hg ha hr F hbi on (hs _ on (.inr ⟨_, vs.toArray, _, q, rfl, rfl, rfl, by rw [List.size_toArray, ln]; exact hl, by simpa using rv⟩)) (fun _ _ z => nomatch z) (fun _ z => absurd rfl z) fun z => absurd rfl z
  | none =>
    let o : Obj := { cls := .type "list", data := .seq vs.toArray }
    let H : Hp := fun b => if b = a then some (.frz o (.lst (ns.map V.int))) else none
    have hA : H a = some (.frz o (.lst (ns.map V.int))) := if_pos rfl
    have hN : ∀ {b : Addr}, b ≠ a → H b = none := fun n => if_neg n
    have on : Only H := fun b => (Classical.em (b = a)).elim (fun e => .inr ⟨_, _, e ▸ hA⟩) fun n => .inl (hN n)
    refine due_of inK hns hb hbb lim hg ha hr F hbi on (hs H on (.inl (.inr ⟨o, hA⟩))) (fun b u z => ?_) (fun b z => Classical.byContradiction fun n => z (hN n)) fun _ => q
    by_cases n : b = a
    · subst n
      have e := hA.symm.trans z
      cases e
      exact ⟨ha, by rw [List.length_map]; exact hl, vs, _, rv, ha⟩
    · have e := (hN n).symm.trans z
      cases e
end
end VL
namespace VL
open PySem L2
abbrev D := PyData
/-- a thing of one's own, parts within, too: data that is never changed, a list, a tuple, an object, what is not looked at any more -/
inductive RD where
  | dat (d : D) | lst (rs : List RD) | tup (rs : List RD) | ins (c : Nat) (rs : List RD) | jk | dic (kvs : List (D × Int))
/-- what a name holds: data that is never changed, a list of the def's own, an object with its fields, a thing of one's own -/
inductive SV where
  | sh (d : D) | ow (ds : List D) | ob (c : Nat) (fs : List D) | rg (r : RD)
mutual
@[simp] def RD.toD : RD → Option D
  | .dat d => some d
  | .lst rs => (RD.toDs rs).map .list
  | .tup rs => (RD.toDs rs).map .tuple
  | .ins _ _ => none
  | .jk => none
  | .dic _ => none
@[simp] def RD.toDs : List RD → Option (List D)
  | [] => some []
  | r :: rs => match RD.toD r, RD.toDs rs with
    | some d, some ds => some (d :: ds)
    | _, _ => none
end
/-- as a value that is never changed -/
def RD.fzv : RD → Option SV
  | .ins c rs => if 100 ≤ c then none else (RD.toDs rs).map (.ob c)
  | .dat d => some (.sh d)
  | .lst rs => (RD.toDs rs).map fun ds => .sh (.list ds)
  | .tup rs => (RD.toDs rs).map fun ds => .sh (.tuple ds)
  | .jk => none
  | .dic kvs => some (.ob 103 (kvs.map fun e => .tuple [e.1, .int e.2]))
theorem RD.fzv_of {r : RD} {d : D} (h : r.toD = some d) : r.fzv = some (.sh d) := by
  cases r with
  | dat x => simp only [RD.toD] at h; cases h; simp only [RD.fzv]
  | jk => simp only [RD.toD] at h; cases h
  | ins _ _ => simp only [RD.toD] at h; cases h
  | dic _ => simp only [RD.toD] at h; cases h
  | lst rs =>
    simp only [RD.toD] at h
    obtain ⟨ds, z, rfl⟩ := Option.map_eq_some_iff.mp h
    simp only [RD.fzv, z, Option.map_some]
  | tup rs =>
    simp only [RD.toD] at h
    obtain ⟨ds, z, rfl⟩ := Option.map_eq_some_iff.mp h
    simp only [RD.fzv, z, Option.map_some]
inductive R where
  | val (v : SV) | err (c : Str) | stuck
inductive RL where
  | val (as : List SV) | err (c : Str) | stuck
inductive RI where
  | val (ds : List D) | err (c : Str) | stuck
abbrev VEnv := List (Option SV)
abbrev FE := VEnv → R
abbrev FI := VEnv → RI
inductive SR where
  | nx (e : VEnv) | rt (v : SV) | err (c : Str) | stuck
abbrev FS := VEnv → SR
/-- the classes: of objects by number (address, names of fields), of errors by name -/
structure Ct where
  ad : Nat → Addr
  fl : Nat → List Str
  er : Str → Addr
  xa : Addr := 0
  me : Option Addr := none
  tb : List Addr := []
  fr : Nat → Addr → Hp → Prop := fun _ _ _ => False
  fm : ∀ (n : Nat) (f : Addr) (G G' : Hp), Same G G' → fr n f G → fr n f G' := by first | exact fun _ _ _ _ _ h => h | assumption
  gc : Hp := fun _ => none

/-! ### data held in a heap -/
theorem same_seqT {K : PySem.W.Frag} {H H' : Hp} {a : Addr} {xs : List V} (e : Same H H') (h : SqT K H a xs) : SqT K H' a xs := by
  rcases h with (h | ⟨o, h⟩) | h
  · exact .inl (.inl (e _ _ h))
  · exact .inl (.inr ⟨o, e _ _ h⟩)
  · exact .inr h
mutual
theorem dp_mono {K : PySem.W.Frag} {G G' : Hp} (e : Same G G') : ∀ (d : D) (v : V), Dp K G v d → Dp K G' v d
  | .none, _, h => by cases h; exact .non
  | .bool b, _, h => by cases h; exact .bl b
  | .int i, _, h => by cases h; exact .int i
  | .str x, _, h => by cases h; exact .str x
  | .list ds, _, h => by
    cases h with
    | lst hs ha => exact .lst (e.seq hs) (dpAll_mono e ds _ ha)
  | .tuple ds, _, h => by
    cases h with
    | tup hs ha => exact .tup (same_seqT e hs) (dpAll_mono e ds _ ha)
  | .dict _, _, h => by cases h
theorem dpAll_mono {K : PySem.W.Frag} {G G' : Hp} (e : Same G G') : ∀ (ds : List D) (vs : List V), DpAll K G vs ds → DpAll K G' vs ds
  | [], _, h => by cases h; exact .nil
  | d :: ds, _, h => by
    cases h with
    | cons h1 h2 => exact .cons (dp_mono e d _ h1) (dpAll_mono e ds _ h2)
end
structure Dq (G : Hp) (v : V) (d : D) : Prop where
  dp : Dp [] G v d
  ok : d.canLay0 = true
structure DqAll (G : Hp) (vs : List V) (ds : List D) : Prop where
  dp : DpAll [] G vs ds
  ok : PyData.canLayAll0 ds = true
section
variable {G G' H H' : Hp} {v : V} {d : D} {vs : List V} {ds : List D}
theorem Dq.mono (h : Dq G v d) (e : Same G G') : Dq G' v d := ⟨dp_mono e d v h.dp, h.ok⟩
theorem DqAll.mono (h : DqAll G vs ds) (e : Same G G') : DqAll G' vs ds := ⟨dpAll_mono e ds vs h.dp, h.ok⟩
theorem DqAll.nil : DqAll G [] [] := ⟨.nil, by simp only [PyData.canLayAll0]⟩
theorem DqAll.cons (h : Dq G v d) (hs : DqAll G vs ds) : DqAll G (v :: vs) (d :: ds) :=
  ⟨.cons h.dp hs.dp, by simp only [PyData.canLayAll0, h.ok, hs.ok, Bool.and_self]⟩
theorem DqAll.inv {d : D} (h : DqAll G vs (d :: ds)) : ∃ v vs', vs = v :: vs' ∧ Dq G v d ∧ DqAll G vs' ds := by
  obtain ⟨h1, h2⟩ := h
  simp only [PyData.canLayAll0, Bool.and_eq_true] at h2
  cases h1 with
  | cons a b => exact ⟨_, _, rfl, ⟨a, h2.1⟩, ⟨b, h2.2⟩⟩
theorem DqAll.inv0 (h : DqAll G vs []) : vs = [] := by
  cases h.dp; rfl
theorem DqAll.length : ∀ {ds : List D} {vs : List V}, DqAll G vs ds → vs.length = ds.length
  | [], _, h => by rw [h.inv0]; rfl
  | _ :: _, _, h => by
    obtain ⟨v, vs', rfl, _, h2⟩ := h.inv
    simp only [List.length_cons, h2.length]
theorem DqAll.get : ∀ {ds : List D} {vs : List V} {i : Nat} {d : D}, DqAll G vs ds → ds[i]? = some d → ∃ v, vs[i]? = some v ∧ Dq G v d
  | [], _, _, _, _, e => by simp at e
  | _ :: _, _, 0, _, h, e => by
    obtain ⟨v, vs', rfl, h1, _⟩ := h.inv
    simp at e; subst e
    exact ⟨v, rfl, h1⟩
  | _ :: _, _, i + 1, d, h, e => by
    obtain ⟨v, vs', rfl, _, h2⟩ := h.inv
    exact DqAll.get (i := i) h2 (by simpa using e)
theorem DqAll.append : ∀ {ds es : List D} {vs ws : List V}, DqAll G vs ds → DqAll G ws es → DqAll G (vs ++ ws) (ds ++ es)
  | [], _, _, _, h, h' => by rw [h.inv0]; exact h'
  | _ :: _, _, _, _, h, h' => by
    obtain ⟨v, vs', rfl, h1, h2⟩ := h.inv
    exact .cons h1 (h2.append h')
theorem DqAll.take : ∀ {ds : List D} {vs : List V} (n : Nat), DqAll G vs ds → DqAll G (vs.take n) (ds.take n)
  | _, _, 0, _ => by simp; exact .nil
  | [], _, n + 1, h => by rw [h.inv0]; simp; exact .nil
  | _ :: _, _, n + 1, h => by
    obtain ⟨v, vs', rfl, h1, h2⟩ := h.inv
    exact .cons h1 (h2.take n)
theorem DqAll.drop : ∀ {ds : List D} {vs : List V} (n : Nat), DqAll G vs ds → DqAll G (vs.drop n) (ds.drop n)
  | _, _, 0, h => h
  | [], _, n + 1, h => by rw [h.inv0]; simp; exact .nil
  | _ :: _, _, n + 1, h => by
    obtain ⟨v, vs', rfl, h1, h2⟩ := h.inv
    exact h2.drop n
theorem DqAll.reverse : ∀ {ds : List D} {vs : List V}, DqAll G vs ds → DqAll G vs.reverse ds.reverse
  | [], _, h => by rw [h.inv0]; exact .nil
  | _ :: _, _, h => by
    obtain ⟨v, vs', rfl, h1, h2⟩ := h.inv
    rw [List.reverse_cons, List.reverse_cons]
    exact h2.reverse.append (.cons h1 .nil)
theorem Dq.tup {a : Addr} {xs : List V} (h : SqT [] G a xs) (hs : DqAll G xs ds) : Dq G (.ref a) (.tuple ds) := ⟨.tup h hs.dp, by simp only [PyData.canLay0, hs.ok]⟩
theorem Dq.lst {a : Addr} {xs : List V} (h : SqL [] G a xs) (hs : DqAll G xs ds) : Dq G (.ref a) (.list ds) := ⟨.lst h hs.dp, by simp only [PyData.canLay0, hs.ok]⟩
theorem Dq.tupInv (h : Dq G v (.tuple ds)) : ∃ a xs, v = .ref a ∧ SqT [] G a xs ∧ DqAll G xs ds := by
  obtain ⟨h1, h2⟩ := h
  simp only [PyData.canLay0] at h2
  cases h1 with
  | tup a b => exact ⟨_, _, rfl, a, ⟨b, h2⟩⟩
theorem Dq.lstInv (h : Dq G v (.list ds)) : ∃ a xs, v = .ref a ∧ SqL [] G a xs ∧ DqAll G xs ds := by
  obtain ⟨h1, h2⟩ := h
  simp only [PyData.canLay0] at h2
  cases h1 with
  | lst a b => exact ⟨_, _, rfl, a, ⟨b, h2⟩⟩
theorem Dq.int {i : Int} : Dq G (.int i) (.int i) := ⟨.int i, by simp only [PyData.canLay0]⟩
theorem Dq.bl {b : Bool} : Dq G (.bl b) (.bool b) := ⟨.bl b, by simp only [PyData.canLay0]⟩
theorem Dq.non : Dq G .non .none := ⟨.non, by simp only [PyData.canLay0]⟩
theorem Dq.intInv {i : Int} (h : Dq G v (.int i)) : v = .int i := by cases h.dp; rfl
theorem Dq.blInv {b : Bool} (h : Dq G v (.bool b)) : v = .bl b := by cases h.dp; rfl
theorem Dq.strInv {x : Str} (h : Dq G v (.str x)) : v = .str x := by cases h.dp; rfl
theorem Dq.nonInv (h : Dq G v .none) : v = .non := by cases h.dp; rfl
end

/-! ### what is remembered: a table of counts that defs hand on and fill -/
def manyF : Nat → Nat → Nat → Nat
  | 0, _, _ => 0
  | n + 1, ks, rk => if ks = 0 ∨ rk = 0 then (if ks = rk then 1 else 0) else if ks < 2 ^ rk - 1 then 0 else
    ((List.range ks).map fun lf => manyF n (ks - 1 - lf) (rk - 1) * ((List.range 8).map fun he => if rk - 1 ≤ he ∧ 2 ^ he - 1 ≤ lf then manyF n lf he else 0).sum).sum
def manyN (ks rk : Nat) : Nat := manyF (ks + 1) ks rk
def MemK (kvs : List (List Key × V)) : Prop := (kvs.map (·.1)).Nodup ∧ ∀ p ∈ kvs, ∃ a b : Nat, a ≤ 40 ∧ b ≤ 40 ∧ p.1 = [.inl (a : Int), .inl (b : Int)] ∧ p.2 = .int (manyN a b : Nat)
/-- such a table, or the table of a def's code objects -/
def Mem : HO → Prop
  | .dT kvs => MemK kvs
  | .tbl _ => True
  | .frz _ (.own _) => True
  | _ => False
/-- a code object -/
def CdO (o : Obj) : Prop := ∃ (vs : Array Value) (q : Str) (t : Tok), o.data = .fields vs ∧ vs[1]? = some (.str q t)
/-- a table all of whose code objects are known -/
def Good (H : Hp) (ps : Array Value) : Prop := PySem.TriplesOk ps.toList ∧ ∀ (pos : Pos) (cv : Value), codeAmong pos ps.toList = some cv → ∃ c oc a, cv = .ref c ∧ H c = some (.frz oc (.own a)) ∧ CdO oc
/-- what is known as it is stays -/
def Frzs (H H' : Hp) : Prop := ∀ c oc u, H c = some (.frz oc u) → H' c = some (.frz oc u)
def MR (H H' : Hp) (o o' : HO) : Prop := (∃ a b, o = .dT a ∧ o' = .dT b) ∨ ∃ ps ps', o = .tbl ps ∧ o' = .tbl ps' ∧ (Good H ps → Good H' ps')
/-- the same, but for such tables -/
def SameH (H H' : Hp) : Prop := ∀ b o, H b = some o → ∃ o', H' b = some o' ∧ (o' = o ∨ (Mem o ∧ Mem o' ∧ MR H H' o o'))
theorem Good.mono {H H' : Hp} {ps : Array Value} (g : Good H ps) (k : Frzs H H') : Good H' ps := ⟨g.1, fun pos cv e => by
  obtain ⟨c, oc, u, e1, e2, e3⟩ := g.2 pos cv e
  exact ⟨c, oc, u, e1, k c oc _ e2, e3⟩⟩
theorem SameH.code {H H' : Hp} (s : SameH H H') : Frzs H H' := fun c oc u h => by
  obtain ⟨o', e, z⟩ := s c _ h
  rcases z with rfl | ⟨_, _, ⟨_, _, z, _⟩ | ⟨_, _, z, _⟩⟩
  · exact e
  · cases z
  · cases z
theorem MR.pre {H H1 H2 : Hp} (s : SameH H H1) {o o' : HO} (h : MR H1 H2 o o') : MR H H2 o o' := h.imp id fun ⟨ps, ps', e1, e2, g⟩ => ⟨ps, ps', e1, e2, fun z => g (z.mono s.code)⟩
theorem MR.post {H H1 H2 : Hp} (s : Frzs H1 H2) {o o' : HO} (h : MR H H1 o o') : MR H H2 o o' := h.imp id fun ⟨ps, ps', e1, e2, g⟩ => ⟨ps, ps', e1, e2, fun z => (g z).mono s⟩
theorem MR.trans {H H1 H2 : Hp} {o o1 o2 : HO} (h : MR H H1 o o1) (h' : MR H1 H2 o1 o2) : MR H H2 o o2 := by
  rcases h with ⟨a, b, rfl, rfl⟩ | ⟨ps, ps', rfl, rfl, g⟩
  · rcases h' with ⟨c, d, e, rfl⟩ | ⟨_, _, e, _⟩
    · exact .inl ⟨a, d, rfl, rfl⟩
    · cases e
  · rcases h' with ⟨c, d, e, rfl⟩ | ⟨qs, qs', e, rfl, g'⟩
    · cases e
    · cases e
      exact .inr ⟨ps, qs', rfl, rfl, fun z => g' (g z)⟩
theorem SameH.refl (H : Hp) : SameH H H := fun _ o e => ⟨o, e, .inl rfl⟩
theorem SameH.of {H H' : Hp} (s : Same H H') : SameH H H' := fun b o e => ⟨o, s b o e, .inl rfl⟩
theorem SameH.trans {H H1 H2 : Hp} (a : SameH H H1) (b : SameH H1 H2) : SameH H H2 := fun x o e => by
  obtain ⟨o1, e1, h1⟩ := a x o e
  obtain ⟨o2, e2, h2⟩ := b x o1 e1
  refine ⟨o2, e2, ?_⟩
  rcases h1 with rfl | h1
  · exact h2.imp id fun z => ⟨z.1, z.2.1, MR.pre a z.2.2⟩
  · rcases h2 with rfl | h2
    · exact .inr ⟨h1.1, h1.2.1, MR.post b.code h1.2.2⟩
    · exact .inr ⟨h1.1, h2.2.1, MR.trans h1.2.2 h2.2.2⟩
theorem SameH.alt {H H' H2 : Hp} (s : SameH H H') (k : ∀ b o, H b = some o → H2 b = H' b) (q : Frzs H' H2) : SameH H H2 := fun b u e => by
  obtain ⟨o', e', z⟩ := s b u e
  exact ⟨o', (k b u e).trans e', z.imp id fun z => ⟨z.1, z.2.1, MR.post q z.2.2⟩⟩
/-- what was not there, or no code object, is written -/
theorem SameH.wr {H H' : Hp} (s : SameH H H') {p : Addr} (n : H p = none) (o : HO) (c : ∀ oc u, H' p ≠ some (.frz oc u)) : SameH H (upd H' p o) := s.alt (fun b u e => upd_ne (ne_of_none e n)) fun d oc u h => by
  by_cases z : d = p
  · subst z; exact absurd h (c oc u)
  · rw [upd_ne z]; exact h
theorem lst_code {xs : List V} {oc : Obj} {u : HO} : some (HO.lst xs) ≠ some (.frz oc u) := fun z => by cases z
theorem SameH.free {H H' : Hp} (s : SameH H H') {a : Addr} (h : H' a = none) : H a = none := by
  cases q : H a with
  | none => rfl
  | some o =>
    obtain ⟨o', e, _⟩ := s a o q
    rw [h] at e; cases e
theorem SameH.at {H H' : Hp} (s : SameH H H') {a : Addr} {o : HO} (h : H a = some o) (n : ¬ Mem o) : H' a = some o := by
  obtain ⟨o', e, z⟩ := s a o h
  rcases z with rfl | z
  · exact e
  · exact absurd z.1 n
/-- a table -/
def Mm : HO → Prop
  | .dT kvs => MemK kvs
  | .tbl _ => True
  | _ => False
theorem mm_of {o : HO} (h : ¬ Mem o) : ¬ Mm o := by
  cases o <;> first | exact h | exact fun z => z.elim
/-- nothing of such a kind is in G -/
def NoMem (G : Hp) : Prop := ∀ b o, G b = some o → ¬ Mm o
/-- a code object, a lambda -/
abbrev FrO (o : HO) : Prop := ∃ ob u, o = .frz ob (.own u)
theorem mem_mm {o : HO} (h : ¬ Mm o) : ¬ Mem o ∨ FrO o := by
  cases o with
  | frz ob u =>
    cases u with
    | own x => exact .inr ⟨ob, x, rfl⟩
    | _ => exact .inl fun z => z
  | dT kvs => exact .inl h
  | tbl ps => exact .inl h
  | _ => exact .inl fun z => z
theorem fro_mem {o : HO} (h : FrO o) : Mem o := by obtain ⟨_, _, rfl⟩ := h; trivial
theorem SameH.up {G H H' : Hp} (s : SameH H H') (g : Same G H) (n : NoMem G) : Same G H' := fun b o e => by
  rcases mem_mm (n b o e) with z | ⟨ob, u, rfl⟩
  · exact s.at (g b o e) z
  · exact s.code _ _ _ (g b _ e)
/-- the tables that are to be there -/
def MeOk (T : Ct) (H : Hp) : Prop := (∀ a, T.me = some a → ∃ kvs, H a = some (.dT kvs) ∧ MemK kvs) ∧ ∀ P ∈ T.tb, ∃ ps, H P = some (.tbl ps) ∧ Good H ps
/-- there is none of these -/
def NoMe (T : Ct) : Prop := T.me = none ∧ T.tb = [] ∧ T.gc = fun _ => none
/-- and what is to stay as it is -/
def MeO (T : Ct) (H : Hp) : Prop := MeOk T H ∧ Same T.gc H ∧ NoMem T.gc
theorem NoMe.ok {T : Ct} {H : Hp} (h : NoMe T) : MeO T H := ⟨⟨(fun a z => by rw [h.1] at z; cases z), (fun P z => by rw [h.2.1] at z; cases z)⟩, (fun b o e => by rw [h.2.2] at e; cases e), fun b o e => by rw [h.2.2] at e; cases e⟩
theorem MeOk.step {T : Ct} {H H' : Hp} (m : MeOk T H) (s : SameH H H') : MeOk T H' := by
  refine ⟨fun a z => ?_, fun P z => ?_⟩
  · obtain ⟨kvs, e, k⟩ := m.1 a z
    obtain ⟨o', e', q⟩ := s a _ e
    rcases q with rfl | ⟨_, m2, ⟨a, b, e1, rfl⟩ | ⟨_, _, e1, _⟩⟩
    · exact ⟨kvs, e', k⟩
    · exact ⟨_, e', m2⟩
    · cases e1
  · obtain ⟨ps, e, k⟩ := m.2 P z
    obtain ⟨o', e', q⟩ := s P _ e
    rcases q with rfl | ⟨_, m2, ⟨a, b, e1, rfl⟩ | ⟨qs, qs', e1, rfl, g⟩⟩
    · exact ⟨ps, e', k.mono s.code⟩
    · cases e1
    · cases e1
      exact ⟨_, e', g k⟩
theorem MeOk.wr {T : Ct} {H : Hp} (m : MeOk T H) {p : Addr} {xs : List V} (h : H p = some (.lst xs)) (o : HO) : MeOk T (upd H p o) := by
  refine ⟨fun a z => ?_, fun P z => ?_⟩
  · obtain ⟨kvs, e, k⟩ := m.1 a z
    have : a ≠ p := fun y => by rw [y, h] at e; cases e
    exact ⟨kvs, by rw [upd_ne this]; exact e, k⟩
  · obtain ⟨ps, e, k⟩ := m.2 P z
    have : P ≠ p := fun y => by rw [y, h] at e; cases e
    refine ⟨ps, by rw [upd_ne this]; exact e, k.mono fun c oc u hc => ?_⟩
    have : c ≠ p := fun y => by rw [y, h] at hc; exact lst_code hc
    rw [upd_ne this]; exact hc
/-! ### steps -/
/-- no place, or a known object's -/
abbrev Fresh (H : Hp) (a : Addr) : Prop := H a = none ∨ ∃ o, H a = some o ∧ FrO o
theorem SameH.fresh {H H' : Hp} (s : SameH H H') {a : Addr} (h : Fresh H' a) : Fresh H a := by
  rcases h with h | ⟨o, h, ob, u, rfl⟩
  · exact .inl (s.free h)
  · cases q : H a with
    | none => exact .inl q
    | some v =>
      obtain ⟨o', e, z⟩ := s a v q
      rw [h] at e
      cases e
      rcases z with rfl | ⟨_, _, ⟨_, _, _, z⟩ | ⟨_, _, _, z, _⟩⟩
      · exact .inr ⟨_, q, ob, u, rfl⟩
      · cases z
      · cases z
structure Step (G H G' H' : Hp) : Prop where
  hh : SameH H H'
  gg : Same G G'
  gh : Same G' H'
  nw : ∀ a, G a = none → G' a ≠ none → H a = none ∨ ∃ o, H a = some o ∧ FrO o
  nm : NoMem G → NoMem G'
theorem same_none {H H' : Hp} (e : Same H H') {a : Addr} (h : H' a = none) : H a = none := e.free h
theorem Step.refl {G H : Hp} (h : Same G H) : Step G H G H := ⟨SameH.refl _, Same.refl _, h, fun _ a b => absurd a b, fun n => n⟩
theorem Step.trans {G H G1 H1 G2 H2 : Hp} (a : Step G H G1 H1) (b : Step G1 H1 G2 H2) : Step G H G2 H2 :=
  ⟨a.hh.trans b.hh, a.gg.trans b.gg, b.gh, fun x h1 h2 => by
    by_cases q : G1 x = none
    · exact a.hh.fresh (b.nw x q h2)
    · exact a.nw x h1 q, fun n => b.nm (a.nm n)⟩
theorem same_upd {H : Hp} {p : Addr} (h : H p = none) (o : HO) : Same H (upd H p o) := fun b u q => by rw [upd_ne (ne_of_none q h)]; exact q
/-- a new object that is never changed -/
theorem Step.new {G H : Hp} (h : Same G H) {p : Addr} (n : H p = none) (o : HO) (m : ¬ Mem o := by exact fun z => z) : Step G H (upd G p o) (upd H p o) := by
  refine ⟨.of (same_upd n o), same_upd (same_none h n) o, fun b u q => ?_, fun a h1 h2 => ?_, fun k b u q => ?_⟩
  · by_cases e : b = p
    · subst e; rw [upd_same] at q ⊢; exact q
    · rw [upd_ne e] at q ⊢; exact h b u q
  · by_cases e : a = p
    · subst e; exact .inl n
    · rw [upd_ne e] at h2; exact absurd h1 h2
  · by_cases e : b = p
    · subst e; rw [upd_same] at q; cases q; exact mm_of m
    · rw [upd_ne e] at q; exact k b u q
/-- a new object kept apart -/
theorem Step.apart {G H : Hp} (h : Same G H) {p : Addr} (n : H p = none) (o : HO) : Step G H G (upd H p o) :=
  ⟨.of (same_upd n o), Same.refl _, h.trans (same_upd n o), fun _ a b => absurd a b, fun n => n⟩
/-- what was kept apart is never changed from here on -/
theorem Step.freeze {G H G' H' : Hp} (s : Step G H G' H') {p : Addr} {o : HO} (n : H p = none) (n' : G' p = none) (e : H' p = some o) (m : ¬ Mem o := by exact fun z => z) : Step G H (upd G' p o) H' := by
  refine ⟨s.hh, s.gg.trans (same_upd n' o), fun b u q => ?_, fun a h1 h2 => ?_, fun k b u q => ?_⟩
  · by_cases z : b = p
    · subst z; rw [upd_same] at q; rw [e]; exact q
    · rw [upd_ne z] at q; exact s.gh b u q
  · by_cases z : a = p
    · subst z; exact .inl n
    · rw [upd_ne z] at h2; exact s.nw a h1 h2
  · by_cases z : b = p
    · subst z; rw [upd_same] at q; cases q; exact mm_of m
    · rw [upd_ne z] at q; exact s.nm k b u q
/-- what is known of one object is told from here on -/
theorem Step.know {G H G' H' : Hp} (s : Step G H G' H') {p : Addr} {ob : Obj} {u : Addr} (e : H' p = some (.frz ob (.own u))) (n : Fresh H p ∨ G' p = some (.frz ob (.own u))) : Step G H (upd G' p (.frz ob (.own u))) H' := by
  have old : ∀ v, G' p = some v → v = .frz ob (.own u) := fun v z => by
    have := s.gh p v z
    rw [e] at this; exact (Option.some.inj this).symm
  have sg : Same G' (upd G' p (.frz ob (.own u))) := fun b v q => by
    by_cases z : b = p
    · subst z; rw [upd_same, old v q]
    · rw [upd_ne z]; exact q
  refine ⟨s.hh, s.gg.trans sg, fun b v q => ?_, fun a h1 h2 => ?_, fun k b v q => ?_⟩
  · by_cases z : b = p
    · subst z; rw [upd_same] at q; rw [e]; exact q
    · rw [upd_ne z] at q; exact s.gh b v q
  · by_cases z : a = p
    · subst z
      rcases n with n | n
      · exact n
      · exact s.nw a h1 (by rw [n]; exact fun z => nomatch z)
    · rw [upd_ne z] at h2; exact s.nw a h1 h2
  · by_cases z : b = p
    · subst z; rw [upd_same] at q; cases q; exact fun z => z
    · rw [upd_ne z] at q; exact s.nm k b v q
/-- an owned list stays apart through a step -/
theorem Step.own {G H G' H' : Hp} (s : Step G H G' H') {p : Addr} {o : HO} (n : G p = none) (e : H p = some o) (m : ¬ Mem o := by exact fun z => z) : G' p = none ∧ H' p = some o := by
  refine ⟨?_, s.hh.at e m⟩
  cases q : G' p with
  | none => rfl
  | some u =>
    rcases s.nw p n (by rw [q]; exact fun z => nomatch z) with z | ⟨o', z, fo⟩
    · rw [e] at z; cases z
    · rw [e] at z; cases z; exact absurd (fro_mem fo) m

/-! ### a dict with heaps (tuples within tuples) as keys, ints as values -/
mutual
def nkOf : D → NestedKey
  | .int i => .num i
  | .tuple ds => .tup (nksOf ds)
  | _ => .none
def nksOf : List D → List NestedKey
  | [] => []
  | d :: ds => nkOf d :: nksOf ds
end
mutual
def nkOk : D → Bool
  | .int _ => true
  | .tuple ds => nksOk ds
  | _ => false
def nksOk : List D → Bool
  | [] => true
  | d :: ds => nkOk d && nksOk ds
end
/-- the object itself -/
def rawO (p : Addr) (o : Obj) : HO := .ext fun h => h.get? p = some o
def DicE (G : Hp) (x : D × Int) (e : DictEntry) : Prop := ∃ a t, e.key = .ref a ∧ Dq G (.ref a) x.1 ∧ nkOk x.1 = true ∧ (nkOf x.1).depth ≤ 8 ∧ (∀ w, e.hash = NestedKey.hash w (nkOf x.1)) ∧ e.val = .int x.2 t
structure DicR (G : Hp) (kvs : List (D × Int)) (es : List DictEntry) : Prop where
  pr : Paired (DicE G) kvs es
  nd : (kvs.map fun e => nkOf e.1).Nodup
  ln : kvs.length ≤ 100000
theorem DicR.mono {G G' : Hp} {kvs : List (D × Int)} {es : List DictEntry} (h : DicR G kvs es) (e : Same G G') : DicR G' kvs es :=
  ⟨Paired.mapP h.pr fun _ _ ⟨a, t, h1, h2, h3⟩ => ⟨a, t, h1, h2.mono e, h3⟩, h.nd, h.ln⟩
structure DicO (G : Hp) (p : Addr) (o : Obj) (kvs : List (D × Int)) : Prop where
  sy : (p == sysModules) = false
  ex : o.ExactDict
  dt : ∃ es ep, o.data = .dict es ep ∧ DicR G kvs es.toList
theorem DicO.mono {G G' : Hp} {p : Addr} {o : Obj} {kvs : List (D × Int)} (h : DicO G p o kvs) (e : Same G G') : DicO G' p o kvs :=
  ⟨h.sy, h.ex, let ⟨es, ep, h1, h2⟩ := h.dt; ⟨es, ep, h1, h2.mono e⟩⟩
def DicF (G : Hp) (v : V) (fs : List D) : Prop := ∃ p o kvs, v = .ref p ∧ G p = some (rawO p o) ∧ DicO G p o kvs ∧ fs = kvs.map fun e => .tuple [e.1, .int e.2]
theorem DicF.mono {G G' : Hp} {v : V} {fs : List D} (h : DicF G v fs) (e : Same G G') : DicF G' v fs :=
  let ⟨p, o, kvs, h1, h2, h3, h4⟩ := h; ⟨p, o, kvs, h1, e _ _ h2, h3.mono e, h4⟩
/-! ### objects -/
/-- {} or data -/
def ThR (G : Hp) (x : V) (d : D) : Prop := (d = .dict [] ∧ ∃ a, x = .ref a ∧ G a = some (.dK [])) ∨ Dq G x d
theorem ThR.mono {G G' : Hp} {x : V} {d : D} (h : ThR G x d) (e : Same G G') : ThR G' x d := h.imp (fun ⟨h1, a, h2, h3⟩ => ⟨h1, a, h2, e _ _ h3⟩) fun z => z.mono e
/-- a callable by its number -/
def CaR (T : Ct) (G : Hp) (x : V) (d : D) : Prop := ∃ (n : Nat) (f : Addr), d = .int n ∧ x = .ref f ∧ T.fr n f G
theorem CaR.mono {T : Ct} {G G' : Hp} {x : V} {d : D} (h : CaR T G x d) (e : Same G G') : CaR T G' x d := let ⟨n, f, h1, h2, h3⟩ := h; ⟨n, f, h1, h2, T.fm n f G G' e h3⟩
/-- 104 a callable by its number, 105 a list of such, 106 {}, 107 a list of things -/
def XoR (T : Ct) (G : Hp) (v : V) (c : Nat) (fs : List D) : Prop := if c = 104 then (∃ (n : Nat) (f : Addr), fs = [.int n] ∧ v = .ref f ∧ T.fr n f G) else if c = 105 then (∃ (p : Addr) (xs : List V), v = .ref p ∧ G p = some (.lst xs) ∧ Paired (CaR T G) xs fs)
  else if c = 106 then (∃ p, v = .ref p ∧ G p = some (.dK [])) else (∃ p xs, v = .ref p ∧ G p = some (.lst xs) ∧ Paired (ThR G) xs fs)
theorem XoR.mono {T : Ct} {G G' : Hp} {v : V} {c : Nat} {fs : List D} (h : XoR T G v c fs) (e : Same G G') : XoR T G' v c fs := by
  unfold XoR at *
  split at h
  · rename_i z; rw [if_pos z]
    obtain ⟨n, f, h1, h2, h3⟩ := h
    exact ⟨n, f, h1, h2, T.fm n f G G' e h3⟩
  rename_i z; rw [if_neg z]
  split at h
  · rename_i z; rw [if_pos z]
    obtain ⟨p, xs, h1, h2, h3⟩ := h
    exact ⟨p, xs, h1, e _ _ h2, Paired.mapP h3 fun _ _ z => z.mono e⟩
  rename_i z; rw [if_neg z]
  split at h
  · rename_i z; rw [if_pos z]
    obtain ⟨p, h1, h2⟩ := h
    exact ⟨p, h1, e _ _ h2⟩
  rename_i z; rw [if_neg z]
  obtain ⟨p, xs, h1, h2, h3⟩ := h
  exact ⟨p, xs, h1, e _ _ h2, Paired.mapP h3 fun _ _ z => z.mono e⟩
def ObRp (T : Ct) (G : Hp) (v : V) (c : Nat) (fs : List D) : Prop := if c = 100 then v = .ref T.xa else if c = 101 then (∃ a, T.me = some a ∧ v = .ref a) else if c = 102 then True else if c = 103 then DicF G v fs else if 104 ≤ c then XoR T G v c fs else
  ∃ a dx vs, v = .ref a ∧ G a = some (.ins (T.ad c) dx ((T.fl c).zip vs)) ∧ G dx = some (.own a) ∧ vs.length = (T.fl c).length ∧ DqAll G vs fs
theorem ObRp.mono {T : Ct} {G G' : Hp} {v : V} {c : Nat} {fs : List D} (h : ObRp T G v c fs) (e : Same G G') : ObRp T G' v c fs := by
  unfold ObRp at *
  split at h
  · rename_i z; rw [if_pos z]; exact h
  · rename_i z; rw [if_neg z]
    split at h
    · rename_i z; rw [if_pos z]; exact h
    · rename_i z; rw [if_neg z]
      split at h
      · rename_i z; rw [if_pos z]; trivial
      rename_i z; rw [if_neg z]
      split at h
      · rename_i z; rw [if_pos z]; exact h.mono e
      rename_i z; rw [if_neg z]
      split at h
      · rename_i z; rw [if_pos z]; exact h.mono e
      rename_i z; rw [if_neg z]
      obtain ⟨a, dx, vs, h1, h2, h3, h4, h5⟩ := h
      exact ⟨a, dx, vs, h1, e _ _ h2, e _ _ h3, h4, h5.mono e⟩
/-- a value handed on -/
def VRp (T : Ct) (G : Hp) (v : V) : SV → Prop
  | .sh d => Dq G v d
  | .ow _ => False
  | .ob c fs => ObRp T G v c fs
  | .rg _ => False
theorem VRp.mono {T : Ct} {G G' : Hp} {v : V} {a : SV} (h : VRp T G v a) (e : Same G G') : VRp T G' v a := by
  cases a with
  | sh d => exact Dq.mono h e
  | ow _ => exact h
  | ob c fs => exact ObRp.mono h e
  | rg _ => exact h
def VRpAll (T : Ct) (G : Hp) (vs : List V) (as : List SV) : Prop := Paired (VRp T G) vs as
theorem VRpAll.mono {T : Ct} {G G' : Hp} (e : Same G G') : ∀ {vs : List V} {as : List SV}, VRpAll T G vs as → VRpAll T G' vs as
  | _, _, .nil => .nil
  | _, _, .cons h t => .cons (h.mono e) (VRpAll.mono e t)

/-! ### a thing of one's own: its places, one by one -/
mutual
inductive RRp (T : Ct) (G H : Hp) : List Addr → V → RD → Prop
  | dat {v : V} {d : D} (h : Dq G v d) : RRp T G H [] v (.dat d)
  | jk {v : V} : RRp T G H [] v .jk
  | lst {p : Addr} {vs : List V} {S : List Addr} {rs : List RD} (h : H p = some (.lst vs)) (a : RRpAll T G H S vs rs) : RRp T G H (p :: S) (.ref p) (.lst rs)
  | tup {p : Addr} {vs : List V} {S : List Addr} {rs : List RD} (h : H p = some (.tup vs)) (a : RRpAll T G H S vs rs) : RRp T G H (p :: S) (.ref p) (.tup rs)
  | ins {p dx : Addr} {c : Nat} {vs : List V} {S : List Addr} {rs : List RD} (h : H p = some (.ins (T.ad c) dx ((T.fl c).zip vs))) (h2 : H dx = some (.own p)) (l : vs.length = (T.fl c).length) (a : RRpAll T G H S vs rs) : RRp T G H (p :: dx :: S) (.ref p) (.ins c rs)
  | dic {p : Addr} {o : Obj} {kvs : List (D × Int)} (h : H p = some (rawO p o)) (a : DicO G p o kvs) : RRp T G H [p] (.ref p) (.dic kvs)
inductive RRpAll (T : Ct) (G H : Hp) : List Addr → List V → List RD → Prop
  | nil : RRpAll T G H [] [] []
  | cons {S S' : List Addr} {v : V} {vs : List V} {r : RD} {rs : List RD} (h : RRp T G H S v r) (a : RRpAll T G H S' vs rs) : RRpAll T G H (S ++ S') (v :: vs) (r :: rs)
end
mutual
theorem RRp.mono {T T' : Ct} {G G' H H' : Hp} (e : Same G G') (t1 : T.ad = T'.ad) (t2 : T.fl = T'.fl) : ∀ (r : RD) (S : List Addr) (v : V), RRp T G H S v r → (∀ a ∈ S, H' a = H a) → RRp T' G' H' S v r
  | .dat d, _, _, .dat h, _ => .dat (h.mono e)
  | .jk, _, _, .jk, _ => .jk
  | .lst rs, _, _, .lst h a, k => .lst ((k _ List.mem_cons_self).trans h) (RRpAll.mono e t1 t2 rs _ _ a fun b m => k b (List.mem_cons_of_mem _ m))
  | .tup rs, _, _, .tup h a, k => .tup ((k _ List.mem_cons_self).trans h) (RRpAll.mono e t1 t2 rs _ _ a fun b m => k b (List.mem_cons_of_mem _ m))
  | .ins c rs, _, _, .ins h h2 l a, k => .ins (((k _ List.mem_cons_self).trans h).trans (by rw [t1, t2])) ((k _ (List.mem_cons_of_mem _ List.mem_cons_self)).trans h2) (l.trans (by rw [t2])) (RRpAll.mono e t1 t2 rs _ _ a fun b m => k b (List.mem_cons_of_mem _ (List.mem_cons_of_mem _ m)))
  | .dic kvs, _, _, .dic h a, k => .dic ((k _ List.mem_cons_self).trans h) (a.mono e)
theorem RRpAll.mono {T T' : Ct} {G G' H H' : Hp} (e : Same G G') (t1 : T.ad = T'.ad) (t2 : T.fl = T'.fl) : ∀ (rs : List RD) (S : List Addr) (vs : List V), RRpAll T G H S vs rs → (∀ a ∈ S, H' a = H a) → RRpAll T' G' H' S vs rs
  | [], _, _, .nil, _ => .nil
  | r :: rs, _, _, .cons h a, k => .cons (RRp.mono e t1 t2 r _ _ h fun b m => k b (List.mem_append_left _ m)) (RRpAll.mono e t1 t2 rs _ _ a fun b m => k b (List.mem_append_right _ m))
end
mutual
theorem RRp.at {T : Ct} {G H : Hp} : ∀ (r : RD) (S : List Addr) (v : V), RRp T G H S v r → ∀ a ∈ S, ∃ o, H a = some o ∧ ¬ Mem o
  | .dat _, _, _, .dat _, a, m => absurd m List.not_mem_nil
  | .jk, _, _, .jk, a, m => absurd m List.not_mem_nil
  | .lst rs, _, _, .lst h q, a, m => by
    rcases List.mem_cons.mp m with rfl | m
    · exact ⟨_, h, fun z => z⟩
    · exact RRpAll.at rs _ _ q a m
  | .tup rs, _, _, .tup h q, a, m => by
    rcases List.mem_cons.mp m with rfl | m
    · exact ⟨_, h, fun z => z⟩
    · exact RRpAll.at rs _ _ q a m
  | .ins c rs, _, _, .ins h h2 l q, a, m => by
    rcases List.mem_cons.mp m with rfl | m
    · exact ⟨_, h, fun z => z⟩
    rcases List.mem_cons.mp m with rfl | m
    · exact ⟨_, h2, fun z => z⟩
    · exact RRpAll.at rs _ _ q a m
  | .dic kvs, _, _, .dic h q, a, m => by
    rw [List.mem_singleton.mp m]
    exact ⟨_, h, fun z => z⟩
theorem RRpAll.at {T : Ct} {G H : Hp} : ∀ (rs : List RD) (S : List Addr) (vs : List V), RRpAll T G H S vs rs → ∀ a ∈ S, ∃ o, H a = some o ∧ ¬ Mem o
  | [], _, _, .nil, a, m => absurd m List.not_mem_nil
  | r :: rs, _, _, .cons h q, a, m => by
    rcases List.mem_append.mp m with m | m
    · exact RRp.at r _ _ h a m
    · exact RRpAll.at rs _ _ q a m
end
mutual
theorem RRp.nf {T : Ct} {G H : Hp} : ∀ (r : RD) (S : List Addr) (v : V), RRp T G H S v r → ∀ a ∈ S, ∀ oc u, H a ≠ some (.frz oc u)
  | .dat _, _, _, .dat _, a, m => absurd m List.not_mem_nil
  | .jk, _, _, .jk, a, m => absurd m List.not_mem_nil
  | .lst rs, _, _, .lst h q, a, m => by
    rcases List.mem_cons.mp m with rfl | m
    · rw [h]; exact fun _ _ z => by cases z
    · exact RRpAll.nf rs _ _ q a m
  | .tup rs, _, _, .tup h q, a, m => by
    rcases List.mem_cons.mp m with rfl | m
    · rw [h]; exact fun _ _ z => by cases z
    · exact RRpAll.nf rs _ _ q a m
  | .ins c rs, _, _, .ins h h2 l q, a, m => by
    rcases List.mem_cons.mp m with rfl | m
    · rw [h]; exact fun _ _ z => by cases z
    rcases List.mem_cons.mp m with rfl | m
    · rw [h2]; exact fun _ _ z => by cases z
    · exact RRpAll.nf rs _ _ q a m
  | .dic kvs, _, _, .dic h q, a, m => by
    rw [List.mem_singleton.mp m, h]
    exact fun _ _ z => by unfold rawO at z; cases z
theorem RRpAll.nf {T : Ct} {G H : Hp} : ∀ (rs : List RD) (S : List Addr) (vs : List V), RRpAll T G H S vs rs → ∀ a ∈ S, ∀ oc u, H a ≠ some (.frz oc u)
  | [], _, _, .nil, a, m => absurd m List.not_mem_nil
  | r :: rs, _, _, .cons h q, a, m => by
    rcases List.mem_append.mp m with m | m
    · exact RRp.nf r _ _ h a m
    · exact RRpAll.nf rs _ _ q a m
end
theorem zip_inj {α : Type} : ∀ {fs : List Str} {vs ws : List α}, vs.length = fs.length → ws.length = fs.length → fs.zip vs = fs.zip ws → vs = ws
  | [], [], [], _, _, _ => rfl
  | [], _ :: _, _, h, _, _ => by cases h
  | [], _, _ :: _, _, h, _ => by cases h
  | _ :: _, [], _, h, _, _ => by cases h
  | _ :: _, _, [], _, h, _ => by cases h
  | f :: fs, v :: vs, w :: ws, h1, h2, e => by
    simp only [List.zip_cons_cons, List.cons.injEq, Prod.mk.injEq, true_and] at e
    rw [e.1, zip_inj (by simpa using h1) (by simpa using h2) e.2]
mutual
theorem RRp.det {T : Ct} {G G' H H' : Hp} : ∀ (r : RD) (S S' : List Addr) (v : V), RRp T G H S v r → RRp T G' H' S' v r → (∀ a ∈ S, H' a = H a) → S' = S
  | .dat _, _, _, _, .dat _, .dat _, _ => rfl
  | .jk, _, _, _, .jk, .jk, _ => rfl
  | .lst rs, _, _, _, .lst h q, .lst h' q', k => by
    have e := (k _ List.mem_cons_self)
    rw [h, h'] at e
    cases e
    rw [RRpAll.det rs _ _ _ q q' fun b m => k b (List.mem_cons_of_mem _ m)]
  | .tup rs, _, _, _, .tup h q, .tup h' q', k => by
    have e := (k _ List.mem_cons_self)
    rw [h, h'] at e
    cases e
    rw [RRpAll.det rs _ _ _ q q' fun b m => k b (List.mem_cons_of_mem _ m)]
  | .ins c rs, _, _, _, .ins h h2 l q, .ins h' h2' l' q', k => by
    have e := (k _ List.mem_cons_self)
    rw [h, h'] at e
    injection e with e
    injection e with e1 e2 e3
    subst e2
    have e4 := zip_inj l' l e3
    subst e4
    rw [RRpAll.det rs _ _ _ q q' fun b m => k b (List.mem_cons_of_mem _ (List.mem_cons_of_mem _ m))]
  | .dic kvs, _, _, _, .dic h q, .dic h' q', k => rfl
theorem RRpAll.det {T : Ct} {G G' H H' : Hp} : ∀ (rs : List RD) (S S' : List Addr) (vs : List V), RRpAll T G H S vs rs → RRpAll T G' H' S' vs rs → (∀ a ∈ S, H' a = H a) → S' = S
  | [], _, _, _, .nil, .nil, _ => rfl
  | r :: rs, _, _, _, .cons h q, .cons h' q', k => by
    rw [RRp.det r _ _ _ h h' fun b m => k b (List.mem_append_left _ m), RRpAll.det rs _ _ _ q q' fun b m => k b (List.mem_append_right _ m)]
end
mutual
/-- .. never changed from here on -/
theorem RRp.frz {T : Ct} {G H G2 : Hp} (e : Same G G2) : ∀ (r : RD) (S : List Addr) (v : V) (d : D), RRp T G H S v r → (∀ a ∈ S, G2 a = H a) → r.toD = some d → Dq G2 v d
  | .dat _, _, _, d, .dat h, _, z => by cases z; exact h.mono e
  | .jk, _, _, _, _, _, z => by cases z
  | .ins _ _, _, _, _, _, _, z => by cases z
  | .dic _, _, _, _, _, _, z => by cases z
  | .lst rs, _, _, d, .lst h q, k, z => by
    simp only [RD.toD] at z
    obtain ⟨ds, z1, rfl⟩ := Option.map_eq_some_iff.mp z
    exact Dq.lst (SqL.of ((k _ List.mem_cons_self).trans h)) (RRpAll.frz e rs _ _ ds q (fun b m => k b (List.mem_cons_of_mem _ m)) z1)
  | .tup rs, _, _, d, .tup h q, k, z => by
    simp only [RD.toD] at z
    obtain ⟨ds, z1, rfl⟩ := Option.map_eq_some_iff.mp z
    exact Dq.tup (SqT.of ((k _ List.mem_cons_self).trans h)) (RRpAll.frz e rs _ _ ds q (fun b m => k b (List.mem_cons_of_mem _ m)) z1)
theorem RRpAll.frz {T : Ct} {G H G2 : Hp} (e : Same G G2) : ∀ (rs : List RD) (S : List Addr) (vs : List V) (ds : List D), RRpAll T G H S vs rs → (∀ a ∈ S, G2 a = H a) → RD.toDs rs = some ds → DqAll G2 vs ds
  | [], _, _, ds, .nil, _, z => by simp only [RD.toDs] at z; cases z; exact .nil
  | r :: rs, _, _, ds, .cons h q, k, z => by
    simp only [RD.toDs] at z
    split at z
    · rename_i d ds' e1 e2
      cases z
      exact .cons (RRp.frz e r _ _ d h (fun b m => k b (List.mem_append_left _ m)) e1) (RRpAll.frz e rs _ _ ds' q (fun b m => k b (List.mem_append_right _ m)) e2)
    · cases z
end
theorem RRp.fzv {T : Ct} {G H G2 : Hp} (e : Same G G2) {r : RD} {S : List Addr} {v : V} {w : SV} (h : RRp T G H S v r) (k : ∀ a ∈ S, G2 a = H a) (z : r.fzv = some w) : VRp T G2 v w := by
  cases r with
  | dat d => simp only [RD.fzv] at z; cases z; exact RRp.frz e (.dat d) _ _ d h k (by simp only [RD.toD])
  | jk => simp only [RD.fzv] at z; cases z
  | lst rs =>
    simp only [RD.fzv] at z
    obtain ⟨ds, z1, rfl⟩ := Option.map_eq_some_iff.mp z
    exact RRp.frz e (.lst rs) _ _ (.list ds) h k (by simp only [RD.toD, z1, Option.map_some])
  | tup rs =>
    simp only [RD.fzv] at z
    obtain ⟨ds, z1, rfl⟩ := Option.map_eq_some_iff.mp z
    exact RRp.frz e (.tup rs) _ _ (.tuple ds) h k (by simp only [RD.toD, z1, Option.map_some])
  | ins c rs =>
    simp only [RD.fzv] at z
    split at z
    · cases z
    · rename_i nc
      obtain ⟨ds, z1, rfl⟩ := Option.map_eq_some_iff.mp z
      cases h with
      | ins h h2 l q =>
        show ObRp T G2 _ c ds
        unfold ObRp
        rw [if_neg (by omega), if_neg (by omega), if_neg (by omega), if_neg (by omega), if_neg (by omega)]
        exact ⟨_, _, _, rfl, (k _ List.mem_cons_self).trans h, (k _ (List.mem_cons_of_mem _ List.mem_cons_self)).trans h2, l, RRpAll.frz e rs _ _ ds q (fun b m => k b (List.mem_cons_of_mem _ (List.mem_cons_of_mem _ m))) z1⟩
  | dic kvs =>
    simp only [RD.fzv] at z
    cases z
    cases h with
    | dic h a =>
      show ObRp T G2 _ 103 _
      unfold ObRp
      rw [if_neg (by omega), if_neg (by omega), if_neg (by omega), if_pos rfl]
      exact ⟨_, _, kvs, rfl, (k _ List.mem_cons_self).trans h, a.mono e, rfl⟩
open Classical in
/-- a heap with some places of another -/
noncomputable def addS (G H : Hp) (S : List Addr) : Hp := fun a => if a ∈ S then H a else G a
theorem addS_in {G H : Hp} {S : List Addr} {a : Addr} (h : a ∈ S) : addS G H S a = H a := if_pos h
theorem addS_out {G H : Hp} {S : List Addr} {a : Addr} (h : a ∉ S) : addS G H S a = G a := if_neg h
theorem addS_same {G H : Hp} {S : List Addr} (n : ∀ a ∈ S, G a = none) : Same G (addS G H S) := fun b o e => by
  rw [addS_out fun m => by rw [n b m] at e; cases e]; exact e
/-- what is new and apart since H0 is never changed from here on -/
theorem Step.frzS {G0 H0 G H : Hp} (s : Step G0 H0 G H) {S : List Addr} (n : ∀ a ∈ S, G a = none ∧ H0 a = none) (k : ∀ a ∈ S, ∃ o, H a = some o ∧ ¬ Mem o) : Step G0 H0 (addS G H S) H := by
  refine ⟨s.hh, s.gg.trans (addS_same fun a m => (n a m).1), fun b o e => ?_, fun a h1 h2 => ?_, fun q b o e => ?_⟩
  · by_cases m : b ∈ S
    · rw [addS_in m] at e; exact e
    · rw [addS_out m] at e; exact s.gh b o e
  · by_cases m : a ∈ S
    · exact .inl (n a m).2
    · rw [addS_out m] at h2; exact s.nw a h1 h2
  · by_cases m : b ∈ S
    · rw [addS_in m] at e
      obtain ⟨o', e', z⟩ := k b m
      rw [e] at e'; cases e'; exact mm_of z
    · rw [addS_out m] at e; exact s.nm q b o e
/-- places apart stay as they are through a step -/
theorem Step.keepS {G H G' H' : Hp} (s : Step G H G' H') {S : List Addr} (n : ∀ a ∈ S, G a = none) (k : ∀ a ∈ S, ∃ o, H a = some o ∧ ¬ Mem o) : (∀ a ∈ S, G' a = none) ∧ ∀ a ∈ S, H' a = H a := by
  refine ⟨fun a m => ?_, fun a m => ?_⟩
  · obtain ⟨o, e, z⟩ := k a m
    exact (s.own (n a m) e z).1
  · obtain ⟨o, e, z⟩ := k a m
    rw [(s.own (n a m) e z).2, e]
structure RgAt (T : Ct) (B : Hp × Hp) (G H : Hp) (S : List Addr) (v : V) (r : RD) : Prop where
  rp : RRp T G H S v r
  nd : S.Nodup
  nw : ∀ a ∈ S, G a = none ∧ B.2 a = none
theorem RgAt.step {T : Ct} {B : Hp × Hp} {G H G' H' : Hp} {S : List Addr} {v : V} {r : RD} (h : RgAt T B G H S v r) (s : Step G H G' H') : RgAt T B G' H' S v r := by
  obtain ⟨a1, a2⟩ := s.keepS (fun a m => (h.nw a m).1) (RRp.at r S v h.rp)
  exact ⟨RRp.mono s.gg rfl rfl r S v h.rp a2, h.nd, fun a m => ⟨a1 a m, (h.nw a m).2⟩⟩
/-- of such things a def has one at a time -/
def RgOk (T : Ct) (B : Hp × Hp) (G : Hp) (env : VEnv) (σ : L2.St) (H : Hp) : Prop := ∀ (i : Nat) r, env[i]? = some (some (.rg r)) → (∀ (j : Nat) r', env[j]? = some (some (.rg r')) → j = i) ∧ ∃ v S, σ[i]? = some (some v) ∧ RgAt T B G H S v r ∧
  ∀ (j : Nat) ds p, env[j]? = some (some (.ow ds)) → σ[j]? = some (some (.ref p)) → p ∉ S
theorem RgOk.sub {T : Ct} {B : Hp × Hp} {G H : Hp} {env env' : VEnv} {σ σ' : L2.St} (h : RgOk T B G env σ H) (h1 : ∀ (i : Nat) r, env'[i]? = some (some (.rg r)) → env[i]? = some (some (.rg r)) ∧ σ'[i]? = σ[i]?)
    (h2 : ∀ (j : Nat) ds p, env'[j]? = some (some (.ow ds)) → σ'[j]? = some (some (.ref p)) → ∃ ds', env[j]? = some (some (.ow ds')) ∧ σ[j]? = some (some (.ref p))) : RgOk T B G env' σ' H := fun i r e => by
  obtain ⟨e1, e2⟩ := h1 i r e
  obtain ⟨u, v, S, a, b, c⟩ := h i r e1
  refine ⟨fun j r' q => u j r' (h1 j r' q).1, v, S, e2.trans a, b, fun j ds p q1 q2 => ?_⟩
  obtain ⟨ds', z1, z2⟩ := h2 j ds p q1 q2
  exact c j ds' p z1 z2
/-! ### the state -/
structure Sim (T : Ct) (B : Hp × Hp) (G : Hp) (env : VEnv) (σ : St) (H : Hp) : Prop where
  st : Step B.1 B.2 G H
  nb : NoMem B.1 ∧ Same T.gc B.2 ∧ NoMem T.gc
  me : MeOk T H
  len : env.length = σ.length
  sh : ∀ (i : Nat) d, env[i]? = some (some (.sh d)) → ∃ v, σ[i]? = some (some v) ∧ Dq G v d
  ob : ∀ (i : Nat) c fs, env[i]? = some (some (.ob c fs)) → ∃ v, σ[i]? = some (some v) ∧ ObRp T G v c fs
  ow : ∀ (i : Nat) ds, env[i]? = some (some (.ow ds)) → ∃ p xs, σ[i]? = some (some (.ref p)) ∧ H p = some (.lst xs) ∧ G p = none ∧ B.2 p = none ∧ DqAll G xs ds
  ap : ∀ (i j : Nat) ds es p, env[i]? = some (some (.ow ds)) → env[j]? = some (some (.ow es)) → σ[i]? = some (some (.ref p)) → σ[j]? = some (some (.ref p)) → i = j
  rg : RgOk T B G env σ H
section
variable {T : Ct} {B : Hp × Hp} {G G' H H' : Hp} {env : VEnv} {σ : St}
theorem Sim.gh (S : Sim T B G env σ H) : Same G H := S.st.gh
theorem Sim.mo (S : Sim T B G env σ H) : MeO T H := ⟨S.me, S.st.hh.up S.nb.2.1 S.nb.2.2, S.nb.2.2⟩
theorem Sim.step (S : Sim T B G env σ H) (s : Step G H G' H') : Sim T B G' env σ H' where
  st := S.st.trans s
  nb := S.nb
  me := S.me.step s.hh
  len := S.len
  sh := fun i d e => let ⟨v, h1, h2⟩ := S.sh i d e; ⟨v, h1, h2.mono s.gg⟩
  ob := fun i c fs e => let ⟨v, h1, h2⟩ := S.ob i c fs e; ⟨v, h1, h2.mono s.gg⟩
  ow := fun i ds e => by
    obtain ⟨p, xs, h1, h2, h3, h4, h5⟩ := S.ow i ds e
    obtain ⟨h3', h2'⟩ := s.own h3 h2
    exact ⟨p, xs, h1, h2', h3', h4, h5.mono s.gg⟩
  ap := S.ap
  rg := fun i r e => by
    obtain ⟨u, v, F, a, b, c⟩ := S.rg i r e
    exact ⟨u, v, F, a, b.step s, c⟩
/-- a name is forgotten -/
theorem get_set {α : Type} {l : List α} {i j : Nat} {a b : α} (h : (l.set i a)[j]? = some b) : (i = j ∧ a = b) ∨ (i ≠ j ∧ l[j]? = some b) := by
  by_cases e : i = j
  · subst e
    by_cases hl : i < l.length
    · rw [List.getElem?_set_self hl] at h; exact .inl ⟨rfl, Option.some.inj h⟩
    · rw [List.getElem?_eq_none (by simpa using hl)] at h; cases h
  · rw [List.getElem?_set_ne e] at h; exact .inr ⟨e, h⟩
theorem Sim.lt (S : Sim T B G env σ H) {i : Nat} {o : Option SV} (h : env[i]? = some o) : i < σ.length := by
  rw [← S.len]; exact (List.getElem?_eq_some_iff.mp h).1
theorem Sim.setSh (S : Sim T B G env σ H) {i : Nat} {v : V} {d : D} (h : Dq G v d) : Sim T B G (env.set i (some (.sh d))) (σ.set i (some v)) H where
  st := S.st
  nb := S.nb
  me := S.me
  len := by rw [List.length_set, List.length_set, S.len]
  sh := fun j e q => by
    have hj : j < σ.length := by have := (List.getElem?_eq_some_iff.mp q).1; rw [List.length_set] at this; rw [← S.len]; exact this
    rcases get_set q with ⟨z, y⟩ | ⟨z, y⟩
    · subst z; cases y; exact ⟨v, List.getElem?_set_self hj, h⟩
    · obtain ⟨w, h1, h2⟩ := S.sh j e y
      exact ⟨w, by rw [List.getElem?_set_ne z]; exact h1, h2⟩
  ob := fun j c fs q => by
    rcases get_set q with ⟨z, y⟩ | ⟨z, y⟩
    · cases y
    · obtain ⟨w, h1, h2⟩ := S.ob j c fs y
      exact ⟨w, by rw [List.getElem?_set_ne z]; exact h1, h2⟩
  ow := fun j ds q => by
    rcases get_set q with ⟨z, y⟩ | ⟨z, y⟩
    · cases y
    · obtain ⟨p, xs, h1, h2⟩ := S.ow j ds y
      exact ⟨p, xs, by rw [List.getElem?_set_ne z]; exact h1, h2⟩
  ap := fun j k ds es p q1 q2 q3 q4 => by
    rcases get_set q1 with ⟨z, y⟩ | ⟨z1, y1⟩
    · cases y
    rcases get_set q2 with ⟨z, y⟩ | ⟨z2, y2⟩
    · cases y
    rw [List.getElem?_set_ne z1] at q3
    rw [List.getElem?_set_ne z2] at q4
    exact S.ap j k ds es p y1 y2 q3 q4
  rg := S.rg.sub (fun j r q => by
    rcases get_set q with ⟨z, y⟩ | ⟨z, y⟩
    · cases y
    · exact ⟨y, List.getElem?_set_ne z⟩) fun j ds p q q' => by
    rcases get_set q with ⟨z, y⟩ | ⟨z, y⟩
    · cases y
    · rw [List.getElem?_set_ne z] at q'; exact ⟨ds, y, q'⟩
theorem Sim.setOb (S : Sim T B G env σ H) {i : Nat} {v : V} {c : Nat} {fs : List D} (h : ObRp T G v c fs) : Sim T B G (env.set i (some (.ob c fs))) (σ.set i (some v)) H where
  st := S.st
  nb := S.nb
  me := S.me
  len := by rw [List.length_set, List.length_set, S.len]
  sh := fun j e q => by
    rcases get_set q with ⟨z, y⟩ | ⟨z, y⟩
    · cases y
    · obtain ⟨w, h1, h2⟩ := S.sh j e y
      exact ⟨w, by rw [List.getElem?_set_ne z]; exact h1, h2⟩
  ob := fun j c' fs' q => by
    have hj : j < σ.length := by have := (List.getElem?_eq_some_iff.mp q).1; rw [List.length_set] at this; rw [← S.len]; exact this
    rcases get_set q with ⟨z, y⟩ | ⟨z, y⟩
    · subst z; cases y; exact ⟨v, List.getElem?_set_self hj, h⟩
    · obtain ⟨w, h1, h2⟩ := S.ob j c' fs' y
      exact ⟨w, by rw [List.getElem?_set_ne z]; exact h1, h2⟩
  ow := fun j ds q => by
    rcases get_set q with ⟨z, y⟩ | ⟨z, y⟩
    · cases y
    · obtain ⟨p, xs, h1, h2⟩ := S.ow j ds y
      exact ⟨p, xs, by rw [List.getElem?_set_ne z]; exact h1, h2⟩
  ap := fun j k ds es p q1 q2 q3 q4 => by
    rcases get_set q1 with ⟨z, y⟩ | ⟨z1, y1⟩
    · cases y
    rcases get_set q2 with ⟨z, y⟩ | ⟨z2, y2⟩
    · cases y
    rw [List.getElem?_set_ne z1] at q3
    rw [List.getElem?_set_ne z2] at q4
    exact S.ap j k ds es p y1 y2 q3 q4
  rg := S.rg.sub (fun j r q => by
    rcases get_set q with ⟨z, y⟩ | ⟨z, y⟩
    · cases y
    · exact ⟨y, List.getElem?_set_ne z⟩) fun j ds p q q' => by
    rcases get_set q with ⟨z, y⟩ | ⟨z, y⟩
    · cases y
    · rw [List.getElem?_set_ne z] at q'; exact ⟨ds, y, q'⟩
theorem Sim.setNone (S : Sim T B G env σ H) {i : Nat} {o : Option V} : Sim T B G (env.set i none) (σ.set i o) H where
  st := S.st
  nb := S.nb
  me := S.me
  len := by rw [List.length_set, List.length_set, S.len]
  sh := fun j e q => by
    rcases get_set q with ⟨z, y⟩ | ⟨z, y⟩
    · cases y
    · obtain ⟨w, h1, h2⟩ := S.sh j e y
      exact ⟨w, by rw [List.getElem?_set_ne z]; exact h1, h2⟩
  ob := fun j c' fs' q => by
    rcases get_set q with ⟨z, y⟩ | ⟨z, y⟩
    · cases y
    · obtain ⟨w, h1, h2⟩ := S.ob j c' fs' y
      exact ⟨w, by rw [List.getElem?_set_ne z]; exact h1, h2⟩
  ow := fun j ds q => by
    rcases get_set q with ⟨z, y⟩ | ⟨z, y⟩
    · cases y
    · obtain ⟨p, xs, h1, h2⟩ := S.ow j ds y
      exact ⟨p, xs, by rw [List.getElem?_set_ne z]; exact h1, h2⟩
  ap := fun j k ds es p q1 q2 q3 q4 => by
    rcases get_set q1 with ⟨z, y⟩ | ⟨z1, y1⟩
    · cases y
    rcases get_set q2 with ⟨z, y⟩ | ⟨z2, y2⟩
    · cases y
    rw [List.getElem?_set_ne z1] at q3
    rw [List.getElem?_set_ne z2] at q4
    exact S.ap j k ds es p y1 y2 q3 q4
  rg := S.rg.sub (fun j r q => by
    rcases get_set q with ⟨z, y⟩ | ⟨z, y⟩
    · cases y
    · exact ⟨y, List.getElem?_set_ne z⟩) fun j ds p q q' => by
    rcases get_set q with ⟨z, y⟩ | ⟨z, y⟩
    · cases y
    · rw [List.getElem?_set_ne z] at q'; exact ⟨ds, y, q'⟩
/-- a list of one's own goes to a name: new since H, apart from all others -/
theorem Sim.setOw (S : Sim T B G env σ H) {i : Nat} {p : Addr} {xs : List V} {ds : List D} (hb : B.2 p = none) (hg : G p = none) (hp : H p = some (.lst xs)) (h : DqAll G xs ds)
    (new : ∀ (j : Nat) es, env[j]? = some (some (.ow es)) → i ≠ j → σ[j]? ≠ some (some (.ref p)))
    (newR : ∀ (j : Nat) r v F, env[j]? = some (some (.rg r)) → i ≠ j → σ[j]? = some (some v) → RRp T G H F v r → p ∉ F) : Sim T B G (env.set i (some (.ow ds))) (σ.set i (some (.ref p))) H where
  st := S.st
  nb := S.nb
  me := S.me
  len := by rw [List.length_set, List.length_set, S.len]
  sh := fun j e q => by
    rcases get_set q with ⟨z, y⟩ | ⟨z, y⟩
    · cases y
    · obtain ⟨w, h1, h2⟩ := S.sh j e y
      exact ⟨w, by rw [List.getElem?_set_ne z]; exact h1, h2⟩
  ob := fun j c fs q => by
    rcases get_set q with ⟨z, y⟩ | ⟨z, y⟩
    · cases y
    · obtain ⟨w, h1, h2⟩ := S.ob j c fs y
      exact ⟨w, by rw [List.getElem?_set_ne z]; exact h1, h2⟩
  ow := fun j es q => by
    have hj : j < σ.length := by have := (List.getElem?_eq_some_iff.mp q).1; rw [List.length_set] at this; rw [← S.len]; exact this
    rcases get_set q with ⟨z, y⟩ | ⟨z, y⟩
    · subst z; cases y; exact ⟨p, xs, List.getElem?_set_self hj, hp, hg, hb, h⟩
    · obtain ⟨p, xs, h1, h2⟩ := S.ow j es y
      exact ⟨p, xs, by rw [List.getElem?_set_ne z]; exact h1, h2⟩
  ap := fun j k es fs a q1 q2 q3 q4 => by
    rcases get_set q1 with ⟨z1, y1⟩ | ⟨z1, y1⟩
    · rcases get_set q2 with ⟨z2, y2⟩ | ⟨z2, y2⟩
      · rw [← z1, ← z2]
      · subst z1
        have hi : i < σ.length := by have := (List.getElem?_eq_some_iff.mp q3).1; rw [List.length_set] at this; exact this
        rw [List.getElem?_set_self hi] at q3
        rw [List.getElem?_set_ne z2] at q4
        cases q3
        exact absurd q4 (new k fs y2 z2)
    · rcases get_set q2 with ⟨z2, y2⟩ | ⟨z2, y2⟩
      · subst z2
        have hi : i < σ.length := by have := (List.getElem?_eq_some_iff.mp q4).1; rw [List.length_set] at this; exact this
        rw [List.getElem?_set_self hi] at q4
        rw [List.getElem?_set_ne z1] at q3
        cases q4
        exact absurd q3 (new j es y1 z1)
      · rw [List.getElem?_set_ne z1] at q3
        rw [List.getElem?_set_ne z2] at q4
        exact S.ap j k es fs a y1 y2 q3 q4
  rg := fun j r q => by
    rcases get_set q with ⟨z, y⟩ | ⟨z, y⟩
    · cases y
    obtain ⟨u, v, F, a, b, c⟩ := S.rg j r y
    refine ⟨fun j' r' q' => ?_, v, F, by rw [List.getElem?_set_ne z]; exact a, b, fun j' ds' p' q1 q2 => ?_⟩
    · rcases get_set q' with ⟨z', y'⟩ | ⟨z', y'⟩
      · cases y'
      · exact u j' r' y'
    · rcases get_set q1 with ⟨z', y'⟩ | ⟨z', y'⟩
      · subst z'
        have hi : i < σ.length := by have := (List.getElem?_eq_some_iff.mp q2).1; rw [List.length_set] at this; exact this
        rw [List.getElem?_set_self hi] at q2
        cases q2
        exact newR j r v F y z a b.rp
      · rw [List.getElem?_set_ne z'] at q2
        exact c j' ds' p' y' q2
/-- the list that a name owns is changed -/
theorem Sim.write (S : Sim T B G env σ H) {i : Nat} {p : Addr} {ds ds' : List D} {xs' : List V} (hi : env[i]? = some (some (.ow ds))) (hp : σ[i]? = some (some (.ref p))) (h : DqAll G xs' ds') :
    Sim T B G (env.set i (some (.ow ds'))) σ (upd H p (.lst xs')) := by
  obtain ⟨p', xs, e1, e2, e3, e4, e5⟩ := S.ow i ds hi
  rw [hp] at e1; cases e1
  have hl : i < σ.length := S.lt hi
  have hs : σ = σ.set i (some (.ref p)) := by
    refine List.ext_getElem? fun j => ?_
    by_cases z : i = j
    · subst z; rw [List.getElem?_set_self hl]; exact hp
    · rw [List.getElem?_set_ne z]
  have S1 : Sim T B G (env.set i none) σ (upd H p (.lst xs')) := by
    refine ⟨⟨S.st.hh.wr e4 _ (by rw [e2]; exact fun _ _ => lst_code), S.st.gg, fun b u q => ?_, S.st.nw, S.st.nm⟩, S.nb, S.me.wr e2 _, by rw [List.length_set, S.len], fun j d q => ?_, fun j c fs q => ?_, fun j es q => ?_, fun j k es fs a q1 q2 q3 q4 => ?_, fun j r q => ?_⟩
    · rw [upd_ne (ne_of_none q e3)]; exact S.st.gh b u q
    · rcases get_set q with ⟨z, y⟩ | ⟨z, y⟩
      · cases y
      · exact S.sh j d y
    · rcases get_set q with ⟨z, y⟩ | ⟨z, y⟩
      · cases y
      · exact S.ob j c fs y
    · rcases get_set q with ⟨z, y⟩ | ⟨z, y⟩
      · cases y
      · obtain ⟨a, ys, h1, h2, h3⟩ := S.ow j es y
        refine ⟨a, ys, h1, ?_, h3⟩
        have : a ≠ p := fun e => z (S.ap i j ds es p hi y hp (e ▸ h1))
        rw [upd_ne this]; exact h2
    · rcases get_set q1 with ⟨z, y⟩ | ⟨z1, y1⟩
      · cases y
      rcases get_set q2 with ⟨z, y⟩ | ⟨z2, y2⟩
      · cases y
      exact S.ap j k es fs a y1 y2 q3 q4
    · rcases get_set q with ⟨z, y⟩ | ⟨z, y⟩
      · cases y
      obtain ⟨u, v, F, a, b, c⟩ := S.rg j r y
      have pf : p ∉ F := c i ds p hi hp
      refine ⟨fun j' r' q' => ?_, v, F, a, ⟨RRp.mono (Same.refl _) rfl rfl r F v b.rp fun d m => upd_ne fun e => pf (e ▸ m), b.nd, b.nw⟩, fun j' ds' p' q1 q2 => ?_⟩
      · rcases get_set q' with ⟨z', y'⟩ | ⟨z', y'⟩
        · cases y'
        · exact u j' r' y'
      · rcases get_set q1 with ⟨z', y'⟩ | ⟨z', y'⟩
        · cases y'
        · exact c j' ds' p' y' q2
  have r := S1.setOw (i := i) (p := p) (xs := xs') (ds := ds') e4 e3 upd_same h (fun j es q z => by
    rcases get_set q with ⟨z', y⟩ | ⟨z', y⟩
    · exact absurd z' z
    · exact fun w => z (S.ap i j ds es p hi y hp w)) (fun j r v F q z w b => by
    rcases get_set q with ⟨z', y⟩ | ⟨z', y⟩
    · exact absurd z' z
    obtain ⟨u, v', F', a', b', c'⟩ := S.rg j r y
    rw [w] at a'; cases a'
    have pf : p ∉ F' := c' i ds p hi hp
    rw [RRp.det r F' F v b'.rp b fun d m => upd_ne fun e => pf (e ▸ m)]
    exact pf)
  rw [← hs, List.set_set] at r
  exact r
/-- a list of one's own is never changed from here on -/
theorem Sim.frz (S : Sim T B G env σ H) {i : Nat} {ds : List D} (hi : env[i]? = some (some (.ow ds))) : ∃ G', Same G G' ∧ Sim T B G' (env.set i (some (.sh (.list ds)))) σ H := by
  obtain ⟨p, xs, e1, e2, e3, e4, e5⟩ := S.ow i ds hi
  have hl : i < σ.length := S.lt hi
  have hs : σ = σ.set i (some (.ref p)) := by
    refine List.ext_getElem? fun j => ?_
    by_cases z : i = j
    · subst z; rw [List.getElem?_set_self hl]; exact e1
    · rw [List.getElem?_set_ne z]
  have sg : Same G (upd G p (.lst xs)) := same_upd e3 _
  have S1 : Sim T B (upd G p (.lst xs)) (env.set i none) σ H := by
    refine ⟨S.st.freeze e4 e3 e2, S.nb, S.me, by rw [List.length_set, S.len], fun j d q => ?_, fun j c fs q => ?_, fun j es q => ?_, fun j k es fs a q1 q2 q3 q4 => ?_, fun j r q => ?_⟩
    · rcases get_set q with ⟨z, y⟩ | ⟨z, y⟩
      · cases y
      · obtain ⟨v, h1, h2⟩ := S.sh j d y; exact ⟨v, h1, h2.mono sg⟩
    · rcases get_set q with ⟨z, y⟩ | ⟨z, y⟩
      · cases y
      · obtain ⟨v, h1, h2⟩ := S.ob j c fs y; exact ⟨v, h1, h2.mono sg⟩
    · rcases get_set q with ⟨z, y⟩ | ⟨z, y⟩
      · cases y
      · obtain ⟨a, ys, h1, h2, h3, h4, h5⟩ := S.ow j es y
        have : a ≠ p := fun e => z (S.ap i j ds es p hi y e1 (e ▸ h1))
        exact ⟨a, ys, h1, h2, by rw [upd_ne this]; exact h3, h4, h5.mono sg⟩
    · rcases get_set q1 with ⟨z, y⟩ | ⟨z1, y1⟩
      · cases y
      rcases get_set q2 with ⟨z, y⟩ | ⟨z2, y2⟩
      · cases y
      exact S.ap j k es fs a y1 y2 q3 q4
    · rcases get_set q with ⟨z, y⟩ | ⟨z, y⟩
      · cases y
      obtain ⟨u, v, F, a, b, c⟩ := S.rg j r y
      have pf : p ∉ F := c i ds p hi e1
      refine ⟨fun j' r' q' => ?_, v, F, a, ⟨RRp.mono sg rfl rfl r F v b.rp fun _ _ => rfl, b.nd, fun d m => ⟨(upd_ne fun (e : d = p) => pf (e ▸ m)).trans (b.nw d m).1, (b.nw d m).2⟩⟩, fun j' ds' p' q1 q2 => ?_⟩
      · rcases get_set q' with ⟨z', y'⟩ | ⟨z', y'⟩
        · cases y'
        · exact u j' r' y'
      · rcases get_set q1 with ⟨z', y'⟩ | ⟨z', y'⟩
        · cases y'
        · exact c j' ds' p' y' q2
  have r := S1.setSh (i := i) (v := .ref p) (d := .list ds) (Dq.lst (SqL.of upd_same) (e5.mono sg))
  rw [← hs, List.set_set] at r
  exact ⟨upd G p (.lst xs), sg, r⟩
end
end VL
namespace VL
open PySem L2
/-! ### what an expression comes to, and what is wanted of it -/
def Out (T : Ct) (EX : XK) (r : R) (G H : Hp) (Q : VK) : Prop := match r with
  | .val (.sh d) => ∀ v G' H', Step G H G' H' → Dq G' v d → Q v H'
  | .val (.ow ds) => ∀ p xs G' H', Step G H G' H' → H p = none → G' p = none → H' p = some (.lst xs) → DqAll G' xs ds → Q (.ref p) H'
  | .val (.ob c fs) => ∀ v G' H', Step G H G' H' → ObRp T G' v c fs → Q v H'
  | .val (.rg r) => ∀ v S G' H', Step G H G' H' → S.Nodup → (∀ a ∈ S, G' a = none ∧ H a = none) → RRp T G' H' S v r → Q v H'
  | .err c => ∀ H', SameH H H' → EX (.ref (T.er c)) none H'
  | .stuck => False
def OutL (T : Ct) (EX : XK) (r : RL) (G H : Hp) (Q : List V → Hp → Prop) : Prop := match r with
  | .val as => ∀ vs G' H', Step G H G' H' → VRpAll T G' vs as → Q vs H'
  | .err c => ∀ H', SameH H H' → EX (.ref (T.er c)) none H'
  | .stuck => False
def OutT (T : Ct) (EX : XK) (r : R) (G H : Hp) (Q : Bool → Hp → Prop) : Prop := match r with
  | .val (.sh (.bool b)) => ∀ G' H', Step G H G' H' → Q b H'
  | .err c => ∀ H', SameH H H' → EX (.ref (T.er c)) none H'
  | _ => False
/-- a walk over data that stands in G -/
def WalksD (J : It) (G : Hp) (ds : List D) : Prop :=
  Walk J ds.length (fun H => Same G H) (fun i H x H' => ∀ Gc, Same G Gc → Same Gc H → ∃ d Gc', ds[i]? = some d ∧ Step Gc H Gc' H' ∧ Dq Gc' x d)
def OutI (T : Ct) (EX : XK) (r : RI) (G H : Hp) (Q : It → Hp → Prop) : Prop := match r with
  | .val ds => ∀ J G' H', Step G H G' H' → WalksD J G' ds → Q J H'
  | .err c => ∀ H', SameH H H' → EX (.ref (T.er c)) none H'
  | .stuck => False
def OutS (T : Ct) (EX : XK) (B : Hp × Hp) (r : SR) (G : Hp) (D : Ends) : Prop := match r with
  | .nx env => ∀ G' σ' H', Same G G' → Sim T B G' env σ' H' → D.nx σ' H'
  | .rt v => Out T EX (.val v) B.1 B.2 D.rt
  | .err c => ∀ H', SameH B.2 H' → EX (.ref (T.er c)) none H'
  | .stuck => False
def rdV (T : Ct) (EX : XK) (B : Hp × Hp) (f : FE) : TE := fun σ H Q => ∃ G env, Sim T B G env σ H ∧ Out T EX (f env) G H Q
def rdT (T : Ct) (EX : XK) (B : Hp × Hp) (f : FE) : TT := fun σ H Q => ∃ G env, Sim T B G env σ H ∧ OutT T EX (f env) G H Q
def rdI (T : Ct) (EX : XK) (B : Hp × Hp) (f : FI) : TI := fun σ H Q => ∃ G env, Sim T B G env σ H ∧ OutI T EX (f env) G H Q
def rdS (T : Ct) (EX : XK) (B : Hp × Hp) (f : FS) : TS := fun D σ H => ∃ G env, Sim T B G env σ H ∧ OutS T EX B (f env) G D

/-! ### arguments -/
@[simp] def SV.fz : SV → SV
  | .ow ds => .sh (.list ds)
  | .rg r => (match r.fzv with
    | some w => w
    | none => .ob 102 [])
  | .sh d => .sh d
  | .ob c fs => .ob c fs
/-- as a value to be handed on -/
@[simp] def R.v (r : R) (k : SV → R) : R := match r with
  | .val v => k v.fz
  | .err c => .err c
  | .stuck => .stuck
/-- as data -/
@[simp] def R.d (r : R) (k : D → R) : R := match r with
  | .val (.sh d) => k d
  | .val (.ow ds) => k (.list ds)
  | .val (.ob _ _) => .stuck
  | .val (.rg r) => (match r.toD with
    | some d => k d
    | none => .stuck)
  | .err c => .err c
  | .stuck => .stuck
@[simp] def RL.b (r : RL) (k : List SV → R) : R := match r with
  | .val as => k as
  | .err c => .err c
  | .stuck => .stuck
@[simp] def RL.cons (a : SV) (r : RL) : RL := match r with
  | .val as => .val (a :: as)
  | .err c => .err c
  | .stuck => .stuck
@[simp] def evA : List FE → VEnv → RL
  | [], _ => .val []
  | f :: fs, env => match f env with
    | .val v => (evA fs env).cons v.fz
    | .err c => .err c
    | .stuck => .stuck
def rdA (T : Ct) (EX : XK) (B : Hp × Hp) (fs : List FE) : TA := fun σ H Q => ∃ G env, Sim T B G env σ H ∧ OutL T EX (evA fs env) G H Q

section
variable {T : Ct} {EX : XK} {B : Hp × Hp} {G G1 H H1 : Hp} {env : VEnv} {σ : L2.St}
theorem Out.step {r : R} {Q : VK} (h : Out T EX r G H Q) (s : Step G H G1 H1) : Out T EX r G1 H1 Q := by
  cases r with
  | val v =>
    cases v with
    | sh d => exact fun v G' H' s' q => h v G' H' (s.trans s') q
    | ow ds => exact fun p xs G' H' s' n1 n2 e q => h p xs G' H' (s.trans s') (SameH.free s.hh n1) n2 e q
    | ob c fs => exact fun v G' H' s' q => h v G' H' (s.trans s') q
    | rg r => exact fun v S G' H' s' nd nw q => h v S G' H' (s.trans s') nd (fun a m => ⟨(nw a m).1, SameH.free s.hh (nw a m).2⟩) q
  | err c => exact fun H' q => h H' (s.hh.trans q)
  | stuck => exact h
theorem Out.mono {r : R} {Q Q' : VK} (h : Out T EX r G H Q) (q : ∀ v H', Q v H' → Q' v H') : Out T EX r G H Q' := by
  cases r with
  | val v =>
    cases v with
    | sh d => exact fun v G' H' s' z => q _ _ (h v G' H' s' z)
    | ow ds => exact fun p xs G' H' s' n1 n2 e z => q _ _ (h p xs G' H' s' n1 n2 e z)
    | ob c fs => exact fun v G' H' s' z => q _ _ (h v G' H' s' z)
    | rg r => exact fun v S G' H' s' nd nw z => q _ _ (h v S G' H' s' nd nw z)
  | err c => exact h
  | stuck => exact h
theorem OutL.step {r : RL} {Q : List V → Hp → Prop} (h : OutL T EX r G H Q) (s : Step G H G1 H1) : OutL T EX r G1 H1 Q := by
  cases r with
  | val as => exact fun v G' H' s' q => h v G' H' (s.trans s') q
  | err c => exact fun H' q => h H' (s.hh.trans q)
  | stuck => exact h
/-- a value, kept apart or not, is from here on never changed -/
theorem Out.fz {v : SV} {Q : VK} (h : ∀ x G' H', Step G H G' H' → VRp T G' x v.fz → Q x H') : Out T EX (.val v) G H Q := by
  cases v with
  | rg r =>
    refine fun x S G' H' s nd nw q => ?_
    have k := RRp.at r S x q
    refine h x (addS G' H' S) H' (s.frzS nw k) ?_
    simp only [SV.fz]
    split
    · rename_i w ew
      exact RRp.fzv (addS_same fun a m => (nw a m).1) q (fun a m => addS_in m) ew
    · show ObRp T _ x 102 []
      unfold ObRp
      rw [if_neg (by decide), if_neg (by decide), if_pos rfl]
      trivial
  | sh d => exact h
  | ow ds =>
    intro p xs G' H' s n1 n2 e q
    have sg : Same G' (upd G' p (.lst xs)) := same_upd n2 _
    exact h (.ref p) (upd G' p (.lst xs)) H' (s.freeze n1 n2 e) (Dq.lst (SqL.of upd_same) (q.mono sg))
  | ob c fs => exact h
/-- first a value, then what is made of it -/
theorem seqV {f : FE} {k : SV → R} {Q : VK} (S : Sim T B G env σ H) (h : Out T EX ((f env).v k) G H Q) :
    rdV T EX B f σ H (fun v H1 => ∃ a G1, Step G H G1 H1 ∧ VRp T G1 v a ∧ Sim T B G1 env σ H1 ∧ Out T EX (k a) G1 H1 Q) := by
  refine ⟨G, env, S, ?_⟩
  revert h
  cases f env with
  | val v => exact fun h => Out.fz fun x G' H' s q => ⟨v.fz, G', s, q, S.step s, Out.step h s⟩
  | err c => exact fun h => h
  | stuck => exact fun h => h
theorem seqD {f : FE} {k : D → R} {Q : VK} (S' : Sim T B G env σ H) (h : Out T EX ((f env).d k) G H Q) :
    rdV T EX B f σ H (fun v H1 => ∃ d G1, Step G H G1 H1 ∧ Dq G1 v d ∧ Sim T B G1 env σ H1 ∧ Out T EX (k d) G1 H1 Q) := by
  refine ⟨G, env, S', ?_⟩
  revert h
  cases f env with
  | val v =>
    cases v with
    | sh d => exact fun h => Out.fz fun x G' H' s q => ⟨d, G', s, q, S'.step s, Out.step h s⟩
    | ow ds => exact fun h => Out.fz fun x G' H' s q => ⟨.list ds, G', s, q, S'.step s, Out.step h s⟩
    | ob c fs => exact fun h => h.elim
    | rg r =>
      intro h v S G' H' s nd nw q
      dsimp only [R.d] at h
      split at h
      · rename_i d ed
        have s2 := s.frzS nw (RRp.at r S v q)
        exact ⟨d, addS G' H' S, s2, RRp.frz (addS_same fun a m => (nw a m).1) r S v d q (fun a m => addS_in m) ed, S'.step s2, Out.step h s2⟩
      · exact h.elim
  | err c => exact fun h => h
  | stuck => exact fun h => h
theorem rdV_mono {f : FE} {Q Q' : VK} (h : rdV T EX B f σ H Q) (q : ∀ v H', Q v H' → Q' v H') : rdV T EX B f σ H Q' :=
  let ⟨G, env, S, o⟩ := h; ⟨G, env, S, o.mono q⟩
theorem rdA_cons {f : FE} {fs : List FE} {Q : List V → Hp → Prop} (h : rdA T EX B (f :: fs) σ H Q) : rdV T EX B f σ H (fun x H1 => rdA T EX B fs σ H1 fun xs H2 => Q (x :: xs) H2) := by
  obtain ⟨G, env, S, o⟩ := h
  refine ⟨G, env, S, ?_⟩
  unfold evA at o
  revert o
  cases f env with
  | val v =>
    intro o
    refine Out.fz fun x G' H' s q => ⟨G', env, S.step s, ?_⟩
    dsimp only at o
    revert o
    cases evA fs env with
    | val as => exact fun o vs G'' H'' s' qs => o (x :: vs) G'' H'' (s.trans s') (.cons (q.mono s'.gg) qs)
    | err c => exact fun o H'' z => o H'' (s.hh.trans z)
    | stuck => exact fun o => o.elim
  | err c => exact fun o => o
  | stuck => exact fun o => o
theorem rdA_seq {fs : List FE} {k : List SV → R} {Q : VK} (S : Sim T B G env σ H) (h : Out T EX ((evA fs env).b k) G H Q) :
    rdA T EX B fs σ H (fun vs H1 => ∃ as G1, Step G H G1 H1 ∧ VRpAll T G1 vs as ∧ evA fs env = .val as ∧ Sim T B G1 env σ H1 ∧ Out T EX (k as) G1 H1 Q) := by
  refine ⟨G, env, S, ?_⟩
  revert h
  cases evA fs env with
  | val as => exact fun h vs G' H' s q => ⟨as, G', s, q, rfl, S.step s, Out.step h s⟩
  | err c => exact fun h => h
  | stuck => exact fun h => h
end

/-! ### the judgements -/
theorem pe_weak {X : Cx} {e : Expr} {t t' : TE} (h : PE X e t) (w : ∀ σ H Q, t' σ H Q → t σ H Q) : PE X e t' := ⟨fun pins s σ H Q I q => h.run pins s σ H Q I (w σ H Q q)⟩
theorem pt_weak {X : Cx} {e : Expr} {t t' : TT} (h : PT X e t) (w : ∀ σ H Q, t' σ H Q → t σ H Q) : PT X e t' := ⟨fun pins s σ H Q I q => h.run pins s σ H Q I (w σ H Q q)⟩
theorem pw_weak {X : Cx} {e : Expr} {t t' : TT} (h : PW X e t) (w : ∀ σ H Q, t' σ H Q → t σ H Q) : PW X e t' := ⟨fun wh pins s σ H Q I q => h.run wh pins s σ H Q I (w σ H Q q)⟩
theorem pa_weak {X : Cx} {es : List Expr} {t t' : TA} (h : PA X es t) (w : ∀ σ H Q, t' σ H Q → t σ H Q) : PA X es t' := ⟨fun pos pins s σ H Q I q => h.run pos pins s σ H Q I (w σ H Q q)⟩
theorem ps_weak {X : Cx} {st : Stmt} {t t' : TS} (h : PS X st t) (w : ∀ D σ H, t' D σ H → t D σ H) : PS X st t' := ⟨fun pins s σ H D I q => h.run pins s σ H D I (w D σ H q)⟩
theorem pss_weak {X : Cx} {st : List Stmt} {t t' : TS} (h : PSs X st t) (w : ∀ D σ H, t' D σ H → t D σ H) : PSs X st t' := ⟨fun pins s σ H D I q => h.run pins s σ H D I (w D σ H q)⟩
theorem pi_weak {X : Cx} {tg e : Expr} {t t' : TI} (h : PI X tg e t) (w : ∀ σ H Q, t' σ H Q → t σ H Q) : PI X tg e t' := ⟨fun pins s σ H Q I q => h.run pins s σ H Q I (w σ H Q q)⟩
/-- the context of a pure walk -/
structure Cv (X : Cx) (T : Ct) (EX : XK) (B : Hp × Hp) : Prop where
  calm : X.calm = true
  nd : X.N.Nodup
  pass : Passes (L2.CX X.prog X.w) X EX
  un : X.A.units + 150 < cLine
  gd : X.A.guards = some []
def VE (X : Cx) (T : Ct) (EX : XK) (B : Hp × Hp) (e : Expr) (f : FE) : Prop := PE X e (rdV T EX B f)
def VT (X : Cx) (T : Ct) (EX : XK) (B : Hp × Hp) (e : Expr) (f : FE) : Prop := PT X e (rdT T EX B f)
def VW (X : Cx) (T : Ct) (EX : XK) (B : Hp × Hp) (e : Expr) (f : FE) : Prop := PW X e (rdT T EX B f)
def VA (X : Cx) (T : Ct) (EX : XK) (B : Hp × Hp) (es : List Expr) (fs : List FE) : Prop := PA X es (rdA T EX B fs)
def VI (X : Cx) (T : Ct) (EX : XK) (B : Hp × Hp) (tg e : Expr) (f : FI) : Prop := PI X tg e (rdI T EX B f)
def VS (X : Cx) (T : Ct) (EX : XK) (B : Hp × Hp) (st : Stmt) (f : FS) : Prop := PS X st (rdS T EX B f)
def VSs (X : Cx) (T : Ct) (EX : XK) (B : Hp × Hp) (st : List Stmt) (f : FS) : Prop := PSs X st (rdS T EX B f)
section
variable {X : Cx} {T : Ct} {EX : XK} {B : Hp × Hp} {e a b c : Expr} {es : List Expr} {pos p p2 : Pos} {f g h : FE} {fs : List FE}

/-! ### names, constants -/
@[simp] def vVar (i : Nat) : FE := fun env => match env[i]? with
  | some (some (.sh d)) => .val (.sh d)
  | some (some (.ob c fs)) => .val (.ob c fs)
  | _ => .stuck
theorem ve_var (i : Nat) {x : Str} (hN : X.N[i]? = some x := by rfl) (hv : Vis X.env.scope x := by first | exact Or.inl rfl | exact Or.inr (Or.inl rfl) | exact Or.inr (Or.inr rfl)) (hd : (x == ("__debug__" : Str)) = false := by decide)
    (hcd : (x == ("__classdict__" : Str)) = false := by decide) : VE X T EX B (.Name x pos) (vVar i) := by
  refine pe_weak (pe_var hN hv hd hcd) fun σ H Q q => ?_
  obtain ⟨G, env, S, o⟩ := q
  unfold vVar at o
  split at o
  · rename_i d e
    obtain ⟨v, h1, h2⟩ := S.sh i d e
    exact ⟨v, h1, o v G H (Step.refl S.gh) h2⟩
  · rename_i c fs e
    obtain ⟨v, h1, h2⟩ := S.ob i c fs e
    exact ⟨v, h1, o v G H (Step.refl S.gh) h2⟩
  · exact o.elim
@[simp] def vC (d : D) : FE := fun _ => .val (.sh d)
theorem ve_int {i j} : VE X T EX B (.Constant (.int i) j pos) (vC (.int i)) := pe_weak pe_int fun σ H Q q => by
  obtain ⟨G, env, S, o⟩ := q
  exact o _ G H (Step.refl S.gh) .int
theorem ve_bl {i j} : VE X T EX B (.Constant (.bool i) j pos) (vC (.bool i)) := pe_weak pe_bl fun σ H Q q => by
  obtain ⟨G, env, S, o⟩ := q
  exact o _ G H (Step.refl S.gh) .bl
theorem ve_non {j} : VE X T EX B (.Constant .none j pos) (vC .none) := pe_weak pe_non fun σ H Q q => by
  obtain ⟨G, env, S, o⟩ := q
  exact o _ G H (Step.refl S.gh) .non
theorem ve_str {i : Str} {j} (ok : (PyData.str i).canLay0 = true := by decide +kernel) : VE X T EX B (.Constant (.str i) j pos) (vC (.str i)) := pe_weak pe_str fun σ H Q q => by
  obtain ⟨G, env, S, o⟩ := q
  exact o _ G H (Step.refl S.gh) ⟨.str i, ok⟩
/-- a module's constant, an int -/
theorem ve_gint {x : Str} {i : Int} {t : Tok} (hg : Gl X x) (hm : X.mg x = some (.int i t)) (hd : (x == ("__debug__" : Str)) = false := by decide) : VE X T EX B (.Name x pos) (vC (.int i)) := pe_weak (pe_glob (v := .int i) hg hm ⟨t, rfl⟩ hd) fun σ H Q q => by
  obtain ⟨G, env, S, o⟩ := q
  exact o _ G H (Step.refl S.gh) .int

/-! ### arguments, displays -/
theorem va_nil : VA X T EX B [] [] := pa_weak pa_nil fun σ H Q q => by
  obtain ⟨G, env, S, o⟩ := q
  exact o [] G H (Step.refl S.gh) .nil
theorem va_cons (ha : VE X T EX B e f) (hr : VA X T EX B es fs) (hs : starEach (e :: es) X.env = (false, eval e X.env) :: starEach es X.env := by rfl) : VA X T EX B (e :: es) (f :: fs) :=
  pa_weak (pa_cons ha hr hs) fun σ H Q q => rdA_cons q
/-- values that are data -/
@[simp] def dats : List SV → Option (List D)
  | [] => some []
  | .sh d :: r => (dats r).map (d :: ·)
  | _ :: _ => none
theorem dats_ok {G : Hp} : ∀ {as : List SV} {vs : List V} {ds : List D}, VRpAll T G vs as → dats as = some ds → DqAll G vs ds
  | [], _, _, .nil, e => by cases e; exact .nil
  | .sh d :: r, _, _, .cons h t, e => by
    unfold dats at e
    obtain ⟨l, e1, rfl⟩ := Option.map_eq_some_iff.mp e
    exact .cons h (dats_ok t e1)
  | .ow _ :: _, _, _, _, e => by unfold dats at e; cases e
  | .ob _ _ :: _, _, _, _, e => by unfold dats at e; cases e
  | .rg _ :: _, _, _, _, e => by unfold dats at e; cases e
/-- a size that a list or a tuple may have -/
@[simp] def gl (n : Nat) (r : R) : R := if n ≤ 1000000 then r else .stuck
theorem gl_ok {n : Nat} {r : R} (h : n ≤ 1000000) : gl n r = r := if_pos h
theorem gl_line {n : Nat} (h : n ≤ 1000000) : n < sizeLine := by rw [sizeLine_eq]; omega
@[simp] def vTup (fs : List FE) : FE := fun env => (evA fs env).b fun as => match dats as with
  | some ds => gl ds.length (.val (.sh (.tuple ds)))
  | none => .stuck
@[simp] def vLst (fs : List FE) : FE := fun env => (evA fs env).b fun as => match dats as with
  | some ds => gl ds.length (.val (.ow ds))
  | none => .stuck
theorem args_use {r : List V → Hp → VK → Prop} {k : List SV → R} {σ : L2.St} {H : Hp} {Q : VK} (prim : ∀ vs as G H, Same G H → VRpAll T G vs as → Out T EX (k as) G H Q → r vs H Q)
    (q : rdV T EX B (fun env => (evA fs env).b k) σ H Q) : rdA T EX B fs σ H (fun vs H1 => r vs H1 Q) := by
  obtain ⟨G, env, S, o⟩ := q
  obtain ⟨G2, env2, S2, o2⟩ := rdA_seq S o
  refine ⟨G2, env2, S2, ?_⟩
  revert o2
  cases evA fs env2 with
  | val as2 =>
    intro o2 vs G' H' s q
    obtain ⟨as, G1, s1, r, _, S1, o⟩ := o2 vs G' H' s q
    exact prim vs as G1 H' S1.gh r o
  | err c => exact fun o => o
  | stuck => exact fun o => o
theorem ve_tup {x1} (h : VA X T EX B es fs) : VE X T EX B (.Tuple es x1 pos) (vTup fs) := by
  refine pe_weak (pe_tup h) fun σ H Q q => args_use (r := fun xs H1 Q => xs.length ≤ sizeLine ∧ ∀ p, H1 p = none → Q (.ref p) (upd H1 p (.tup xs))) (fun vs as G H gh r o => ?_) q
  split at o
  · rename_i ds e
    have d := dats_ok r e
    unfold gl at o
    split at o
    · rename_i hl
      refine ⟨by rw [d.length]; exact Nat.le_of_lt (gl_line hl), fun p hp => ?_⟩
      exact o (.ref p) _ _ (Step.new gh hp (.tup vs)) (Dq.tup (SqT.of upd_same) (d.mono (same_upd (same_none gh hp) _)))
    · exact o.elim
  · exact o.elim
theorem ve_lst (h : VA X T EX B es fs) : VE X T EX B (.List es pos) (vLst fs) := by
  refine pe_weak (pe_lst h) fun σ H Q q => args_use (r := fun xs H1 Q => xs.length ≤ sizeLine ∧ ∀ p, H1 p = none → Q (.ref p) (upd H1 p (.lst xs))) (fun vs as G H gh r o => ?_) q
  split at o
  · rename_i ds e
    have d := dats_ok r e
    unfold gl at o
    split at o
    · rename_i hl
      refine ⟨by rw [d.length]; exact Nat.le_of_lt (gl_line hl), fun p hp => ?_⟩
      exact o p vs G _ (Step.apart gh hp (.lst vs)) hp (same_none gh hp) upd_same d
    · exact o.elim
  · exact o.elim

/-! ### two operands -/
@[simp] def op2 (F : D → D → R) (f g : FE) : FE := fun env => (f env).d fun x => (g env).d fun y => F x y
@[simp] def op1 (F : D → R) (f : FE) : FE := fun env => (f env).d F
theorem use1 {r : V → Hp → VK → Prop} {F : D → R} {σ : L2.St} {H : Hp} {Q : VK} (prim : ∀ x dx G H, Same G H → Dq G x dx → Out T EX (F dx) G H Q → r x H Q)
    (q : rdV T EX B (op1 F f) σ H Q) : rdV T EX B f σ H (fun x H1 => r x H1 Q) := by
  obtain ⟨G, env, S, o⟩ := q
  exact rdV_mono (seqD S o) fun v H1 ⟨d, G1, s, dq, S1, o1⟩ => prim v d G1 H1 S1.gh dq o1
theorem use2 {r : R2} {F : D → D → R} {σ : L2.St} {H : Hp} {Q : VK} (prim : ∀ x y dx dy G H, Same G H → Dq G x dx → Dq G y dy → Out T EX (F dx dy) G H Q → r x y H Q)
    (q : rdV T EX B (op2 F f g) σ H Q) : rdV T EX B f σ H (fun x H1 => rdV T EX B g σ H1 fun y H2 => r x y H2 Q) := by
  obtain ⟨G, env, S, o⟩ := q
  refine rdV_mono (seqD S o) fun v H1 ⟨d, G1, s, dq, S1, o1⟩ => ?_
  exact rdV_mono (seqD S1 o1) fun w H2 ⟨d2, G2, s2, dq2, S2, o2⟩ => prim v w d d2 G2 H2 S2.gh (dq.mono s2.gg) dq2 o2
theorem ve_bin {op : Operator} {r : R2} {F : D → D → R} (ho : OpR X (binaryOp op) r) (prim : ∀ Q x y dx dy G H, Same G H → Dq G x dx → Dq G y dy → Out T EX (F dx dy) G H Q → r x y H Q) (ha : VE X T EX B a f) (hb : VE X T EX B b g) :
    VE X T EX B (.BinOp a op b pos) (op2 F f g) := pe_weak (pe_op ho ha hb) fun σ H Q q => use2 (prim Q) q
theorem ve_cmp {op : CmpOp} {r : R2} {F : D → D → R} (ho : OpR X (compareOp op) r) (prim : ∀ Q x y dx dy G H, Same G H → Dq G x dx → Dq G y dy → Out T EX (F dx dy) G H Q → r x y H Q) (ha : VE X T EX B a f) (hb : VE X T EX B b g) (hm : behindInMarks op b = false) :
    VE X T EX B (.Compare a [op] [b] pos) (op2 F f g) := pe_weak (pe_cmpR ho ha hb hm) fun σ H Q q => use2 (prim Q) q
end
end VL
namespace VL
open PySem L2
/-! ### from the tracked heap to the layer's rules -/
theorem sqL_K {K : PySem.W.Frag} {H : Hp} {a : Addr} {xs : List V} (h : SqL [] H a xs) : SqL K H a xs := by
  rcases h with h | ⟨o, its, n, hk, _⟩
  · exact .inl h
  · cases hk
theorem sqT_K {K : PySem.W.Frag} {H : Hp} {a : Addr} {xs : List V} (h : SqT [] H a xs) : SqT K H a xs := by
  rcases h with h | ⟨o, its, n, hk, _⟩
  · exact .inl h
  · cases hk
mutual
theorem dp_K {K : PySem.W.Frag} {G : Hp} : ∀ (d : D) (v : V), Dp [] G v d → Dp K G v d
  | .none, _, h => by cases h; exact .non
  | .bool b, _, h => by cases h; exact .bl b
  | .int i, _, h => by cases h; exact .int i
  | .str x, _, h => by cases h; exact .str x
  | .list ds, _, h => by
    cases h with
    | lst hs ha => exact .lst (sqL_K hs) (dpAll_K ds _ ha)
  | .tuple ds, _, h => by
    cases h with
    | tup hs ha => exact .tup (sqT_K hs) (dpAll_K ds _ ha)
  | .dict _, _, h => by cases h
theorem dpAll_K {K : PySem.W.Frag} {G : Hp} : ∀ (ds : List D) (vs : List V), DpAll [] G vs ds → DpAll K G vs ds
  | [], _, h => by cases h; exact .nil
  | d :: ds, _, h => by
    cases h with
    | cons h1 h2 => exact .cons (dp_K d _ h1) (dpAll_K ds _ h2)
end
theorem Dq.K {K : PySem.W.Frag} {G : Hp} {v : V} {d : D} (h : Dq G v d) : Dp K G v d := dp_K d v h.dp
section
variable {X : Cx}
theorem rd_lst {pins : List (Addr × Obj)} {σ : L2.St} {H : Hp} {s : Shared} {l : Addr} {xs : List V} (I : Inv X pins σ H s) (hH : SqL [] H l xs) : xs.length ≤ sizeLine ∧ ∃ (its : List Value) (n : Nat), Vals xs its ∧ xs.length = its.length ∧ s.heap.get? l = some { cls := .type "list", data := .seq its.toArray n } := by
  rcases hH with h | ⟨o, its, n, hk, _⟩
  · obtain ⟨z, its, n, r, e⟩ := h.ok I.hok
    exact ⟨z, its, n, r, r.length, e⟩
  · cases hk
/-- + of two lists, changed or not -/
def rCatR : R2 := fun x y H Q => ∃ l b xs zs, x = .ref l ∧ y = .ref b ∧ SqL [] H l xs ∧ SqL [] H b zs ∧ xs.length + zs.length ≤ sizeLine ∧ ∀ p, H p = none → Q (.ref p) (upd H p (.lst (xs ++ zs)))
theorem op_catR : OpR X (binaryOp .Add) rCatR := by
  intro pins s σ H x y v u Q I rx ry h
  obtain ⟨l, b, xs, zs, rfl, rfl, hH, hB, hz, q⟩ := h
  cases rx
  cases ry
  obtain ⟨z, its, n, r, hl, e⟩ := rd_lst I hH
  obtain ⟨z2, its2, n2, r2, hl2, e2⟩ := rd_lst I hB
  refine PySem.P.add_list e e2 ?_ (by rw [List.size_toArray, List.size_toArray]; omega)
  have ea : its.toArray ++ its2.toArray = (its ++ its2).toArray := by simp
  rw [ea]
  exact ⟨.ref _, _, I.lnew (t' := s.toks) (r.append r2) (by rw [List.length_append]; omega), rfl, q _ I.fresh⟩
def rRepR : R2 := fun x y H Q => ∃ l k xs, x = .ref l ∧ y = .int k ∧ SqL [] H l xs ∧ -(2 ^ 63) ≤ k ∧ k < 2 ^ 63 ∧ xs.length * k.toNat ≤ sizeLine ∧
  ∀ p, H p = none → Q (.ref p) (upd H p (.lst (List.replicate k.toNat xs).flatten))
theorem op_repR : OpR X (binaryOp .Mult) rRepR := by
  intro pins s σ H x y v u Q I rx ry h
  obtain ⟨l, k, xs, rfl, rfl, hH, h1, h2, hz, q⟩ := h
  cases rx
  obtain ⟨t, rfl⟩ := ry
  obtain ⟨z, its, n, r, hl, e⟩ := rd_lst I hH
  have hlen : its.toArray.size * k.toNat ≤ sizeLine := by rw [List.size_toArray, ← hl]; exact hz
  have hcap : ¬ its.toArray.size * k.toNat > (2 ^ 63 - 1) / 8 := by
    have : (sizeLine : Nat) ≤ (2 ^ 63 - 1) / 8 := by decide
    omega
  have hfit : ¬ (!Builtin.List.listFitsIndex k) = true := by
    rw [fitsIndex_both h1 h2]
    exact Bool.false_ne_true
  have hlong : ¬ Builtin.List.listTooLong (its.toArray.size * k.toNat) = true := by
    rw [notLongL hlen]
    exact Bool.false_ne_true
  have hnew : List.foldl (fun x1 x2 => x1 ++ x2) #[] (List.replicate (if its.toArray.isEmpty = true then 0 else k.toNat) its.toArray) = (List.replicate k.toNat its).flatten.toArray := by
    have f0 : ∀ m : Nat, List.foldl (fun x1 x2 => x1 ++ x2) #[] (List.replicate m its.toArray) = (List.replicate m its).flatten.toArray := fun m => by
      have := foldl_rep its m []
      rw [List.nil_append] at this
      exact this
    rw [f0]
    cases its with
    | nil => simp
    | cons a r' => rw [if_neg (by simp)]
  refine wpAny_binaryOp_repeat_ref (T := "list") (U := "int") (by decide) ⟨_, e, rfl⟩ (fun s' => typeIs_int s' k t) noFill_list_mul F.fills_int_mul F.slot_int_rmul repeat_list F.slot_int_index.lookup
    (call_meets F.slot_int_rmul (typeIs_int s k t) F.entry_int_rmul (F.args_int_rmul_2 _ _) (int___rmul___int_list k t l its.toArray n)
      ⟨e, rfl, ⟨_, e, rfl⟩, call_meets F.slot_list_mul ⟨_, e, rfl⟩ F.entry_list_mul (F.args_list_mul_2 _ _) (AutoListH.list___mul___list_int_3 l its.toArray n k t hfit hcap hlong) ⟨e, ?_⟩⟩)
  rw [hnew]
  exact ⟨.ref _, _, I.lnew (t' := s.toks) (r.rep k.toNat) (by rw [PyProof.Rows.lm_len_rep_flat, Nat.mul_comm]; exact hz), rfl, q _ I.fresh⟩
theorem op_mulB : OpR X (binaryOp .Mult) (rI IntMulOk fun i j => .int (i * j)) := opI fun _ _ _ _ _ _ _ hc q => PyProof.Rows.mul_int q hc
/-- == and != of data, the lesser depth bounded -/
def rEqQ (k : Bool) : R2 := fun x y H Q => ∃ d e, Dq H x d ∧ Dq H y e ∧ min d.depth e.depth ≤ 100 ∧ Q (.bl (k ^^ PyData.eqv d e)) H
theorem op_eqQ (hu : X.A.units + 150 < cLine) : OpR X (compareOp .Eq) (rEqQ false) := by
  intro pins s σ H x y v u Q I rx ry h
  obtain ⟨d, e, hd, he, sd, q⟩ := h
  obtain ⟨as, r1⟩ := Dp.reads I d x v hd.K rx
  obtain ⟨bs, r2⟩ := Dp.reads I e y u he.K ry
  rw [Bool.false_xor] at q
  exact SeqAt.compareEq_reads r1 r2 hd.ok he.ok (by omega) ⟨.bl _, H, I, rfl, q⟩
theorem op_neQ (hu : X.A.units + 150 < cLine) : OpR X (compareOp .NotEq) (rEqQ true) := by
  intro pins s σ H x y v u Q I rx ry h
  obtain ⟨d, e, hd, he, sd, q⟩ := h
  obtain ⟨as, r1⟩ := Dp.reads I d x v hd.K rx
  obtain ⟨bs, r2⟩ := Dp.reads I e y u he.K ry
  rw [Bool.true_xor] at q
  exact SeqAt.compareNe_reads r1 r2 hd.ok he.ok (by omega) ⟨.bl _, H, I, rfl, q⟩
end

/-! ### operators on data -/
abbrev ok (d : D) : R := .val (.sh d)
abbrev rb (b : Bool) : R := .val (.sh (.bool b))
abbrev ri (i : Int) : R := .val (.sh (.int i))
def mulOk (i j : Int) : Bool := !(decide (Builtin.Int.intBits i > shortFactorBits) && decide (Builtin.Int.intBits j > shortFactorBits) && Builtin.Int.intTooBig (Builtin.Int.intBits i + Builtin.Int.intBits j))
theorem mulOk_iff {i j : Int} : mulOk i j = true ↔ IntMulOk i j := by
  unfold mulOk IntMulOk
  cases (decide (Builtin.Int.intBits i > shortFactorBits) && decide (Builtin.Int.intBits j > shortFactorBits) && Builtin.Int.intTooBig (Builtin.Int.intBits i + Builtin.Int.intBits j)) <;> simp
@[simp] def fAdd : D → D → R
  | .int i, .int j => ri (i + j)
  | .list xs, .list ys => gl (xs.length + ys.length) (.val (.ow (xs ++ ys)))
  | _, _ => .stuck
@[simp] def fSub : D → D → R
  | .int i, .int j => ri (i - j)
  | _, _ => .stuck
@[simp] def fMul : D → D → R
  | .int i, .int j => if mulOk i j = true then ri (i * j) else .stuck
  | .list xs, .int k => if k ≤ 1000000 ∧ xs.length * k.toNat ≤ 1000000 ∧ -1000 ≤ k then .val (.ow (List.replicate k.toNat xs).flatten) else .stuck
  | _, _ => .stuck
@[simp] def fDiv : D → D → R
  | .int i, .int j => if 0 < j ∧ j < 1073741824 then ri (i / j) else .stuck
  | _, _ => .stuck
@[simp] def fMod : D → D → R
  | .int i, .int j => if 0 < j then ri (i % j) else .stuck
  | _, _ => .stuck
@[simp] def fPow : D → D → R
  | .int i, .int j => if 0 ≤ j ∧ j ≤ 1000000 ∧ i.natAbs < 2 ^ 64 then ri (i ^ j.toNat) else .stuck
  | _, _ => .stuck
@[simp] def fShl : D → D → R
  | .int i, .int j => if 0 ≤ j ∧ j ≤ 1000000 ∧ i.natAbs < 2 ^ 64 then ri (i * 2 ^ j.toNat) else .stuck
  | _, _ => .stuck
@[simp] def fShr : D → D → R
  | .int i, .int j => if 0 ≤ j then ri (i / 2 ^ j.toNat) else .stuck
  | _, _ => .stuck
@[simp] def fAnd : D → D → R
  | .int i, .int j => ri (Builtin.bitAnd i j)
  | _, _ => .stuck
@[simp] def fNeg : D → R
  | .int i => ri (-i)
  | _ => .stuck
def fEq (x y : D) : R := if min x.depth y.depth ≤ 100 then rb (PyData.eqv x y) else .stuck
def fNe (x y : D) : R := if min x.depth y.depth ≤ 100 then rb (!PyData.eqv x y) else .stuck
@[simp] def fLt : D → D → R
  | .int i, .int j => rb (decide (i < j))
  | _, _ => .stuck
@[simp] def fLe : D → D → R
  | .int i, .int j => rb (decide (i ≤ j))
  | _, _ => .stuck
@[simp] def fGt : D → D → R
  | .int i, .int j => rb (decide (j < i))
  | _, _ => .stuck
@[simp] def fGe : D → D → R
  | .int i, .int j => rb (decide (j ≤ i))
  | _, _ => .stuck
@[simp] def fIx : D → D → R
  | .tuple ds, .int i => match atI ds i with
    | some d => ok d
    | none => .stuck
  | .list ds, .int i => match atI ds i with
    | some d => ok d
    | none => .stuck
  | _, _ => .stuck
section
variable {X : Cx} {T : Ct} {EX : XK} {B : Hp × Hp} {e a b c : Expr} {es : List Expr} {pos p p2 : Pos} {f g h : FE} {fs : List FE} {G H : Hp} {Q : VK}
theorem Out.ok {d : D} {v : V} (o : Out T EX (.val (.sh d)) G H Q) (gh : Same G H) (q : Dq G v d) : Q v H := o v G H (Step.refl gh) q
theorem Out.rb {k : Bool} (o : Out T EX (rb k) G H Q) (gh : Same G H) : Q (.bl k) H := o.ok gh .bl
theorem Out.ri {k : Int} (o : Out T EX (ri k) G H Q) (gh : Same G H) : Q (.int k) H := o.ok gh .int
/-- a new list -/
theorem Out.newL {ds : List D} {xs : List V} (o : Out T EX (.val (.ow ds)) G H Q) (gh : Same G H) (q : DqAll G xs ds) : ∀ p, H p = none → Q (.ref p) (upd H p (.lst xs)) := fun p hp =>
  o p xs G _ (Step.apart gh hp (.lst xs)) hp (same_none gh hp) upd_same q
theorem Dq.lstH {v : V} {ds : List D} (h : Dq G v (.list ds)) (gh : Same G H) : ∃ a xs, v = .ref a ∧ SqL [] H a xs ∧ DqAll G xs ds := by
  obtain ⟨a, xs, e, s, q⟩ := h.lstInv
  exact ⟨a, xs, e, gh.seq s, q⟩
theorem Dq.tupH {v : V} {ds : List D} (h : Dq G v (.tuple ds)) (gh : Same G H) : ∃ a xs, v = .ref a ∧ SqT [] H a xs ∧ DqAll G xs ds := by
  obtain ⟨a, xs, e, s, q⟩ := h.tupInv
  exact ⟨a, xs, e, same_seqT gh s, q⟩
theorem gl_out {n : Nat} {r : R} (o : Out T EX (gl n r) G H Q) : n ≤ 1000000 ∧ Out T EX r G H Q := by
  unfold gl at o
  split at o
  · exact ⟨by assumption, o⟩
  · exact o.elim
theorem ve_add (ha : VE X T EX B a f) (hb : VE X T EX B b g) : VE X T EX B (.BinOp a .Add b pos) (op2 fAdd f g) := by
  refine ve_bin (op_add.or op_catR) (fun Q x y dx dy G H gh hx hy o => ?_) ha hb
  unfold fAdd at o
  split at o
  · rw [hx.intInv, hy.intInv]; exact .inl ⟨_, _, rfl, rfl, o.ri gh⟩
  · obtain ⟨hl, o⟩ := gl_out o
    obtain ⟨l, xs, rfl, s1, q1⟩ := hx.lstH gh
    obtain ⟨l2, ys, rfl, s2, q2⟩ := hy.lstH gh
    exact .inr ⟨l, l2, xs, ys, rfl, rfl, s1, s2, by rw [q1.length, q2.length]; exact Nat.le_of_lt (gl_line hl), o.newL gh (q1.append q2)⟩
  · exact o.elim
theorem ve_sub (ha : VE X T EX B a f) (hb : VE X T EX B b g) : VE X T EX B (.BinOp a .Sub b pos) (op2 fSub f g) := by
  refine ve_bin op_sub (fun Q x y dx dy G H gh hx hy o => ?_) ha hb
  unfold fSub at o
  split at o
  · rw [hx.intInv, hy.intInv]; exact ⟨_, _, rfl, rfl, o.ri gh⟩
  · exact o.elim
theorem flat_rep {ds : List D} {xs : List V} (h : DqAll G xs ds) : ∀ k : Nat, DqAll G (List.replicate k xs).flatten (List.replicate k ds).flatten
  | 0 => .nil
  | k + 1 => by
    rw [List.replicate_succ, List.replicate_succ, List.flatten_cons, List.flatten_cons]
    exact h.append (flat_rep h k)
theorem ve_mul (ha : VE X T EX B a f) (hb : VE X T EX B b g) : VE X T EX B (.BinOp a .Mult b pos) (op2 fMul f g) := by
  refine ve_bin (op_mulB.or op_repR) (fun Q x y dx dy G H gh hx hy o => ?_) ha hb
  unfold fMul at o
  split at o
  · rw [hx.intInv, hy.intInv]
    split at o
    · rename_i hm; exact .inl ⟨_, _, rfl, rfl, mulOk_iff.mp hm, o.ri gh⟩
    · exact o.elim
  · rw [hy.intInv]
    split at o
    · rename_i hl
      obtain ⟨l, xs, rfl, s1, q1⟩ := hx.lstH gh
      exact .inr ⟨l, _, xs, rfl, rfl, s1, by omega, by omega, by rw [q1.length]; exact Nat.le_of_lt (gl_line hl.2.1), o.newL gh (flat_rep q1 _)⟩
    · exact o.elim
  · exact o.elim
theorem ve_fdiv (ha : VE X T EX B a f) (hb : VE X T EX B b g) : VE X T EX B (.BinOp a .FloorDiv b pos) (op2 fDiv f g) := by
  refine ve_bin op_fdiv (fun Q x y dx dy G H gh hx hy o => ?_) ha hb
  unfold fDiv at o
  split at o
  · rw [hx.intInv, hy.intInv]
    split at o
    · rename_i hm; exact ⟨_, _, rfl, rfl, hm, o.ri gh⟩
    · exact o.elim
  · exact o.elim
theorem ve_mod (ha : VE X T EX B a f) (hb : VE X T EX B b g) : VE X T EX B (.BinOp a .Mod b pos) (op2 fMod f g) := by
  refine ve_bin op_mod (fun Q x y dx dy G H gh hx hy o => ?_) ha hb
  unfold fMod at o
  split at o
  · rw [hx.intInv, hy.intInv]
    split at o
    · rename_i hm; exact ⟨_, _, rfl, rfl, hm, o.ri gh⟩
    · exact o.elim
  · exact o.elim
theorem ve_pow (ha : VE X T EX B a f) (hb : VE X T EX B b g) : VE X T EX B (.BinOp a .Pow b pos) (op2 fPow f g) := by
  refine ve_bin op_pow (fun Q x y dx dy G H gh hx hy o => ?_) ha hb
  unfold fPow at o
  split at o
  · rw [hx.intInv, hy.intInv]
    split at o
    · rename_i hm; exact ⟨_, _, rfl, rfl, hm, o.ri gh⟩
    · exact o.elim
  · exact o.elim
theorem ve_shl (ha : VE X T EX B a f) (hb : VE X T EX B b g) : VE X T EX B (.BinOp a .LShift b pos) (op2 fShl f g) := by
  refine ve_bin op_shl (fun Q x y dx dy G H gh hx hy o => ?_) ha hb
  unfold fShl at o
  split at o
  · rw [hx.intInv, hy.intInv]
    split at o
    · rename_i hm; exact ⟨_, _, rfl, rfl, hm, o.ri gh⟩
    · exact o.elim
  · exact o.elim
theorem ve_shr (ha : VE X T EX B a f) (hb : VE X T EX B b g) : VE X T EX B (.BinOp a .RShift b pos) (op2 fShr f g) := by
  refine ve_bin op_shr (fun Q x y dx dy G H gh hx hy o => ?_) ha hb
  unfold fShr at o
  split at o
  · rw [hx.intInv, hy.intInv]
    split at o
    · rename_i hm; exact ⟨_, _, rfl, rfl, hm, o.ri gh⟩
    · exact o.elim
  · exact o.elim
theorem ve_band (ha : VE X T EX B a f) (hb : VE X T EX B b g) : VE X T EX B (.BinOp a .BitAnd b pos) (op2 fAnd f g) := by
  refine ve_bin op_and (fun Q x y dx dy G H gh hx hy o => ?_) ha hb
  unfold fAnd at o
  split at o
  · rw [hx.intInv, hy.intInv]; exact ⟨_, _, rfl, rfl, o.ri gh⟩
  · exact o.elim
theorem ve_neg (ha : VE X T EX B a f) : VE X T EX B (.UnaryOp .USub a pos) (op1 fNeg f) := by
  refine pe_weak (pe_un un_neg ha) fun σ H Q q => use1 (r := fun x H Q => _) (fun x dx G H gh hx o => ?_) q
  unfold fNeg at o
  split at o
  · rw [hx.intInv]; exact ⟨_, rfl, o.ri gh⟩
  · exact o.elim

/-! ### comparisons -/
theorem eq_prim (Q : VK) (x y : V) (dx dy : D) (G H : Hp) (gh : Same G H) (hx : Dq G x dx) (hy : Dq G y dy) (o : Out T EX (fEq dx dy) G H Q) : rEqQ false x y H Q := by
  unfold fEq at o
  split at o
  · exact ⟨dx, dy, hx.mono gh, hy.mono gh, by assumption, by rw [Bool.false_xor]; exact o.rb gh⟩
  · exact o.elim
theorem ne_prim (Q : VK) (x y : V) (dx dy : D) (G H : Hp) (gh : Same G H) (hx : Dq G x dx) (hy : Dq G y dy) (o : Out T EX (fNe dx dy) G H Q) : rEqQ true x y H Q := by
  unfold fNe at o
  split at o
  · exact ⟨dx, dy, hx.mono gh, hy.mono gh, by assumption, by rw [Bool.true_xor]; exact o.rb gh⟩
  · exact o.elim
theorem lt_prim (Q : VK) (x y : V) (dx dy : D) (G H : Hp) (gh : Same G H) (hx : Dq G x dx) (hy : Dq G y dy) (o : Out T EX (fLt dx dy) G H Q) : rI0 (fun i j => .bl (decide (i < j))) x y H Q := by
  unfold fLt at o
  split at o
  · rw [hx.intInv, hy.intInv]; exact ⟨_, _, rfl, rfl, o.rb gh⟩
  · exact o.elim
theorem le_prim (Q : VK) (x y : V) (dx dy : D) (G H : Hp) (gh : Same G H) (hx : Dq G x dx) (hy : Dq G y dy) (o : Out T EX (fLe dx dy) G H Q) : rI0 (fun i j => .bl (decide (i ≤ j))) x y H Q := by
  unfold fLe at o
  split at o
  · rw [hx.intInv, hy.intInv]; exact ⟨_, _, rfl, rfl, o.rb gh⟩
  · exact o.elim
theorem gt_prim (Q : VK) (x y : V) (dx dy : D) (G H : Hp) (gh : Same G H) (hx : Dq G x dx) (hy : Dq G y dy) (o : Out T EX (fGt dx dy) G H Q) : rI0 (fun i j => .bl (decide (j < i))) x y H Q := by
  unfold fGt at o
  split at o
  · rw [hx.intInv, hy.intInv]; exact ⟨_, _, rfl, rfl, o.rb gh⟩
  · exact o.elim
theorem ge_prim (Q : VK) (x y : V) (dx dy : D) (G H : Hp) (gh : Same G H) (hx : Dq G x dx) (hy : Dq G y dy) (o : Out T EX (fGe dx dy) G H Q) : rI0 (fun i j => .bl (decide (j ≤ i))) x y H Q := by
  unfold fGe at o
  split at o
  · rw [hx.intInv, hy.intInv]; exact ⟨_, _, rfl, rfl, o.rb gh⟩
  · exact o.elim
/-- a comparison's rule: its operator and what it makes of data -/
structure Cmp (X : Cx) (T : Ct) (EX : XK) (op : CmpOp) (F : D → D → R) (r : R2) : Prop where
  ho : OpR X (compareOp op) r
  prim : ∀ Q x y dx dy G H, Same G H → Dq G x dx → Dq G y dy → Out T EX (F dx dy) G H Q → r x y H Q
theorem c_eq (C : Cv X T EX B) : Cmp X T EX .Eq fEq (rEqQ false) := ⟨op_eqQ C.un, eq_prim⟩
theorem c_ne (C : Cv X T EX B) : Cmp X T EX .NotEq fNe (rEqQ true) := ⟨op_neQ C.un, ne_prim⟩
theorem c_lt : Cmp X T EX .Lt fLt (rI0 (fun i j => .bl (decide (i < j)))) := ⟨op_lt, lt_prim⟩
theorem c_le : Cmp X T EX .LtE fLe (rI0 (fun i j => .bl (decide (i ≤ j)))) := ⟨op_le, le_prim⟩
theorem c_gt : Cmp X T EX .Gt fGt (rI0 (fun i j => .bl (decide (j < i)))) := ⟨op_gt, gt_prim⟩
theorem c_ge : Cmp X T EX .GtE fGe (rI0 (fun i j => .bl (decide (j ≤ i)))) := ⟨op_ge, ge_prim⟩
theorem ve_cm {op : CmpOp} {F : D → D → R} {r : R2} (k : Cmp X T EX op F r) (ha : VE X T EX B a f) (hb : VE X T EX B b g) (hm : behindInMarks op b = false := by first | exact nomark _ | rfl) : VE X T EX B (.Compare a [op] [b] pos) (op2 F f g) :=
  ve_cmp k.ho k.prim ha hb hm
/-! ### tests -/
@[simp] def R.t (r : R) (k : Bool → R) : R := match r with
  | .val (.sh (.bool b)) => k b
  | .err c => .err c
  | _ => .stuck
theorem t2v {f : FE} {σ : L2.St} {H : Hp} {Q : Bool → Hp → Prop} (q : rdT T EX B f σ H Q) : rdV T EX B f σ H (fun x H1 => ∃ k, x = .bl k ∧ Q k H1) := by
  obtain ⟨G, env, S, o⟩ := q
  refine ⟨G, env, S, ?_⟩
  unfold OutT at o
  split at o
  · rename_i b e
    rw [e]
    exact fun v G' H' s q => ⟨b, q.blInv, o G' H' s⟩
  · rename_i c e
    rw [e]; exact o
  · exact o.elim
theorem vt_val (h : VE X T EX B e f) (he : ∀ whole, isTrue e X.env whole = (do let v ← whole; standAt e.pos; holding [v] (truthy v)) := by intro _; rfl) : VT X T EX B e f := pt_weak (pt_val h he) fun σ H Q q => t2v q
theorem vt_cm {op : CmpOp} {F : D → D → R} {r : R2} (k : Cmp X T EX op F r) (ha : VE X T EX B a f) (hb : VE X T EX B b g) (hm : behindInMarks op b = false := by first | exact nomark _ | rfl) : VT X T EX B (.Compare a [op] [b] pos) (op2 F f g) :=
  pt_weak (pt_cmpR k.ho ha hb hm) fun σ H Q q => use2 (k.prim _) (t2v q)
/-- first a truth, then what is made of it: for a value -/
theorem seqTV {f : FE} {k : Bool → R} {env : VEnv} {σ : L2.St} {Q : VK} (S : Sim T B G env σ H) (h : Out T EX ((f env).t k) G H Q) :
    rdT T EX B f σ H (fun b H1 => ∃ G1, Sim T B G1 env σ H1 ∧ Out T EX (k b) G1 H1 Q) := by
  refine ⟨G, env, S, ?_⟩
  unfold R.t at h
  split at h
  · rename_i b e
    rw [e]
    exact fun G' H' s => ⟨G', S.step s, Out.step h s⟩
  · rename_i c e
    rw [e]; exact h
  · exact h.elim
theorem OutT.step {r : R} {Q : Bool → Hp → Prop} {G1 H1 : Hp} (h : OutT T EX r G H Q) (s : Step G H G1 H1) : OutT T EX r G1 H1 Q := by
  unfold OutT at h ⊢
  split at h
  · exact fun G' H' s' => h G' H' (s.trans s')
  · exact fun H' q => h H' (s.hh.trans q)
  · exact h.elim
theorem seqTT {f : FE} {k : Bool → R} {env : VEnv} {σ : L2.St} {Q : Bool → Hp → Prop} (S : Sim T B G env σ H) (h : OutT T EX ((f env).t k) G H Q) :
    rdT T EX B f σ H (fun b H1 => ∃ G1, Sim T B G1 env σ H1 ∧ OutT T EX (k b) G1 H1 Q) := by
  refine ⟨G, env, S, ?_⟩
  cases e : f env with
  | val v =>
    rw [e] at h
    cases v with
    | sh d =>
      cases d with
      | bool b => exact fun G' H' s => ⟨G', S.step s, OutT.step h s⟩
      | _ => exact h.elim
    | _ => exact h.elim
  | err c => rw [e] at h; exact h
  | stuck => rw [e] at h; exact h.elim
theorem rdT_mono {f : FE} {σ : L2.St} {Q Q' : Bool → Hp → Prop} (h : rdT T EX B f σ H Q) (q : ∀ b H', Q b H' → Q' b H') : rdT T EX B f σ H Q' := by
  obtain ⟨G, env, S, o⟩ := h
  refine ⟨G, env, S, ?_⟩
  unfold OutT at o ⊢
  split at o
  · exact fun G' H' s' => q _ _ (o G' H' s')
  · exact o
  · exact o.elim
@[simp] def vNot (f : FE) : FE := fun env => (f env).t fun b => rb (!b)
@[simp] def vAnd (f g : FE) : FE := fun env => (f env).t fun b => if b = true then g env else rb false
@[simp] def vOr (f g : FE) : FE := fun env => (f env).t fun b => if b = true then rb true else g env
@[simp] def vIf (c f g : FE) : FE := fun env => (c env).t fun b => if b = true then f env else g env
theorem vt_not (ha : VT X T EX B a f) : VT X T EX B (.UnaryOp .Not a pos) (vNot f) := pt_weak (pt_not ha) fun σ H Q q => by
  obtain ⟨G, env, S, o⟩ := q
  exact rdT_mono (seqTT S o) fun b H1 ⟨G1, S1, o1⟩ => o1 G1 H1 (Step.refl S1.gh)
theorem vw_and1 (ha : VT X T EX B a f) : VW X T EX B (.BoolOp .And [a] pos) f := L2.pw_and1 ha
theorem vw_or1 (ha : VT X T EX B a f) : VW X T EX B (.BoolOp .Or [a] pos) f := L2.pw_or1 ha
theorem vw_and {b : Expr} {rest : List Expr} (ha : VT X T EX B a f) (hb : VW X T EX B (.BoolOp .And (b :: rest) pos) g) : VW X T EX B (.BoolOp .And (a :: b :: rest) pos) (vAnd f g) := pw_weak (L2.pw_and ha hb) fun σ H Q q => by
  obtain ⟨G, env, S, o⟩ := q
  refine rdT_mono (seqTT S o) fun b H1 ⟨G1, S1, o1⟩ => ?_
  cases b with
  | true => exact ⟨G1, env, S1, o1⟩
  | false => exact o1 G1 H1 (Step.refl S1.gh)
theorem vw_or {b : Expr} {rest : List Expr} (ha : VT X T EX B a f) (hb : VW X T EX B (.BoolOp .Or (b :: rest) pos) g) : VW X T EX B (.BoolOp .Or (a :: b :: rest) pos) (vOr f g) := pw_weak (L2.pw_or ha hb) fun σ H Q q => by
  obtain ⟨G, env, S, o⟩ := q
  refine rdT_mono (seqTT S o) fun b H1 ⟨G1, S1, o1⟩ => ?_
  cases b with
  | true => exact o1 G1 H1 (Step.refl S1.gh)
  | false => exact ⟨G1, env, S1, o1⟩
theorem vt_w (h : VW X T EX B e f) : VT X T EX B e f := PW.pt h
theorem v2t {f : FE} {k : Bool → R} {σ : L2.St} {Q : VK} {env : VEnv} (S : Sim T B G env σ H) (o : Out T EX ((f env).t k) G H Q) : rdV T EX B f σ H (fun x H1 => ∃ c, x = .bl c ∧ ∃ G1, Sim T B G1 env σ H1 ∧ Out T EX (k c) G1 H1 Q) := by
  obtain h := t2v (seqTV S o)
  exact h
theorem ve_not (ha : VE X T EX B a f) : VE X T EX B (.UnaryOp .Not a pos) (vNot f) := pe_weak (pe_not ha) fun σ H Q q => by
  obtain ⟨G, env, S, o⟩ := q
  exact rdV_mono (v2t S o) fun x H1 ⟨c, e, G1, S1, o1⟩ => ⟨c, e, o1.rb S1.gh⟩
theorem ve_one {op} (h : VE X T EX B a f) : VE X T EX B (.BoolOp op [a] pos) f := pe_one h
theorem ve_and {b : Expr} {rest : List Expr} (ha : VE X T EX B a f) (hb : VE X T EX B (.BoolOp .And (b :: rest) pos) g) : VE X T EX B (.BoolOp .And (a :: b :: rest) pos) (vAnd f g) := pe_weak (pe_and ha hb) fun σ H Q q => by
  obtain ⟨G, env, S, o⟩ := q
  refine rdV_mono (v2t S o) fun x H1 ⟨c, e, G1, S1, o1⟩ => ⟨c, e, ?_⟩
  cases c with
  | true => exact ⟨G1, env, S1, o1⟩
  | false => exact o1.rb S1.gh
theorem ve_or {b : Expr} {rest : List Expr} (ha : VE X T EX B a f) (hb : VE X T EX B (.BoolOp .Or (b :: rest) pos) g) : VE X T EX B (.BoolOp .Or (a :: b :: rest) pos) (vOr f g) := pe_weak (pe_or ha hb) fun σ H Q q => by
  obtain ⟨G, env, S, o⟩ := q
  refine rdV_mono (v2t S o) fun x H1 ⟨c, e, G1, S1, o1⟩ => ⟨c, e, ?_⟩
  cases c with
  | true => exact o1.rb S1.gh
  | false => exact ⟨G1, env, S1, o1⟩
theorem ve_if (hc : VT X T EX B c h) (ha : VE X T EX B a f) (hb : VE X T EX B b g) : VE X T EX B (.IfExp c a b pos) (vIf h f g) := pe_weak (pe_ifExp hc ha hb) fun σ H Q q => by
  obtain ⟨G, env, S, o⟩ := q
  refine rdT_mono (seqTV S o) fun b H1 ⟨G1, S1, o1⟩ => ?_
  cases b with
  | true => exact ⟨G1, env, S1, o1⟩
  | false => exact ⟨G1, env, S1, o1⟩
/-- a < b < c -/
@[simp] def vChn (F F' : D → D → R) (f g h : FE) : FE := fun env => (f env).d fun x => (g env).d fun y => (F x y).t fun b => if b = true then (h env).d fun z => F' y z else rb false
end
end VL
namespace VL
open PySem L2
section
variable {X : Cx} {T : Ct} {EX : XK} {B : Hp × Hp} {e a b c o : Expr} {es : List Expr} {pos p p2 : Pos} {f g h : FE} {fs : List FE} {G H : Hp} {Q : VK}
theorem out_t {r : R} {k : Bool → R} (q : Out T EX (r.t k) G H Q) (gh : Same G H) : Out T EX r G H (fun z H3 => ∃ b, z = .bl b ∧ ∃ G3, Step G H G3 H3 ∧ Out T EX (k b) G3 H3 Q) := by
  unfold R.t at q
  split at q
  · rename_i b
    exact fun v G' H' s d => ⟨b, d.blInv, G', s, Out.step q s⟩
  · exact q
  · exact q.elim
theorem chn_use {F F' : D → D → R} {r r' : R2} {op op' : CmpOp} (k : Cmp X T EX op F r) (k' : Cmp X T EX op' F' r') {σ : L2.St} (q : rdV T EX B (vChn F F' f g h) σ H Q) : tChain r r' (rdV T EX B f) (rdV T EX B g) (rdV T EX B h) σ H Q := by
  obtain ⟨G, env, S, o⟩ := q
  refine rdV_mono (seqD S o) fun x H1 ⟨dx, G1, s1, q1, S1, o1⟩ => rdV_mono (seqD S1 o1) fun y H2 ⟨dy, G2, s2, q2, S2, o2⟩ => ?_
  refine k.prim _ x y dx dy G2 H2 S2.gh (q1.mono s2.gg) q2 ((out_t o2 S2.gh).mono fun z H3 ⟨b, e, G3, s3, o3⟩ => ⟨b, e, ?_⟩)
  cases b with
  | true =>
    exact rdV_mono (seqD (S2.step s3) o3) fun w H4 ⟨dw, G4, s4, q4, S4, o4⟩ => k'.prim _ y w dy dw G4 H4 S4.gh (q2.mono (s3.gg.trans s4.gg)) q4 o4
  | false => exact o3.rb s3.gh
theorem ve_chn {F F' : D → D → R} {r r' : R2} {op op' : CmpOp} (k : Cmp X T EX op F r) (k' : Cmp X T EX op' F' r') (ha : VE X T EX B a f) (hb : VE X T EX B b g) (hc : VE X T EX B c h) (hm : lastMarks [op, op'] [b, c] = false := by with_unfolding_all rfl) :
    VE X T EX B (.Compare a [op, op'] [b, c] pos) (vChn F F' f g h) := pe_weak (pe_chain k.ho k'.ho ha hb hc hm) fun σ H Q q => chn_use k k' q
theorem vt_chn {F F' : D → D → R} {r r' : R2} {op op' : CmpOp} (k : Cmp X T EX op F r) (k' : Cmp X T EX op' F' r') (ha : VE X T EX B a f) (hb : VE X T EX B b g) (hc : VE X T EX B c h) (hm : lastMarks [op, op'] [b, c] = false := by with_unfolding_all rfl) :
    VT X T EX B (.Compare a [op, op'] [b, c] pos) (vChn F F' f g h) := pt_weak (pt_chain k.ho k'.ho ha hb hc hm) fun σ H Q q => chn_use k k' (t2v q)

/-! ### items, slices -/
theorem DqAll.atI {ds : List D} {xs : List V} {i : Int} {d : D} (q : DqAll G xs ds) (e : atI ds i = some d) : ∃ v, L2.atI xs i = some v ∧ Dq G v d := by
  unfold L2.atI at e ⊢
  rw [q.length]
  cases z : ixN ds.length i with
  | none => rw [z] at e; cases e
  | some j =>
    rw [z] at e
    exact q.get e
theorem ve_ix (ha : VE X T EX B a f) (hb : VE X T EX B b g) (hs : PlainIx b := by intro _ _; rfl) : VE X T EX B (.Subscript a b pos) (op2 fIx f g) := by
  refine pe_weak (pe_ix (ix_list.or ix_tup) ha hb hs) fun σ H Q q => use2 (r := fun x y H Q => rIxL X.K x y H Q ∨ rIxT X.K x y H Q) (fun x y dx dy G H gh hx hy o => ?_) q
  unfold fIx at o
  split at o
  · rw [hy.intInv]
    split at o
    · rename_i d e
      obtain ⟨l, xs, rfl, s1, q1⟩ := hx.tupH gh
      obtain ⟨v, e1, d1⟩ := q1.atI e
      exact .inr ⟨l, xs, _, v, rfl, rfl, sqT_K s1, e1, o.ok gh d1⟩
    · exact o.elim
  · rw [hy.intInv]
    split at o
    · rename_i d e
      obtain ⟨l, xs, rfl, s1, q1⟩ := hx.lstH gh
      obtain ⟨v, e1, d1⟩ := q1.atI e
      exact .inl ⟨l, xs, _, v, rfl, rfl, sqL_K s1, e1, o.ok gh d1⟩
    · exact o.elim
  · exact o.elim
def cutD (xs : List D) (lo hi : Option Int) : List D := (xs.drop (HT.sIx xs.length 0 lo)).take (HT.sIx xs.length xs.length hi - HT.sIx xs.length 0 lo)
theorem DqAll.cut {ds : List D} {xs : List V} (q : DqAll G xs ds) (lo hi : Option Int) : DqAll G (cutV xs lo hi) (cutD ds lo hi) := by
  unfold cutV cutD
  rw [q.length]
  exact (q.drop _).take _
/-- xs[lo:hi] of a list -/
@[simp] def fSl (lo hi : Option Int) : D → R
  | .list xs => .val (.ow (cutD xs lo hi))
  | .tuple xs => if (cutD xs lo hi).length < xs.length then ok (.tuple (cutD xs lo hi)) else .stuck
  | _ => .stuck
@[simp] def R.i (r : R) (k : Int → R) : R := match r with
  | .val (.sh (.int i)) => k i
  | .err c => .err c
  | _ => .stuck
theorem seqI {k : Int → R} {env : VEnv} {σ : L2.St} (S : Sim T B G env σ H) (q : Out T EX ((f env).i k) G H Q) : rdV T EX B f σ H (fun v H1 => ∃ i G1, v = .int i ∧ Step G H G1 H1 ∧ Sim T B G1 env σ H1 ∧ Out T EX (k i) G1 H1 Q) := by
  refine ⟨G, env, S, ?_⟩
  unfold R.i at q
  split at q
  · rename_i i e
    rw [e]
    exact fun v G' H' s d => ⟨i, G', d.intInv, s, S.step s, Out.step q s⟩
  · rename_i c e
    rw [e]; exact q
  · exact q.elim
@[simp] def vSl2 (f g h : FE) : FE := fun env => (f env).d fun x => (g env).i fun lo => (h env).i fun hi => fSl (some lo) (some hi) x
@[simp] def vSlL (f g : FE) : FE := fun env => (f env).d fun x => (g env).i fun lo => fSl (some lo) none x
@[simp] def vSlH (f g : FE) : FE := fun env => (f env).d fun x => (g env).i fun hi => fSl none (some hi) x
theorem sl_prim {K : PySem.W.Frag} {x : V} {dx : D} {lo hi : Option Int} (gh : Same G H) (hx : Dq G x dx) (o : Out T EX (fSl lo hi dx) G H Q) : rSlL K x lo hi H Q ∨ rSlT K x lo hi H Q := by
  unfold fSl at o
  split at o
  · obtain ⟨l, xs, rfl, s1, q1⟩ := hx.lstH gh
    exact .inl ⟨l, xs, rfl, sqL_K s1, o.newL gh (q1.cut lo hi)⟩
  · split at o
    · rename_i n
      obtain ⟨l, xs, rfl, s1, q1⟩ := hx.tupH gh
      refine .inr ⟨l, xs, rfl, sqT_K s1, fun z => ?_, fun p hp => o (.ref p) _ _ (Step.new gh hp _) (Dq.tup (.inl (.inl upd_same)) ((q1.cut lo hi).mono (same_upd (same_none gh hp) _)))⟩
      have e := q1.length
      unfold cutD at n
      rw [← e, z.1, z.2, List.drop_zero, Nat.sub_zero, List.length_take] at n
      omega
    · exact o.elim
  · exact o.elim
theorem ve_sl2 (ha : VE X T EX B a f) (hb : VE X T EX B b g) (hc : VE X T EX B c h) : VE X T EX B (.Subscript a (.Slice (some b) (some c) none p2) pos) (vSl2 f g h) :=
  pe_weak (pe_slice (sl_list.or sl_tup) ha (po_some hb) (po_some hc)) fun σ H Q q => by
    obtain ⟨G, env, S, o⟩ := q
    exact rdV_mono (seqD S o) fun x H1 ⟨dx, G1, s1, q1, S1, o1⟩ => rdV_mono (seqI S1 o1) fun y H2 ⟨i, G2, e2, s2, S2, o2⟩ => ⟨i, e2,
      rdV_mono (seqI S2 o2) fun z H3 ⟨j, G3, e3, s3, S3, o3⟩ => ⟨j, e3, sl_prim S3.gh ((q1.mono s2.gg).mono s3.gg) o3⟩⟩
theorem ve_slL (ha : VE X T EX B a f) (hb : VE X T EX B b g) : VE X T EX B (.Subscript a (.Slice (some b) none none p2) pos) (vSlL f g) :=
  pe_weak (pe_slice (sl_list.or sl_tup) ha (po_some hb) po_none) fun σ H Q q => by
    obtain ⟨G, env, S, o⟩ := q
    exact rdV_mono (seqD S o) fun x H1 ⟨dx, G1, s1, q1, S1, o1⟩ => rdV_mono (seqI S1 o1) fun y H2 ⟨i, G2, e2, s2, S2, o2⟩ => ⟨i, e2, sl_prim S2.gh (q1.mono s2.gg) o2⟩
theorem ve_slH (ha : VE X T EX B a f) (hb : VE X T EX B b g) : VE X T EX B (.Subscript a (.Slice none (some b) none p2) pos) (vSlH f g) :=
  pe_weak (pe_slice (sl_list.or sl_tup) ha po_none (po_some hb)) fun σ H Q q => by
    obtain ⟨G, env, S, o⟩ := q
    exact rdV_mono (seqD S o) fun x H1 ⟨dx, G1, s1, q1, S1, o1⟩ => rdV_mono (seqI S1 o1) fun y H2 ⟨i, G2, e2, s2, S2, o2⟩ => ⟨i, e2, sl_prim S2.gh (q1.mono s2.gg) o2⟩
@[simp] def fRev : D → R
  | .list xs => .val (.ow xs.reverse)
  | _ => .stuck
theorem ve_rev {k : Nat} {p1 p3 : Pos} (ha : VE X T EX B a f) : VE X T EX B (.Subscript a (.Slice none none (some (.UnaryOp .USub (.Constant (.int 1) k p1) p2)) p3) pos) (op1 fRev f) :=
  pe_weak (pe_revL ha) fun σ H Q q => use1 (r := fun x H1 Q => ∃ a xs, x = .ref a ∧ SqL X.K H1 a xs ∧ ∀ p, H1 p = none → Q (.ref p) (upd H1 p (.lst xs.reverse))) (fun x dx G H gh hx o => by
    unfold fRev at o
    split at o
    · obtain ⟨l, xs, rfl, s1, q1⟩ := hx.lstH gh
      exact ⟨l, xs, rfl, sqL_K s1, o.newL gh q1.reverse⟩
    · exact o.elim) q

/-! ### built-in functions -/
/-- f(a): one argument that is data -/
@[simp] def cal1 (F : D → R) (f : FE) : FE := fun env => (evA [f] env).b fun as => match as with
  | [.sh d] => F d
  | _ => .stuck
@[simp] def cal2 (F : D → D → R) (f g : FE) : FE := fun env => (evA [f, g] env).b fun as => match as with
  | [.sh d, .sh e] => F d e
  | _ => .stuck
theorem ve_cal1 {x : Str} {id : String} {r : List V → Hp → VK → Prop} {F : D → R} (hc : CallR X (.builtin id) r) (prim : ∀ Q v d G H, Same G H → Dq G v d → Out T EX (F d) G H Q → r [v] H Q) (hg : Gl X x) (hm : X.mg x = none) (hv : bootBuiltins x = some (.builtin id)) (ha : VE X T EX B a f)
    (hs : starEach [a] X.env = [(false, eval a X.env)] := by rfl) (hn : x ≠ "__name__" := by decide) (hdb : (x == ("__debug__" : Str)) = false := by decide) (hpl : ∀ q : Pos, ((backTo q (starEach [] X.env)).any fun z => z.1) = false := by intro _; rfl) :
    VE X T EX B (.Call (.Name x p) [a] [] pos) (cal1 F f) := by
  refine pe_weak (pe_callB hc hg hm hv (va_cons ha va_nil hs) hn hdb hs (hpl pos)) fun σ H Q q => args_use (fun vs as G H gh rp o => ?_) q
  split at o
  · cases rp with
    | cons h1 t =>
      cases t
      exact prim Q _ _ G H gh h1 o
  · exact o.elim
theorem ve_cal1T {x : Str} {id : String} {r : List V → Hp → VK → Prop} {F : D → R} (hc : CallR X (.type id) r) (prim : ∀ Q v d G H, Same G H → Dq G v d → Out T EX (F d) G H Q → r [v] H Q) (hg : Gl X x) (hm : X.mg x = none) (hv : bootBuiltins x = some (.type id)) (ha : VE X T EX B a f)
    (hs : starEach [a] X.env = [(false, eval a X.env)] := by rfl) (hn : x ≠ "__name__" := by decide) (hdb : (x == ("__debug__" : Str)) = false := by decide) (hpl : ∀ q : Pos, ((backTo q (starEach [] X.env)).any fun z => z.1) = false := by intro _; rfl) :
    VE X T EX B (.Call (.Name x p) [a] [] pos) (cal1 F f) := by
  refine pe_weak (pe_callTy hc hg hm hv (va_cons ha va_nil hs) hn hdb hs (hpl pos)) fun σ H Q q => args_use (fun vs as G H gh rp o => ?_) q
  split at o
  · cases rp with
    | cons h1 t =>
      cases t
      exact prim Q _ _ G H gh h1 o
  · exact o.elim
end
end VL
namespace VL
open PySem L2
/-! ### lists of ints, of truths -/
@[simp] def intsOf : List D → Option (List Int)
  | [] => some []
  | .int i :: r => (intsOf r).map (i :: ·)
  | _ :: _ => none
@[simp] def blsOf : List D → Option (List Bool)
  | [] => some []
  | .bool i :: r => (blsOf r).map (i :: ·)
  | _ :: _ => none
theorem intsOf_map : ∀ ns : List Int, intsOf (ns.map PyData.int) = some ns
  | [] => rfl
  | n :: r => by simp only [List.map_cons, intsOf, intsOf_map r, Option.map_some]
theorem blsOf_map : ∀ ns : List Bool, blsOf (ns.map PyData.bool) = some ns
  | [] => rfl
  | n :: r => by simp only [List.map_cons, blsOf, blsOf_map r, Option.map_some]
section
variable {G H : Hp}
theorem intsOf_ok : ∀ {ds : List D} {ns : List Int} {xs : List V}, intsOf ds = some ns → DqAll G xs ds → xs = ns.map V.int
  | [], _, _, e, q => by cases e; exact q.inv0
  | d :: ds, ns, xs, e, q => by
    obtain ⟨v, vs, rfl, q1, q2⟩ := q.inv
    cases d with
    | int i =>
      unfold intsOf at e
      obtain ⟨l, e1, rfl⟩ := Option.map_eq_some_iff.mp e
      rw [q1.intInv, intsOf_ok e1 q2, List.map_cons]
    | _ => cases e
theorem blsOf_ok : ∀ {ds : List D} {ns : List Bool} {xs : List V}, blsOf ds = some ns → DqAll G xs ds → xs = ns.map V.bl
  | [], _, _, e, q => by cases e; exact q.inv0
  | d :: ds, ns, xs, e, q => by
    obtain ⟨v, vs, rfl, q1, q2⟩ := q.inv
    cases d with
    | bool i =>
      unfold blsOf at e
      obtain ⟨l, e1, rfl⟩ := Option.map_eq_some_iff.mp e
      rw [q1.blInv, blsOf_ok e1 q2, List.map_cons]
    | _ => cases e
theorem dq_ints : ∀ ns : List Int, DqAll G (ns.map V.int) (ns.map PyData.int)
  | [] => .nil
  | _ :: r => .cons .int (dq_ints r)
end
/-- sorted -/
def srt (ns : List Int) : List Int := ns.mergeSort
theorem srt_perm (ns : List Int) : (srt ns).Perm ns := List.mergeSort_perm ns _
theorem srt_le (ns : List Int) : (srt ns).Pairwise (· ≤ ·) := by
  have h := List.pairwise_mergeSort (le := fun (a b : Int) => decide (a ≤ b)) (fun a b c h1 h2 => by simp only [decide_eq_true_eq] at *; omega) (fun a b => by simp only [Bool.or_eq_true, decide_eq_true_eq]; omega) ns
  exact h.imp fun h => by simpa using h
theorem srt_one : ∀ {l m : List Int}, l.Perm m → l.Pairwise (· ≤ ·) → m.Pairwise (· ≤ ·) → l = m := fun h h1 h2 => h.eq_of_pairwise (fun a b _ _ h3 h4 => Int.le_antisymm h3 h4) h1 h2
theorem srt_of {l ns : List Int} (h : l.Perm ns) (h1 : l.Pairwise (· ≤ ·)) : l = srt ns := srt_one (h.trans (srt_perm ns).symm) h1 (srt_le ns)
theorem srt_congr {l m : List Int} (h : l.Perm m) : srt l = srt m := srt_of ((srt_perm l).trans h) (srt_le l)
/-- the least, the greatest -/
def lmin : List Int → Option Int
  | [] => none
  | x :: r => some (r.foldl min x)
def lmax : List Int → Option Int
  | [] => none
  | x :: r => some (r.foldl max x)
theorem foldmin_spec : ∀ (r : List Int) (x : Int), (r.foldl min x = x ∨ r.foldl min x ∈ r) ∧ r.foldl min x ≤ x ∧ ∀ y ∈ r, r.foldl min x ≤ y
  | [], x => ⟨.inl rfl, Int.le_refl _, by simp⟩
  | z :: r, x => by
    obtain ⟨h1, h2, h3⟩ := foldmin_spec r (min x z)
    rw [List.foldl_cons]
    refine ⟨?_, by omega, fun y hy => ?_⟩
    · rcases h1 with h1 | h1
      · rw [h1]
        rcases Int.le_total x z with q | q
        · rw [Int.min_eq_left q]; exact .inl rfl
        · rw [Int.min_eq_right q]; exact .inr List.mem_cons_self
      · exact .inr (List.mem_cons_of_mem _ h1)
    · rcases List.mem_cons.mp hy with rfl | hy
      · omega
      · exact h3 y hy
theorem foldmax_spec : ∀ (r : List Int) (x : Int), (r.foldl max x = x ∨ r.foldl max x ∈ r) ∧ x ≤ r.foldl max x ∧ ∀ y ∈ r, y ≤ r.foldl max x
  | [], x => ⟨.inl rfl, Int.le_refl _, by simp⟩
  | z :: r, x => by
    obtain ⟨h1, h2, h3⟩ := foldmax_spec r (max x z)
    rw [List.foldl_cons]
    refine ⟨?_, by omega, fun y hy => ?_⟩
    · rcases h1 with h1 | h1
      · rw [h1]
        rcases Int.le_total x z with q | q
        · rw [Int.max_eq_right q]; exact .inr List.mem_cons_self
        · rw [Int.max_eq_left q]; exact .inl rfl
      · exact .inr (List.mem_cons_of_mem _ h1)
    · rcases List.mem_cons.mp hy with rfl | hy
      · omega
      · exact h3 y hy
theorem lmin_spec {ns : List Int} {m : Int} (h : lmin ns = some m) : m ∈ ns ∧ ∀ y ∈ ns, m ≤ y := by
  cases ns with
  | nil => cases h
  | cons x r =>
    cases h
    obtain ⟨h1, h2, h3⟩ := foldmin_spec r x
    exact ⟨h1.elim (fun e => by rw [e]; exact List.mem_cons_self) (fun e => List.mem_cons_of_mem _ e), fun y hy => (List.mem_cons.mp hy).elim (fun e => by rw [e]; exact h2) (h3 y)⟩
theorem lmax_spec {ns : List Int} {m : Int} (h : lmax ns = some m) : m ∈ ns ∧ ∀ y ∈ ns, y ≤ m := by
  cases ns with
  | nil => cases h
  | cons x r =>
    cases h
    obtain ⟨h1, h2, h3⟩ := foldmax_spec r x
    exact ⟨h1.elim (fun e => by rw [e]; exact List.mem_cons_self) (fun e => List.mem_cons_of_mem _ e), fun y hy => (List.mem_cons.mp hy).elim (fun e => by rw [e]; exact h2) (h3 y)⟩
/-- of a list of ints -/
@[simp] def onInts (k : List Int → R) : D → R
  | .list ds => match intsOf ds with
    | some ns => k ns
    | none => .stuck
  | _ => .stuck
@[simp] def onBls (k : List Bool → R) : D → R
  | .list ds => match blsOf ds with
    | some ns => k ns
    | none => .stuck
  | _ => .stuck
@[simp] def fLen : D → R
  | .list ds => ri ds.length
  | .tuple ds => ri ds.length
  | _ => .stuck
@[simp] def fSum : D → R := onInts fun ns => ri ns.sum
@[simp] def fMin1 : D → R := onInts fun ns => match lmin ns with
  | some m => ri m
  | none => .stuck
@[simp] def fMax1 : D → R := onInts fun ns => match lmax ns with
  | some m => ri m
  | none => .stuck
@[simp] def fSorted : D → R := onInts fun ns => .val (.ow ((srt ns).map .int))
@[simp] def fAny : D → R := onBls fun bs => rb (bs.any id)
@[simp] def fAll : D → R := onBls fun bs => rb (bs.all id)
@[simp] def fAbs : D → R
  | .int i => ri (if i < 0 then -i else i)
  | _ => .stuck
@[simp] def fInt : D → R
  | .int i => ri i
  | .bool k => ri (if k then 1 else 0)
  | _ => .stuck
@[simp] def fList : D → R
  | .list ds => .val (.ow ds)
  | .tuple ds => .val (.ow ds)
  | _ => .stuck
@[simp] def fMax2 : D → D → R
  | .int i, .int j => ri (if j > i then j else i)
  | _, _ => .stuck
@[simp] def fMin2 : D → D → R
  | .int i, .int j => ri (if j < i then j else i)
  | _, _ => .stuck
section
variable {X : Cx} {T : Ct} {EX : XK} {B : Hp × Hp} {e a b c o : Expr} {es : List Expr} {pos p p2 : Pos} {f g h : FE} {fs : List FE} {G H : Hp} {Q : VK}
theorem ints_out {k : List Int → R} {d : D} {v : V} (gh : Same G H) (hv : Dq G v d) (o : Out T EX (onInts k d) G H Q) : ∃ l ns, v = .ref l ∧ SqL [] H l (ns.map V.int) ∧ Out T EX (k ns) G H Q := by
  unfold onInts at o
  split at o
  · split at o
    · rename_i ns e
      obtain ⟨l, xs, rfl, s1, q1⟩ := hv.lstH gh
      rw [intsOf_ok e q1] at s1
      exact ⟨l, ns, rfl, s1, o⟩
    · exact o.elim
  · exact o.elim
theorem bls_out {k : List Bool → R} {d : D} {v : V} (gh : Same G H) (hv : Dq G v d) (o : Out T EX (onBls k d) G H Q) : ∃ l ns, v = .ref l ∧ SqL [] H l (ns.map V.bl) ∧ Out T EX (k ns) G H Q := by
  unfold onBls at o
  split at o
  · split at o
    · rename_i ns e
      obtain ⟨l, xs, rfl, s1, q1⟩ := hv.lstH gh
      rw [blsOf_ok e q1] at s1
      exact ⟨l, ns, rfl, s1, o⟩
    · exact o.elim
  · exact o.elim
variable (X) in
/-- that a name is global in the def, and free in the module -/
structure Bt (x : Str) : Prop where
  gl : Gl X x
  mg : X.mg x = none
theorem ve_len (t : Bt X "len") (ha : VE X T EX B a f) (hs : starEach [a] X.env = [(false, eval a X.env)] := by rfl) : VE X T EX B (.Call (.Name "len" p) [a] [] pos) (cal1 fLen f) :=
  ve_cal1 call_len_seq (fun Q v d G H gh hv o => by
    unfold fLen at o
    split at o
    · obtain ⟨l, xs, rfl, s1, q1⟩ := hv.lstH gh
      exact ⟨l, xs, rfl, .inl (sqL_K s1), by rw [q1.length]; exact o.ri gh⟩
    · obtain ⟨l, xs, rfl, s1, q1⟩ := hv.tupH gh
      exact ⟨l, xs, rfl, .inr (sqT_K s1), by rw [q1.length]; exact o.ri gh⟩
    · exact o.elim) t.gl t.mg PySem.boot_len ha hs
theorem ve_sum (C : Cv X T EX B) (t : Bt X "sum") (ha : VE X T EX B a f) (hs : starEach [a] X.env = [(false, eval a X.env)] := by rfl) : VE X T EX B (.Call (.Name "sum" p) [a] [] pos) (cal1 fSum f) :=
  ve_cal1 (cr_sum C.calm) (fun Q v d G H gh hv o => by
    obtain ⟨l, ns, rfl, s, o⟩ := ints_out gh hv o
    exact ⟨l, ns, rfl, sqL_K s, o.ri gh⟩) t.gl t.mg (by decide +kernel) ha hs
theorem ve_min1 (C : Cv X T EX B) (t : Bt X "min") (ha : VE X T EX B a f) (hs : starEach [a] X.env = [(false, eval a X.env)] := by rfl) : VE X T EX B (.Call (.Name "min" p) [a] [] pos) (cal1 fMin1 f) :=
  ve_cal1 (cr_min C.calm) (fun Q v d G H gh hv o => by
    obtain ⟨l, ns, rfl, s, o⟩ := ints_out gh hv o
    split at o
    · rename_i m e
      obtain ⟨h1, h2⟩ := lmin_spec e
      refine ⟨l, ns, rfl, sqL_K s, List.length_pos_of_mem h1, fun m' h3 h4 => ?_⟩
      have : m' = m := Int.le_antisymm (h4 m h1) (h2 m' h3)
      rw [this]; exact o.ri gh
    · exact o.elim) t.gl t.mg (by decide +kernel) ha hs
theorem ve_max1 (C : Cv X T EX B) (t : Bt X "max") (ha : VE X T EX B a f) (hs : starEach [a] X.env = [(false, eval a X.env)] := by rfl) : VE X T EX B (.Call (.Name "max" p) [a] [] pos) (cal1 fMax1 f) :=
  ve_cal1 (cr_max C.calm) (fun Q v d G H gh hv o => by
    obtain ⟨l, ns, rfl, s, o⟩ := ints_out gh hv o
    split at o
    · rename_i m e
      obtain ⟨h1, h2⟩ := lmax_spec e
      refine ⟨l, ns, rfl, sqL_K s, List.length_pos_of_mem h1, fun m' h3 h4 => ?_⟩
      have : m' = m := Int.le_antisymm (h2 m' h3) (h4 m h1)
      rw [this]; exact o.ri gh
    · exact o.elim) t.gl t.mg (by decide +kernel) ha hs
theorem ve_sorted (t : Bt X "sorted") (ha : VE X T EX B a f) (hs : starEach [a] X.env = [(false, eval a X.env)] := by rfl) : VE X T EX B (.Call (.Name "sorted" p) [a] [] pos) (cal1 fSorted f) :=
  ve_cal1 cr_sortedI (fun Q v d G H gh hv o => by
    obtain ⟨l, ns, rfl, s, o⟩ := ints_out gh hv o
    refine ⟨l, ns, rfl, sqL_K s, fun ns' p h1 h2 hp => ?_⟩
    rw [srt_of h1 h2]
    exact o.newL gh (dq_ints _) p hp) t.gl t.mg (by decide +kernel) ha hs
theorem ve_any (C : Cv X T EX B) (t : Bt X "any") (ha : VE X T EX B a f) (hs : starEach [a] X.env = [(false, eval a X.env)] := by rfl) : VE X T EX B (.Call (.Name "any" p) [a] [] pos) (cal1 fAny f) :=
  ve_cal1 (cr_any C.calm) (fun Q v d G H gh hv o => by
    obtain ⟨l, ns, rfl, s, o⟩ := bls_out gh hv o
    exact ⟨l, ns, rfl, sqL_K s, o.rb gh⟩) t.gl t.mg (by decide +kernel) ha hs
theorem ve_all (C : Cv X T EX B) (t : Bt X "all") (ha : VE X T EX B a f) (hs : starEach [a] X.env = [(false, eval a X.env)] := by rfl) : VE X T EX B (.Call (.Name "all" p) [a] [] pos) (cal1 fAll f) :=
  ve_cal1 (cr_all C.calm) (fun Q v d G H gh hv o => by
    obtain ⟨l, ns, rfl, s, o⟩ := bls_out gh hv o
    exact ⟨l, ns, rfl, sqL_K s, o.rb gh⟩) t.gl t.mg (by decide +kernel) ha hs
theorem ve_abs (t : Bt X "abs") (ha : VE X T EX B a f) (hs : starEach [a] X.env = [(false, eval a X.env)] := by rfl) : VE X T EX B (.Call (.Name "abs" p) [a] [] pos) (cal1 fAbs f) :=
  ve_cal1 call_abs (fun Q v d G H gh hv o => by
    unfold fAbs at o
    split at o
    · rw [hv.intInv]; exact ⟨_, rfl, o.ri gh⟩
    · exact o.elim) t.gl t.mg (by decide +kernel) ha hs
theorem ve_int1 (t : Bt X "int") (ha : VE X T EX B a f) (hs : starEach [a] X.env = [(false, eval a X.env)] := by rfl) : VE X T EX B (.Call (.Name "int" p) [a] [] pos) (cal1 fInt f) :=
  ve_cal1T call_int1 (fun Q v d G H gh hv o => by
    unfold fInt at o
    split at o
    · rw [hv.intInv]; exact .inl ⟨_, rfl, o.ri gh⟩
    · rw [hv.blInv]; exact .inr ⟨_, rfl, o.ri gh⟩
    · exact o.elim) t.gl t.mg (by decide +kernel) ha hs
theorem ve_list (t : Bt X "list") (ha : VE X T EX B a f) (hs : starEach [a] X.env = [(false, eval a X.env)] := by rfl) : VE X T EX B (.Call (.Name "list" p) [a] [] pos) (cal1 fList f) :=
  ve_cal1T call_list_of (fun Q v d G H gh hv o => by
    unfold fList at o
    split at o
    · obtain ⟨l, xs, rfl, s1, q1⟩ := hv.lstH gh
      exact ⟨l, xs, rfl, .inl (sqL_K s1), o.newL gh q1⟩
    · obtain ⟨l, xs, rfl, s1, q1⟩ := hv.tupH gh
      exact ⟨l, xs, rfl, .inr (sqT_K s1), o.newL gh q1⟩
    · exact o.elim) t.gl t.mg (by decide +kernel) ha hs
theorem ve_cal2 {x : Str} {id : String} {r : List V → Hp → VK → Prop} {F : D → D → R} (hc : CallR X (.builtin id) r) (prim : ∀ Q v w d e G H, Same G H → Dq G v d → Dq G w e → Out T EX (F d e) G H Q → r [v, w] H Q) (t : Bt X x) (hv : bootBuiltins x = some (.builtin id)) (ha : VE X T EX B a f) (hb : VE X T EX B b g)
    (hs : starEach [a, b] X.env = (false, eval a X.env) :: starEach [b] X.env := by rfl) (hs2 : starEach [b] X.env = [(false, eval b X.env)] := by rfl) (hn : x ≠ "__name__" := by decide) (hdb : (x == ("__debug__" : Str)) = false := by decide) (hpl : ∀ q : Pos, ((backTo q (starEach [b] X.env)).any fun z => z.1) = false := by intro _; rfl) :
    VE X T EX B (.Call (.Name x p) [a, b] [] pos) (cal2 F f g) := by
  refine pe_weak (pe_callB hc t.gl t.mg hv (va_cons ha (va_cons hb va_nil hs2) hs) hn hdb hs (hpl pos)) fun σ H Q q => args_use (fun vs as G H gh rp o => ?_) q
  split at o
  · cases rp with
    | cons h1 t =>
      cases t with
      | cons h2 t =>
        cases t
        exact prim Q _ _ _ _ G H gh h1 h2 o
  · exact o.elim
theorem ve_max2 (C : Cv X T EX B) (t : Bt X "max") (ha : VE X T EX B a f) (hb : VE X T EX B b g) (hs : starEach [a, b] X.env = (false, eval a X.env) :: starEach [b] X.env := by rfl) (hs2 : starEach [b] X.env = [(false, eval b X.env)] := by rfl) (hpl : ∀ q : Pos, ((backTo q (starEach [b] X.env)).any fun z => z.1) = false := by intro _; rfl) :
    VE X T EX B (.Call (.Name "max" p) [a, b] [] pos) (cal2 fMax2 f g) :=
  ve_cal2 (call_max2 C.calm) (fun Q v w d e G H gh hv hw o => by
    unfold fMax2 at o
    split at o
    · rw [hv.intInv, hw.intInv]; exact ⟨_, _, rfl, o.ri gh⟩
    · exact o.elim) t (by decide +kernel) ha hb hs hs2 (by decide) (by decide) hpl
theorem ve_min2 (C : Cv X T EX B) (t : Bt X "min") (ha : VE X T EX B a f) (hb : VE X T EX B b g) (hs : starEach [a, b] X.env = (false, eval a X.env) :: starEach [b] X.env := by rfl) (hs2 : starEach [b] X.env = [(false, eval b X.env)] := by rfl) (hpl : ∀ q : Pos, ((backTo q (starEach [b] X.env)).any fun z => z.1) = false := by intro _; rfl) :
    VE X T EX B (.Call (.Name "min" p) [a, b] [] pos) (cal2 fMin2 f g) :=
  ve_cal2 (call_min2 C.calm) (fun Q v w d e G H gh hv hw o => by
    unfold fMin2 at o
    split at o
    · rw [hv.intInv, hw.intInv]; exact ⟨_, _, rfl, o.ri gh⟩
    · exact o.elim) t (by decide +kernel) ha hb hs hs2 (by decide) (by decide) hpl
end
end VL
namespace VL
open PySem L2
/-! ### isinstance with a built-in class -/
def tyD : D → String
  | .none => "NoneType"
  | .bool _ => "bool"
  | .int _ => "int"
  | .str _ => "str"
  | .list _ => "list"
  | .tuple _ => "tuple"
  | .dict _ => "dict"
@[simp] def isInt : D → Bool
  | .int _ => true
  | .bool _ => true
  | _ => false
@[simp] def isBool : D → Bool
  | .bool _ => true
  | _ => false
@[simp] def isList : D → Bool
  | .list _ => true
  | _ => false
@[simp] def isTup : D → Bool
  | .tuple _ => true
  | _ => false
/-- a class and its test -/
structure Ty (n : String) (t : D → Bool) : Prop where
  ok : ∀ d, kitB (tyD d) n = some (t d)
theorem ty_int : Ty "int" isInt := ⟨fun d => by cases d <;> (simp only [tyD, isInt]; decide +kernel)⟩
theorem ty_bool : Ty "bool" isBool := ⟨fun d => by cases d <;> (simp only [tyD, isBool]; decide +kernel)⟩
theorem ty_list : Ty "list" isList := ⟨fun d => by cases d <;> (simp only [tyD, isList]; decide +kernel)⟩
theorem ty_tuple : Ty "tuple" isTup := ⟨fun d => by cases d <;> (simp only [tyD, isTup]; decide +kernel)⟩
@[simp] def flatD : D → Bool
  | .none => true
  | .bool _ => true
  | .int _ => true
  | .str _ => true
  | _ => false
section
variable {X : Cx} {T : Ct} {EX : XK} {B : Hp × Hp} {e a b c o : Expr} {es : List Expr} {pos p p2 : Pos} {f g h : FE} {fs : List FE} {G H : Hp} {Q : VK}
theorem Dq.tyX {K : PySem.W.Frag} {v : V} {d : D} (q : Dq H v d) : TyX K H v (.type (tyD d)) := by
  cases q.dp with
  | non => exact .base .non
  | bl b => exact .base (.bl b)
  | int i => exact .base (.int i)
  | str x => exact .base (.str x)
  | lst s _ =>
    rcases s with (s | ⟨o, s⟩) | ⟨o, its, n, hk, _⟩
    · exact .base (.lst s)
    · exact .base (.frz s)
    · cases hk
  | tup s _ =>
    rcases s with (s | ⟨o, s⟩) | ⟨o, its, n, hk, _⟩
    · exact .base (.tup s)
    · exact .fTuple s
    · cases hk
theorem ve_isi {x : Str} {n : String} {t : D → Bool} {p1 : Pos} (ty : Ty n t) (bi : Bt X "isinstance") (bt : Bt X x) (hv : bootBuiltins x = some (.type n)) (ha : VE X T EX B a f)
    (hs : starEach [a, .Name x p1] X.env = (false, eval a X.env) :: starEach [.Name x p1] X.env := by rfl) (hn : x ≠ "__name__" := by decide) (hd : (x == ("__debug__" : Str)) = false := by decide) : VE X T EX B (.Call (.Name "isinstance" p) [a, .Name x p1] [] pos) (op1 (fun d => rb (t d)) f) := by
  refine pe_weak (pe_callB call_isi bi.gl bi.mg PyProof.Rows.boot_isinstance (pa_cons ha (pa_cons (pe_bltn (v := .ty n) bt.gl bt.mg hv rfl hn hd) pa_nil rfl) hs) (by decide) (by decide) hs rfl) fun σ H Q q => ?_
  refine use1 (r := fun x H Q => rIsi X.K [x, .ty n] H Q) (fun x dx G H gh hx o => ?_) q
  exact ⟨x, .ty n, .type (tyD dx), .type n, t dx, rfl, .ty n, (hx.mono gh).tyX, kit_ty (ty.ok dx), o.rb gh⟩

/-! ### in, not in -/
theorem Dq.flat {v : V} {d : D} (q : Dq G v d) : flatV v = flatD d := by
  cases q.dp <;> rfl
theorem flat_eq {v w : V} {d e : D} (q : Dq G v d) (r : Dq G w e) (hd : flatD d = true) (he : flatD e = true) : eqV v w = PyData.eqv d e := by
  cases q.dp with
  | lst _ _ => cases hd
  | tup _ _ => cases hd
  | non => cases r.dp <;> first | (cases he; done) | simp only [eqV, PyData.eqv]
  | bl x => cases r.dp <;> first | (cases he; done) | simp only [eqV, PyData.eqv]
  | int x => cases r.dp <;> first | (cases he; done) | simp only [eqV, PyData.eqv]
  | str x => cases r.dp <;> first | (cases he; done) | simp only [eqV, PyData.eqv]
theorem flat_all : ∀ {ds : List D} {xs : List V}, DqAll G xs ds → ds.all flatD = true → xs.all flatV = true
  | [], _, q, _ => by rw [q.inv0]; rfl
  | d :: ds, _, q, h => by
    obtain ⟨v, vs, rfl, q1, q2⟩ := q.inv
    simp only [List.all_cons, Bool.and_eq_true] at h ⊢
    exact ⟨q1.flat.trans h.1, flat_all q2 h.2⟩
theorem flat_any {w : V} {e : D} (r : Dq G w e) (he : flatD e = true) : ∀ {ds : List D} {xs : List V}, DqAll G xs ds → ds.all flatD = true → inV w xs = ds.any (fun z => PyData.eqv z e)
  | [], _, q, _ => by rw [q.inv0]; rfl
  | d :: ds, _, q, h => by
    obtain ⟨v, vs, rfl, q1, q2⟩ := q.inv
    simp only [List.all_cons, Bool.and_eq_true] at h
    have ih := flat_any r he q2 h.2
    unfold inV at ih ⊢
    rw [List.any_cons, List.any_cons, flat_eq q1 r h.1 he, ih]
/-- x in xs: flat things, or data of any depth in a list -/
@[simp] def fInB (x : D) (ds : List D) (tup : Bool) (k : Bool → R) : R :=
  if flatD x = true ∧ ds.all flatD = true then k (ds.any fun z => PyData.eqv z x)
  else if tup = false ∧ SeqAt.shaped x = true ∧ SeqAt.shaped (.list ds) = true then k (ds.any fun z => PyData.eqv z x) else .stuck
@[simp] def fIn : D → D → R
  | x, .list ds => fInB x ds false fun b => rb b
  | x, .tuple ds => fInB x ds true fun b => rb b
  | _, _ => .stuck
@[simp] def fNin : D → D → R
  | x, .list ds => fInB x ds false fun b => rb (!b)
  | x, .tuple ds => fInB x ds true fun b => rb (!b)
  | _, _ => .stuck
theorem c_in (C : Cv X T EX B) : Cmp X T EX .In fIn (fun x y H Q => rIn X.K false x y H Q ∨ rInD X.K x y H Q) := by
  refine ⟨op_in_seq.or (op_inD (by have := C.un; omega)), fun Q x y dx dy G H gh hx hy o => ?_⟩
  unfold fIn fInB at o
  split at o
  · obtain ⟨l, xs, rfl, s1, q1⟩ := hy.lstH gh
    split at o
    · rename_i z
      exact .inl ⟨l, xs, rfl, .inl (sqL_K s1), hx.flat.trans z.1, flat_all q1 z.2, by rw [flat_any hx z.1 q1 z.2]; exact o.rb gh⟩
    · split at o
      · rename_i z
        exact .inr ⟨dx, _, (hx.mono gh).K, (hy.mono gh).K, z.2.1, z.2.2, o.rb gh⟩
      · exact o.elim
  · obtain ⟨l, xs, rfl, s1, q1⟩ := hy.tupH gh
    split at o
    · rename_i z
      exact .inl ⟨l, xs, rfl, .inr (sqT_K s1), hx.flat.trans z.1, flat_all q1 z.2, by rw [flat_any hx z.1 q1 z.2]; exact o.rb gh⟩
    · split at o
      · rename_i z; exact absurd z.1 (by decide)
      · exact o.elim
  · exact o.elim
theorem c_nin (C : Cv X T EX B) : Cmp X T EX .NotIn fNin (fun x y H Q => rIn X.K true x y H Q ∨ rNotInD X.K x y H Q) := by
  refine ⟨op_notIn_seq.or (op_notInD (by have := C.un; omega)), fun Q x y dx dy G H gh hx hy o => ?_⟩
  unfold fNin fInB at o
  split at o
  · obtain ⟨l, xs, rfl, s1, q1⟩ := hy.lstH gh
    split at o
    · rename_i z
      exact .inl ⟨l, xs, rfl, .inl (sqL_K s1), hx.flat.trans z.1, flat_all q1 z.2, by rw [flat_any hx z.1 q1 z.2]; exact o.rb gh⟩
    · split at o
      · rename_i z
        exact .inr ⟨dx, _, (hx.mono gh).K, (hy.mono gh).K, z.2.1, z.2.2, o.rb gh⟩
      · exact o.elim
  · obtain ⟨l, xs, rfl, s1, q1⟩ := hy.tupH gh
    split at o
    · rename_i z
      exact .inl ⟨l, xs, rfl, .inr (sqT_K s1), hx.flat.trans z.1, flat_all q1 z.2, by rw [flat_any hx z.1 q1 z.2]; exact o.rb gh⟩
    · split at o
      · rename_i z; exact absurd z.1 (by decide)
      · exact o.elim
  · exact o.elim

/-! ### xs.index(y), ints -/
def idxOf : List Int → Int → Option Nat
  | [], _ => none
  | x :: r, y => if x = y then some 0 else (idxOf r y).map (· + 1)
theorem idxOf_spec : ∀ {ns : List Int} {y : Int} {j : Nat}, idxOf ns y = some j → ns[j]? = some y ∧ ∀ m, m < j → ∀ z, ns[m]? = some z → z ≠ y
  | [], _, _, h => by cases h
  | x :: r, y, j, h => by
    unfold idxOf at h
    split at h
    · cases h
      rename_i e
      exact ⟨by rw [e]; rfl, fun m hm => absurd hm (Nat.not_lt_zero _)⟩
    · rename_i e
      obtain ⟨i, hi, rfl⟩ := Option.map_eq_some_iff.mp h
      obtain ⟨h1, h2⟩ := idxOf_spec hi
      refine ⟨by simpa using h1, fun m hm z hz => ?_⟩
      cases m with
      | zero => simp at hz; rw [← hz]; exact e
      | succ m => exact h2 m (by omega) z (by simpa using hz)
@[simp] def fIdx : D → D → R
  | x, .int y => onInts (fun ns => match idxOf ns y with
    | some j => ri (j : Nat)
    | none => .stuck) x
  | _, _ => .stuck
@[simp] def vIdx (f g : FE) : FE := fun env => (f env).d fun x => match x with
  | .list ds => (evA [g] env).b fun as => match as with
    | [.sh y] => fIdx (.list ds) y
    | _ => .stuck
  | _ => .stuck
theorem args_seq {k : List SV → R} {env : VEnv} {σ : L2.St} {P : List V → Hp → Prop} (S : Sim T B G env σ H) (o : Out T EX ((evA fs env).b k) G H Q) (prim : ∀ vs as G1 H1, Step G H G1 H1 → VRpAll T G1 vs as → Sim T B G1 env σ H1 → Out T EX (k as) G1 H1 Q → P vs H1) : rdA T EX B fs σ H P := by
  refine ⟨G, env, S, ?_⟩
  revert o
  cases evA fs env with
  | val as => exact fun o vs G' H' s q => prim vs as G' H' s q (S.step s) (Out.step o s)
  | err c => exact fun o => o
  | stuck => exact fun o => o
theorem ve_index {apos : Pos} (ha : VE X T EX B a f) (hb : VE X T EX B b g) (hbase : attributeBase a "index" X.env (eval a X.env) = eval a X.env := by rfl)
    (hline : (apos.endLine == pos.line) = true := by rfl) (hs : starEach [b] X.env = [(false, eval b X.env)] := by rfl) (hplain : (backTo pos (starEach [] X.env)).any (·.1) = false := by rfl)
    (hfew : ((backTo pos (starEach [b] X.env)).all (fun x => !x.1) && (backToKw pos (keywordEach [] X.env)).all (fun x => x.1.isSome)
      && decide ([b].length + ([] : List Keyword).length + (if ([] : List Keyword).isEmpty then 0 else 1) < 30)) = true := by rfl) : VE X T EX B (.Call (.Attribute a "index" apos) [b] [] pos) (vIdx f g) := by
  refine pe_weak (pe_bm PySem.F.plainAttrs_list PySem.F.slot_list_index PySem.F.type_list_index mt_index ha (va_cons hb va_nil hs) hbase hfew hline hs hplain) fun σ H Q q => ?_
  obtain ⟨G, env, S, o⟩ := q
  refine rdV_mono (seqD S o) fun x H1 ⟨dx, G1, s1, hx, S1, o1⟩ => ?_
  split at o1
  · obtain ⟨l, xs, rfl, sq, q1⟩ := hx.lstH S1.gh
    refine ⟨.inl ⟨rfl, xs, sqL_K sq⟩, args_seq S1 o1 fun vs as G2 H2 s2 rp S2 o2 => ?_⟩
    split at o2
    · cases rp with
      | cons h1 t =>
        cases t
        rename_i y
        unfold fIdx at o2
        split at o2
        · rename_i y
          obtain ⟨l2, ns, e2, sq2, o2⟩ := ints_out S2.gh (hx.mono s2.gg) o2
          cases e2
          split at o2
          · rename_i j ej
            obtain ⟨k1, k2⟩ := idxOf_spec ej
            have hy := Dq.intInv h1
            refine ⟨l, ns.map V.int, .int y, j, .int y, rfl, by rw [hy], sqL_K sq2, rfl, by simp [flatV], by rw [List.getElem?_map, k1]; rfl, by simp [eqV], fun m z' hm hz => ?_, o2.ri S2.gh⟩
            rw [List.getElem?_map] at hz
            obtain ⟨w, hw, rfl⟩ := Option.map_eq_some_iff.mp hz
            have := k2 m hm w hw
            simp [eqV, this]
          · exact o2.elim
        · exact o2.elim
    · exact o2.elim
  · exact o1.elim

/-! ### a def of the program -/
/-- a def's promise: its arguments stand in G; what it makes of them -/
def spV (T : Ct) (n : Nat) (m : List SV → R) : Sp := fun vs H Q E => ∃ G as, Same G H ∧ NoMem G ∧ MeO T H ∧ VRpAll T G vs as ∧ as.length = n ∧ Out T E (m as) G H Q
theorem vrp_len {T : Ct} {G : Hp} : ∀ {vs : List V} {as : List SV}, VRpAll T G vs as → vs.length = as.length
  | _, _, .nil => rfl
  | _, _, .cons _ t => by rw [List.length_cons, List.length_cons, vrp_len t]
@[simp] def calF (n : Nat) (m : List SV → R) (fs : List FE) : FE := fun env => (evA fs env).b fun as => if as.length = n then m as else .stuck
theorem ve_call {x : Str} {n k : Nat} {m : List SV → R} {fa : Addr} {fd : FuncData} {ps : List Str} (F : FnGd X.prog X.w X.K X.mg X.base (L2.CX X.prog X.w) k fa fd ps (spV T n m)) (hr : Room k X.A) (hg : Gl X x) (hm : X.mg x = some (.ref fa)) (hk : PySem.W.keepIn X.K (.ref fa) = true) (hb : Binds X.K fd ps [])
    (C : Cv X T EX B) (ha : VA X T EX B (e :: es) fs) (hd : (x == ("__debug__" : Str)) = false := by decide) (hs : starEach (e :: es) X.env = (false, eval e X.env) :: starEach es X.env := by rfl) (hpl : ((backTo pos (starEach es X.env)).any fun z => z.1) = false := by rfl) :
    VE X T EX B (.Call (.Name x p) (e :: es) [] pos) (calF n m fs) := by
  refine pe_weak (pe_callG (E := fun _ => EX) F C.gd hr hg hm hk hb (fun σ pn H s e s' => C.pass pn σ H s e s') ha hd hs hpl) fun σ H Q q => ?_
  obtain ⟨G, env, S, o⟩ := q
  refine args_seq S o fun vs as G1 H1 s1 rp S1 o1 => ?_
  split at o1
  · exact ⟨G1, as, S1.gh, S1.st.nm S1.nb.1, S1.mo, rp, by assumption, o1⟩
  · exact o1.elim
end
end VL
namespace VL
open PySem L2
/-! ### what is walked -/
@[simp] def itD (F : D → RI) (f : FE) : FI := fun env => match f env with
  | .val (.sh d) => F d
  | .val (.ow ds) => F (.list ds)
  | .val (.ob _ _) => .stuck
  | .val (.rg r) => (match r.toD with
    | some d => F d
    | none => .stuck)
  | .err c => .err c
  | .stuck => .stuck
@[simp] def itA (F : List SV → RI) (fs : List FE) : FI := fun env => match evA fs env with
  | .val as => F as
  | .err c => .err c
  | .stuck => .stuck
@[simp] def iL : D → RI
  | .list ds => .val ds
  | _ => .stuck
@[simp] def iT : D → RI
  | .tuple ds => .val ds
  | _ => .stuck
def rngD (lo c : Int) (n : Nat) : List D := (List.range n).map fun (i : Nat) => .int (lo + (i : Int) * c)
@[simp] def iR1 : List SV → RI
  | [.sh (.int j)] => if -1000000 ≤ j ∧ j ≤ 1000000 then .val (rngD 0 1 j.toNat) else .stuck
  | _ => .stuck
@[simp] def iR2 : List SV → RI
  | [.sh (.int i), .sh (.int j)] => if -1000000 ≤ i ∧ i ≤ 1000000 ∧ -1000000 ≤ j ∧ j ≤ 1000000 then .val (rngD i 1 (j - i).toNat) else .stuck
  | _ => .stuck
def iR3 : List SV → RI
  | [.sh (.int i), .sh (.int j), .sh (.int c)] => if 0 < c ∧ c ≤ 1000 ∧ Builtin.Range.small i j c = true then .val (rngD i c (if i < j then (j - i - 1) / c + 1 else 0).toNat) else .stuck
  | _ => .stuck
def enumD : Nat → List D → List D
  | _, [] => []
  | n, d :: r => .tuple [.int (n : Nat), d] :: enumD (n + 1) r
@[simp] def iE : List SV → RI
  | [.sh (.list ds)] => .val (enumD 0 ds)
  | _ => .stuck
def zipD (xs ys : List D) : List D := List.zipWith (fun a b => .tuple [a, b]) xs ys
@[simp] def iZ : List SV → RI
  | [.sh (.list ds), .sh (.list es)] => .val (zipD ds es)
  | _ => .stuck
theorem enumD_length : ∀ (ds : List D) (n : Nat), (enumD n ds).length = ds.length
  | [], _ => rfl
  | _ :: r, n => by simp only [enumD, List.length_cons, enumD_length r]
theorem enumD_get : ∀ {ds : List D} {n i : Nat} {d : D}, ds[i]? = some d → (enumD n ds)[i]? = some (.tuple [.int ((n + i : Nat) : Int), d])
  | [], _, _, _, h => by simp at h
  | x :: r, n, 0, d, h => by simp at h; subst h; rfl
  | x :: r, n, i + 1, d, h => by
    have := enumD_get (ds := r) (n := n + 1) (i := i) (d := d) (by simpa using h)
    simp only [enumD, List.getElem?_cons_succ, this]
    rw [show n + 1 + i = n + (i + 1) by omega]
section
variable {X : Cx} {T : Ct} {EX : XK} {B : Hp × Hp} {e a b c o tg : Expr} {es : List Expr} {pos p p2 : Pos} {f g h : FE} {fs : List FE} {G H G1 H1 : Hp} {Q : VK}
theorem OutI.step {r : RI} {R : It → Hp → Prop} (q : OutI T EX r G H R) (s : Step G H G1 H1) : OutI T EX r G1 H1 R := by
  cases r with
  | val ds => exact fun J G' H' s' w => q J G' H' (s.trans s') w
  | err c => exact fun H' z => q H' (s.hh.trans z)
  | stuck => exact q
theorem seqItD {F : D → RI} {env : VEnv} {σ : L2.St} {R : It → Hp → Prop} (S' : Sim T B G env σ H) (q : OutI T EX (itD F f env) G H R) : rdV T EX B f σ H (fun v H1 => ∃ d G1, Step G H G1 H1 ∧ Dq G1 v d ∧ Sim T B G1 env σ H1 ∧ OutI T EX (F d) G1 H1 R) := by
  refine ⟨G, env, S', ?_⟩
  unfold itD at q
  revert q
  cases f env with
  | val v =>
    cases v with
    | sh d => exact fun h => Out.fz fun x G' H' s q => ⟨d, G', s, q, S'.step s, OutI.step h s⟩
    | ow ds => exact fun h => Out.fz fun x G' H' s q => ⟨.list ds, G', s, q, S'.step s, OutI.step h s⟩
    | ob c fs => exact fun h => h.elim
    | rg r =>
      intro h v S G' H' s nd nw q
      dsimp only at h
      split at h
      · rename_i d ed
        have s2 := s.frzS nw (RRp.at r S v q)
        exact ⟨d, addS G' H' S, s2, RRp.frz (addS_same fun a m => (nw a m).1) r S v d q (fun a m => addS_in m) ed, S'.step s2, OutI.step h s2⟩
      · exact h.elim
  | err c => exact fun h => h
  | stuck => exact fun h => h
theorem seqItA {F : List SV → RI} {env : VEnv} {σ : L2.St} {R : It → Hp → Prop} (S : Sim T B G env σ H) (q : OutI T EX (itA F fs env) G H R) : rdA T EX B fs σ H (fun vs H1 => ∃ as G1, Step G H G1 H1 ∧ VRpAll T G1 vs as ∧ Sim T B G1 env σ H1 ∧ OutI T EX (F as) G1 H1 R) := by
  refine ⟨G, env, S, ?_⟩
  unfold itA at q
  revert q
  cases evA fs env with
  | val as => exact fun h vs G' H' s q => ⟨as, G', s, q, S.step s, OutI.step h s⟩
  | err c => exact fun h => h
  | stuck => exact fun h => h
theorem rdA_mono {σ : L2.St} {Q Q' : List V → Hp → Prop} (h : rdA T EX B fs σ H Q) (q : ∀ v H', Q v H' → Q' v H') : rdA T EX B fs σ H Q' := by
  obtain ⟨G, env, S, o⟩ := h
  refine ⟨G, env, S, ?_⟩
  revert o
  cases evA fs env with
  | val as => exact fun o vs G' H' s z => q _ _ (o vs G' H' s z)
  | err c => exact fun o => o
  | stuck => exact fun o => o
theorem walksL {K : PySem.W.Frag} {l : Addr} {xs : List V} {ds : List D} (s : SqL [] G l xs) (q : DqAll G xs ds) : WalksD (Itl K l) G ds := by
  unfold WalksD
  rw [← q.length]
  refine walk_list.mono (fun H e => sqL_K (e.seq s)) fun i H x H' hi gh y Gc h1 h2 => ?_
  obtain ⟨rfl, e⟩ := y
  obtain ⟨d, hd⟩ : ∃ d, ds[i]? = some d := ⟨ds[i]'(by rw [← q.length]; exact hi), List.getElem?_eq_getElem _⟩
  obtain ⟨v, hv, dv⟩ := q.get hd
  rw [e] at hv; cases hv
  exact ⟨d, Gc, hd, Step.refl h2, dv.mono h1⟩
theorem walksT {K : PySem.W.Frag} {l : Addr} {xs : List V} {ds : List D} (s : SqT [] G l xs) (q : DqAll G xs ds) : WalksD (Itt K l) G ds := by
  unfold WalksD
  rw [← q.length]
  refine walk_tup.mono (fun H e => sqT_K (same_seqT e s)) fun i H x H' hi gh y Gc h1 h2 => ?_
  obtain ⟨rfl, e⟩ := y
  obtain ⟨d, hd⟩ : ∃ d, ds[i]? = some d := ⟨ds[i]'(by rw [← q.length]; exact hi), List.getElem?_eq_getElem _⟩
  obtain ⟨v, hv, dv⟩ := q.get hd
  rw [e] at hv; cases hv
  exact ⟨d, Gc, hd, Step.refl h2, dv.mono h1⟩
theorem rngD_length (lo c : Int) (n : Nat) : (rngD lo c n).length = n := by simp [rngD]
theorem rngD_get {lo c : Int} {n i : Nat} (h : i < n) : (rngD lo c n)[i]? = some (.int (lo + (i : Int) * c)) := by simp [rngD, h]
theorem walksR {lo : Int} {n : Nat} : WalksD (Itr lo n) G (rngD lo 1 n) := by
  unfold WalksD
  rw [rngD_length]
  refine walk_range.mono (fun _ _ => trivial) fun i H x H' hi gh y Gc h1 h2 => ?_
  obtain ⟨rfl, e⟩ := y
  exact ⟨_, Gc, rngD_get hi, Step.refl h2, by rw [e, Int.mul_one]; exact .int⟩
theorem walksC {lo c : Int} {n : Nat} : WalksD (Itc lo c n) G (rngD lo c n) := by
  unfold WalksD
  rw [rngD_length]
  refine walk_rangeC.mono (fun _ _ => trivial) fun i H x H' hi gh y Gc h1 h2 => ?_
  obtain ⟨rfl, e⟩ := y
  exact ⟨_, Gc, rngD_get hi, Step.refl h2, by rw [e]; exact .int⟩
theorem walksE {K : PySem.W.Frag} {l : Addr} {xs : List V} {ds : List D} (s : SqL [] G l xs) (q : DqAll G xs ds) : WalksD (Ite K l) G (enumD 0 ds) := by
  unfold WalksD
  rw [enumD_length, ← q.length]
  refine walk_enum.mono (fun H e => sqL_K (e.seq s)) fun i H x H' hi gh y Gc h1 h2 => ?_
  obtain ⟨t, u, w, rfl, hn, rfl, e1, e2⟩ := y
  cases e1
  have e2 : xs[i]? = some w := e2
  obtain ⟨d, hd⟩ : ∃ d, ds[i]? = some d := ⟨ds[i]'(by rw [← q.length]; exact hi), List.getElem?_eq_getElem _⟩
  obtain ⟨v, hv, dv⟩ := q.get hd
  rw [e2] at hv; cases hv
  refine ⟨_, upd Gc t (.tup [.int (i : Nat), w]), enumD_get hd, Step.new h2 hn _, Dq.tup (SqT.of upd_same) ?_⟩
  have sg := same_upd (same_none h2 hn) (.tup [.int ((i : Nat) : Int), w])
  rw [Nat.zero_add]
  exact .cons .int (.cons ((dv.mono h1).mono sg) .nil)
theorem zipD_get {xs ys : List D} {i : Nat} {x y : D} (h1 : xs[i]? = some x) (h2 : ys[i]? = some y) : (zipD xs ys)[i]? = some (.tuple [x, y]) := by
  unfold zipD
  rw [List.getElem?_zipWith, h1, h2]
theorem walksZ {K : PySem.W.Frag} {l l2 : Addr} {xs ys : List V} {ds es : List D} (s : SqL [] G l xs) (q : DqAll G xs ds) (s2 : SqL [] G l2 ys) (q2 : DqAll G ys es) : WalksD (Itz K l l2) G (zipD ds es) := by
  unfold WalksD
  have hn : (zipD ds es).length = min xs.length ys.length := by rw [q.length, q2.length]; simp [zipD]
  rw [hn]
  refine (walk_zip rfl).mono (fun H e => ⟨sqL_K (e.seq s), sqL_K (e.seq s2)⟩) fun i H x H' hi gh y Gc h1 h2 => ?_
  obtain ⟨t, u, w, rfl, hn, rfl, e1, e2⟩ := y
  have e1 : xs[i]? = some u := e1
  have e2 : ys[i]? = some w := e2
  have i1 : i < ds.length := by rw [← q.length]; omega
  have i2 : i < es.length := by rw [← q2.length]; omega
  obtain ⟨d, hd⟩ : ∃ d, ds[i]? = some d := ⟨ds[i], List.getElem?_eq_getElem _⟩
  obtain ⟨d2, hd2⟩ : ∃ d, es[i]? = some d := ⟨es[i], List.getElem?_eq_getElem _⟩
  obtain ⟨v, hv, dv⟩ := q.get hd
  obtain ⟨v2, hv2, dv2⟩ := q2.get hd2
  rw [e1] at hv; cases hv
  rw [e2] at hv2; cases hv2
  have sg := same_upd (same_none h2 hn) (.tup [u, w])
  exact ⟨_, upd Gc t (.tup [u, w]), zipD_get hd hd2, Step.new h2 hn _, Dq.tup (SqT.of upd_same) (.cons ((dv.mono h1).mono sg) (.cons ((dv2.mono h1).mono sg) .nil))⟩
theorem vi_list (ha : VE X T EX B a f) : VI X T EX B tg a (itD iL f) := pi_weak (pi_list ha) fun σ H R q => by
  obtain ⟨G, env, S, o⟩ := q
  refine rdV_mono (seqItD S o) fun v H1 ⟨d, G1, s, dq, S1, o1⟩ => ?_
  unfold iL at o1
  split at o1
  · obtain ⟨l, xs, rfl, sq, q1⟩ := dq.lstInv
    exact ⟨l, rfl, ⟨xs, sqL_K (S1.gh.seq sq)⟩, o1 _ G1 H1 (Step.refl S1.gh) (walksL sq q1)⟩
  · exact o1.elim
theorem vi_tup (ha : VE X T EX B a f) : VI X T EX B tg a (itD iT f) := pi_weak (pi_tup ha) fun σ H R q => by
  obtain ⟨G, env, S, o⟩ := q
  refine rdV_mono (seqItD S o) fun v H1 ⟨d, G1, s, dq, S1, o1⟩ => ?_
  unfold iT at o1
  split at o1
  · obtain ⟨l, xs, rfl, sq, q1⟩ := dq.tupInv
    exact ⟨l, rfl, ⟨xs, sqT_K (same_seqT S1.gh sq)⟩, o1 _ G1 H1 (Step.refl S1.gh) (walksT sq q1)⟩
  · exact o1.elim
theorem vi_range1 (t : Bt X "range") (ha : VA X T EX B [a] fs) (hs : starEach [a] X.env = [(false, eval a X.env)] := by rfl) : VI X T EX B tg (.Call (.Name "range" p) [a] [] pos) (itA iR1 fs) := pi_weak (pi_range1 t.gl t.mg ha hs) fun σ H R q => by
  obtain ⟨G, env, S, o⟩ := q
  refine rdA_mono (seqItA S o) fun vs H1 ⟨as, G1, s, rp, S1, o1⟩ => ?_
  unfold iR1 at o1
  split at o1
  · rename_i j
    split at o1
    · rename_i hj
      cases rp with
      | cons h1 t =>
        cases t
        exact ⟨j, by rw [Dq.intInv h1], by omega, by omega, o1 _ G1 H1 (Step.refl S1.gh) walksR⟩
    · exact o1.elim
  · exact o1.elim
theorem vi_range2 (t : Bt X "range") (ha : VA X T EX B [a, b] fs) (hs : starEach [a, b] X.env = [(false, eval a X.env), (false, eval b X.env)] := by rfl) (hs2 : starEach [b] X.env = [(false, eval b X.env)] := by rfl) : VI X T EX B tg (.Call (.Name "range" p) [a, b] [] pos) (itA iR2 fs) := pi_weak (pi_range2 t.gl t.mg ha hs hs2) fun σ H R q => by
  obtain ⟨G, env, S, o⟩ := q
  refine rdA_mono (seqItA S o) fun vs H1 ⟨as, G1, s, rp, S1, o1⟩ => ?_
  unfold iR2 at o1
  split at o1
  · rename_i i j
    split at o1
    · rename_i hj
      cases rp with
      | cons h1 t =>
        cases t with
        | cons h2 t =>
          cases t
          exact ⟨i, j, by rw [Dq.intInv h1, Dq.intInv h2], ⟨by omega, by omega, by omega, by omega⟩, o1 _ G1 H1 (Step.refl S1.gh) walksR⟩
    · exact o1.elim
  · exact o1.elim
theorem vi_range3 (t : Bt X "range") (ha : VA X T EX B [a, b, c] fs) (hs : starEach [a, b, c] X.env = (false, eval a X.env) :: starEach [b, c] X.env := by rfl) (hs2 : ((backTo pos (starEach [b, c] X.env)).any fun z => z.1) = false := by rfl) : VI X T EX B tg (.Call (.Name "range" p) [a, b, c] [] pos) (itA iR3 fs) := pi_weak (pi_range3 t.gl t.mg ha hs hs2) fun σ H R q => by
  obtain ⟨G, env, S, o⟩ := q
  refine rdA_mono (seqItA S o) fun vs H1 ⟨as, G1, s, rp, S1, o1⟩ => ?_
  unfold iR3 at o1
  split at o1
  · rename_i i j c
    split at o1
    · rename_i hj
      cases rp with
      | cons h1 t =>
        cases t with
        | cons h2 t =>
          cases t with
          | cons h3 t =>
            cases t
            refine ⟨i, j, c, _, by rw [Dq.intInv h1, Dq.intInv h2, Dq.intInv h3], ⟨by omega, by omega, hj.2.2, ?_⟩, o1 _ G1 H1 (Step.refl S1.gh) walksC⟩
            unfold Builtin.Range.rangeSize
            rw [if_pos hj.1]
            by_cases z : i < j
            · rw [if_pos z]
              have : 0 ≤ (j - i - 1) / c := Int.ediv_nonneg (by omega) (by omega)
              omega
            · rw [if_neg z]; rfl
    · exact o1.elim
  · exact o1.elim
theorem vi_enum {elts : List Expr} {kk : Nat} {tpos : Pos} (t : Bt X "enumerate") (ha : VA X T EX B [a] fs) (hs : starEach [a] X.env = [(false, eval a X.env)] := by rfl) : VI X T EX B (.Tuple elts kk tpos) (.Call (.Name "enumerate" p) [a] [] pos) (itA iE fs) := pi_weak (pi_enum t.gl t.mg ha hs) fun σ H R q => by
  obtain ⟨G, env, S, o⟩ := q
  refine rdA_mono (seqItA S o) fun vs H1 ⟨as, G1, s, rp, S1, o1⟩ => ?_
  unfold iE at o1
  split at o1
  · cases rp with
    | cons h1 t =>
      cases t
      obtain ⟨l, xs, rfl, sq, q1⟩ := Dq.lstInv h1
      exact ⟨l, xs, rfl, sqL_K (S1.gh.seq sq), o1 _ G1 H1 (Step.refl S1.gh) (walksE sq q1)⟩
  · exact o1.elim
theorem vi_zip {elts : List Expr} {kk : Nat} {tpos : Pos} (t : Bt X "zip") (ha : VA X T EX B [a, b] fs) (hs : starEach [a, b] X.env = (false, eval a X.env) :: starEach [b] X.env := by rfl) (hs2 : ((backTo pos (starEach [b] X.env)).any fun z => z.1) = false := by rfl) : VI X T EX B (.Tuple elts kk tpos) (.Call (.Name "zip" p) [a, b] [] pos) (itA iZ fs) := pi_weak (pi_zip t.gl t.mg ha hs hs2) fun σ H R q => by
  obtain ⟨G, env, S, o⟩ := q
  refine rdA_mono (seqItA S o) fun vs H1 ⟨as, G1, s, rp, S1, o1⟩ => ?_
  unfold iZ at o1
  split at o1
  · cases rp with
    | cons h1 t =>
      cases t with
      | cons h2 t =>
        cases t
        obtain ⟨l, xs, rfl, sq, q1⟩ := Dq.lstInv h1
        obtain ⟨l2, ys, rfl, sq2, q2⟩ := Dq.lstInv h2
        exact ⟨l, l2, xs, ys, rfl, sqL_K (S1.gh.seq sq), sqL_K (S1.gh.seq sq2), o1 _ G1 H1 (Step.refl S1.gh) (walksZ sq q1 sq2 q2)⟩
  · exact o1.elim

/-! ### targets -/
def SetIn (is : List Nat) (σ σ' : L2.St) : Prop := σ'.length = σ.length ∧ ∀ j, j ∉ is → σ'[j]? = σ[j]?
theorem SetIn.one {σ : L2.St} {i : Nat} {v : Option V} : SetIn [i] σ (σ.set i v) := ⟨by rw [List.length_set], fun j h => List.getElem?_set_ne (fun e => h (by rw [e]; exact List.mem_cons_self))⟩
theorem SetIn.trans {is js : List Nat} {σ σ1 σ2 : L2.St} (a : SetIn is σ σ1) (b : SetIn js σ1 σ2) : SetIn (is ++ js) σ σ2 := ⟨b.1.trans a.1, fun j h => (b.2 j fun z => h (List.mem_append_right _ z)).trans (a.2 j fun z => h (List.mem_append_left _ z))⟩
abbrev Tg := D → VEnv → Option VEnv
@[simp] def tgN (i : Nat) : Tg := fun d env => some (env.set i (some (.sh d)))
@[simp] def tg2 (i j : Nat) : Tg := fun d env => match d with
  | .tuple [x, y] => some ((env.set i (some (.sh x))).set j (some (.sh y)))
  | _ => none
@[simp] def tg3 (i j k : Nat) : Tg := fun d env => match d with
  | .tuple [x, y, z] => some (((env.set i (some (.sh x))).set j (some (.sh y))).set k (some (.sh z)))
  | _ => none
/-- what a target does with data -/
def TgRun (T : Ct) (B : Hp × Hp) (g : TG) (is : List Nat) (t : Tg) : Prop := ∀ {G : Hp} {env : VEnv} {σ : L2.St} {H : Hp} {v : V} {d : D} {env' : VEnv} {Q : L2.St → Hp → Prop}, Sim T B G env σ H → Dq G v d → t d env = some env' → (∀ σ', Sim T B G env' σ' H → SetIn is σ σ' → Q σ' H) → g v σ H Q
theorem tr_name {i : Nat} : TgRun T B (gName i) [i] (tgN i) := fun S dq e q => by cases e; exact q _ (S.setSh dq) .one
theorem tr_2 {K : PySem.W.Frag} {i j : Nat} : TgRun T B (gTup K 2 (gCons (gName i) (gCons (gName j) gNil))) [i, j] (tg2 i j) := by
  intro G env σ H v d env' Q S dq e q
  unfold tg2 at e
  split at e
  · cases e
    obtain ⟨l, xs, rfl, sq, q1⟩ := dq.tupInv
    obtain ⟨v1, vs1, rfl, d1, q2⟩ := q1.inv
    obtain ⟨v2, vs2, rfl, d2, q3⟩ := q2.inv
    cases q3.inv0
    exact ⟨l, _, rfl, sqT_K (same_seqT S.gh sq), rfl, v1, _, rfl, v2, _, rfl, rfl, q _ ((S.setSh d1).setSh d2) (SetIn.trans (js := [j]) .one .one)⟩
  · cases e
theorem tr_3 {K : PySem.W.Frag} {i j l : Nat} : TgRun T B (gTup K 3 (gCons (gName i) (gCons (gName j) (gCons (gName l) gNil)))) [i, j, l] (tg3 i j l) := by
  intro G env σ H v d env' Q S dq e q
  unfold tg3 at e
  split at e
  · cases e
    obtain ⟨l, xs, rfl, sq, q1⟩ := dq.tupInv
    obtain ⟨v1, vs1, rfl, d1, q2⟩ := q1.inv
    obtain ⟨v2, vs2, rfl, d2, q3⟩ := q2.inv
    obtain ⟨v3, vs3, rfl, d3, q4⟩ := q3.inv
    cases q4.inv0
    exact ⟨l, _, rfl, sqT_K (same_seqT S.gh sq), rfl, v1, _, rfl, v2, _, rfl, v3, _, rfl, rfl, q _ (((S.setSh d1).setSh d2).setSh d3) (SetIn.trans (is := [i, j]) (SetIn.trans (js := [j]) .one .one) .one)⟩
  · cases e

/-! ### list comprehensions -/
@[simp] def wipeE (env : VEnv) : List Nat → VEnv
  | [] => env
  | v :: vs => (wipeE env vs).set v none
theorem Sim.wipe {env : VEnv} {σ : L2.St} (S : Sim T B G env σ H) : ∀ vs : List Nat, Sim T B G (wipeE env vs) (L2.wipe σ vs) H
  | [] => S
  | v :: vs => (S.wipe vs).setNone
theorem wipe_in {σ : L2.St} {i : Nat} : ∀ {vs : List Nat}, i ∈ vs → i < σ.length → (L2.wipe σ vs)[i]? = some none
  | v :: vs, h, hl => by
    unfold L2.wipe
    by_cases e : v = i
    · subst e; exact List.getElem?_set_self (by rw [wipe_length]; exact hl)
    · rw [List.getElem?_set_ne e]
      exact wipe_in ((List.mem_cons.mp h).resolve_left (Ne.symm e)) hl
theorem wipe_eq {is vs : List Nat} {σ σ' : L2.St} (h : SetIn is (L2.wipe σ vs) σ') (hs : ∀ i ∈ is, i ∈ vs) : L2.wipe σ' vs = L2.wipe σ vs := by
  have hl : σ'.length = σ.length := by rw [h.1, wipe_length]
  refine List.ext_getElem? fun j => ?_
  by_cases hj : j ∈ vs
  · by_cases hb : j < σ.length
    · rw [wipe_in hj (by rw [hl]; exact hb), wipe_in hj hb]
    · rw [List.getElem?_eq_none (by rw [wipe_length]; omega), List.getElem?_eq_none (by rw [wipe_length]; omega)]
  · rw [wipe_out hj, h.2 j (fun z => hj (hs j z)), wipe_out hj]
@[simp] def R.data (r : R) : Option D := match r with
  | .val (.sh d) => some d
  | .val (.ow ds) => some (.list ds)
  | .val (.rg r) => r.toD
  | _ => none
def lcGo (t : Tg) (c e : FE) (env : VEnv) : List D → Option (List D)
  | [] => some []
  | d :: r => match t d env with
    | none => none
    | some env' => match c env' with
      | .val (.sh (.bool true)) => match (e env').data with
        | some y => (lcGo t c e env r).map (y :: ·)
        | none => none
      | .val (.sh (.bool false)) => lcGo t c e env r
      | _ => none
@[simp] def vLc (vs : List Nat) (t : Tg) (it : FI) (c e : FE) : FE := fun env => match it env with
  | .val ds => if ds.length ≤ 1000000 then (match lcGo t c e (wipeE env vs) ds with
    | some ys => .val (.ow ys)
    | none => .stuck) else .stuck
  | .err c => .err c
  | .stuck => .stuck
theorem lcGo_cons {t : Tg} {c e : FE} {env : VEnv} {d : D} {r zs : List D} (h : lcGo t c e env (d :: r) = some zs) : ∃ env', t d env = some env' ∧ ((c env' = rb true ∧ ∃ y zs', (e env').data = some y ∧ lcGo t c e env r = some zs' ∧ zs = y :: zs') ∨ (c env' = rb false ∧ lcGo t c e env r = some zs)) := by
  unfold lcGo at h
  split at h
  · cases h
  · rename_i env' e1
    refine ⟨env', e1, ?_⟩
    split at h
    · rename_i e2
      split at h
      · rename_i y e3
        obtain ⟨zs', e4, rfl⟩ := Option.map_eq_some_iff.mp h
        exact .inl ⟨e2, y, zs', e3, e4, rfl⟩
      · cases h
    · rename_i e2
      exact .inr ⟨e2, h⟩
    · cases h
theorem lc_use {vs is : List Nat} {t : Tg} {it : FI} {c e : FE} {gt : TG} {σ : L2.St} (hg : TgRun T B gt is t)
    (hsub : ∀ i ∈ is, i ∈ vs) (q : rdV T EX B (vLc vs t it c e) σ H Q) : tLc (rdI T EX B it) gt (rdT T E0 B c) (rdV T E0 B e) vs σ H Q := by
  obtain ⟨G, env, S, o⟩ := q
  refine ⟨G, env, S, ?_⟩
  unfold vLc at o
  revert o
  cases it env with
  | err c => exact fun o => o
  | stuck => exact fun o => o
  | val ds =>
    intro o J G1 H1 s1 wk D hD
    dsimp only at o
    split at o
    rotate_left
    · exact o.elim
    rename_i hlen
    split at o
    rotate_left
    · exact o.elim
    rename_i total et
    have S1 := S.step s1
    have W1 := S1.wipe vs
    refine lc_it wk (fun i Hc => ∃ Gc acc ys zs, Step G1 H1 Gc Hc ∧ Hc D = some (.lst acc) ∧ Gc D = none ∧ DqAll Gc acc ys ∧ ys.length ≤ i ∧ lcGo t c e (wipeE env vs) (ds.drop i) = some zs ∧ ys ++ zs = total) ?_ ?_ ?_ ?_
    · exact ⟨G1, [], [], total, Step.apart S1.gh hD _, upd_same, same_none S1.gh hD, .nil, Nat.le_refl _, et, rfl⟩
    · rintro i Hc hi ⟨Gc, acc, ys, zs, st, _⟩
      exact st.gg.trans st.gh
    · rintro i x Hc H' hi ⟨Gc, acc, ys, zs, st, hDc, gD, dq, hyl, el, ez⟩ y
      obtain ⟨d, Gd, hd, sd, dx⟩ := y Gc st.gg st.gh
      have ed : ds.drop i = d :: ds.drop (i + 1) := by
        have hi' : i < ds.length := hi
        rw [List.drop_eq_getElem_cons hi']
        rw [List.getElem?_eq_getElem hi'] at hd
        cases hd; rfl
      rw [ed] at el
      obtain ⟨env', e1, hc⟩ := lcGo_cons el
      have sS : Sim T B Gd (wipeE env vs) (L2.wipe σ vs) H' := (W1.step st).step sd
      obtain ⟨gD', hD'⟩ := sd.own gD hDc
      refine hg sS dx e1 fun σ' S' hset => ⟨wipe_eq hset hsub, Gd, env', S', ?_⟩
      rcases hc with ⟨hc, y, zs', e3, e4, rfl⟩ | ⟨hc, e4⟩
      · rw [hc]
        intro G3 H3 s3
        refine iteT ⟨G3, env', S'.step s3, ?_⟩
        obtain ⟨gD3, hD3⟩ := s3.own gD' hD'
        have fin : ∀ v G4 H4, Step G3 H3 G4 H4 → Dq G4 v y → ∃ acc, H4 D = some (.lst acc) ∧ acc.length < sizeLine ∧ ∃ Gc acc' ys zs, Step G1 H1 Gc (upd H4 D (.lst (acc ++ [v]))) ∧ upd H4 D (.lst (acc ++ [v])) D = some (.lst acc') ∧ Gc D = none ∧ DqAll Gc acc' ys ∧ ys.length ≤ i + 1 ∧ lcGo t c e (wipeE env vs) (ds.drop (i + 1)) = some zs ∧ ys ++ zs = total := by
          intro v G4 H4 s4 dv
          obtain ⟨gD4, hD4⟩ := s4.own gD3 hD3
          have st4 := ((st.trans sd).trans s3).trans s4
          have dq4 := ((dq.mono sd.gg).mono s3.gg).mono s4.gg
          refine ⟨acc, hD4, by rw [dq.length]; exact gl_line (by omega), G4, acc ++ [v], ys ++ [y], zs', ⟨st4.hh.wr hD _ (by rw [hD4]; exact fun _ _ => lst_code), st4.gg, fun b u z => ?_, st4.nw, st4.nm⟩, upd_same, gD4, dq4.append (.cons dv .nil), ?_, e4, ?_⟩
          · rw [upd_ne (ne_of_none z gD4)]; exact st4.gh b u z
          · rw [List.length_append, List.length_singleton]; omega
          · rw [← ez, List.append_assoc]; rfl
        cases ee : e env' with
        | val w =>
          refine Out.fz fun v G4 H4 s4 dv => fin v G4 H4 s4 ?_
          rw [ee] at e3
          cases w with
          | sh d => cases e3; exact dv
          | ow ds => cases e3; exact dv
          | ob _ _ => cases e3
          | rg r =>
            have z := RD.fzv_of (r := r) (d := y) e3
            simp only [SV.fz, z] at dv
            exact dv
        | err _ => rw [ee] at e3; cases e3
        | stuck => rw [ee] at e3; cases e3
      · rw [hc]
        intro G3 H3 s3
        refine iteF ?_
        obtain ⟨gD3, hD3⟩ := s3.own gD' hD'
        exact ⟨G3, acc, ys, zs, (st.trans sd).trans s3, hD3, gD3, (dq.mono sd.gg).mono s3.gg, by omega, e4, ez⟩
    · rintro Hc ⟨Gc, acc, ys, zs, st, hDc, gD, dq, hyl, el, ez⟩
      rw [List.drop_length] at el
      cases el
      rw [List.append_nil] at ez
      subst ez
      exact o D acc Gc Hc (s1.trans st) (SameH.free s1.hh hD) gD hDc dq
/-- the tests of a clause: none, one -/
def VTs (X : Cx) (T : Ct) (B : Hp × Hp) (ifs : List Expr) (c : FE) : Prop := PTs X ifs (rdT T E0 B c)
theorem vts_nil : VTs X T B [] (vC (.bool true)) := ⟨fun pins s σ H Q I h => by
  obtain ⟨G, env, S, o⟩ := h
  exact pts_nil.run pins s σ H Q I (o G H (Step.refl S.gh))⟩
theorem vts_one {c : Expr} {f : FE} (h : VT X T E0 B c f) : VTs X T B [c] f := pts_one h
theorem ve_lc {elt iter : Expr} {ifs : List Expr} {scope : Scope} {own : List (Str × Nat)} {gt : TG} {is : List Nat} {t : Tg} {it : FI} {fc fe : FE} (C : Cv X T EX B) (hi : VI X T EX B tg iter it) (ok : BlkOk X.N X.env.scope scope own)
    (hr : TgRun T B gt is t) (hg : ∀ (s : Shared) (H : Hp) (C : Addr) (cl : List (Str × Addr)) (fp : List Addr), PG (X.blk s H scope (compEnvC scope cl C X.env) fp) tg gt) (ht : ∀ (s : Shared) (H : Hp) (C : Addr) (cl : List (Str × Addr)) (fp : List Addr), VTs (X.blk s H scope (compEnvC scope cl C X.env) fp) T B ifs fc)
    (he : ∀ (s : Shared) (H : Hp) (C : Addr) (cl : List (Str × Addr)) (fp : List Addr), VE (X.blk s H scope (compEnvC scope cl C X.env) fp) T E0 B elt fe) (hsub : ∀ i ∈ is, i ∈ own.map (·.2) := by decide) (hs : ∀ x, foldedSetIterable iter X.env x = pure x := by intro _; rfl) :
    VE X T EX B (.ListComp elt [⟨tg, iter, ifs, 0⟩] scope pos) (vLc (own.map (·.2)) t it fc fe) := by
  exact pe_weak (pe_lc C.calm C.nd hi ok hg ht he hs) fun σ H Q q => lc_use hr hsub q
end
end VL
namespace VL
open PySem L2
/-! ### statements -/
@[simp] def R.s (r : R) (k : SV → SR) : SR := match r with
  | .val v => k v
  | .err c => .err c
  | .stuck => .stuck
@[simp] def sNil : FS := fun env => .nx env
@[simp] def sSeq (s t : FS) : FS := fun env => match s env with
  | .nx e => t e
  | r => r
@[simp] def sExpr (f : FE) : FS := fun env => (f env).s fun _ => .nx env
@[simp] def sRet (f : FE) : FS := fun env => (f env).s fun v => .rt v
@[simp] def sRetN : FS := fun _ => .rt (.sh .none)
@[simp] def sRetO (i : Nat) : FS := fun env => match env[i]? with
  | some (some (.ow ds)) => .rt (.ow ds)
  | _ => .stuck
/-- a value that is never changed -/
@[simp] def sSet (i : Nat) (f : FE) : FS := fun env => (f env).s fun v => .nx (env.set i (some v.fz))
/-- a list of one's own -/
@[simp] def SV.fzR : SV → SV
  | .rg r => SV.fz (.rg r)
  | v => v
@[simp] def sOwn (i : Nat) (f : FE) : FS := fun env => (f env).s fun v => .nx (env.set i (some v.fzR))
@[simp] def sIf (c : FE) (s t : FS) : FS := fun env => match c env with
  | .val (.sh (.bool true)) => s env
  | .val (.sh (.bool false)) => t env
  | .err c => .err c
  | _ => .stuck
@[simp] def sFrz (i : Nat) (s : FS) : FS := fun env => match env[i]? with
  | some (some (.ow ds)) => s (env.set i (some (.sh (.list ds))))
  | _ => s env
def forL (t : Tg) (b : FS) : List D → VEnv → SR
  | [], env => .nx env
  | d :: r, env => match t d env with
    | none => .stuck
    | some env' => match b env' with
      | .nx e => forL t b r e
      | q => q
@[simp] def sFor (t : Tg) (it : FI) (b : FS) : FS := fun env => match it env with
  | .val ds => forL t b ds env
  | .err c => .err c
  | .stuck => .stuck
def sWhile : Nat → FE → FS → FS
  | 0, _, _ => fun _ => .stuck
  | n + 1, c, b => fun env => match c env with
    | .val (.sh (.bool true)) => (match b env with
      | .nx e => sWhile n c b e
      | q => q)
    | .val (.sh (.bool false)) => .nx env
    | .err c => .err c
    | _ => .stuck
section
variable {X : Cx} {T : Ct} {EX : XK} {B : Hp × Hp} {e a b c o tg : Expr} {es : List Expr} {pos p p2 : Pos} {f g h : FE} {fs : List FE} {G H G1 H1 : Hp} {Q : VK} {st : Stmt} {sts : List Stmt} {s t : FS} {D : Ends} {σ : L2.St} {env : VEnv}
theorem OutS.mono {r : SR} {D D' : Ends} (h : OutS T EX B r G D) (hn : ∀ σ H, D.nx σ H → D'.nx σ H) (hr : ∀ v H, D.rt v H → D'.rt v H) : OutS T EX B r G D' := by
  cases r with
  | nx e => exact fun G' σ' H' s S => hn _ _ (h G' σ' H' s S)
  | rt v => exact Out.mono h hr
  | err c => exact h
  | stuck => exact h
theorem OutS.step {r : SR} (h : OutS T EX B r G D) (s : Same G G1) : OutS T EX B r G1 D := by
  cases r with
  | nx e => exact fun G' σ' H' s' S => h G' σ' H' (s.trans s') S
  | rt v => exact h
  | err c => exact h
  | stuck => exact h
/-- a statement's expression -/
theorem seqS {k : SV → SR} {P : VK} (S : Sim T B G env σ H) (h : OutS T EX B ((f env).s k) G D) (hk : ∀ v, f env = .val v → OutS T EX B (k v) G D → Out T EX (.val v) G H P) : rdV T EX B f σ H P := by
  refine ⟨G, env, S, ?_⟩
  cases e : f env with
  | val v => rw [e] at h; exact hk v e h
  | err c => rw [e] at h; exact fun H' z => h H' (S.st.hh.trans z)
  | stuck => rw [e] at h; exact h
theorem vss_nil : VSs X T EX B [] sNil := pss_weak pss_nil fun D σ H q => by
  obtain ⟨G, env, S, o⟩ := q
  exact o G σ H (Same.refl _) S
theorem rdS_seq (q : rdS T EX B (sSeq s t) D σ H) : rdS T EX B s { D with nx := rdS T EX B t D } σ H := by
  obtain ⟨G, env, S, o⟩ := q
  refine ⟨G, env, S, ?_⟩
  unfold sSeq at o
  revert o
  cases s env with
  | nx e => exact fun o G' σ' H' sg S' => ⟨G', e, S', o.step sg⟩
  | rt v => exact fun o => o
  | err c => exact fun o => o
  | stuck => exact fun o => o
theorem vss_cons (h1 : VS X T EX B st s) (h2 : VSs X T EX B sts t) : VSs X T EX B (st :: sts) (sSeq s t) := pss_weak (pss_cons h1 h2) fun D σ H q => rdS_seq q
theorem vss_one (h1 : VS X T EX B st s) : VSs X T EX B [st] s := pss_one h1
theorem vs_pass : VS X T EX B (.Pass pos) sNil := ps_weak ps_pass fun D σ H q => by
  obtain ⟨G, env, S, o⟩ := q
  exact o G σ H (Same.refl _) S
theorem vs_expr (he : VE X T EX B e f) (hs : swapsWith e none pos.line X.env = pure false := by rfl) : VS X T EX B (.Expr e pos) (sExpr f) := ps_weak (ps_expr he hs) fun D σ H q => by
  obtain ⟨G, env, S, o⟩ := q
  exact seqS S o fun v _ o => Out.fz fun x G' H' s q => o G' σ H' s.gg (S.step s)
theorem vs_ret (he : VE X T EX B e f) : VS X T EX B (.Return (some e) pos) (sRet f) := ps_weak (ps_ret he) fun D σ H q => by
  obtain ⟨G, env, S, o⟩ := q
  exact seqS S o fun v _ o => Out.step o S.st
theorem vs_retN : VS X T EX B (.Return none pos) sRetN := ps_weak ps_retN fun D σ H q => by
  obtain ⟨G, env, S, o⟩ := q
  exact o .non G H S.st .non
theorem vs_retO (i : Nat) {x : Str} {px : Pos} (hN : X.N[i]? = some x := by rfl) (hv : Vis X.env.scope x := by first | exact Or.inl rfl | exact Or.inr (Or.inl rfl) | exact Or.inr (Or.inr rfl)) (hd : (x == ("__debug__" : Str)) = false := by decide) (hcd : (x == ("__classdict__" : Str)) = false := by decide) :
    VS X T EX B (.Return (some (.Name x px)) pos) (sRetO i) := ps_weak (ps_ret (pe_var hN hv hd hcd)) fun D σ H q => by
  obtain ⟨G, env, S, o⟩ := q
  unfold sRetO at o
  split at o
  · rename_i ds e
    obtain ⟨p, xs, h1, h2, h3, h4, h5⟩ := S.ow i ds e
    exact ⟨.ref p, h1, o p xs G H S.st h4 h3 h2 h5⟩
  · exact o.elim
theorem set_fz {v : SV} {i : Nat} (S : Sim T B G env σ H) (o : OutS T EX B (.nx (env.set i (some v.fz))) G D) : Out T EX (.val v) G H (fun x H1 => D.nx (σ.set i (some x)) H1) :=
  Out.fz fun x G' H' s q => by
    have S1 := S.step s
    cases v with
    | sh d => exact o G' _ H' s.gg (S1.setSh q)
    | ow ds => exact o G' _ H' s.gg (S1.setSh q)
    | ob c fs => exact o G' _ H' s.gg (S1.setOb q)
    | rg r =>
      revert o q
      generalize SV.fz (.rg r) = w
      intro o q
      cases w with
      | sh d => exact o G' _ H' s.gg (S1.setSh q)
      | ow ds => exact q.elim
      | rg _ => exact q.elim
      | ob c fs => exact o G' _ H' s.gg (S1.setOb q)
/-- no place of a thing of one's own is new -/
theorem newR_old {H' G' : Hp} {p : Addr} (S : Sim T B G env σ H) (s : Step G H G' H') (n : H p = none) {j : Nat} {r : RD} {v : V} {F : List Addr} (e : env[j]? = some (some (.rg r))) (w : σ[j]? = some (some v)) (q : RRp T G' H' F v r) : p ∉ F := by
  obtain ⟨u, v', F', a', b', c'⟩ := S.rg j r e
  rw [w] at a'; cases a'
  obtain ⟨_, k⟩ := s.keepS (fun a m => (b'.nw a m).1) (RRp.at r F' v b'.rp)
  rw [RRp.det r F' F v b'.rp q k]
  intro m
  obtain ⟨o, h, _⟩ := RRp.at r F' v b'.rp p m
  rw [n] at h; cases h
theorem set_ow {v : SV} {i : Nat} (S : Sim T B G env σ H) (o : OutS T EX B (.nx (env.set i (some v.fzR))) G D) : Out T EX (.val v) G H (fun x H1 => D.nx (σ.set i (some x)) H1) := by
  cases v with
  | rg r => exact set_fz S o
  | sh d => exact fun x G' H' s q => o G' _ H' s.gg ((S.step s).setSh q)
  | ob c fs => exact fun x G' H' s q => o G' _ H' s.gg ((S.step s).setOb q)
  | ow ds =>
    intro p xs G' H' s n1 n2 ep q
    refine o G' _ H' s.gg ((S.step s).setOw (SameH.free S.st.hh n1) n2 ep q (fun j es z _ w => ?_) fun j r v F z _ w y => newR_old S s n1 z w y)
    obtain ⟨p', ys, h1, h2, _⟩ := S.ow j es z
    rw [w] at h1; cases h1
    rw [n1] at h2; cases h2
theorem vs_set (i : Nat) {x : Str} {pos' : Pos} (C : Cv X T EX B) (he : VE X T EX B e f) (hi : X.N[i]? = some x := by rfl) (hx : Loc X.env.scope x := by first | exact .inl rfl | exact .inr rfl) (hs : swapsWith e (some (.Name x pos')) pos.line X.env = pure false := by rfl) (hf : X.fn x = true ∨ X.env.scope.names.lookup x = some .local := by first | exact .inl rfl | exact .inr rfl) :
    VS X T EX B (.Assign [.Name x pos'] e pos) (sSet i f) := ps_weak (ps_set C.nd hi hx he hs hf) fun D σ H q => by
  obtain ⟨G, env, S, o⟩ := q
  exact seqS S o fun v _ o => set_fz S o
theorem vs_own (i : Nat) {x : Str} {pos' : Pos} (C : Cv X T EX B) (he : VE X T EX B e f) (hi : X.N[i]? = some x := by rfl) (hx : Loc X.env.scope x := by first | exact .inl rfl | exact .inr rfl) (hs : swapsWith e (some (.Name x pos')) pos.line X.env = pure false := by rfl) (hf : X.fn x = true ∨ X.env.scope.names.lookup x = some .local := by first | exact .inl rfl | exact .inr rfl) :
    VS X T EX B (.Assign [.Name x pos'] e pos) (sOwn i f) := ps_weak (ps_set C.nd hi hx he hs hf) fun D σ H q => by
  obtain ⟨G, env, S, o⟩ := q
  exact seqS S o fun v _ o => set_ow S o
/-- x = [.. for ..] on one line -/
theorem vs_setLc (i : Nat) {y : Str} {py : Pos} {elt iter : Expr} {ifs : List Expr} {scope : Scope} {own : List (Str × Nat)} {spos : Pos} {gt : TG} {is : List Nat} {tt : Tg} {it : FI} {fc fe : FE} (C : Cv X T EX B)
    (hi : VI X T EX B tg iter it) (ok : BlkOk X.N X.env.scope scope own) (hr : TgRun T B gt is tt)
    (hg : ∀ (s : Shared) (H : Hp) (C : Addr) (cl : List (Str × Addr)) (fp : List Addr), PG (X.blk s H scope (compEnvC scope cl C X.env) fp) tg gt) (ht : ∀ (s : Shared) (H : Hp) (C : Addr) (cl : List (Str × Addr)) (fp : List Addr), VTs (X.blk s H scope (compEnvC scope cl C X.env) fp) T B ifs fc)
    (he : ∀ (s : Shared) (H : Hp) (C : Addr) (cl : List (Str × Addr)) (fp : List Addr), VE (X.blk s H scope (compEnvC scope cl C X.env) fp) T E0 B elt fe) (hsub : ∀ i ∈ is, i ∈ own.map (·.2) := by decide) (hs : ∀ x, foldedSetIterable iter X.env x = pure x := by intro _; rfl)
    (hy : X.N[i]? = some y := by rfl) (hyl : X.env.scope.names.lookup y = some .local := by rfl) (hsw : swapsWith (.ListComp elt [⟨tg, iter, ifs, 0⟩] scope pos) (some (.Name y py)) spos.line X.env = pure true := by exact sw_true rfl rfl rfl (by decide +kernel)) :
    VS X T EX B (.Assign [.Name y py] (.ListComp elt [⟨tg, iter, ifs, 0⟩] scope pos) spos) (sSet i (vLc (own.map (·.2)) tt it fc fe)) := ps_weak (ps_setLc C.calm C.nd hy hyl hsw hi ok hg ht he hs) fun D σ H q => by
  obtain ⟨G, env, S, o⟩ := q
  exact lc_use hr hsub (seqS S o fun v _ o => set_fz S o)
theorem vs_ownLc (i : Nat) {y : Str} {py : Pos} {elt iter : Expr} {ifs : List Expr} {scope : Scope} {own : List (Str × Nat)} {spos : Pos} {gt : TG} {is : List Nat} {tt : Tg} {it : FI} {fc fe : FE} (C : Cv X T EX B)
    (hi : VI X T EX B tg iter it) (ok : BlkOk X.N X.env.scope scope own) (hr : TgRun T B gt is tt)
    (hg : ∀ (s : Shared) (H : Hp) (C : Addr) (cl : List (Str × Addr)) (fp : List Addr), PG (X.blk s H scope (compEnvC scope cl C X.env) fp) tg gt) (ht : ∀ (s : Shared) (H : Hp) (C : Addr) (cl : List (Str × Addr)) (fp : List Addr), VTs (X.blk s H scope (compEnvC scope cl C X.env) fp) T B ifs fc)
    (he : ∀ (s : Shared) (H : Hp) (C : Addr) (cl : List (Str × Addr)) (fp : List Addr), VE (X.blk s H scope (compEnvC scope cl C X.env) fp) T E0 B elt fe) (hsub : ∀ i ∈ is, i ∈ own.map (·.2) := by decide) (hs : ∀ x, foldedSetIterable iter X.env x = pure x := by intro _; rfl)
    (hy : X.N[i]? = some y := by rfl) (hyl : X.env.scope.names.lookup y = some .local := by rfl) (hsw : swapsWith (.ListComp elt [⟨tg, iter, ifs, 0⟩] scope pos) (some (.Name y py)) spos.line X.env = pure true := by exact sw_true rfl rfl rfl (by decide +kernel)) :
    VS X T EX B (.Assign [.Name y py] (.ListComp elt [⟨tg, iter, ifs, 0⟩] scope pos) spos) (sOwn i (vLc (own.map (·.2)) tt it fc fe)) := ps_weak (ps_setLc C.calm C.nd hy hyl hsw hi ok hg ht he hs) fun D σ H q => by
  obtain ⟨G, env, S, o⟩ := q
  exact lc_use hr hsub (seqS S o fun v _ o => set_ow S o)
theorem rdS_if (q : rdS T EX B (sIf h s t) D σ H) : rdT T EX B h σ H (fun b H1 => if b = true then rdS T EX B s D σ H1 else rdS T EX B t D σ H1) := by
  obtain ⟨G, env, S, o⟩ := q
  refine ⟨G, env, S, ?_⟩
  unfold sIf at o
  split at o
  · rename_i e
    rw [e]; exact fun G' H' s' => iteT ⟨G', env, S.step s', o.step s'.gg⟩
  · rename_i e
    rw [e]; exact fun G' H' s' => iteF ⟨G', env, S.step s', o.step s'.gg⟩
  · rename_i c e
    rw [e]; exact fun H' z => o H' (S.st.hh.trans z)
  · exact o.elim
theorem vs_if {sa sb : List Stmt} (hc : VT X T EX B c h) (ha : VSs X T EX B sa s) (hb : VSs X T EX B sb t) : VS X T EX B (.If c sa sb pos) (sIf h s t) := ps_weak (ps_if hc ha hb) fun D σ H q => rdS_if q
theorem vs_frz (i : Nat) (h : VS X T EX B st s) : VS X T EX B st (sFrz i s) := ps_weak h fun D σ H q => by
  obtain ⟨G, env, S, o⟩ := q
  unfold sFrz at o
  split at o
  · rename_i ds e
    obtain ⟨G', sg, S'⟩ := S.frz e
    exact ⟨G', _, S', o.step sg⟩
  · exact ⟨G, env, S, o⟩
theorem vs_for {body : List Stmt} {gt : TG} {is : List Nat} {tt : Tg} {it : FI} (C : Cv X T EX B) (po : PassesOwn (model X.prog X.w) X.A X.env X.xe) (hi : VI X T EX B tg a it) (hr : TgRun T B gt is tt) (hg : PG X tg gt) (hb : VSs X T EX B body s) (hs : ∀ x, foldedSetIterable a X.env x = pure x := by intro _; rfl) :
    VS X T EX B (.For tg a body [] pos) (sFor tt it s) := ps_weak (ps_for po C.calm hi hg hb hs) fun D σ H q => by
  obtain ⟨G, env, S, o⟩ := q
  refine ⟨G, env, S, ?_⟩
  unfold sFor at o
  revert o
  cases it env with
  | err c => exact fun o H' z => o H' (S.st.hh.trans z)
  | stuck => exact fun o => o
  | val ds =>
    intro o J G1 H1 s1 wk
    dsimp only at o
    refine for_it wk (fun i σ H => ∃ Gc env', Sim T B Gc env' σ H ∧ Same G1 Gc ∧ OutS T EX B (forL tt s (ds.drop i) env') Gc D) ⟨G1, env, S.step s1, Same.refl _, o.step s1.gg⟩ ?_ ?_ ?_
    · rintro i σ H _ ⟨Gc, env', S', sg, _⟩
      exact sg.trans S'.gh
    · rintro i x σ Hc H' hi ⟨Gc, env', S', sg, o'⟩ y
      obtain ⟨d, Gd, hd, sd, dx⟩ := y Gc sg S'.gh
      have ed : ds.drop i = d :: ds.drop (i + 1) := by
        have hi' : i < ds.length := hi
        rw [List.drop_eq_getElem_cons hi']
        rw [List.getElem?_eq_getElem hi'] at hd
        cases hd; rfl
      rw [ed] at o'
      unfold forL at o'
      split at o'
      · exact o'.elim
      · rename_i env2 e2
        refine hr (S'.step sd) dx e2 fun σ2 S2 _ => ⟨Gd, env2, S2, ?_⟩
        revert o'
        cases s env2 with
        | nx e3 => exact fun o' G' σ' H' sg' S3 => ⟨G', e3, S3, (sg.trans sd.gg).trans sg', o'.step (sd.gg.trans sg')⟩
        | rt v => exact fun o' => o'
        | err c => exact fun o' => o'
        | stuck => exact fun o' => o'
    · rintro σ H ⟨Gc, env', S', sg, o'⟩
      rw [List.drop_length] at o'
      exact o' Gc σ H (Same.refl _) S'
theorem vs_while {body : List Stmt} (n : Nat) (po : PassesOwn (model X.prog X.w) X.A X.env X.xe) (hc : VT X T EX B c h) (hb : VSs X T EX B body s) : VS X T EX B (.While c body [] pos) (sWhile n h s) := ps_weak (ps_while po hc hb) fun D σ H q => by
  obtain ⟨G, env, S, o⟩ := q
  refine ⟨fun m σ H => ∃ G env, Sim T B G env σ H ∧ OutS T EX B (sWhile m h s env) G D, ⟨n, G, env, S, o⟩, ?_⟩
  rintro m σ H ⟨G, env, S, o⟩
  refine ⟨G, env, S, ?_⟩
  cases m with
  | zero => exact o.elim
  | succ m =>
    unfold sWhile at o
    split at o
    · rename_i e
      rw [e]
      intro G' H' s'
      refine iteT ⟨fun σ H => ∃ G env, Sim T B G env σ H ∧ OutS T EX B (sWhile m h s env) G D, fun σ' H' z => ⟨m, Nat.lt_succ_self _, z⟩, G', env, S.step s', ?_⟩
      have o' := o.step s'.gg
      revert o'
      cases s env with
      | nx e3 => exact fun o' G2 σ2 H2 sg S3 => ⟨G2, e3, S3, o'.step sg⟩
      | rt v => exact fun o' => o'
      | err c => exact fun o' => o'
      | stuck => exact fun o' => o'
    · rename_i e
      rw [e]
      exact fun G' H' s' => iteF (o G' σ H' s'.gg (S.step s'))
    · rename_i c e
      rw [e]; exact fun H' z => o H' (S.st.hh.trans z)
    · exact o.elim
end
end VL
namespace VL
open PySem L2
/-! ### a list of one's own: changed, read -/
@[simp] def sApp (i : Nat) (f : FE) : FS := fun env => match env[i]? with
  | some (some (.ow ds)) => (match evA [f] env with
    | .val [.sh d] => if ds.length ≤ 1000000 then .nx (env.set i (some (.ow (ds ++ [d])))) else .stuck
    | .err c => .err c
    | _ => .stuck)
  | _ => .stuck
@[simp] def sExt (i : Nat) (f : FE) : FS := fun env => match env[i]? with
  | some (some (.ow ds)) => (match evA [f] env with
    | .val [.sh (.list es)] => if ds.length + es.length ≤ 1000000 then .nx (env.set i (some (.ow (ds ++ es)))) else .stuck
    | .err c => .err c
    | _ => .stuck)
  | _ => .stuck
/-- x = y.pop() -/
@[simp] def sPop (i j : Nat) : FS := fun env => match env[j]? with
  | some (some (.ow ds)) => (match ds.getLast? with
    | some d => .nx ((env.set j (some (.ow ds.dropLast))).set i (some (.sh d)))
    | none => .stuck)
  | _ => .stuck
/-- y.pop() -/
@[simp] def sPopN (j : Nat) : FS := fun env => match env[j]? with
  | some (some (.ow ds)) => (match ds.getLast? with
    | some d => .nx (env.set j (some (.ow ds.dropLast)))
    | none => .stuck)
  | _ => .stuck
/-- xs[k] = e -/
@[simp] def sPut (i : Nat) (g f : FE) : FS := fun env => match env[i]? with
  | some (some (.ow ds)) => (f env).s fun v => match v.fz with
    | .sh d => (match g env with
      | .val (.sh (.int k)) => (match ixN ds.length k with
        | some j => .nx (env.set i (some (.ow (ds.set j d))))
        | none => .stuck)
      | .err c => .err c
      | _ => .stuck)
    | _ => .stuck
  | _ => .stuck
def vLenO (i : Nat) : FE := fun env => match env[i]? with
  | some (some (.ow ds)) => ri ds.length
  | _ => .stuck
def vIxO (i : Nat) (g : FE) : FE := fun env => match env[i]? with
  | some (some (.ow ds)) => (g env).d fun y => fIx (.list ds) y
  | _ => .stuck
/-- xs == [], xs != [] -/
def vNilO (k : Bool) (i : Nat) : FE := fun env => match env[i]? with
  | some (some (.ow ds)) => rb (k ^^ ds.isEmpty)
  | _ => .stuck
@[simp] def sAdd (i : Nat) (f : FE) : FS := fun env => match env[i]? with
  | some (some (.sh (.int x))) => (match f env with
    | .val (.sh (.int y)) => .nx (env.set i (some (.sh (.int (x + y)))))
    | .err c => .err c
    | _ => .stuck)
  | _ => .stuck
section
variable {X : Cx} {T : Ct} {EX : XK} {B : Hp × Hp} {e a b c o tg : Expr} {es : List Expr} {pos p p2 : Pos} {f g h : FE} {fs : List FE} {G H G1 H1 : Hp} {Q : VK} {st : Stmt} {sts : List Stmt} {s t : FS} {D : Ends} {σ : L2.St} {env : VEnv}
/-- extend by a list that may be locked -/
def rExtR : V → List V → Hp → VK → Prop := fun x vs H Q => ∃ l b xs zs, x = .ref l ∧ vs = [.ref b] ∧ H l = some (.lst xs) ∧ SqL [] H b zs ∧ xs.length + zs.length ≤ sizeLine ∧ Q .non (upd H l (.lst (xs ++ zs)))
theorem mt_extR : MtM X "list.extend" rExtR := by
  intro pins s σ H x vs v us Q I rx rv h
  obtain ⟨l, b, xs, zs, rfl, rfl, hH, hB, hz, q⟩ := h
  cases rx
  obtain ⟨u, rfl, ru⟩ := rv.one
  cases ru
  obtain ⟨z, its, n, r, hl, e⟩ := I.lstM hH
  obtain ⟨z2, its2, n2, r2, hl2, e2⟩ := rd_lst I hB
  have hsz : its.toArray.size + its2.toArray.size ≤ sizeLine := by rw [List.size_toArray, List.size_toArray]; omega
  have hlong : ¬ (!its.toArray.isEmpty && Builtin.List.listTooLong (its.toArray.size + its2.toArray.size)) = true := by
    rw [notLongL hsz, Bool.and_false]
    exact Bool.false_ne_true
  refine call_meets F.slot_list_extend ⟨_, e, rfl⟩ F.entry_list_extend (F.args_list_extend_2 _ _)
    (AutoSeq1.list_extend_list_list_0 l its.toArray n b its2.toArray n2 hlong (by rw [List.size_toArray]; omega) (by omega)) ⟨e, e2, ?_⟩
  refine ⟨.non, _, I.lset (its' := its ++ its2) hH e (by simp) (r.append r2) ?_, rfl, q⟩
  rw [List.length_append]
  omega
/-- one argument, then the list is changed -/
theorem args1 {K : SV → SR} {P : List V → Hp → Prop} (S : Sim T B G env σ H) (h : OutS T EX B (match evA [f] env with | .val [d] => K d | .err c => .err c | _ => .stuck) G D)
    (hk : ∀ a v G1 H1, Step G H G1 H1 → VRp T G1 v a → Sim T B G1 env σ H1 → OutS T EX B (K a) G1 D → P [v] H1) : rdA T EX B [f] σ H P := by
  refine ⟨G, env, S, ?_⟩
  revert h
  cases evA [f] env with
  | val as =>
    intro h vs G' H' s' q
    split at h
    · rename_i d e
      cases e
      cases q with
      | cons h1 t =>
        cases t
        exact hk d _ G' H' s' h1 (S.step s') (h.step s'.gg)
    · rename_i e; cases e
    · exact h.elim
  | err c => exact fun h H' z => h H' (S.st.hh.trans z)
  | stuck => exact fun h => h
theorem vs_app (i : Nat) {x : Str} {px apos cpos : Pos} (he : VE X T EX B e f) (hN : X.N[i]? = some x := by rfl) (hv : Vis X.env.scope x := by first | exact Or.inl rfl | exact Or.inr (Or.inl rfl) | exact Or.inr (Or.inr rfl)) (hd : (x == ("__debug__" : Str)) = false := by decide) (hcd : (x == ("__classdict__" : Str)) = false := by decide)
    (hline : (apos.endLine == cpos.line) = true := by rfl) (hs : starEach [e] X.env = [(false, eval e X.env)] := by rfl) :
    VS X T EX B (.Expr (.Call (.Attribute (.Name x px) "append" apos) [e] [] cpos) pos) (sApp i f) := by
  refine ps_weak (ps_expr (pe_bm PySem.F.plainAttrs_list PySem.F.slot_list_append PySem.F.type_list_append mt_append (pe_var hN hv hd hcd) (va_cons he va_nil hs) rfl (by rw [hs]; rfl) hline hs rfl) rfl) fun D σ H q => ?_
  obtain ⟨G, env, S, o⟩ := q
  unfold sApp at o
  split at o
  · rename_i ds ei
    obtain ⟨p, xs, h1, h2, h3, h4, h5⟩ := S.ow i ds ei
    refine ⟨.ref p, h1, .inl ⟨rfl, xs, SqL.of h2⟩, args1 (D := D) (K := fun a => match a with | .sh d => if ds.length ≤ 1000000 then .nx (env.set i (some (.ow (ds ++ [d])))) else .stuck | _ => .stuck) S ?_ fun a v G1 H1 s1 rp S1 o1 => ?_⟩
    · revert o
      cases evA [f] env with
      | val as =>
        cases as with
        | nil => exact fun o => o
        | cons a r =>
          cases r with
          | nil => cases a <;> exact fun o => o
          | cons _ _ => exact fun o => by cases a <;> exact o
      | err c => exact fun o => o
      | stuck => exact fun o => o
    · cases a with
      | sh d =>
        dsimp only at o1
        split at o1
        · rename_i hl
          obtain ⟨h3', h2'⟩ := s1.own h3 h2
          have h5' := h5.mono s1.gg
          refine ⟨p, xs, v, rfl, rfl, h2', by rw [h5.length]; exact gl_line hl, o1 G1 σ _ (Same.refl _) (S1.write ei h1 (h5'.append (.cons rp .nil)))⟩
        · exact o1.elim
      | ow _ => exact o1.elim
      | ob _ _ => exact o1.elim
      | rg _ => exact o1.elim
  · exact o.elim
theorem vs_ext (i : Nat) {x : Str} {px apos cpos : Pos} (he : VE X T EX B e f) (hN : X.N[i]? = some x := by rfl) (hv : Vis X.env.scope x := by first | exact Or.inl rfl | exact Or.inr (Or.inl rfl) | exact Or.inr (Or.inr rfl)) (hd : (x == ("__debug__" : Str)) = false := by decide) (hcd : (x == ("__classdict__" : Str)) = false := by decide)
    (hline : (apos.endLine == cpos.line) = true := by rfl) (hs : starEach [e] X.env = [(false, eval e X.env)] := by rfl) :
    VS X T EX B (.Expr (.Call (.Attribute (.Name x px) "extend" apos) [e] [] cpos) pos) (sExt i f) := by
  refine ps_weak (ps_expr (pe_bm PySem.F.plainAttrs_list PySem.F.slot_list_extend PySem.F.type_list_extend mt_extR (pe_var hN hv hd hcd) (va_cons he va_nil hs) rfl (by rw [hs]; rfl) hline hs rfl) rfl) fun D σ H q => ?_
  obtain ⟨G, env, S, o⟩ := q
  unfold sExt at o
  split at o
  · rename_i ds ei
    obtain ⟨p, xs, h1, h2, h3, h4, h5⟩ := S.ow i ds ei
    refine ⟨.ref p, h1, .inl ⟨rfl, xs, SqL.of h2⟩, args1 (D := D) (K := fun a => match a with | .sh (.list es) => if ds.length + es.length ≤ 1000000 then .nx (env.set i (some (.ow (ds ++ es)))) else .stuck | _ => .stuck) S ?_ fun a v G1 H1 s1 rp S1 o1 => ?_⟩
    · revert o
      cases evA [f] env with
      | val as =>
        cases as with
        | nil => exact fun o => o
        | cons a r =>
          cases r with
          | nil =>
            cases a with
            | sh d => cases d <;> exact fun o => o
            | ow _ => exact fun o => o
            | ob _ _ => exact fun o => o
            | rg _ => exact fun o => o
          | cons _ _ =>
            cases a with
            | sh d => cases d <;> exact fun o => o
            | ow _ => exact fun o => o
            | ob _ _ => exact fun o => o
            | rg _ => exact fun o => o
      | err c => exact fun o => o
      | stuck => exact fun o => o
    · split at o1
      · split at o1
        · rename_i hl
          obtain ⟨h3', h2'⟩ := s1.own h3 h2
          have h5' := h5.mono s1.gg
          obtain ⟨l2, zs, rfl, sq, q2⟩ := Dq.lstH rp S1.gh
          refine ⟨p, l2, xs, zs, rfl, rfl, h2', sq, by rw [h5.length, q2.length]; exact Nat.le_of_lt (gl_line hl), o1 G1 σ _ (Same.refl _) (S1.write ei h1 (h5'.append q2))⟩
        · exact o1.elim
      · exact o1.elim
  · exact o.elim
theorem dq_last {ds : List VL.D} {xs : List V} {d : VL.D} (q : DqAll G xs ds) (h : ds.getLast? = some d) : ∃ y, xs[xs.length - 1]? = some y ∧ Dq G y d := by
  rw [List.getLast?_eq_getElem?] at h
  rw [q.length]
  exact q.get h
theorem dq_dropLast {ds : List VL.D} {xs : List V} (q : DqAll G xs ds) : DqAll G xs.dropLast ds.dropLast := by
  rw [List.dropLast_eq_take, List.dropLast_eq_take, q.length]
  exact q.take _
theorem vs_pop (i j : Nat) {x y : Str} {px py apos cpos : Pos} (C : Cv X T EX B) (hN : X.N[j]? = some x := by rfl) (hv : Vis X.env.scope x := by first | exact Or.inl rfl | exact Or.inr (Or.inl rfl) | exact Or.inr (Or.inr rfl)) (hd : (x == ("__debug__" : Str)) = false := by decide) (hcd : (x == ("__classdict__" : Str)) = false := by decide)
    (hline : (apos.endLine == cpos.line) = true := by rfl) (hi : X.N[i]? = some y := by rfl) (hx : Loc X.env.scope y := by first | exact .inl rfl | exact .inr rfl) (hf : X.fn y = true ∨ X.env.scope.names.lookup y = some .local := by first | exact .inl rfl | exact .inr rfl) :
    VS X T EX B (.Assign [.Name y py] (.Call (.Attribute (.Name x px) "pop" apos) [] [] cpos) pos) (sPop i j) := by
  refine ps_weak (ps_set C.nd hi hx (pe_bm0 PySem.F.plainAttrs_list PySem.F.slot_list_pop PySem.F.type_list_pop mt_pop (pe_var hN hv hd hcd) rfl hline) rfl hf) fun D σ H q => ?_
  obtain ⟨G, env, S, o⟩ := q
  unfold sPop at o
  split at o
  · rename_i ds ei
    split at o
    · rename_i d hd
      obtain ⟨p, xs, h1, h2, h3, h4, h5⟩ := S.ow j ds ei
      obtain ⟨y, hy, dy⟩ := dq_last h5 hd
      have S1 := S.write ei h1 (dq_dropLast h5)
      exact ⟨.ref p, h1, .inl ⟨rfl, xs, SqL.of h2⟩, p, xs, y, rfl, rfl, h2, hy, o G _ _ (Same.refl _) (S1.setSh dy)⟩
    · exact o.elim
  · exact o.elim
theorem vs_popN (j : Nat) {x : Str} {px apos cpos : Pos} (hN : X.N[j]? = some x := by rfl) (hv : Vis X.env.scope x := by first | exact Or.inl rfl | exact Or.inr (Or.inl rfl) | exact Or.inr (Or.inr rfl)) (hd : (x == ("__debug__" : Str)) = false := by decide) (hcd : (x == ("__classdict__" : Str)) = false := by decide)
    (hline : (apos.endLine == cpos.line) = true := by rfl) : VS X T EX B (.Expr (.Call (.Attribute (.Name x px) "pop" apos) [] [] cpos) pos) (sPopN j) := by
  refine ps_weak (ps_expr (pe_bm0 PySem.F.plainAttrs_list PySem.F.slot_list_pop PySem.F.type_list_pop mt_pop (pe_var hN hv hd hcd) rfl hline) rfl) fun D σ H q => ?_
  obtain ⟨G, env, S, o⟩ := q
  unfold sPopN at o
  split at o
  · rename_i ds ei
    split at o
    · rename_i d hd
      obtain ⟨p, xs, h1, h2, h3, h4, h5⟩ := S.ow j ds ei
      obtain ⟨y, hy, dy⟩ := dq_last h5 hd
      have S1 := S.write ei h1 (dq_dropLast h5)
      exact ⟨.ref p, h1, .inl ⟨rfl, xs, SqL.of h2⟩, p, xs, y, rfl, rfl, h2, hy, o G _ _ (Same.refl _) S1⟩
    · exact o.elim
  · exact o.elim
theorem DqAll.set : ∀ {ds : List VL.D} {xs : List V} {v : V} {d : VL.D} (j : Nat), DqAll G xs ds → Dq G v d → DqAll G (xs.set j v) (ds.set j d)
  | [], _, _, _, _, q, _ => by rw [q.inv0]; exact .nil
  | _ :: _, _, _, _, 0, q, h => by
    obtain ⟨v, vs, rfl, q1, q2⟩ := q.inv
    exact .cons h q2
  | _ :: _, _, _, _, j + 1, q, h => by
    obtain ⟨v, vs, rfl, q1, q2⟩ := q.inv
    exact .cons q1 (q2.set j h)
theorem vs_put (i : Nat) {x : Str} {px tpos : Pos} (hg : VE X T EX B b g) (he : VE X T EX B e f) (hN : X.N[i]? = some x := by rfl) (hv : Vis X.env.scope x := by first | exact Or.inl rfl | exact Or.inr (Or.inl rfl) | exact Or.inr (Or.inr rfl)) (hd : (x == ("__debug__" : Str)) = false := by decide) (hcd : (x == ("__classdict__" : Str)) = false := by decide)
    (hpg : ∀ {to ti : TE}, PE X (.Name x px) to → PE X b ti → PG X (.Subscript (.Name x px) b tpos) (gSub to ti rSetL) := by intro to ti h1 h2; exact pg_sub h1 h2 set_list)
    (hs : swapsWithSole [.Subscript (.Name x px) b tpos] e pos.line X.env = pure false := by rfl) (hw : swappedStores [.Subscript (.Name x px) b tpos] e X.env = pure none := by rfl) :
    VS X T EX B (.Assign [.Subscript (.Name x px) b tpos] e pos) (sPut i g f) := by
  refine ps_weak (ps_asg he (hpg (pe_var hN hv hd hcd) hg) hs hw) fun D σ H q => ?_
  obtain ⟨G, env, S, o⟩ := q
  unfold sPut at o
  split at o
  rotate_left
  · exact o.elim
  rename_i ds ei
  refine seqS S o fun v ev o => Out.fz fun x G' H' s rp => ?_
  have S1 := S.step s
  have o := o.step s.gg
  split at o
  · rename_i d ed
    rw [ed] at rp
    obtain ⟨p, xs, h1, h2, h3, h4, h5⟩ := S1.ow i ds ei
    refine ⟨.ref p, h1, G', env, S1, ?_⟩
    split at o
    · rename_i k eg
      split at o
      · rename_i j ej
        rw [eg]
        intro w G2 H2 s2 dw
        obtain ⟨h3', h2'⟩ := s2.own h3 h2
        refine ⟨p, xs, k, j, rfl, Dq.intInv dw, h2', by rw [h5.length]; exact ej, ?_⟩
        exact o G2 σ _ s2.gg ((S1.step s2).write ei h1 (DqAll.set j (h5.mono s2.gg) (Dq.mono rp s2.gg)))
      · exact o.elim
    · rename_i c eg
      rw [eg]
      exact fun H2 z => o H2 (S1.st.hh.trans z)
    · exact o.elim
  · exact o.elim

/-! ### reading a list of one's own -/
theorem ve_lenO (i : Nat) {x : Str} {px : Pos} (t : Bt X "len") (hN : X.N[i]? = some x := by rfl) (hv : Vis X.env.scope x := by first | exact Or.inl rfl | exact Or.inr (Or.inl rfl) | exact Or.inr (Or.inr rfl)) (hd : (x == ("__debug__" : Str)) = false := by decide) (hcd : (x == ("__classdict__" : Str)) = false := by decide) :
    VE X T EX B (.Call (.Name "len" p) [.Name x px] [] pos) (vLenO i) := pe_weak (pe_callB call_len_seq t.gl t.mg PySem.boot_len (pa_cons (pe_var hN hv hd hcd) pa_nil rfl) (by decide) (by decide) rfl rfl) fun σ H Q q => by
  obtain ⟨G, env, S, o⟩ := q
  unfold vLenO at o
  split at o
  · rename_i ds e
    obtain ⟨p, xs, h1, h2, h3, h4, h5⟩ := S.ow i ds e
    exact ⟨.ref p, h1, p, xs, rfl, .inl (SqL.of h2), by rw [h5.length]; exact o.ri S.gh⟩
  · exact o.elim
theorem ve_ixO (i : Nat) {x : Str} {px : Pos} (hb : VE X T EX B b g) (hN : X.N[i]? = some x := by rfl) (hv : Vis X.env.scope x := by first | exact Or.inl rfl | exact Or.inr (Or.inl rfl) | exact Or.inr (Or.inr rfl)) (hd : (x == ("__debug__" : Str)) = false := by decide) (hcd : (x == ("__classdict__" : Str)) = false := by decide) (hs : PlainIx b := by intro _ _; rfl) :
    VE X T EX B (.Subscript (.Name x px) b pos) (vIxO i g) := pe_weak (pe_ix ix_list (pe_var hN hv hd hcd) hb hs) fun σ H Q q => by
  obtain ⟨G, env, S, o⟩ := q
  unfold vIxO at o
  split at o
  · rename_i ds e
    obtain ⟨p, xs, h1, h2, h3, h4, h5⟩ := S.ow i ds e
    refine ⟨.ref p, h1, rdV_mono (seqD S o) fun y H1 ⟨dy, G1, s1, hy, S1, o1⟩ => ?_⟩
    obtain ⟨h3', h2'⟩ := s1.own h3 h2
    unfold fIx at o1
    split at o1
    · rename_i z; cases z
    · rename_i ds' k z
      cases z
      rw [hy.intInv]
      split at o1
      · rename_i d ed
        obtain ⟨v, e1, d1⟩ := (h5.mono s1.gg).atI ed
        exact ⟨p, xs, k, v, rfl, rfl, SqL.of h2', e1, o1.ok S1.gh d1⟩
      · exact o1.elim
    · exact o1.elim
  · exact o.elim
theorem eqv_nil : ∀ ds : List VL.D, PyData.eqv (.list ds) (.list []) = ds.isEmpty
  | [] => by simp only [PyData.eqv, PyData.eqvAll, List.isEmpty_nil]
  | d :: r => by simp only [PyData.eqv, PyData.eqvAll, List.isEmpty_cons]
theorem nil_prim {k : Bool} {i : Nat} (op : CmpOp) (ho : OpR X (compareOp op) (rEqQ k)) (S : Sim T B G env σ H) (o : Out T EX (vNilO k i env) G H Q) : ∃ v, σ[i]? = some (some v) ∧ (0 ≤ sizeLine ∧ ∀ p, H p = none → rEqQ k v (.ref p) (upd H p (.lst [])) Q) := by
  unfold vNilO at o
  split at o
  · rename_i ds e
    obtain ⟨p, xs, h1, h2, h3, h4, h5⟩ := S.ow i ds e
    refine ⟨.ref p, h1, Nat.zero_le _, fun q hq => ⟨.list ds, .list [], Dq.lst (SqL.of ?_) (h5.mono (S.gh.trans (same_upd hq _))), Dq.lst (SqL.of upd_same) .nil, ?_, ?_⟩⟩
    · rw [upd_ne (ne_of_none h2 hq)]; exact h2
    · simp only [PyData.depth, PyData.depthAll]; omega
    · rw [eqv_nil]
      exact o (.bl _) G _ ⟨.of (same_upd hq _), Same.refl _, S.gh.trans (same_upd hq _), fun _ a b => absurd a b, fun n => n⟩ .bl
  · exact o.elim
theorem ve_neO (i : Nat) {x : Str} {px lp : Pos} (C : Cv X T EX B) (hN : X.N[i]? = some x := by rfl) (hv : Vis X.env.scope x := by first | exact Or.inl rfl | exact Or.inr (Or.inl rfl) | exact Or.inr (Or.inr rfl)) (hd : (x == ("__debug__" : Str)) = false := by decide) (hcd : (x == ("__classdict__" : Str)) = false := by decide) :
    VE X T EX B (.Compare (.Name x px) [.NotEq] [.List [] lp] pos) (vNilO true i) := pe_weak (pe_cmpR (op_neQ C.un) (pe_var hN hv hd hcd) (pe_lst pa_nil) (nomark _)) fun σ H Q q => by
  obtain ⟨G, env, S, o⟩ := q
  exact nil_prim .NotEq (op_neQ C.un) S o
theorem ve_eqO (i : Nat) {x : Str} {px lp : Pos} (C : Cv X T EX B) (hN : X.N[i]? = some x := by rfl) (hv : Vis X.env.scope x := by first | exact Or.inl rfl | exact Or.inr (Or.inl rfl) | exact Or.inr (Or.inr rfl)) (hd : (x == ("__debug__" : Str)) = false := by decide) (hcd : (x == ("__classdict__" : Str)) = false := by decide) :
    VE X T EX B (.Compare (.Name x px) [.Eq] [.List [] lp] pos) (vNilO false i) := pe_weak (pe_cmpR (op_eqQ C.un) (pe_var hN hv hd hcd) (pe_lst pa_nil) (nomark _)) fun σ H Q q => by
  obtain ⟨G, env, S, o⟩ := q
  exact nil_prim .Eq (op_eqQ C.un) S o
theorem vt_neO (i : Nat) {x : Str} {px lp : Pos} (C : Cv X T EX B) (hN : X.N[i]? = some x := by rfl) (hv : Vis X.env.scope x := by first | exact Or.inl rfl | exact Or.inr (Or.inl rfl) | exact Or.inr (Or.inr rfl)) (hd : (x == ("__debug__" : Str)) = false := by decide) (hcd : (x == ("__classdict__" : Str)) = false := by decide) :
    VT X T EX B (.Compare (.Name x px) [.NotEq] [.List [] lp] pos) (vNilO true i) := pt_weak (pt_cmpR (op_neQ C.un) (pe_var hN hv hd hcd) (pe_lst pa_nil) (nomark _)) fun σ H Q q => by
  obtain ⟨G, env, S, o⟩ := t2v q
  exact nil_prim .NotEq (op_neQ C.un) S o
theorem vt_eqO (i : Nat) {x : Str} {px lp : Pos} (C : Cv X T EX B) (hN : X.N[i]? = some x := by rfl) (hv : Vis X.env.scope x := by first | exact Or.inl rfl | exact Or.inr (Or.inl rfl) | exact Or.inr (Or.inr rfl)) (hd : (x == ("__debug__" : Str)) = false := by decide) (hcd : (x == ("__classdict__" : Str)) = false := by decide) :
    VT X T EX B (.Compare (.Name x px) [.Eq] [.List [] lp] pos) (vNilO false i) := pt_weak (pt_cmpR (op_eqQ C.un) (pe_var hN hv hd hcd) (pe_lst pa_nil) (nomark _)) fun σ H Q q => by
  obtain ⟨G, env, S, o⟩ := t2v q
  exact nil_prim .Eq (op_eqQ C.un) S o
/-- x += e, ints -/
theorem vs_add (i : Nat) {x : Str} {px : Pos} (C : Cv X T EX B) (he : VE X T EX B e f) (hN : X.N[i]? = some x := by rfl) (hx : Loc X.env.scope x := by first | exact .inl rfl | exact .inr rfl) (hf : X.fn x = true ∨ X.env.scope.names.lookup x = some .local := by first | exact .inl rfl | exact .inr rfl) :
    VS X T EX B (.AugAssign (.Name x px) .Add e pos) (sAdd i f) := ps_weak (ps_aug C.nd hN hx he ip_add hf) fun D σ H q => by
  obtain ⟨G, env, S, o⟩ := q
  unfold sAdd at o
  split at o
  · rename_i dx e
    obtain ⟨v, h1, h2⟩ := S.sh i _ e
    refine ⟨v, h1, G, env, S, ?_⟩
    split at o
    · rename_i y ey
      rw [ey]
      intro w G' H' s' dy
      rw [h2.intInv, dy.intInv]
      exact ⟨_, _, rfl, rfl, o G' _ H' s'.gg ((S.step s').setSh .int)⟩
    · rename_i c ey
      rw [ey]; exact fun H' z => o H' (S.st.hh.trans z)
    · exact o.elim
  · exact o.elim
/-! ### several names at once -/
/-- a value as it was made: new lists apart since H0 -/
def ORp (T : Ct) (H0 G H : Hp) (v : V) : SV → Prop
  | .sh d => Dq G v d
  | .ow ds => ∃ p xs, v = .ref p ∧ H0 p = none ∧ G p = none ∧ H p = some (.lst xs) ∧ DqAll G xs ds
  | .ob c fs => ObRp T G v c fs
  | .rg _ => False
theorem ORp.step {H0 : Hp} {v : V} {w : SV} (h : ORp T H0 G H v w) (s : Step G H G1 H1) : ORp T H0 G1 H1 v w := by
  cases w with
  | rg _ => exact h
  | sh d => exact Dq.mono h s.gg
  | ob c fs => exact ObRp.mono h s.gg
  | ow ds =>
    obtain ⟨p, xs, h1, h2, h3, h4, h5⟩ := h
    obtain ⟨h3', h4'⟩ := s.own h3 h4
    exact ⟨p, xs, h1, h2, h3', h4', h5.mono s.gg⟩
theorem out_fzO {w : SV} {P : VK} (hk : ∀ v G' H', Step G H G' H' → ORp T H G' H' v w.fz → P v H') : Out T EX (.val w) G H P := by
  refine Out.fz fun v G' H' s q => hk v G' H' s ?_
  revert q
  generalize w.fz = z
  intro q
  cases z with
  | sh d => exact q
  | ob c fs => exact q
  | ow ds => exact q.elim
  | rg _ => exact q.elim
theorem out_o {w : SV} {P : VK} (hk : ∀ v G' H', Step G H G' H' → ORp T H G' H' v w.fzR → P v H') : Out T EX (.val w) G H P := by
  cases w with
  | sh d => exact fun v G' H' s q => hk v G' H' s q
  | ob c fs => exact fun v G' H' s q => hk v G' H' s q
  | ow ds => exact fun p xs G' H' s n1 n2 ep q => hk (.ref p) G' H' s ⟨p, xs, rfl, n1, n2, ep, q⟩
  | rg r => exact out_fzO hk
/-- a name takes it; fr: no other name owns what is new since H0 -/
theorem Sim.setO {H0 : Hp} {v : V} {w : SV} {i : Nat} (S : Sim T B G env σ H) (h : ORp T H0 G H v w) (hb : SameH B.2 H0) (fr : ∀ (j : Nat) es p, env[j]? = some (some (.ow es)) → σ[j]? = some (some (.ref p)) → H0 p ≠ none)
    (frR : ∀ (j : Nat) r v F, env[j]? = some (some (.rg r)) → σ[j]? = some (some v) → RRp T G H F v r → ∀ a ∈ F, H0 a ≠ none) : Sim T B G (env.set i (some w)) (σ.set i (some v)) H := by
  cases w with
  | rg _ => exact h.elim
  | sh d => exact S.setSh h
  | ob c fs => exact S.setOb h
  | ow ds =>
    obtain ⟨p, xs, rfl, h2, h3, h4, h5⟩ := h
    exact S.setOw (hb.free h2) h3 h4 h5 (fun j es z _ w => fr j es p z w h2) fun j r v F z _ w q m => frR j r v F z w q p m h2
/-- an old thing of one's own has old places -/
theorem frR_old {H0 G0 : Hp} (S : Sim T B G0 env σ H0) (s : Step G0 H0 G H) : ∀ (j : Nat) r v F, env[j]? = some (some (.rg r)) → σ[j]? = some (some v) → RRp T G H F v r → ∀ a ∈ F, H0 a ≠ none := fun j r v F e w q a m z => newR_old S s z e w q m
theorem frR_set {w : SV} {v : V} {i : Nat} {H0 : Hp} (nr : ∀ r, w ≠ .rg r) (h : ∀ (j : Nat) r v F, env[j]? = some (some (.rg r)) → σ[j]? = some (some v) → RRp T G H F v r → ∀ a ∈ F, H0 a ≠ none) : ∀ (j : Nat) r u F, (env.set i (some w))[j]? = some (some (.rg r)) → (σ.set i (some v))[j]? = some (some u) → RRp T G H F u r → ∀ a ∈ F, H0 a ≠ none := fun j r u F e z q => by
  rcases get_set e with ⟨_, y⟩ | ⟨n, y⟩
  · cases y; exact absurd rfl (nr r)
  · rw [List.getElem?_set_ne n] at z; exact h j r u F y z q
theorem ORp.nr {H0 : Hp} {v : V} {w : SV} (h : ORp T H0 G H v w) : ∀ r, w ≠ .rg r := fun r e => by subst e; exact h
theorem fr_old {H0 G0 : Hp} (S : Sim T B G0 env σ H0) : ∀ (j : Nat) es p, env[j]? = some (some (.ow es)) → σ[j]? = some (some (.ref p)) → H0 p ≠ none := fun j es p z w => by
  obtain ⟨p', xs, h1, h2, _⟩ := S.ow j es z
  rw [w] at h1; cases h1
  rw [h2]; exact fun z => nomatch z
/-- behind one new value more -/
theorem fr_new {H0 G0 Ha Ga : Hp} {v : V} {w : SV} {i : Nat} (S : Sim T B G0 env σ H0) (s : Step G0 H0 Ga Ha) (h : ORp T H0 Ga Ha v w) : ∀ (j : Nat) es p, (env.set i (some w))[j]? = some (some (.ow es)) → (σ.set i (some v))[j]? = some (some (.ref p)) → Ha p ≠ none := fun j es p z y => by
  rcases get_set z with ⟨e1, e2⟩ | ⟨e1, e2⟩
  · subst e1
    cases e2
    obtain ⟨p', xs, rfl, h2, h3, h4, h5⟩ := h
    rcases get_set y with ⟨_, e3⟩ | ⟨e3, _⟩
    · cases e3; rw [h4]; exact fun z => nomatch z
    · exact absurd rfl e3
  · rw [List.getElem?_set_ne e1] at y
    obtain ⟨p', xs, h1, h2, _⟩ := S.ow j es e2
    rw [y] at h1; cases h1
    rw [s.hh.at h2 fun z => z]; exact fun z => nomatch z
/-- which of the values stay apart -/
@[simp] def kp (k : Bool) (v : SV) : SV := if k = true then v.fzR else v.fz
theorem out_k {k : Bool} {w : SV} {P : VK} (hk : ∀ v G' H', Step G H G' H' → ORp T H G' H' v (kp k w) → P v H') : Out T EX (.val w) G H P := by
  cases k with
  | true => exact out_o hk
  | false => exact out_fzO hk
@[simp] def sPar2 (i j : Nat) (k1 k2 : Bool) (f g : FE) : FS := fun env => (f env).s fun v => (g env).s fun w => .nx ((env.set i (some (kp k1 v))).set j (some (kp k2 w)))
@[simp] def sPar3 (i j l : Nat) (k1 k2 k3 : Bool) (f g h : FE) : FS := fun env => (f env).s fun v => (g env).s fun w => (h env).s fun u => .nx (((env.set i (some (kp k1 v))).set j (some (kp k2 w))).set l (some (kp k3 u)))
theorem seqK {k : SV → SR} {kb : Bool} (S : Sim T B G env σ H) (h : OutS T EX B ((f env).s k) G D) : rdV T EX B f σ H (fun x H1 => ∃ v G1, Step G H G1 H1 ∧ ORp T H G1 H1 x (kp kb v) ∧ Sim T B G1 env σ H1 ∧ OutS T EX B (k v) G1 D) := by
  refine seqS S h fun v ev o => ?_
  exact out_k (k := kb) fun x G' H' s q => ⟨v, G', s, q, S.step s, o.step s.gg⟩
theorem vs_par2 (i j : Nat) (k1 k2 : Bool) {x y : Str} {px py pt : Pos} {kt k' pt2} (C : Cv X T EX B) (ha : VE X T EX B a f) (hb : VE X T EX B b g) (hi : X.N[i]? = some x := by rfl) (hj : X.N[j]? = some y := by rfl) (hij : i ≠ j := by decide)
    (hx : X.env.scope.names.lookup x = some .local := by rfl) (hy : X.env.scope.names.lookup y = some .local := by rfl) (hs1 : starEach [a, b] X.env = (false, eval a X.env) :: starEach [b] X.env := by rfl) (hs2 : starEach [b] X.env = [(false, eval b X.env)] := by rfl)
    (hw : swappedStores [.Tuple [.Name x px, .Name y py] kt pt] (.Tuple [a, b] k' pt2) X.env = pure (some [x, y]) := by rfl) (hs : swapsWithSole [.Tuple [.Name x px, .Name y py] kt pt] (.Tuple [a, b] k' pt2) pos.line X.env = pure false := by rfl) :
    VS X T EX B (.Assign [.Tuple [.Name x px, .Name y py] kt pt] (.Tuple [a, b] k' pt2) pos) (sPar2 i j k1 k2 f g) := by
  refine ps_weak (ps_par C.calm C.nd hi hj hij hx hy (pa_cons ha (pa_cons hb pa_nil hs2) hs1) hw hs) fun D σ H q => ?_
  obtain ⟨G, env, S, o⟩ := q
  refine rdV_mono (seqK (kb := k1) S o) fun v H1 ⟨dv, G1, s1, q1, S1, o1⟩ => rdV_mono (seqK (kb := k2) S1 o1) fun w H2 ⟨dw, G2, s2, q2, S2, o2⟩ => ⟨v, w, rfl, ?_⟩
  exact o2 G2 _ H2 (Same.refl _) ((S2.setO (q1.step s2) S.st.hh (fr_old S) (frR_old S (s1.trans s2))).setO q2 (S.st.hh.trans s1.hh) (fr_new S s1 q1) (frR_set q1.nr (frR_old S1 s2)))
theorem fr_new2 {H0 G0 Ha Ga Hb Gb : Hp} {v v2 : V} {w w2 : SV} {i j : Nat} (S : Sim T B G0 env σ H0) (s : Step G0 H0 Ga Ha) (h : ORp T H0 Ga Ha v w) (s2 : Step Ga Ha Gb Hb) (h2 : ORp T Ha Gb Hb v2 w2) : ∀ (l : Nat) es p, ((env.set i (some w)).set j (some w2))[l]? = some (some (.ow es)) → ((σ.set i (some v)).set j (some v2))[l]? = some (some (.ref p)) → Hb p ≠ none := fun l es p z y => by
  rcases get_set z with ⟨e1, e2⟩ | ⟨e1, e2⟩
  · subst e1
    cases e2
    obtain ⟨p', xs, rfl, q2, q3, q4, q5⟩ := h2
    rcases get_set y with ⟨_, e3⟩ | ⟨e3, _⟩
    · cases e3; rw [q4]; exact fun z => nomatch z
    · exact absurd rfl e3
  · rw [List.getElem?_set_ne e1] at y
    have := fr_new S s h l es p e2 y
    intro z
    exact this (SameH.free s2.hh z)
theorem vs_par3 (i j l : Nat) (k1 k2 k3 : Bool) {x y z : Str} {px py pz pt : Pos} {kt k' pt2} (C : Cv X T EX B) (ha : VE X T EX B a f) (hb : VE X T EX B b g) (hc : VE X T EX B c h) (hi : X.N[i]? = some x := by rfl) (hj : X.N[j]? = some y := by rfl) (hl : X.N[l]? = some z := by rfl) (hij : i ≠ j := by decide) (hil : i ≠ l := by decide) (hjl : j ≠ l := by decide)
    (hx : X.env.scope.names.lookup x = some .local := by rfl) (hy : X.env.scope.names.lookup y = some .local := by rfl) (hz : X.env.scope.names.lookup z = some .local := by rfl) (hs1 : starEach [a, b, c] X.env = (false, eval a X.env) :: starEach [b, c] X.env := by rfl) (hs2 : starEach [b, c] X.env = (false, eval b X.env) :: starEach [c] X.env := by rfl) (hs3 : starEach [c] X.env = [(false, eval c X.env)] := by rfl)
    (hw : swappedStores [.Tuple [.Name x px, .Name y py, .Name z pz] kt pt] (.Tuple [a, b, c] k' pt2) X.env = pure (some [x, y, z]) := by rfl) (hs : swapsWithSole [.Tuple [.Name x px, .Name y py, .Name z pz] kt pt] (.Tuple [a, b, c] k' pt2) pos.line X.env = pure false := by rfl) :
    VS X T EX B (.Assign [.Tuple [.Name x px, .Name y py, .Name z pz] kt pt] (.Tuple [a, b, c] k' pt2) pos) (sPar3 i j l k1 k2 k3 f g h) := by
  refine ps_weak (ps_par3 C.calm C.nd hi hj hl hij hil hjl hx hy hz (pa_cons ha (pa_cons hb (pa_cons hc pa_nil hs3) hs2) hs1) hw hs) fun D σ H q => ?_
  obtain ⟨G, env, S, o⟩ := q
  refine rdV_mono (seqK (kb := k1) S o) fun v H1 ⟨dv, G1, s1, q1, S1, o1⟩ => rdV_mono (seqK (kb := k2) S1 o1) fun w H2 ⟨dw, G2, s2, q2, S2, o2⟩ => rdV_mono (seqK (kb := k3) S2 o2) fun u H3 ⟨du, G3, s3, q3, S3, o3⟩ => ⟨v, w, u, rfl, ?_⟩
  have a1 := S3.setO (i := i) ((q1.step s2).step s3) S.st.hh (fr_old S) (frR_old S ((s1.trans s2).trans s3))
  have a2 := a1.setO (i := j) (q2.step s3) (S.st.hh.trans s1.hh) (fr_new S s1 q1) (frR_set q1.nr (frR_old S1 (s2.trans s3)))
  exact o3 G3 _ H3 (Same.refl _) (a2.setO (i := l) q3 ((S.st.hh.trans s1.hh).trans s2.hh) (fr_new2 S s1 q1 s2 q2) (frR_set q2.nr (frR_set q1.nr (frR_old S2 s3))))
/-- a, b = e by a target (a tuple that is made, or comes) -/
@[simp] def sUnp (t : Tg) (f : FE) : FS := fun env => (f env).s fun v => match v with
  | .sh d => (match t d env with
    | some e => .nx e
    | none => .stuck)
  | _ => .stuck
theorem vs_unp {gt : TG} {is : List Nat} {tt : Tg} (he : VE X T EX B e f) (hr : TgRun T B gt is tt) (hg : PG X tg gt) (hs : swapsWithSole [tg] e pos.line X.env = pure false := by rfl) (hw : swappedStores [tg] e X.env = pure none := by rfl) (h1 : (assignEach [tg] X.env).map (fun x => x.2) = [assign tg X.env] := by rfl) :
    VS X T EX B (.Assign [tg] e pos) (sUnp tt f) := ps_weak (ps_asg he hg hs hw h1) fun D σ H q => by
  obtain ⟨G, env, S, o⟩ := q
  refine seqS S o fun v _ o => ?_
  cases v with
  | ow _ => exact o.elim
  | ob _ _ => exact o.elim
  | rg _ => exact o.elim
  | sh d =>
    dsimp only at o
    split at o
    · rename_i e' ee
      intro x G' H' s q
      refine hr (S.step s) q ee fun σ' S' _ => o G' σ' H' s.gg S'
    · exact o.elim
/-! ### an error is raised -/
@[simp] def sRaise (c : Str) : FS := fun _ => .err c
theorem vs_raise {x m : Str} {j : Nat} {C : Addr} {bmB : List Value} {Bn newId initId : String} {p1 p3 : Pos} (hc : X.calm = true) (tk : Takes X (fun cls d _ H => EX cls d H)) (F : ExcBaseFacts Bn newId initId bmB) (q : PySem.W.excIn X.K C bmB newId = true) (gC : X.mg x = some (.ref C)) (kC : PySem.W.keepIn X.K (.ref C) = true) (r : Raises X (.ref C)) (hg : Gl X x) (ec : T.er x = C)
    (hdb : (x == ("__debug__" : Str)) = false := by decide) : VS X T EX B (.Raise (some (.Call (.Name x p1) [.Constant (.str m) j p2] [] p3)) none pos) (sRaise x) := by
  refine ps_weak (ps_raise hc tk (pmk_own F q gC kC r hg hdb)) fun D σ H q => ?_
  obtain ⟨G, env, S, o⟩ := q
  have z := o H S.st.hh
  rw [ec] at z
  exact z
end
/-! ### a def keeps its promise -/
@[simp] def runB (n : Nat) (s : FS) (as : List SV) : R := match s (as.map some ++ List.replicate (n - as.length) none) with
  | .rt v => .val v
  | .nx _ => .val (.sh .none)
  | .err c => .err c
  | .stuck => .stuck
section
variable {P : Program} {w : World} {K : PySem.W.Frag} {mg : Str → Option Value} {base : Heap} {T : Ct}
theorem sim_start {G H : Hp} {vs : List V} {as : List SV} (n : Nat) (gh : Same G H) (nb : NoMem G) (mo : MeO T H) (r : VRpAll T G vs as) (N : List Str) (hN : N.length = n) : Sim T (G, H) G (as.map some ++ List.replicate (n - as.length) none) (start N vs) H := by
  have hl := vrp_len r
  have key : ∀ (i : Nat) (a : SV), (as.map some ++ List.replicate (n - as.length) none)[i]? = some (some a) → ∃ v, (start N vs)[i]? = some (some v) ∧ VRp T G v a := by
    intro i a h
    have hi : i < as.length := by
      by_cases hi : i < as.length
      · exact hi
      · rw [List.getElem?_append_right (by rw [List.length_map]; omega)] at h
        obtain ⟨_, h2⟩ := List.getElem?_eq_some_iff.mp h
        rw [List.getElem_replicate] at h2
        cases h2
    rw [List.getElem?_append_left (by rw [List.length_map]; exact hi), List.getElem?_map] at h
    obtain ⟨a', h1, h2⟩ := Option.map_eq_some_iff.mp h
    cases h2
    have : ∀ {vs : List V} {as : List SV} {i : Nat} {a : SV}, VRpAll T G vs as → as[i]? = some a → ∃ v, vs[i]? = some v ∧ VRp T G v a := by
      intro vs as i a r h
      induction r generalizing i with
      | nil => simp at h
      | cons x t ih =>
        cases i with
        | zero => simp at h; subst h; exact ⟨_, rfl, x⟩
        | succ i => exact ih (by simpa using h)
    obtain ⟨v, h3, h4⟩ := this r h1
    refine ⟨v, ?_, h4⟩
    unfold L2.start
    rw [List.getElem?_append_left (by rw [List.length_map, hl]; exact hi), List.getElem?_map, h3]
    rfl
  refine ⟨Step.refl gh, ⟨nb, mo.2⟩, mo.1, ?_, fun i d h => key i _ h, fun i c fs h => key i _ h, fun i ds h => ?_, fun i j ds es p h _ _ _ => ?_, fun i r h => ?_⟩
  · unfold L2.start
    simp only [List.length_append, List.length_map, List.length_replicate]
    omega
  · obtain ⟨v, _, z⟩ := key i _ h
    exact z.elim
  · obtain ⟨v, _, z⟩ := key i _ h
    exact z.elim
  · obtain ⟨v, _, z⟩ := key i _ h
    exact z.elim
/-- a body's context -/
theorem fn_ok {x qual : Str} {st : Stmt} {f : Addr} {fd : FuncData} {N ps : List Str} {k : Nat} {s : FS} (F : Fun K x qual st f fd) (S : FnScope N ps (defScope st))
    (hb : ∀ (cdv : Value) (A : Around) (outer : List Env) (s0 : Shared) (H : Hp) (E : XK) (B : Hp × Hp), Room k (A.deeper (PyProof.Rows.envOfC qual (defScope st) s0.heap.objs.size f cdv)) →
      Cv (cxOf (L2.CX P w) P w K mg base N qual (defScope st) f cdv A outer s0 H E) T E B →
      PassesOwn (model P w) (A.deeper (PyProof.Rows.envOfC qual (defScope st) s0.heap.objs.size f cdv)) (PyProof.Rows.envOfC qual (defScope st) s0.heap.objs.size f cdv) (cxOf (L2.CX P w) P w K mg base N qual (defScope st) f cdv A outer s0 H E).xe →
      Takes (cxOf (L2.CX P w) P w K mg base N qual (defScope st) f cdv A outer s0 H E) (fun cls d _ H => E cls d H) →
      VSs (cxOf (L2.CX P w) P w K mg base N qual (defScope st) f cdv A outer s0 H E) T E B (defBody st) s) :
    FnGd P w K mg base (L2.CX P w) (k + 1) f fd ps (spV T ps.length (runB N.length s)) := by
  refine gd_mk F S (fun vs H Q E h => ?_) (fun cdv A outer s0 H vs Q E hq hr h => ?_)
  · obtain ⟨G, as, gh, _, _, r, hl, _⟩ := h
    rw [vrp_len r, hl]
  obtain ⟨G, as, gh, nb, mo, r, hl, o⟩ := h
  have tk : Takes (cxOf (L2.CX P w) P w K mg base N qual (defScope st) f cdv A outer s0 H E) (fun cls d _ H => E cls d H) := takes_of rfl rfl rfl rfl
  refine ⟨_, hb cdv A outer s0 H E (G, H) hr ⟨rfl, S.nd, passes_call tk fun _ _ _ _ z => z, ?_, hq⟩ (passes_of rfl) tk, G, _, sim_start N.length gh nb mo r N rfl, ?_⟩
  · have := hr.un
    show (A.deeper (PyProof.Rows.envOfC qual (defScope st) s0.heap.objs.size f cdv)).units + 150 < cLine
    omega
  · unfold runB at o
    revert o
    cases s (as.map some ++ List.replicate (N.length - as.length) none) with
    | nx e => exact fun o G' σ' H' sg S' => o .non G' H' S'.st .non
    | rt v => exact fun o => o
    | err c => exact fun o => o
    | stuck => exact fun o => o
end
end VL
namespace VL
open PySem L2
/-! ### the program's top -/
/-- a class's address by its name -/
def adOf (mg : Str → Option Value) (x : Str) : Addr := match mg x with
  | some (.ref C) => C
  | _ => 0
theorem adOf_eq {mg : Str → Option Value} {x : Str} {C : Addr} (h : mg x = some (.ref C)) : adOf mg x = C := by
  unfold adOf; rw [h]
/-- the classes of this program: Leans, Slants, Leaned; the errors by their names -/
def clsName : Nat → Str
  | 0 => "Leans"
  | 1 => "Slants"
  | _ => "Leaned"
def clsFlds : Nat → List Str
  | 0 => []
  | 1 => ["way"]
  | _ => ["heap", "ways"]
def ctOf (mg : Str → Option Value) : Ct := { ad := fun c => adOf mg (clsName c), fl := clsFlds, er := adOf mg }
/-- a def of the text, its name, how its arguments bind -/
def Df (K : PySem.W.Frag) (mg : Str → Option Value) (x q : Str) (st : Stmt) (ps : List Str) : Prop := ∃ f fd, Fun K q q st f fd ∧ mg x = some (.ref f) ∧ Binds K fd ps []
def Fn (P : Program) (w : World) (K : PySem.W.Frag) (mg : Str → Option Value) (base : Heap) (T : Ct) (k : Nat) (x : Str) (n : Nat) (m : List SV → R) : Prop :=
  ∃ f fd ps, FnGd P w K mg base (L2.CX P w) k f fd ps (spV T n m) ∧ mg x = some (.ref f) ∧ PySem.W.keepIn K (.ref f) = true ∧ Binds K fd ps []
abbrev veMro : List Value := [.type "ValueError", .type "Exception", .type "BaseException", .type "object"]
structure Er (K : PySem.W.Frag) (mg : Str → Option Value) (T : Ct) (x : Str) : Prop where
  ex : ∃ C, mg x = some (.ref C) ∧ T.er x = C ∧ PySem.W.excIn K C veMro "ValueError.__new__" = true ∧ PySem.W.keepIn K (.ref C) = true ∧ PySem.W.subIn K (.ref C) (.type "BaseException") = some true ∧ PySem.W.typeIn K (.ref C) = some (.type "type")
/-- a body in its context -/
def Bd (P : Program) (w : World) (K : PySem.W.Frag) (mg : Str → Option Value) (base : Heap) (T : Ct) (k : Nat) (N : List Str) (q : Str) (st : Stmt) (s : FS) : Prop :=
  ∀ (f : Addr) (cdv : Value) (A : Around) (outer : List Env) (s0 : Shared) (H : Hp) (E : XK) (B : Hp × Hp), Room k (A.deeper (PyProof.Rows.envOfC q (defScope st) s0.heap.objs.size f cdv)) →
      Cv (cxOf (L2.CX P w) P w K mg base N q (defScope st) f cdv A outer s0 H E) T E B →
      PassesOwn (model P w) (A.deeper (PyProof.Rows.envOfC q (defScope st) s0.heap.objs.size f cdv)) (PyProof.Rows.envOfC q (defScope st) s0.heap.objs.size f cdv) (cxOf (L2.CX P w) P w K mg base N q (defScope st) f cdv A outer s0 H E).xe →
      Takes (cxOf (L2.CX P w) P w K mg base N q (defScope st) f cdv A outer s0 H E) (fun cls d _ H => E cls d H) →
      VSs (cxOf (L2.CX P w) P w K mg base N q (defScope st) f cdv A outer s0 H E) T E B (defBody st) s
/-- turns of a while -/
def WF : Nat := 300
section
variable {P : Program} {w : World} {K : PySem.W.Frag} {mg : Str → Option Value} {base : Heap} {T : Ct}
theorem fn_mk {x q : Str} {st : Stmt} {N ps : List Str} {k : Nat} {s : FS} (d : Df K mg x q st ps) (S : FnScope N ps (defScope st)) (hb : Bd P w K mg base T k N q st s) : Fn P w K mg base T (k + 1) x ps.length (runB N.length s) := by
  obtain ⟨f, fd, F, hm, hbi⟩ := d
  exact ⟨f, fd, ps, fn_ok F S fun cdv A outer s0 H E B hr C po tk => hb f cdv A outer s0 H E B hr C po tk, hm, F.kp, hbi⟩
theorem fn_zero {x q : Str} {st : Stmt} {ps : List Str} {n : Nat} {m : List SV → R} (d : Df K mg x q st ps) (h : m = fun _ => .stuck) : Fn P w K mg base T 0 x n m := by
  obtain ⟨f, fd, F, hm, hbi⟩ := d
  subst h
  have no : ∀ vs H Q E, ¬ spV T n (fun _ => .stuck) vs H Q E := fun vs H Q E ⟨_, _, _, _, _, _, _, o⟩ => o
  exact ⟨f, fd, ps, ⟨fun vs H Q E h => absurd h (no vs H Q E), fun A outer s H args us vs Q E _ _ _ _ _ h => absurd h (no vs H Q E)⟩, hm, F.kp, hbi⟩
end
section
variable {X : Cx} {T : Ct} {EX : XK} {B : Hp × Hp} {e : Expr} {es : List Expr} {pos p p2 : Pos} {fs : List FE}
theorem ve_callF {x : Str} {n k : Nat} {m : List SV → R} (F : Fn X.prog X.w X.K X.mg X.base T k x n m) (hr : Room k X.A) (hg : Gl X x)
    (C : Cv X T EX B) (ha : VA X T EX B (e :: es) fs) (hd : (x == ("__debug__" : Str)) = false := by decide) (hs : starEach (e :: es) X.env = (false, eval e X.env) :: starEach es X.env := by rfl) (hpl : ((backTo pos (starEach es X.env)).any fun z => z.1) = false := by rfl) :
    VE X T EX B (.Call (.Name x p) (e :: es) [] pos) (calF n m fs) := by
  obtain ⟨f, fd, ps, F, hm, hk, hb⟩ := F
  exact ve_call F hr hg hm hk hb C ha hd hs hpl
theorem Cv.blk (C : Cv X T EX B) {s : Shared} {H : Hp} {scope : Scope} {cenv : Env} {fp : List Addr} : Cv (X.blk s H scope cenv fp) T E0 B := ⟨C.calm, C.nd, passL, C.un, C.gd⟩
theorem vs_raiseE {x m : Str} {j : Nat} {p1 p3 : Pos} (C : Cv X T EX B) (tk : Takes X (fun cls d _ H => EX cls d H)) (er : Er X.K X.mg T x) (hg : Gl X x) (hdb : (x == ("__debug__" : Str)) = false := by decide) :
    VS X T EX B (.Raise (some (.Call (.Name x p1) [.Constant (.str m) j p2] [] p3)) none pos) (sRaise x) := by
  obtain ⟨D, h1, h2, h3, h4, h5, h6⟩ := er.ex
  exact vs_raise C.calm tk PySem.F.excBase_ValueError h3 h1 h4 (raises_own h5 h6) hg h2 hdb
end
end VL
namespace VL
open PySem L2
/-! ### data without a list within -/
mutual
@[simp] def noList : D → Bool
  | .list _ => false
  | .tuple ds => noLists ds
  | .dict _ => false
  | .none | .bool _ | .int _ | .str _ => true
@[simp] def noLists : List D → Bool
  | [] => true
  | d :: r => noList d && noLists r
end
/-- a heap without one place -/
def hid (G : Hp) (p : Addr) : Hp := fun a => if a = p then none else G a
theorem hid_ne {G : Hp} {p a : Addr} (h : a ≠ p) : hid G p a = G a := if_neg h
theorem hid_same {G : Hp} {p : Addr} : hid G p p = none := if_pos rfl
theorem hid_sqT {G : Hp} {p a : Addr} {xs ys : List V} (h : G p = some (.lst ys)) (s : SqT [] G a xs) : SqT [] (hid G p) a xs := by
  rcases s with (s | ⟨o, s⟩) | ⟨o, its, n, hk, _⟩
  · exact .inl (.inl (by rw [hid_ne (ne_of s h (by intro z; cases z))]; exact s))
  · exact .inl (.inr ⟨o, by rw [hid_ne (ne_of s h (by intro z; cases z))]; exact s⟩)
  · cases hk
mutual
theorem hid_dp {G : Hp} {p : Addr} {ys : List V} (h : G p = some (.lst ys)) : ∀ (d : D) (v : V), noList d = true → Dp [] G v d → Dp [] (hid G p) v d
  | .none, _, _, q => by cases q; exact .non
  | .bool b, _, _, q => by cases q; exact .bl b
  | .int i, _, _, q => by cases q; exact .int i
  | .str x, _, _, q => by cases q; exact .str x
  | .list _, _, n, _ => by simp only [noList] at n; cases n
  | .dict _, _, n, _ => by simp only [noList] at n; cases n
  | .tuple ds, _, n, q => by
    cases q with
    | tup s a =>
      simp only [noList] at n
      exact .tup (hid_sqT h s) (hid_dpAll h ds _ n a)
theorem hid_dpAll {G : Hp} {p : Addr} {ys : List V} (h : G p = some (.lst ys)) : ∀ (ds : List D) (vs : List V), noLists ds = true → DpAll [] G vs ds → DpAll [] (hid G p) vs ds
  | [], _, _, q => by cases q; exact .nil
  | d :: r, _, n, q => by
    cases q with
    | cons a b =>
      simp only [noLists, Bool.and_eq_true] at n
      exact .cons (hid_dp h d _ n.1 a) (hid_dpAll h r _ n.2 b)
end
/-! ### .. or too small to hold it -/
mutual
def dsz : D → Nat
  | .list ds => 1 + dszs ds
  | .tuple ds => 1 + dszs ds
  | .dict _ => 1
  | .none | .bool _ | .int _ | .str _ => 1
def dszs : List D → Nat
  | [] => 0
  | d :: r => dsz d + dszs r
end
theorem sqL_one {G : Hp} {a : Addr} {xs ys : List V} (h : SqL [] G a xs) (h' : SqL [] G a ys) : xs = ys := by
  rcases h with (h | ⟨o, h⟩) | ⟨o, its, n, hk, _⟩
  · rcases h' with (h' | ⟨o', h'⟩) | ⟨o', its', n', hk', _⟩
    · rw [h] at h'; cases h'; rfl
    · rw [h] at h'; cases h'
    · cases hk'
  · rcases h' with (h' | ⟨o', h'⟩) | ⟨o', its', n', hk', _⟩
    · rw [h] at h'; cases h'
    · rw [h] at h'; cases h'; rfl
    · cases hk'
  · cases hk
theorem sqT_one {G : Hp} {a : Addr} {xs ys : List V} (h : SqT [] G a xs) (h' : SqT [] G a ys) : xs = ys := by
  rcases h with (h | ⟨o, h⟩) | ⟨o, its, n, hk, _⟩
  · rcases h' with (h' | ⟨o', h'⟩) | ⟨o', its', n', hk', _⟩
    · rw [h] at h'; cases h'; rfl
    · rw [h] at h'; cases h'
    · cases hk'
  · rcases h' with (h' | ⟨o', h'⟩) | ⟨o', its', n', hk', _⟩
    · rw [h] at h'; cases h'
    · rw [h] at h'; cases h'; rfl
    · cases hk'
  · cases hk
theorem sq_two {G : Hp} {a : Addr} {xs ys : List V} (h : SqL [] G a xs) (h' : SqT [] G a ys) : False := by
  rcases h with (h | ⟨o, h⟩) | ⟨o, its, n, hk, _⟩
  · rcases h' with (h' | ⟨o', h'⟩) | ⟨o', its', n', hk', _⟩
    · rw [h] at h'; cases h'
    · rw [h] at h'; cases h'
    · cases hk'
  · rcases h' with (h' | ⟨o', h'⟩) | ⟨o', its', n', hk', _⟩
    · rw [h] at h'; cases h'
    · rw [h] at h'; cases h'
    · cases hk'
  · cases hk
mutual
theorem dp_one {G : Hp} : ∀ (d e : D) (v : V), Dp [] G v d → Dp [] G v e → d = e
  | .none, _, _, h, h' => by cases h; cases h'; rfl
  | .bool _, _, _, h, h' => by cases h; cases h'; rfl
  | .int _, _, _, h, h' => by cases h; cases h'; rfl
  | .str _, _, _, h, h' => by cases h; cases h'; rfl
  | .dict _, _, _, h, _ => by cases h
  | .list ds, e, _, h, h' => by
    cases h with
    | lst s a =>
      cases h' with
      | lst s' a' =>
        have := sqL_one s s'
        subst this
        rw [dpAll_one ds _ _ a a']
      | tup s' a' => exact (sq_two s s').elim
  | .tuple ds, e, _, h, h' => by
    cases h with
    | tup s a =>
      cases h' with
      | tup s' a' =>
        have := sqT_one s s'
        subst this
        rw [dpAll_one ds _ _ a a']
      | lst s' a' => exact (sq_two s' s).elim
theorem dpAll_one {G : Hp} : ∀ (ds es : List D) (vs : List V), DpAll [] G vs ds → DpAll [] G vs es → ds = es
  | [], _, _, h, h' => by cases h; cases h'; rfl
  | d :: r, _, _, h, h' => by
    cases h with
    | cons a b =>
      cases h' with
      | cons a' b' => rw [dp_one d _ _ a a', dpAll_one r _ _ b b']
end
mutual
theorem hid_dz {G : Hp} {p : Addr} {ys : List V} {es : List D} (h : G p = some (.lst ys)) (hy : DpAll [] G ys es) : ∀ (d : D) (v : V), dsz d < 1 + dszs es → Dp [] G v d → Dp [] (hid G p) v d
  | .none, _, _, q => by cases q; exact .non
  | .bool b, _, _, q => by cases q; exact .bl b
  | .int i, _, _, q => by cases q; exact .int i
  | .str x, _, _, q => by cases q; exact .str x
  | .dict _, _, _, q => by cases q
  | .tuple ds, _, n, q => by
    cases q with
    | tup s a =>
      simp only [dsz] at n
      exact .tup (hid_sqT h s) (hid_dzAll h hy ds _ (by omega) a)
  | .list ds, _, n, q => by
    cases q with
    | lst s a =>
      rename_i b xs
      simp only [dsz] at n
      have ne : b ≠ p := fun z => by
        subst z
        have e := sqL_one s (SqL.of h)
        subst e
        rw [dpAll_one _ _ _ a hy] at n
        omega
      refine .lst ?_ (hid_dzAll h hy ds _ (by omega) a)
      rcases s with (s | ⟨o, s⟩) | ⟨o, its, n, hk, _⟩
      · exact .inl (.inl (by rw [hid_ne ne]; exact s))
      · exact .inl (.inr ⟨o, by rw [hid_ne ne]; exact s⟩)
      · cases hk
theorem hid_dzAll {G : Hp} {p : Addr} {ys : List V} {es : List D} (h : G p = some (.lst ys)) (hy : DpAll [] G ys es) : ∀ (ds : List D) (vs : List V), dszs ds < 1 + dszs es → DpAll [] G vs ds → DpAll [] (hid G p) vs ds
  | [], _, _, q => by cases q; exact .nil
  | d :: r, _, n, q => by
    cases q with
    | cons a b =>
      simp only [dszs] at n
      exact .cons (hid_dz h hy d _ (by omega) a) (hid_dzAll h hy r _ (by omega) b)
end
/-- .. each of them is -/
def allSm (es ds : List D) : Bool := ds.all fun d => decide (dsz d < 1 + dszs es)
theorem hid_dzEach {G : Hp} {p : Addr} {ys : List V} {es : List D} (h : G p = some (.lst ys)) (hy : DpAll [] G ys es) : ∀ (ds : List D) (vs : List V), allSm es ds = true → DpAll [] G vs ds → DpAll [] (hid G p) vs ds
  | [], _, _, q => by cases q; exact .nil
  | d :: r, _, n, q => by
    cases q with
    | cons a b =>
      simp only [allSm, List.all_cons, Bool.and_eq_true, decide_eq_true_eq] at n
      exact .cons (hid_dz h hy d _ n.1 a) (hid_dzEach h hy r _ n.2 b)
/-! ### parts that are never changed -/
mutual
/-- no list within them -/
@[simp] def RD.nl : RD → Bool
  | .dat d => noList d
  | .lst rs => RD.nls rs
  | .tup rs => RD.nls rs
  | .ins _ rs => RD.nls rs
  | .jk => true
  | .dic _ => false
@[simp] def RD.nls : List RD → Bool
  | [] => true
  | r :: rs => RD.nl r && RD.nls rs
end
mutual
/-- no tuple of one's own -/
@[simp] def RD.nt : RD → Bool
  | .dat _ => true
  | .lst rs => RD.nts rs
  | .tup _ => false
  | .ins _ rs => RD.nts rs
  | .jk => true
  | .dic _ => false
@[simp] def RD.nts : List RD → Bool
  | [] => true
  | r :: rs => RD.nt r && RD.nts rs
end
mutual
theorem RRp.leaf {T : Ct} {G G2 H : Hp} (k : ∀ d v, noList d = true → Dq G v d → Dq G2 v d) : ∀ (r : RD) (S : List Addr) (v : V), RRp T G H S v r → r.nl = true → RRp T G2 H S v r
  | .dat d, _, _, .dat h, n => .dat (k d _ (by simpa using n) h)
  | .jk, _, _, .jk, _ => .jk
  | .lst rs, _, _, .lst h a, n => .lst h (RRpAll.leaf k rs _ _ a (by simpa using n))
  | .tup rs, _, _, .tup h a, n => .tup h (RRpAll.leaf k rs _ _ a (by simpa using n))
  | .ins c rs, _, _, .ins h h2 l a, n => .ins h h2 l (RRpAll.leaf k rs _ _ a (by simpa using n))
  | .dic _, _, _, _, n => by simp only [RD.nl] at n; cases n
theorem RRpAll.leaf {T : Ct} {G G2 H : Hp} (k : ∀ d v, noList d = true → Dq G v d → Dq G2 v d) : ∀ (rs : List RD) (S : List Addr) (vs : List V), RRpAll T G H S vs rs → RD.nls rs = true → RRpAll T G2 H S vs rs
  | [], _, _, .nil, _ => .nil
  | r :: rs, _, _, .cons h a, n => by
    simp only [RD.nls, Bool.and_eq_true] at n
    exact .cons (RRp.leaf k r _ _ h n.1) (RRpAll.leaf k rs _ _ a n.2)
end
def noTup : HO → Prop
  | .tup _ => False
  | .frz _ _ => False
  | _ => True
mutual
theorem RRp.nots {T : Ct} {G H : Hp} : ∀ (r : RD) (S : List Addr) (v : V), RRp T G H S v r → r.nt = true → ∀ a ∈ S, ∃ o, H a = some o ∧ noTup o
  | .dat _, _, _, .dat _, _, a, m => absurd m List.not_mem_nil
  | .jk, _, _, .jk, _, a, m => absurd m List.not_mem_nil
  | .lst rs, _, _, .lst h q, n, a, m => by
    rcases List.mem_cons.mp m with rfl | m
    · exact ⟨_, h, trivial⟩
    · exact RRpAll.nots rs _ _ q (by simpa using n) a m
  | .tup rs, _, _, _, n, _, _ => by simp only [RD.nt] at n; cases n
  | .dic rs, _, _, _, n, _, _ => by simp only [RD.nt] at n; cases n
  | .ins c rs, _, _, .ins h h2 l q, n, a, m => by
    rcases List.mem_cons.mp m with rfl | m
    · exact ⟨_, h, trivial⟩
    rcases List.mem_cons.mp m with rfl | m
    · exact ⟨_, h2, trivial⟩
    · exact RRpAll.nots rs _ _ q (by simpa using n) a m
theorem RRpAll.nots {T : Ct} {G H : Hp} : ∀ (rs : List RD) (S : List Addr) (vs : List V), RRpAll T G H S vs rs → RD.nts rs = true → ∀ a ∈ S, ∃ o, H a = some o ∧ noTup o
  | [], _, _, .nil, _, a, m => absurd m List.not_mem_nil
  | r :: rs, _, _, .cons h q, n, a, m => by
    simp only [RD.nts, Bool.and_eq_true] at n
    rcases List.mem_append.mp m with m | m
    · exact RRp.nots r _ _ h n.1 a m
    · exact RRpAll.nots rs _ _ q n.2 a m
end
open Classical in
noncomputable def hidS (G : Hp) (S : List Addr) : Hp := fun a => if a ∈ S then none else G a
theorem hidS_in {G : Hp} {S : List Addr} {a : Addr} (h : a ∈ S) : hidS G S a = none := if_pos h
theorem hidS_out {G : Hp} {S : List Addr} {a : Addr} (h : a ∉ S) : hidS G S a = G a := if_neg h
theorem hidS_sqT {G : Hp} {S : List Addr} {a : Addr} {xs : List V} (h : ∀ a ∈ S, ∃ o, G a = some o ∧ noTup o) (s : SqT [] G a xs) : SqT [] (hidS G S) a xs := by
  have ne : ∀ o, G a = some o → ¬ noTup o → a ∉ S := fun o e n m => by
    obtain ⟨o', e', z⟩ := h a m
    rw [e] at e'; cases e'; exact n z
  rcases s with (s | ⟨o, s⟩) | ⟨o, its, n, hk, _⟩
  · exact .inl (.inl (by rw [hidS_out (ne _ s fun z => z)]; exact s))
  · exact .inl (.inr ⟨o, by rw [hidS_out (ne _ s fun z => z)]; exact s⟩)
  · cases hk
mutual
theorem hidS_dp {G : Hp} {S : List Addr} (h : ∀ a ∈ S, ∃ o, G a = some o ∧ noTup o) : ∀ (d : D) (v : V), noList d = true → Dp [] G v d → Dp [] (hidS G S) v d
  | .none, _, _, q => by cases q; exact .non
  | .bool b, _, _, q => by cases q; exact .bl b
  | .int i, _, _, q => by cases q; exact .int i
  | .str x, _, _, q => by cases q; exact .str x
  | .list _, _, n, _ => by simp only [noList] at n; cases n
  | .dict _, _, n, _ => by simp only [noList] at n; cases n
  | .tuple ds, _, n, q => by
    cases q with
    | tup s a =>
      simp only [noList] at n
      exact .tup (hidS_sqT h s) (hidS_dpAll h ds _ n a)
theorem hidS_dpAll {G : Hp} {S : List Addr} (h : ∀ a ∈ S, ∃ o, G a = some o ∧ noTup o) : ∀ (ds : List D) (vs : List V), noLists ds = true → DpAll [] G vs ds → DpAll [] (hidS G S) vs ds
  | [], _, _, q => by cases q; exact .nil
  | d :: r, _, n, q => by
    cases q with
    | cons a b =>
      simp only [noLists, Bool.and_eq_true] at n
      exact .cons (hidS_dp h d _ n.1 a) (hidS_dpAll h r _ n.2 b)
end
theorem flat_dp {G G2 : Hp} : ∀ (d : D) (v : V), flatD d = true → Dp [] G v d → Dp [] G2 v d
  | .none, _, _, q => by cases q; exact .non
  | .bool b, _, _, q => by cases q; exact .bl b
  | .int i, _, _, q => by cases q; exact .int i
  | .str x, _, _, q => by cases q; exact .str x
  | .list _, _, n, _ => by simp only [flatD] at n; cases n
  | .dict _, _, n, _ => by simp only [flatD] at n; cases n
  | .tuple _, _, n, _ => by simp only [flatD] at n; cases n
theorem flat_dpAll {G G2 : Hp} : ∀ (ds : List D) (vs : List V), ds.all flatD = true → DpAll [] G vs ds → DpAll [] G2 vs ds
  | [], _, _, q => by cases q; exact .nil
  | d :: r, _, n, q => by
    cases q with
    | cons a b =>
      simp only [List.all_cons, Bool.and_eq_true] at n
      exact .cons (flat_dp d _ n.1 a) (flat_dpAll r _ n.2 b)
/-! ### an expression that looks at a list of one's own and keeps nothing of it -/
@[simp] def vBor (i : Nat) (f : FE) : FE := fun env => match env[i]? with
  | some (some (.ow ds)) => (match f (env.set i (some (.sh (.list ds)))) with
    | .val (.sh d) => if noList d = true ∨ dsz d < 1 + dszs ds then .val (.sh d) else .stuck
    | .val (.ow es) => if noLists es = true ∨ dszs es < 1 + dszs ds ∨ allSm ds es = true then .val (.ow es) else .stuck
    | .val (.ob _ _) => .stuck
    | .val (.rg r) => if r.nl = true then .val (.rg r) else .stuck
    | .err c => .err c
    | .stuck => .stuck)
  | some (some (.rg r)) => (match r.fzv with
    | some w => (match f (env.set i (some w)) with
      | .val (.sh d) => if flatD d = true ∨ (noList d = true ∧ r.nt = true) then .val (.sh d) else .stuck
      | .val (.ow es) => if es.all flatD = true ∨ (noLists es = true ∧ r.nt = true) then .val (.ow es) else .stuck
      | .val (.ob _ _) => .stuck
      | .val (.rg q) => if q.nl = true ∧ r.nt = true then .val (.rg q) else .stuck
      | .err c => .err c
      | .stuck => .stuck)
    | none => f env)
  | _ => f env
section
variable {X : Cx} {T : Ct} {EX : XK} {B : Hp × Hp} {e a b c o tg : Expr} {es : List Expr} {pos p p2 : Pos} {f g h : FE} {fs : List FE} {G H G1 H1 : Hp} {Q : VK} {st : Stmt} {sts : List Stmt} {s t : FS} {D : Ends} {σ : L2.St} {env : VEnv}
theorem hidS_step {F : List Addr} {G' H' : Hp} (hg : ∀ a ∈ F, G a = none) (k : ∀ a ∈ F, ∃ o, H a = some o ∧ ¬ Mem o) (s : Step (addS G H F) H G' H') : Step G H (hidS G' F) H' ∧ ∀ a ∈ F, G' a = H a := by
  refine ⟨⟨s.hh, fun b u q => ?_, fun b u q => ?_, fun b h1 h2 => ?_, fun n b u q => ?_⟩, fun a m => ?_⟩
  · have ne : b ∉ F := fun m => by rw [hg b m] at q; cases q
    rw [hidS_out ne]
    exact s.gg b u (by rw [addS_out ne]; exact q)
  · have ne : b ∉ F := fun m => by rw [hidS_in m] at q; cases q
    rw [hidS_out ne] at q
    exact s.gh b u q
  · have ne : b ∉ F := fun m => h2 (hidS_in m)
    rw [hidS_out ne] at h2
    exact s.nw b (by rw [addS_out ne]; exact h1) h2
  · have ne : b ∉ F := fun m => by rw [hidS_in m] at q; cases q
    rw [hidS_out ne] at q
    refine s.nm (fun c v r => ?_) b u q
    by_cases m : c ∈ F
    · rw [addS_in m] at r
      obtain ⟨o, e, z⟩ := k c m
      rw [r] at e; cases e; exact mm_of z
    · rw [addS_out m] at r; exact n c v r
  · obtain ⟨o, e, z⟩ := k a m
    rw [e]
    exact s.gg a o (by rw [addS_in m]; exact e)
theorem Sim.frzR (S : Sim T B G env σ H) {i : Nat} {r : RD} {w : SV} (hi : env[i]? = some (some (.rg r))) (hw : r.fzv = some w) : ∃ v F, σ[i]? = some (some v) ∧ RgAt T B G H F v r ∧ Sim T B (addS G H F) (env.set i (some w)) σ H := by
  obtain ⟨u, v, F, e1, e2, e3⟩ := S.rg i r hi
  have hl : i < σ.length := S.lt hi
  have hs : σ = σ.set i (some v) := by
    refine List.ext_getElem? fun j => ?_
    by_cases z : i = j
    · subst z; rw [List.getElem?_set_self hl]; exact e1
    · rw [List.getElem?_set_ne z]
  have k := RRp.at r F v e2.rp
  have sg : Same G (addS G H F) := addS_same fun a m => (e2.nw a m).1
  have S1 : Sim T B (addS G H F) (env.set i none) σ H := by
    refine ⟨S.st.frzS e2.nw k, S.nb, S.me, by rw [List.length_set, S.len], fun j d q => ?_, fun j c fs q => ?_, fun j es q => ?_, fun j k es fs a q1 q2 q3 q4 => ?_, fun j r' q => ?_⟩
    · rcases get_set q with ⟨z, y⟩ | ⟨z, y⟩
      · cases y
      · obtain ⟨v, h1, h2⟩ := S.sh j d y; exact ⟨v, h1, h2.mono sg⟩
    · rcases get_set q with ⟨z, y⟩ | ⟨z, y⟩
      · cases y
      · obtain ⟨v, h1, h2⟩ := S.ob j c fs y; exact ⟨v, h1, h2.mono sg⟩
    · rcases get_set q with ⟨z, y⟩ | ⟨z, y⟩
      · cases y
      · obtain ⟨a, ys, h1, h2, h3, h4, h5⟩ := S.ow j es y
        exact ⟨a, ys, h1, h2, by rw [addS_out (e3 j es a y h1)]; exact h3, h4, h5.mono sg⟩
    · rcases get_set q1 with ⟨z, y⟩ | ⟨z1, y1⟩
      · cases y
      rcases get_set q2 with ⟨z, y⟩ | ⟨z2, y2⟩
      · cases y
      exact S.ap j k es fs a y1 y2 q3 q4
    · rcases get_set q with ⟨z, y⟩ | ⟨z, y⟩
      · cases y
      · exact absurd (u j r' y).symm z
  have vr : VRp T (addS G H F) v w := RRp.fzv sg e2.rp (fun a m => addS_in m) hw
  refine ⟨v, F, e1, e2, ?_⟩
  cases w with
  | sh d =>
    have q := S1.setSh (i := i) (v := v) (d := d) vr
    rw [← hs, List.set_set] at q
    exact q
  | ob c fs =>
    have q := S1.setOb (i := i) (v := v) (c := c) (fs := fs) vr
    rw [← hs, List.set_set] at q
    exact q
  | ow _ => exact vr.elim
  | rg _ => exact vr.elim
theorem hid_step {p : Addr} {xs : List V} {G' H' : Hp} (hg : G p = none) (s : Step (upd G p (.lst xs)) H G' H') (hp : H p = some (.lst xs)) : Step G H (hid G' p) H' ∧ G' p = some (.lst xs) := by
  have gp : G' p = some (.lst xs) := s.gg p _ upd_same
  refine ⟨⟨s.hh, fun b u q => ?_, fun b u q => ?_, fun b h1 h2 => ?_, fun n b u q => ?_⟩, gp⟩
  · have ne : b ≠ p := ne_of_none q hg
    rw [hid_ne ne]
    exact s.gg b u (by rw [upd_ne ne]; exact q)
  · have ne : b ≠ p := fun z => by rw [z, hid_same] at q; cases q
    rw [hid_ne ne] at q
    exact s.gh b u q
  · have ne : b ≠ p := fun z => h2 (by rw [z]; exact hid_same)
    rw [hid_ne ne] at h2
    exact s.nw b (by rw [upd_ne ne]; exact h1) h2
  · have ne : b ≠ p := fun z => by rw [z, hid_same] at q; cases q
    rw [hid_ne ne] at q
    refine s.nm (fun c v r => ?_) b u q
    by_cases z : c = p
    · subst z; rw [upd_same] at r; cases r; exact fun z => z
    · rw [upd_ne z] at r; exact n c v r
theorem Sim.frz' (S : Sim T B G env σ H) {i : Nat} {ds : List VL.D} (hi : env[i]? = some (some (.ow ds))) : ∃ p xs, G p = none ∧ H p = some (.lst xs) ∧ DqAll (upd G p (.lst xs)) xs ds ∧ Sim T B (upd G p (.lst xs)) (env.set i (some (.sh (.list ds)))) σ H := by
  obtain ⟨p, xs, e1, e2, e3, e4, e5⟩ := S.ow i ds hi
  have hl : i < σ.length := S.lt hi
  have hs : σ = σ.set i (some (.ref p)) := by
    refine List.ext_getElem? fun j => ?_
    by_cases z : i = j
    · subst z; rw [List.getElem?_set_self hl]; exact e1
    · rw [List.getElem?_set_ne z]
  have sg : Same G (upd G p (.lst xs)) := same_upd e3 _
  have S1 : Sim T B (upd G p (.lst xs)) (env.set i none) σ H := by
    refine ⟨S.st.freeze e4 e3 e2, S.nb, S.me, by rw [List.length_set, S.len], fun j d q => ?_, fun j c fs q => ?_, fun j es q => ?_, fun j k es fs a q1 q2 q3 q4 => ?_, fun j r q => ?_⟩
    · rcases get_set q with ⟨z, y⟩ | ⟨z, y⟩
      · cases y
      · obtain ⟨v, h1, h2⟩ := S.sh j d y; exact ⟨v, h1, h2.mono sg⟩
    · rcases get_set q with ⟨z, y⟩ | ⟨z, y⟩
      · cases y
      · obtain ⟨v, h1, h2⟩ := S.ob j c fs y; exact ⟨v, h1, h2.mono sg⟩
    · rcases get_set q with ⟨z, y⟩ | ⟨z, y⟩
      · cases y
      · obtain ⟨a, ys, h1, h2, h3, h4, h5⟩ := S.ow j es y
        have : a ≠ p := fun e => z (S.ap i j ds es p hi y e1 (e ▸ h1))
        exact ⟨a, ys, h1, h2, by rw [upd_ne this]; exact h3, h4, h5.mono sg⟩
    · rcases get_set q1 with ⟨z, y⟩ | ⟨z1, y1⟩
      · cases y
      rcases get_set q2 with ⟨z, y⟩ | ⟨z2, y2⟩
      · cases y
      exact S.ap j k es fs a y1 y2 q3 q4
    · rcases get_set q with ⟨z, y⟩ | ⟨z, y⟩
      · cases y
      obtain ⟨u, v, F, a, b, c⟩ := S.rg j r y
      have pf : p ∉ F := c i ds p hi e1
      refine ⟨fun j' r' q' => ?_, v, F, a, ⟨RRp.mono sg rfl rfl r F v b.rp fun _ _ => rfl, b.nd, fun d m => ⟨(upd_ne fun (e : d = p) => pf (e ▸ m)).trans (b.nw d m).1, (b.nw d m).2⟩⟩, fun j' ds' p' q1 q2 => ?_⟩
      · rcases get_set q' with ⟨z', y'⟩ | ⟨z', y'⟩
        · cases y'
        · exact u j' r' y'
      · rcases get_set q1 with ⟨z', y'⟩ | ⟨z', y'⟩
        · cases y'
        · exact c j' ds' p' y' q2
  have r := S1.setSh (i := i) (v := .ref p) (d := .list ds) (Dq.lst (SqL.of upd_same) (e5.mono sg))
  rw [← hs, List.set_set] at r
  exact ⟨p, xs, e3, e2, e5.mono sg, r⟩
theorem ve_bor (i : Nat) (h : VE X T EX B e f) : VE X T EX B e (vBor i f) := pe_weak h fun σ H Q q => by
  obtain ⟨G, env, S, o⟩ := q
  unfold vBor at o
  split at o
  rotate_left
  · rename_i r ei
    split at o
    rotate_left
    · exact ⟨G, env, S, o⟩
    rename_i w ew
    obtain ⟨u, F, e1, e2, S'⟩ := S.frzR ei ew
    have k := RRp.at r F u e2.rp
    refine ⟨_, _, S', ?_⟩
    revert o
    cases f (env.set i (some w)) with
    | err c => exact fun o => o
    | stuck => exact fun o => o
    | val w =>
      cases w with
      | ob _ _ => exact fun o => o.elim
      | sh d =>
        intro o v G' H' s' dq
        dsimp only at o
        split at o
        · rename_i n
          obtain ⟨s1, gp⟩ := hidS_step (fun a m => (e2.nw a m).1) k s'
          refine o v _ H' s1 ⟨?_, dq.ok⟩
          rcases n with n | n
          · exact flat_dp d v n dq.dp
          · exact hidS_dp (fun a m => by rw [gp a m]; exact RRp.nots r F u e2.rp n.2 a m) d v n.1 dq.dp
        · exact o.elim
      | ow es =>
        intro o p' ys G' H' s' n1 n2 e4 dq
        dsimp only at o
        split at o
        · rename_i n
          obtain ⟨s1, gp⟩ := hidS_step (fun a m => (e2.nw a m).1) k s'
          have hp : hidS G' F p' = none := by
            by_cases m : p' ∈ F
            · exact hidS_in m
            · rw [hidS_out m]; exact n2
          refine o p' ys _ H' s1 n1 hp e4 ⟨?_, dq.ok⟩
          rcases n with n | n
          · exact flat_dpAll es ys n dq.dp
          · exact hidS_dpAll (fun a m => by rw [gp a m]; exact RRp.nots r F u e2.rp n.2 a m) es ys n.1 dq.dp
        · exact o.elim
      | rg q =>
        intro o v F2 G' H' s' nd nw dq
        dsimp only at o
        split at o
        · rename_i n
          obtain ⟨s1, gp⟩ := hidS_step (fun a m => (e2.nw a m).1) k s'
          refine o v F2 _ H' s1 nd (fun a m => ⟨?_, (nw a m).2⟩) (RRp.leaf (fun d v n' z => ⟨hidS_dp (fun a m => by rw [gp a m]; exact RRp.nots r F u e2.rp n.2 a m) d v n' z.dp, z.ok⟩) q F2 v dq n.1)
          by_cases m' : a ∈ F
          · exact hidS_in m'
          · rw [hidS_out m']; exact (nw a m).1
        · exact o.elim
  · exact ⟨G, env, S, o⟩
  rename_i ds ei
  obtain ⟨p, xs, hg, hp, h5, S'⟩ := S.frz' ei
  refine ⟨_, _, S', ?_⟩
  revert o
  cases f (env.set i (some (.sh (.list ds)))) with
  | err c => exact fun o => o
  | stuck => exact fun o => o
  | val w =>
    cases w with
    | ob _ _ => exact fun o => o.elim
    | sh d =>
      intro o v G' H' s' dq
      dsimp only at o
      split at o
      · rename_i n
        obtain ⟨s1, gp⟩ := hid_step hg s' hp
        exact o v _ H' s1 ⟨n.elim (fun n => hid_dp gp d v n dq.dp) (fun n => hid_dz gp (h5.mono s'.gg).dp d v n dq.dp), dq.ok⟩
      · exact o.elim
    | ow es =>
      intro o p' ys G' H' s' n1 n2 e4 dq
      dsimp only at o
      split at o
      · rename_i n
        obtain ⟨s1, gp⟩ := hid_step hg s' hp
        refine o p' ys _ H' s1 n1 ?_ e4 ⟨n.elim (fun n => hid_dpAll gp es ys n dq.dp) (fun n => n.elim (fun n => hid_dzAll gp (h5.mono s'.gg).dp es ys n dq.dp) (fun n => hid_dzEach gp (h5.mono s'.gg).dp es ys n dq.dp)), dq.ok⟩
        have ne : p' ≠ p := fun z => by rw [z, gp] at n2; cases n2
        rw [hid_ne ne]; exact n2
      · exact o.elim
    | rg q =>
      intro o v F2 G' H' s' nd nw dq
      dsimp only at o
      split at o
      · rename_i n
        obtain ⟨s1, gp⟩ := hid_step hg s' hp
        refine o v F2 _ H' s1 nd (fun a m => ⟨?_, (nw a m).2⟩) (RRp.leaf (fun d v n' z => ⟨hid_dp gp d v n' z.dp, z.ok⟩) q F2 v dq n)
        have ne : a ≠ p := fun z => by
          have := (nw a m).2
          rw [z, hp] at this; cases this
        rw [hid_ne ne]; exact (nw a m).1
      · exact o.elim
theorem vt_bor (i : Nat) (h : VT X T EX B e f) : VT X T EX B e (vBor i f) := pt_weak h fun σ H Q q => by
  obtain ⟨G, env, S, o⟩ := q
  unfold vBor at o
  split at o
  rotate_left
  · rename_i r ei
    split at o
    rotate_left
    · exact ⟨G, env, S, o⟩
    rename_i w ew
    obtain ⟨u, F, e1, e2, S'⟩ := S.frzR ei ew
    have k := RRp.at r F u e2.rp
    refine ⟨_, _, S', ?_⟩
    revert o
    cases f (env.set i (some w)) with
    | err c => exact fun o => o
    | stuck => exact fun o => o
    | val w =>
      cases w with
      | ob _ _ => exact fun o => o.elim
      | ow es => intro o; dsimp only at o; split at o <;> exact o.elim
      | rg q => intro o; dsimp only at o; split at o <;> exact o.elim
      | sh d =>
        intro o
        dsimp only at o
        split at o
        · cases d with
          | bool b =>
            intro G' H' s'
            obtain ⟨s1, gp⟩ := hidS_step (fun a m => (e2.nw a m).1) k s'
            exact o _ H' s1
          | _ => exact o.elim
        · exact o.elim
  · exact ⟨G, env, S, o⟩
  rename_i ds ei
  obtain ⟨p, xs, hg, hp, h5, S'⟩ := S.frz' ei
  refine ⟨_, _, S', ?_⟩
  revert o
  cases f (env.set i (some (.sh (.list ds)))) with
  | err c => exact fun o => o
  | stuck => exact fun o => o
  | val w =>
    cases w with
    | ob _ _ => exact fun o => o.elim
    | ow es => intro o; dsimp only at o; split at o <;> exact o.elim
    | rg q => intro o; dsimp only at o; split at o <;> exact o.elim
    | sh d =>
      intro o
      dsimp only at o
      split at o
      · cases d with
        | bool b =>
          intro G' H' s'
          obtain ⟨s1, gp⟩ := hid_step hg s' hp
          exact o _ H' s1
        | _ => exact o.elim
      · exact o.elim
/-- a test that looks so: as a value -/
@[simp] def sRev (i : Nat) : FS := fun env => match env[i]? with
  | some (some (.ow ds)) => .nx (env.set i (some (.ow ds.reverse)))
  | _ => .stuck
theorem vs_rev (j : Nat) {x : Str} {px apos cpos : Pos} (hN : X.N[j]? = some x := by rfl) (hv : Vis X.env.scope x := by first | exact Or.inl rfl | exact Or.inr (Or.inl rfl) | exact Or.inr (Or.inr rfl)) (hd : (x == ("__debug__" : Str)) = false := by decide) (hcd : (x == ("__classdict__" : Str)) = false := by decide)
    (hline : (apos.endLine == cpos.line) = true := by rfl) : VS X T EX B (.Expr (.Call (.Attribute (.Name x px) "reverse" apos) [] [] cpos) pos) (sRev j) := by
  refine ps_weak (ps_expr (pe_bm0 PySem.F.plainAttrs_list PySem.F.slot_list_reverse PySem.F.type_list_reverse mt_reverse (pe_var hN hv hd hcd) rfl hline) rfl) fun D σ H q => ?_
  obtain ⟨G, env, S, o⟩ := q
  unfold sRev at o
  split at o
  · rename_i ds ei
    obtain ⟨p, xs, h1, h2, h3, h4, h5⟩ := S.ow j ds ei
    exact ⟨.ref p, h1, .inl ⟨rfl, xs, SqL.of h2⟩, p, xs, rfl, rfl, h2, o G _ _ (Same.refl _) (S.write ei h1 h5.reverse)⟩
  · exact o.elim
/-- four names at once -/
@[simp] def tg4 (i j k l : Nat) : Tg := fun d env => match d with
  | .tuple [x, y, z, w] => some ((((env.set i (some (.sh x))).set j (some (.sh y))).set k (some (.sh z))).set l (some (.sh w)))
  | _ => none
theorem tr_4 {K : PySem.W.Frag} {i j l m : Nat} : TgRun T B (gTup K 4 (gCons (gName i) (gCons (gName j) (gCons (gName l) (gCons (gName m) gNil))))) [i, j, l, m] (tg4 i j l m) := by
  intro G env σ H v d env' Q S dq e q
  unfold tg4 at e
  split at e
  · cases e
    obtain ⟨l, xs, rfl, sq, q1⟩ := dq.tupInv
    obtain ⟨v1, vs1, rfl, d1, q2⟩ := q1.inv
    obtain ⟨v2, vs2, rfl, d2, q3⟩ := q2.inv
    obtain ⟨v3, vs3, rfl, d3, q4⟩ := q3.inv
    obtain ⟨v4, vs4, rfl, d4, q5⟩ := q4.inv
    cases q5.inv0
    exact ⟨l, _, rfl, sqT_K (same_seqT S.gh sq), rfl, v1, _, rfl, v2, _, rfl, v3, _, rfl, v4, _, rfl, rfl, q _ ((((S.setSh d1).setSh d2).setSh d3).setSh d4) (SetIn.trans (is := [i, j, _]) (SetIn.trans (is := [i, j]) (SetIn.trans (js := [j]) .one .one) .one) .one)⟩
  · cases e
/-- f() -/
theorem ve_callF0 {x : Str} {k : Nat} {m : List SV → R} (F : Fn X.prog X.w X.K X.mg X.base T k x 0 m) (hr : Room k X.A) (hg : Gl X x) (C : Cv X T EX B) (hd : (x == ("__debug__" : Str)) = false := by decide) :
    VE X T EX B (.Call (.Name x p) [] [] pos) (calF 0 m []) := by
  obtain ⟨f, fd, ps, F, hm, hk, hb⟩ := F
  refine pe_weak (pe_callG0 (E := fun _ => EX) F C.gd hr hg hm hk hb (fun σ pn H s e s' => C.pass pn σ H s e s') hd) fun σ H Q q => ?_
  obtain ⟨G, env, S, o⟩ := q
  exact ⟨G, [], S.gh, S.st.nm S.nb.1, S.mo, .nil, rfl, o⟩
/-- x.pop(k) of one's own, the item kept or not -/
def sPopA (i j : Nat) (g : FE) : FS := fun env => match env[j]? with
  | some (some (.ow ds)) => (match evA [g] env with
    | .val [.sh (.int k)] => (match (if k ≤ 1000000 then ixN ds.length k else none) with
      | some n => (match ds[n]? with
        | some d => .nx ((env.set j (some (.ow (ds.eraseIdx n)))).set i (some (.sh d)))
        | none => .stuck)
      | none => .stuck)
    | .err c => .err c
    | _ => .stuck)
  | _ => .stuck
end
end VL
namespace VL
open PySem L2
/-! ### the end of a law -/
theorem df_mk {K : PySem.W.Frag} {h : Heap} {mg : Str → Option Value} {x q : Str} {st : Stmt} {ps : List Str} {f : Addr} {oc : Value} {od an : Option Addr} {osl : Array (Option Value)} {kV doc pm cdv ct : Value} (X : K.In h) (G : h.Ns mainGlobals mg)
    (a : PySem.W.nsIn K mainGlobals x = some (some (.ref f))) (l : K.lookup f = some ⟨oc, od, .func (PySem.W.fnOf q q (defArgs st) (defBody st) (defScope st) .none kV doc pm an cdv ct), osl⟩) (c : PySem.W.codeIn K cdv q = true) (k : PySem.W.keepIn K (.ref f) = true)
    (hb : ∀ (kV doc pm : Value) (an : Option Addr) (cdv ct : Value) (us : List Value), us.length = ps.length → bindArgs (PySem.W.fnOf q q (defArgs st) (defBody st) (defScope st) .none kV doc pm an cdv ct) ⟨us, []⟩ = pure (ps.zip us)) : Df K mg x q st ps := by
  have F := fun_mk (st := st) l c k
  exact ⟨f, _, F, PySem.W.mg_of X G a, F.binds hb⟩
theorem er_mk {K : PySem.W.Frag} {h : Heap} {mg : Str → Option Value} {x : Str} {C : Addr} (X : K.In h) (G : h.Ns mainGlobals mg) (a : PySem.W.nsIn K mainGlobals x = some (some (.ref C))) (e : PySem.W.excIn K C veMro "ValueError.__new__" = true) (k : PySem.W.keepIn K (.ref C) = true)
    (s : PySem.W.subIn K (.ref C) (.type "BaseException") = some true) (t : PySem.W.typeIn K (.ref C) = some (.type "type")) : Er K mg (ctOf mg) x := ⟨C, PySem.W.mg_of X G a, adOf_eq (PySem.W.mg_of X G a), e, k, s, t⟩
theorem no_mk {K : PySem.W.Frag} {h : Heap} {mg : Str → Option Value} {x : Str} (X : K.In h) (G : h.Ns mainGlobals mg) (z : PySem.W.nsIn K mainGlobals x = some none) : mg x = none := PySem.W.mg_none_of X G z
theorem k_mk {K : PySem.W.Frag} {h : Heap} {mg : Str → Option Value} {x : Str} {i : Int} {tk : Tok} (X : K.In h) (G : h.Ns mainGlobals mg) (z : PySem.W.nsIn K mainGlobals x = some (some (.int i tk))) : ∃ tk, mg x = some (.int i tk) := ⟨tk, PySem.W.mg_of X G z⟩
/-- no list stands in the written part -/
def noLst (K : PySem.W.Frag) : Bool := K.all fun p => match p.2.cls with
  | .type n => n != "list"
  | _ => true
theorem noLst_sq {K : PySem.W.Frag} (h : noLst K = true) {H : Hp} {a : Addr} {xs : List V} (s : SqL K H a xs) : SqL [] H a xs := by
  rcases s with s | ⟨o, its, n, hk, hc, _⟩
  · exact .inl s
  · exfalso
    have : ∀ {K : PySem.W.Frag} {a : Addr} {o : Obj}, K.lookup a = some o → ∃ b, (b, o) ∈ K := by
      intro K
      induction K with
      | nil => intro a o h; cases h
      | cons p r ih =>
        intro a o h
        rw [List.lookup_cons] at h
        split at h
        · cases h; exact ⟨p.1, List.mem_cons_self⟩
        · obtain ⟨b, hb⟩ := ih h; exact ⟨b, List.mem_cons_of_mem _ hb⟩
    obtain ⟨b, hb⟩ := this hk
    have z := List.all_eq_true.mp h _ hb
    simp only [hc] at z
    exact absurd z (by decide)
def spLaw : Sp := fun vs H Q _ => ∃ (a : Addr) (ns : List Int), vs = [.ref a] ∧ ns.length ≤ 63 ∧ (∀ z ∈ ns, Builtin.Int.intBits z ≤ 1048576) ∧ SqL [] H a (ns.map V.int) ∧ ∀ H', Q (.bl true) H'
theorem law_imp {T : Ct} (hT : NoMe T) {m : List SV → R} (h : ∀ ns : List Int, ns.length ≤ 63 → (∀ z ∈ ns, Builtin.Int.intBits z ≤ 1048576) → m [.sh (.list (ns.map .int))] = .val (.sh (.bool true))) : ∀ vs H Q E, spLaw vs H Q E → spV T 1 m vs H Q E := by
  rintro vs H Q E ⟨a, ns, rfl, h1, h2, s, q⟩
  let G : Hp := fun b => if b = a then H a else none
  have ga : G a = H a := if_pos rfl
  have gs : Same G H := fun b o e => by
    by_cases z : b = a
    · subst z; rw [ga] at e; exact e
    · have : G b = none := if_neg z
      rw [this] at e; cases e
  have sg : SqL [] G a (ns.map V.int) := by
    rcases s with (s | ⟨o, s⟩) | ⟨o, its, n, hk, _⟩
    · exact .inl (.inl (by rw [ga]; exact s))
    · exact .inl (.inr ⟨o, by rw [ga]; exact s⟩)
    · cases hk
  have ng : NoMem G := fun b o e m => by
    by_cases z : b = a
    · subst z
      rcases sg with (s | ⟨o', s⟩) | ⟨o', its, n, hk, _⟩
      · rw [e] at s; cases s; exact m
      · rw [e] at s; cases s; exact m
      · cases hk
    · have : G b = none := if_neg z
      rw [this] at e; cases e
  refine ⟨G, [.sh (.list (ns.map .int))], gs, ng, hT.ok, .cons (Dq.lst sg (dq_ints ns)) .nil, rfl, ?_⟩
  rw [h ns h1 h2]
  intro v G' H' _ d
  rw [d.blInv]
  exact q H'
theorem walk {l : PySem.W.OpenLaw} {q : Program} {loose : List Str} {XP : (Str → Option Value) → Heap → Prop} {YP : World → Heap → Prop} {d : DefRec} {K : Params → PySem.W.Frag} {k : Nat} (hr : Room k callerA) (hn : l.most = some 63) (hdf : d.params.defaults = [])
    (hY : ∀ (w : World) (h : Heap), YP w h → (K w.params).In h) (hL : ∀ w : World, noLst (K w.params) = true)
    (F : ∀ (w : World) (mg : Str → Option Value) (fa : Addr) (h : Heap), (K w.params).In h → h.Ns mainGlobals mg → mg d.name = some (.ref fa) →
      ∃ fd : FuncData, (∀ (s : Shared) (u : Value), BindsTo s fd ⟨[u], []⟩ [("_law_script", u)]) ∧ ∀ base : Heap, (K w.params).In base → FnGd l.prog w (K w.params) mg base (L2.CX l.prog w) k fa fd ["_law_script"] spLaw) :
    PySem.W.WalkO q loose XP YP l.row.toRowW d [] (fun f vs => PySem.call f vs) := by
  refine Att.attach_callB hn hdf fun w s0 s1 mg mb fa o pm cd doc a vs ns G Y ho hd hcd hmg hobj hints hlen hbits hg => ?_
  obtain ⟨fd, hb, hF⟩ := F w mg fa _ (hY w _ Y) G.T.g hmg
  exact due_all (hY w _ Y) G.T.g G.T.b G.T.builtins G.T.nolimit hg hobj hints (Nat.le_trans hlen (by decide)) hr hF hb fun H _ hS => ⟨a, ns, rfl, hlen, hbits, noLst_sq (hL w) hS, fun _ => rfl⟩
end VL
namespace VL
open PySem L2
/-! ### try: a call, except the errors of one class: a suite that asks of what class it is -/
@[simp] def noX1 : Option SV → Bool
  | some (.ob c _) => c != 100
  | _ => true
@[simp] def noX (env : VEnv) : Bool := env.all noX1
theorem noX_ob {env : VEnv} (h : noX env = true) {i : Nat} {c : Nat} {fs : List D} (e : env[i]? = some (some (.ob c fs))) : c ≠ 100 := by
  have := List.all_eq_true.mp h _ (List.mem_of_getElem? e)
  simpa using this
theorem ObRp.other {T T' : Ct} {G : Hp} {v : V} {c : Nat} {fs : List D} (hc : c ≠ 100) (h1 : T.ad = T'.ad) (h2 : T.fl = T'.fl) (h3 : T.me = T'.me) (h5 : T.fr = T'.fr) (h : ObRp T G v c fs) : ObRp T' G v c fs := by
  unfold ObRp XoR CaR at *
  rw [if_neg hc] at *
  rw [← h1, ← h2, ← h3, ← h5]; exact h
theorem Sim.other {T T' : Ct} {B : Hp × Hp} {G H : Hp} {env : VEnv} {σ : L2.St} (S : Sim T B G env σ H) (h : noX env = true) (h1 : T.ad = T'.ad) (h2 : T.fl = T'.fl) (h3 : T.me = T'.me) (h4 : T.tb = T'.tb := by rfl) (h5 : T.fr = T'.fr := by rfl) (h6 : T.gc = T'.gc := by rfl) : Sim T' B G env σ H :=
  ⟨S.st, by rw [← h6]; exact S.nb, by unfold MeOk; rw [← h3, ← h4]; exact S.me, S.len, S.sh, fun i c fs e => by
    obtain ⟨v, a, b⟩ := S.ob i c fs e
    exact ⟨v, a, b.other (noX_ob h e) h1 h2 h3 h5⟩, S.ow, S.ap, fun i r e => by
    obtain ⟨u, v, F, a, b, c⟩ := S.rg i r e
    exact ⟨u, v, F, a, ⟨RRp.mono (Same.refl _) h1 h2 r F v b.rp fun _ _ => rfl, b.nd, b.nw⟩, c⟩⟩
@[simp] def sTry (i : Nat) (es : List Str) (n : Nat) (m : List SV → R) (fs : List FE) (hd : Str → FS) : FS := fun env => if noX env = true then (match evA fs env with
    | .val as => if as.length = n then (match m as with
      | .val _ => .nx env
      | .err c => if c ∈ es then (match hd c (env.set i (some (.ob 100 []))) with
        | .nx e => if noX (e.set i none) = true then .nx (e.set i none) else .stuck
        | _ => .stuck) else .stuck
      | .stuck => .stuck) else .stuck
    | _ => .stuck) else .stuck
/-- isinstance(error, d), error of class c -/
@[simp] def vIsE (i : Nat) (c d : Str) : FE := fun env => match env[i]? with
  | some (some (.ob 100 _)) => rb (c == d)
  | _ => .stuck
/-- what the top says of an error c that a clause takes by the name h and asks for the classes ds -/
structure Xc (K : PySem.W.Frag) (mg : Str → Option Value) (T : Ct) (h : Str) (ds : List Str) (c : Str) : Prop where
  ex : ExcC K (T.er c)
  ct : ∃ cH, mg h = some cH ∧ PySem.W.exmOne K (.ref (T.er c)) cH = some true
  is : ∀ d ∈ ds, ∃ C, mg d = some (.ref C) ∧ PySem.W.kitOne K (.ref (T.er c)) (.ref C) = some (c == d)
section
variable {X : Cx} {T : Ct} {EX : XK} {B : Hp × Hp} {e a b c o tg : Expr} {es : List Expr} {pos p p2 : Pos} {f g h : FE} {fs : List FE} {G H G1 H1 : Hp} {Q : VK} {st : Stmt} {sts : List Stmt} {s t : FS} {D : Ends} {σ : L2.St} {env : VEnv}
theorem vs_setN (i : Nat) {x : Str} {pos' : Pos} (nd : X.N.Nodup) (he : VE X T EX B e f) (hi : X.N[i]? = some x := by rfl) (hx : Loc X.env.scope x := by first | exact .inl rfl | exact .inr rfl) (hs : swapsWith e (some (.Name x pos')) pos.line X.env = pure false := by rfl) (hf : X.fn x = true ∨ X.env.scope.names.lookup x = some .local := by first | exact .inl rfl | exact .inr rfl) :
    VS X T EX B (.Assign [.Name x pos'] e pos) (sSet i f) := ps_weak (ps_set nd hi hx he hs hf) fun D σ H q => by
  obtain ⟨G, env, S, o⟩ := q
  exact seqS S o fun v _ o => set_fz S o
theorem ve_isE (i : Nat) {x d cn hn : Str} {ds : List Str} {px p1 : Pos} {oe : Obj} {pn : List (Addr × Obj)} {ad : Addr} (xc : Xc X.K X.mg T hn ds cn) (hz : Zc (.ref (T.er cn)) none oe) (hf : ∃ vs, oe.data = .fields vs) (hd : d ∈ ds)
    (bi : Bt (X.suite ad ((ad, oe) :: pn)) "isinstance") (hg : Gl (X.suite ad ((ad, oe) :: pn)) d) (hN : X.N[i]? = some x := by rfl) (hv : Vis X.env.scope x := by first | exact Or.inl rfl | exact Or.inr (Or.inl rfl) | exact Or.inr (Or.inr rfl)) (hdb : (x == ("__debug__" : Str)) = false := by decide) (hcd : (x == ("__classdict__" : Str)) = false := by decide) (hdd : (d == ("__debug__" : Str)) = false := by decide)
    (hs : starEach [.Name x px, .Name d p1] X.env = (false, eval (.Name x px) X.env) :: starEach [.Name d p1] X.env := by rfl) :
    VE (X.suite ad ((ad, oe) :: pn)) { T with xa := ad } EX B (.Call (.Name "isinstance" p) [.Name x px, .Name d p1] [] pos) (vIsE i cn d) := by
  obtain ⟨C, h1, h2⟩ := xc.is d hd
  refine pe_weak (pe_callB (call_isE xc.ex hz hf) bi.gl bi.mg PyProof.Rows.boot_isinstance (pa_cons (pe_var hN hv hdb hcd) (pa_cons (pe_glob (v := .ref C) hg h1 rfl hdd) pa_nil rfl) hs) (by decide) (by decide) hs rfl) fun σ H Q q => ?_
  obtain ⟨G, env, S, o⟩ := q
  unfold vIsE at o
  split at o
  · rename_i fs' e'
    obtain ⟨v, e1, e2⟩ := S.ob i 100 _ e'
    unfold ObRp at e2
    rw [if_pos rfl] at e2
    subst e2
    refine ⟨_, e1, .ref C, .ref C, _, rfl, fun u r => r, h2, ?_⟩
    exact o.rb S.gh
  · exact o.elim
theorem vs_try (i : Nat) {x n hn : Str} {k q : Nat} {m : List SV → R} {ers ds : List Str} {hd : Str → FS} {np pos' pos1 pos2 : Pos} {b₀ : Stmt} {suite : List Stmt}
    (C : Cv X T EX B) (hs : X.stack = X.env :: X.outer) (hf : X.env.frame = some X.env.locals) (F : Fn X.prog X.w X.K X.mg X.base T k x q m) (hr : Room k X.A) (hg : Gl X x)
    (hgh : Gl X hn) (xc : ∀ c ∈ ers, Xc X.K X.mg T hn ds c) (hc : ∃ cH, X.mg hn = some cH)
    (ha : ∀ pn xe, VA (X.tr pn xe) T E0 B (e :: es) fs)
    (hsu : ∀ (a : Addr) (oe : Obj) (pn : List (Addr × Obj)) (c : Str), c ∈ ers → Zc (.ref (T.er c)) none oe → (∃ vs, oe.data = .fields vs) → VSs (X.suite a ((a, oe) :: pn)) { T with xa := a } E0 B (b₀ :: suite) (hd c))
    (hi : X.N[i]? = some n := by rfl) (hln : X.env.kindOf n = some .local := by rfl) (hdh : (hn == ("__debug__" : Str)) = false := by decide) (hdb : (x == ("__debug__" : Str)) = false := by decide) (hst : starEach (e :: es) X.env = (false, eval e X.env) :: starEach es X.env := by rfl) (hpl : ((backTo pos1 (starEach es X.env)).any fun z => z.1) = false := by rfl)
    (hsw : swapsWith (.Call (.Name x p) (e :: es) [] pos1) none pos2.line X.env = pure false := by rfl) :
    VS X T EX B (.Try [.Expr (.Call (.Name x p) (e :: es) [] pos1) pos2] [.ExceptHandler (some (.Name hn np)) (some n) (b₀ :: suite) pos'] [] [] pos) (sTry i ers q m fs hd) := by
  obtain ⟨cH, hcH⟩ := hc
  obtain ⟨fa, fd, ps, F, hm, hk, hb⟩ := F
  refine ps_weak (ps_try_as (i := i) (c := cH) (tb := fun W D σ H => tCallS (spV T q m) (WE W) (rdA T E0 B fs) σ H fun _ H' => D.nx σ H') (Wout := fun _ _ _ _ => False)
    (ts := fun a cls d D σ H => ∃ c, c ∈ ers ∧ cls = .ref (T.er c) ∧ d = none ∧ rdS { T with xa := a } E0 B (hd c) D σ H) hs hf C.nd hi hln ⟨hgh, hdh, .inl hcH⟩ takes0 (fun W pn xe tk _ => ?_) (fun a oe cls d pn hz hfl => ?_)) fun D σ H w => ?_
  · exact pss_one (ps_weak (ps_expr (pe_callG (X := X.tr pn xe) (E := WE W) F C.gd hr hg hm hk hb (fun σ => passAt tk σ) (ha pn xe) hdb hst hpl) hsw) fun D σ H z => z)
  · refine ⟨fun pins s σ H D I z => ?_⟩
    obtain ⟨c, h1, h2, h3, z⟩ := z
    subst h2 h3
    exact (hsu a oe pn c h1 hz hfl).run pins s σ H D I z
  · obtain ⟨G, env, S, o⟩ := w
    unfold sTry at o
    split at o
    case isFalse => exact o.elim
    rename_i nx0
    refine ⟨G, env, S, ?_⟩
    revert o
    cases evA fs env with
    | err c => exact fun o => o.elim
    | stuck => exact fun o => o.elim
    | val as =>
      intro o vs G' H' st rp
      dsimp only at o
      split at o
      case isFalse => exact o.elim
      rename_i hl
      refine ⟨G', as, st.gh, st.nm (S.st.nm S.nb.1), (S.step st).mo, rp, hl, ?_⟩
      revert o
      cases m as with
      | stuck => exact fun o => o.elim
      | val v => exact fun o => Out.fz fun y G2 H2 s2 _ => o G2 σ H2 (st.trans s2).gg (S.step (st.trans s2))
      | err c =>
        intro o H2 sh
        dsimp only at o
        split at o
        case isFalse => exact o.elim
        rename_i hc
        obtain ⟨cH', h1, h2⟩ := (xc c hc).ct
        rw [hcH] at h1
        cases h1
        refine ⟨true, h2, fun _ a na => ⟨c, hc, rfl, rfl, G', env.set i (some (.ob 100 [])), ?_, ?_⟩, fun z => nomatch z⟩
        · have S1 : Sim T B G' env σ H2 := (S.step st).step ⟨sh, Same.refl _, sh.up st.gh (st.nm (S.st.nm S.nb.1)), fun _ u w => absurd u w, fun n => n⟩
          exact Sim.setOb (S1.other (T' := { T with xa := a }) nx0 rfl rfl rfl) (by unfold ObRp; rw [if_pos rfl])
        · revert o
          cases hd c (env.set i (some (.ob 100 []))) with
          | stuck => exact fun o => o.elim
          | err c => exact fun o => o.elim
          | rt v => exact fun o => o.elim
          | nx e =>
            intro o G3 σ3 H3 sg S3
            dsimp only at o
            split at o
            case isFalse => exact o.elim
            rename_i nx1
            exact o G3 (σ3.set i none) H3 (st.gg.trans sg) (Sim.other (T := { T with xa := a }) S3.setNone nx1 rfl rfl rfl)
end
inductive Xi (K : PySem.W.Frag) (C : Addr) (c : Str) : List Str → Prop
  | nil : Xi K C c []
  | cons {d : Str} {ds : List Str} {D : Addr} (a : PySem.W.nsIn K mainGlobals d = some (some (.ref D))) (e : PySem.W.kitOne K (.ref C) (.ref D) = some (c == d)) (r : Xi K C c ds) : Xi K C c (d :: ds)
theorem xi_nil {K : PySem.W.Frag} {C : Addr} {c : Str} : Xi K C c [] := .nil
theorem xi_cons {K : PySem.W.Frag} {C D : Addr} {c d : Str} {ds : List Str} {b : Bool} (a : PySem.W.nsIn K mainGlobals d = some (some (.ref D))) (e : PySem.W.kitOne K (.ref C) (.ref D) = some b) (hb : (c == d) = b) (r : Xi K C c ds) : Xi K C c (d :: ds) := .cons a (hb ▸ e) r
theorem Xi.get {K : PySem.W.Frag} {h : Heap} {mg : Str → Option Value} {C : Addr} {c : Str} (X : K.In h) (G : h.Ns mainGlobals mg) : ∀ {ds : List Str}, Xi K C c ds → ∀ d ∈ ds, ∃ D, mg d = some (.ref D) ∧ PySem.W.kitOne K (.ref C) (.ref D) = some (c == d)
  | _, .nil, d, m => absurd m List.not_mem_nil
  | _, .cons a e r, d, m => by
    rcases List.mem_cons.mp m with rfl | m
    · exact ⟨_, PySem.W.mg_of X G a, e⟩
    · exact r.get X G d m
theorem xc_mk {K : PySem.W.Frag} {h : Heap} {mg : Str → Option Value} {C CH : Addr} {c hn : Str} {ds : List Str} (X : K.In h) (G : h.Ns mainGlobals mg) (a : PySem.W.nsIn K mainGlobals c = some (some (.ref C))) (ex : ExcC K C)
    (ah : PySem.W.nsIn K mainGlobals hn = some (some (.ref CH))) (hm : PySem.W.exmOne K (.ref C) (.ref CH) = some true) (xi : Xi K C c ds) : Xc K mg (ctOf mg) hn ds c := by
  have e : (ctOf mg).er c = C := adOf_eq (PySem.W.mg_of X G a)
  exact ⟨by rw [e]; exact ex, ⟨_, PySem.W.mg_of X G ah, by rw [e]; exact hm⟩, by rw [e]; exact xi.get X G⟩
theorem xa_nil {Q : Str → Prop} : ∀ c ∈ ([] : List Str), Q c := fun _ m => absurd m List.not_mem_nil
theorem xa_cons {Q : Str → Prop} {a : Str} {r : List Str} (h : Q a) (t : ∀ c ∈ r, Q c) : ∀ c ∈ a :: r, Q c := fun c m => by
  rcases List.mem_cons.mp m with rfl | m
  · exact h
  · exact t c m
end VL
namespace VL
open PySem L2
/-! ### xs.index(y), xs.count(y) of any data -/
section
variable {X : Cx}
def rCountD (K : PySem.W.Frag) : V → List V → Hp → VK → Prop := fun x xs H Q => ∃ (a : Addr) (y : V) (d : PyData) (ds : List PyData), x = V.ref a ∧ xs = [y] ∧ Dp K H (V.ref a) (.list ds) ∧ Dp K H y d ∧
  SeqAt.shaped (.list ds) = true ∧ SeqAt.shaped d = true ∧ Q (.int ((ds.countP fun z => PyData.eqv z d : Nat) : Int)) H
theorem mt_countD (hu : X.A.units + 65 < cLine) : MtR X "list.count" (rCountD X.K) := by
  intro pins s σ H x xs v us Q I rx rxs h
  obtain ⟨a, y, d, ds, rfl, rfl, hl, hy, sl, sd, q⟩ := h
  cases rx
  obtain ⟨uy, rfl, ry⟩ := rxs.one
  obtain ⟨bs, r1⟩ := Dp.reads I d y uy hy ry
  have hxs : PyData.canLayAll0 ds = true := SeqAt.canLay_of_shaped sl
  cases hl with
  | lst hs ha =>
    obtain ⟨its, rv, ⟨⟨cls, dd, data, sls⟩, n, ho, hc, hdn, hdt⟩, hlen⟩ := I.list hs
    simp only at hc hdt
    subst hc hdt
    obtain ⟨as, h4⟩ := Dp.readsAll I ds _ its ha rv
    have em : its.map (SeqAt.readOf s.heap) = ds := SeqAt.readsAll_map ds its as hxs h4
    refine call_meets PySem.F.slot_list_count ⟨_, ho, rfl⟩ PySem.F.entry_list_count (PySem.F.args_list_count_2 _ _) (SeqAt.list_countAt a its.toArray n dd sls uy fun u => PyData.eqv (SeqAt.readOf s.heap u) d)
      ⟨ho, SeqAt.items_eqAt (vs := its.toArray) (show ReadsAll s.heap its.toArray.toList ds as from h4) r1 hxs (SeqAt.canLay_of_shaped sd) (PyProof.Rows.room_in_shaped sd hu), ?_⟩
    have ec : its.toArray.toList.countP (fun u => PyData.eqv (SeqAt.readOf s.heap u) d) = ds.countP fun z => PyData.eqv z d := by
      rw [← em, List.countP_map]; rfl
    refine ⟨.int ((ds.countP fun z => PyData.eqv z d : Nat) : Int), H, I.tok _, ⟨s.toks, ?_⟩, q⟩
    show Value.int ((its.toArray.toList.countP fun u => PyData.eqv (SeqAt.readOf s.heap u) d : Nat) : Int) s.toks = _
    rw [ec]
end
@[simp] def fCntD : D → D → R
  | .list ds, y => if SeqAt.shaped (.list ds) = true ∧ SeqAt.shaped y = true then ri ((ds.countP fun z => PyData.eqv z y : Nat) : Int) else .stuck
  | _, _ => .stuck
@[simp] def fIdxD : D → D → R
  | .list ds, y => if SeqAt.shaped (.list ds) = true ∧ SeqAt.shaped y = true then (match ds.findIdx? fun z => PyData.eqv z y with
    | some j => ri (j : Nat)
    | none => .stuck) else .stuck
  | _, _ => .stuck
/-- a method of one argument, of a list's -/
@[simp] def vMth (h : D → D → R) (f g : FE) : FE := fun env => (f env).d fun x => match x with
  | .list ds => (evA [g] env).b fun as => match as with
    | [.sh y] => h (.list ds) y
    | _ => .stuck
  | _ => .stuck
section
variable {X : Cx} {T : Ct} {EX : XK} {B : Hp × Hp} {e a b c o tg : Expr} {es : List Expr} {pos p p2 : Pos} {f g h : FE} {fs : List FE} {G H G1 H1 : Hp} {Q : VK} {st : Stmt} {sts : List Stmt} {s t : FS} {D : Ends} {σ : L2.St} {env : VEnv}
theorem mth_use {r : V → List V → Hp → VK → Prop} {fn : VL.D → VL.D → R} (prim : ∀ (l : Addr) (y : V) (ds : List VL.D) (d : VL.D) (G H : Hp), Same G H → Dq G (.ref l) (.list ds) → Dq G y d → Out T EX (fn (.list ds) d) G H Q → r (.ref l) [y] H Q)
    (q : rdV T EX B (vMth fn f g) σ H Q) : rdV T EX B f σ H (fun x H1 => (∃ l xs, x = .ref l ∧ SqL [] H1 l xs) ∧ rdA T EX B [g] σ H1 fun vs H2 => r x vs H2 Q) := by
  obtain ⟨G, env, S, o⟩ := q
  refine rdV_mono (seqD S o) fun x H1 ⟨dx, G1, s1, hx, S1, o1⟩ => ?_
  split at o1
  · obtain ⟨l, xs, rfl, sq, q1⟩ := hx.lstH S1.gh
    refine ⟨⟨l, xs, rfl, sq⟩, args_seq S1 o1 fun vs as G2 H2 s2 rp S2 o2 => ?_⟩
    split at o2
    · cases rp with
      | cons h1 t =>
        cases t
        exact prim l _ _ _ G2 H2 S2.gh (hx.mono s2.gg) h1 o2
    · exact o2.elim
  · exact o1.elim
theorem dq_dp {K : PySem.W.Frag} {v : V} {d : VL.D} (h : Dq G v d) (e : Same G H) : Dp K H v d := dp_K _ _ (h.mono e).dp
theorem ve_count {apos : Pos} (C : Cv X T EX B) (ha : VE X T EX B a f) (hb : VE X T EX B b g) (hbase : attributeBase a "count" X.env (eval a X.env) = eval a X.env := by rfl)
    (hline : (apos.endLine == pos.line) = true := by rfl) (hs : starEach [b] X.env = [(false, eval b X.env)] := by rfl) (hplain : (backTo pos (starEach [] X.env)).any (·.1) = false := by rfl)
    (hfew : ((backTo pos (starEach [b] X.env)).all (fun x => !x.1) && (backToKw pos (keywordEach [] X.env)).all (fun x => x.1.isSome)
      && decide ([b].length + ([] : List Keyword).length + (if ([] : List Keyword).isEmpty then 0 else 1) < 30)) = true := by rfl) : VE X T EX B (.Call (.Attribute a "count" apos) [b] [] pos) (vMth fCntD f g) := by
  refine pe_weak (pe_bm PySem.F.plainAttrs_list PySem.F.slot_list_count PySem.F.type_list_count (mt_countD (by have := C.un; omega)) ha (va_cons hb va_nil hs) hbase hfew hline hs hplain) fun σ H Q q => ?_
  refine rdV_mono (mth_use (r := rCountD X.K) (fun l y ds d G H gh h1 h2 o => ?_) q) fun x H1 z => ?_
  · simp only [fCntD] at o
    split at o
    · rename_i c
      exact ⟨l, y, d, ds, rfl, rfl, dq_dp h1 gh, dq_dp h2 gh, c.1, c.2, o.ri gh⟩
    · exact o.elim
  · obtain ⟨⟨l, xs, rfl, sq⟩, z⟩ := z
    exact ⟨.inl ⟨rfl, xs, sqL_K sq⟩, z⟩
theorem ve_indexD {apos : Pos} (C : Cv X T EX B) (ha : VE X T EX B a f) (hb : VE X T EX B b g) (hbase : attributeBase a "index" X.env (eval a X.env) = eval a X.env := by rfl)
    (hline : (apos.endLine == pos.line) = true := by rfl) (hs : starEach [b] X.env = [(false, eval b X.env)] := by rfl) (hplain : (backTo pos (starEach [] X.env)).any (·.1) = false := by rfl)
    (hfew : ((backTo pos (starEach [b] X.env)).all (fun x => !x.1) && (backToKw pos (keywordEach [] X.env)).all (fun x => x.1.isSome)
      && decide ([b].length + ([] : List Keyword).length + (if ([] : List Keyword).isEmpty then 0 else 1) < 30)) = true := by rfl) : VE X T EX B (.Call (.Attribute a "index" apos) [b] [] pos) (vMth fIdxD f g) := by
  refine pe_weak (pe_bm PySem.F.plainAttrs_list PySem.F.slot_list_index PySem.F.type_list_index (mt_indexD (by have := C.un; omega)) ha (va_cons hb va_nil hs) hbase hfew hline hs hplain) fun σ H Q q => ?_
  refine rdV_mono (mth_use (r := rIndexD X.K) (fun l y ds d G H gh h1 h2 o => ?_) q) fun x H1 z => ?_
  · simp only [fIdxD] at o
    split at o
    · rename_i c
      split at o
      · rename_i j ej
        obtain ⟨hj, h3, h4⟩ := List.findIdx?_eq_some_iff_getElem.mp ej
        exact ⟨l, y, d, ds, j, ds[j], rfl, rfl, dq_dp h1 gh, dq_dp h2 gh, c.1, c.2, List.getElem?_eq_getElem hj, h3, fun m z' hm hz => by
          obtain ⟨w, hw⟩ := List.getElem?_eq_some_iff.mp hz
          have := h4 m hm
          rw [hw] at this
          simpa using this, o.ri gh⟩
      · exact o.elim
    · exact o.elim
  · obtain ⟨⟨l, xs, rfl, sq⟩, z⟩ := z
    exact ⟨.inl ⟨rfl, xs, sqL_K sq⟩, z⟩
end
end VL
namespace VL
open PySem L2
/-! ### str(x) of a list or a tuple -/
def isSeq : D → Bool
  | .list _ | .tuple _ => true
  | _ => false
def fStr (d : D) : R := if isSeq d = true ∧ d.showable = true ∧ d.hasDict = false ∧ d.depth ≤ 64 ∧ d.shown.length ≤ 16777216 ∧ PyData.strOk d.shown = true then ok (.str d.shown) else .stuck
section
variable {X : Cx} {T : Ct} {EX : XK} {B : Hp × Hp} {a : Expr} {pos p : Pos} {f : FE} {G H : Hp} {Q : VK}
theorem call_strD (hg : X.A.guards = some []) (hu : X.A.units + 150 < cLine) : CallR X (.type "str") (fun xs H Q => ∃ (b : Addr) (d : D), xs = [.ref b] ∧ Dp X.K H (.ref b) d ∧ d.showable = true ∧ d.hasDict = false ∧ d.depth ≤ 64 ∧ d.shown.length ≤ 16777216 ∧ Q (.str d.shown) H) := by
  intro pn s σ H xs us Q I r h
  obtain ⟨b, d, rfl, hd, h1, h2, h3, h4, q⟩ := h
  obtain ⟨u, rfl, ru⟩ := vals1 r
  obtain ⟨as, rd⟩ := Dp.reads I d (.ref b) u hd ru
  obtain rfl : u = Value.ref b := ru
  exact str_of_reads rd h1 (fun z => by rw [h2] at z; cases z) hg (by omega) (fun _ _ e => e) (fun h' u tk hk => ⟨.str d.shown, H, I.kept hk, ⟨u, rfl⟩, q⟩) (by rw [sizeLine_eq]; exact h4)
theorem ve_str1 (C : Cv X T EX B) (t : Bt X "str") (ha : VE X T EX B a f) (hs : starEach [a] X.env = [(false, eval a X.env)] := by rfl) : VE X T EX B (.Call (.Name "str" p) [a] [] pos) (cal1 fStr f) :=
  ve_cal1T (call_strD C.gd C.un) (fun Q v d G H gh hv o => by
    unfold fStr at o
    split at o
    · rename_i z
      obtain ⟨z0, z1, z2, z3, z4, z5⟩ := z
      have hd := dq_dp (K := X.K) hv gh
      cases d with
      | list ds =>
        obtain ⟨l, xs, rfl, s1, q1⟩ := hv.lstH gh
        exact ⟨l, _, rfl, hd, z1, z2, z3, z4, o.ok gh ⟨.str _, by simp only [PyData.canLay0, z5]⟩⟩
      | tuple ds =>
        obtain ⟨l, xs, rfl, s1, q1⟩ := hv.tupH gh
        exact ⟨l, _, rfl, hd, z1, z2, z3, z4, o.ok gh ⟨.str _, by simp only [PyData.canLay0, z5]⟩⟩
      | _ => cases z0
    · exact o.elim) t.gl t.mg (by decide +kernel) ha hs
end
end VL
namespace VL
open PySem L2
/-! ### y = x.pop(k), x.pop(k), k a place of x -/
@[simp] def popK (ds : List D) (j : Nat) (env : VEnv) (w : VEnv → D → VEnv) : SV → SR
  | .sh (.int k) => if 0 ≤ k ∧ k < ds.length ∧ ds.length ≤ 1000000 then (match ds[k.toNat]? with
    | some d => .nx (w (env.set j (some (.ow (ds.eraseIdx k.toNat)))) d)
    | none => .stuck) else .stuck
  | _ => .stuck
@[simp] def sPopI (i j : Nat) (g : FE) : FS := fun env => match env[j]? with
  | some (some (.ow ds)) => (match evA [g] env with
    | .val [a] => popK ds j env (fun e d => e.set i (some (.sh d))) a
    | .err c => .err c
    | _ => .stuck)
  | _ => .stuck
@[simp] def sPopX (j : Nat) (g : FE) : FS := fun env => match env[j]? with
  | some (some (.ow ds)) => (match evA [g] env with
    | .val [a] => popK ds j env (fun e _ => e) a
    | .err c => .err c
    | _ => .stuck)
  | _ => .stuck
theorem seqIx {k : Int} {n : Nat} (h0 : 0 ≤ k) (h1 : k < n) : seqIndex? k n = some k.toNat := by
  have c : ¬ k < 0 := by omega
  unfold seqIndex?
  simp only [if_neg c, decide_eq_true h0, decide_eq_true h1, Bool.and_self, if_true]
theorem DqAll.erase {G : Hp} : ∀ {ds : List D} {vs : List V} (n : Nat), DqAll G vs ds → DqAll G (vs.eraseIdx n) (ds.eraseIdx n)
  | [], _, n, h => by rw [h.inv0]; simp; exact .nil
  | _ :: _, _, 0, h => by
    obtain ⟨v, vs', rfl, h1, h2⟩ := h.inv
    exact h2
  | _ :: _, _, n + 1, h => by
    obtain ⟨v, vs', rfl, h1, h2⟩ := h.inv
    exact .cons h1 (h2.erase n)
section
variable {X : Cx} {T : Ct} {EX : XK} {B : Hp × Hp} {e : Expr} {pos : Pos} {f : FE} {G H : Hp} {σ : L2.St} {env : VEnv} {Dn : Ends}
theorem pop_use {w : VEnv → D → VEnv} {wσ : L2.St → V → L2.St} {j : Nat} {ds : List D} (hw : ∀ {G H : Hp} {env : VEnv} {σ : L2.St} {v : V} {d : D}, Sim T B G env σ H → Dq G v d → Sim T B G (w env d) (wσ σ v) H) (S : Sim T B G env σ H) (ei : env[j]? = some (some (.ow ds)))
    (o : OutS T EX B (match evA [f] env with | .val [a] => popK ds j env w a | .err c => .err c | _ => .stuck) G Dn) :
    ∃ p, σ[j]? = some (some (.ref p)) ∧ (∃ xs, SqL X.K H p xs) ∧ rdA T EX B [f] σ H fun vs H1 => rPopAt (.ref p) vs H1 fun v H2 => Dn.nx (wσ σ v) H2 := by
  obtain ⟨p, xs, h1, h2, h3, h4, h5⟩ := S.ow j ds ei
  refine ⟨p, h1, ⟨xs, SqL.of h2⟩, args1 (D := Dn) (K := popK ds j env w) S o fun a v G1 H1 s1 rp S1 o1 => ?_⟩
  unfold popK at o1
  split at o1
  · rename_i k
    split at o1
    · rename_i z
      obtain ⟨z0, z1, z2⟩ := z
      split at o1
      · rename_i d hd
        obtain ⟨h3', h2'⟩ := s1.own h3 h2
        have h5' := h5.mono s1.gg
        obtain ⟨y, hy, dy⟩ := h5'.get hd
        have hv : v = .int k := Dq.intInv rp
        subst hv
        have S2 := S1.write ei h1 (h5'.erase k.toNat)
        exact ⟨p, xs, k, k.toNat, y, rfl, rfl, h2', by omega, by omega, by rw [h5.length]; exact seqIx z0 z1, hy, o1 G1 _ _ (Same.refl _) (hw S2 dy)⟩
      · exact o1.elim
    · exact o1.elim
  · exact o1.elim
theorem vs_popI (i j : Nat) {x y : Str} {px py apos cpos : Pos} (C : Cv X T EX B) (he : VE X T EX B e f) (hN : X.N[j]? = some x := by rfl) (hv : Vis X.env.scope x := by first | exact Or.inl rfl | exact Or.inr (Or.inl rfl) | exact Or.inr (Or.inr rfl)) (hd : (x == ("__debug__" : Str)) = false := by decide) (hcd : (x == ("__classdict__" : Str)) = false := by decide)
    (hline : (apos.endLine == cpos.line) = true := by rfl) (hs : starEach [e] X.env = [(false, eval e X.env)] := by rfl) (hi : X.N[i]? = some y := by rfl) (hx : Loc X.env.scope y := by first | exact .inl rfl | exact .inr rfl) (hf : X.fn y = true ∨ X.env.scope.names.lookup y = some .local := by first | exact .inl rfl | exact .inr rfl) :
    VS X T EX B (.Assign [.Name y py] (.Call (.Attribute (.Name x px) "pop" apos) [e] [] cpos) pos) (sPopI i j f) := by
  refine ps_weak (ps_set C.nd hi hx (pe_bm PySem.F.plainAttrs_list PySem.F.slot_list_pop PySem.F.type_list_pop mt_popAt (pe_var hN hv hd hcd) (va_cons he va_nil hs) rfl (by rw [hs]; rfl) hline hs rfl) rfl hf) fun D σ H q => ?_
  obtain ⟨G, env, S, o⟩ := q
  unfold sPopI at o
  split at o
  · rename_i ds ei
    obtain ⟨p, h1, ⟨xs, sq⟩, z⟩ := pop_use (X := X) (wσ := fun σ v => σ.set i (some v)) (fun S d => S.setSh d) S ei o
    exact ⟨.ref p, h1, .inl ⟨rfl, xs, sq⟩, z⟩
  · exact o.elim
theorem vs_popX (j : Nat) {x : Str} {px apos cpos : Pos} (he : VE X T EX B e f) (hN : X.N[j]? = some x := by rfl) (hv : Vis X.env.scope x := by first | exact Or.inl rfl | exact Or.inr (Or.inl rfl) | exact Or.inr (Or.inr rfl)) (hd : (x == ("__debug__" : Str)) = false := by decide) (hcd : (x == ("__classdict__" : Str)) = false := by decide)
    (hline : (apos.endLine == cpos.line) = true := by rfl) (hs : starEach [e] X.env = [(false, eval e X.env)] := by rfl) :
    VS X T EX B (.Expr (.Call (.Attribute (.Name x px) "pop" apos) [e] [] cpos) pos) (sPopX j f) := by
  refine ps_weak (ps_expr (pe_bm PySem.F.plainAttrs_list PySem.F.slot_list_pop PySem.F.type_list_pop mt_popAt (pe_var hN hv hd hcd) (va_cons he va_nil hs) rfl (by rw [hs]; rfl) hline hs rfl) rfl) fun D σ H q => ?_
  obtain ⟨G, env, S, o⟩ := q
  unfold sPopX at o
  split at o
  · rename_i ds ei
    obtain ⟨p, h1, ⟨xs, sq⟩, z⟩ := pop_use (X := X) (wσ := fun σ _ => σ) (fun S _ => S) S ei o
    exact ⟨.ref p, h1, .inl ⟨rfl, xs, sq⟩, z⟩
  · exact o.elim
end
end VL
namespace VL
open PySem L2
/-! ### the table of counts -/
def spK (a b : Nat) : List Key := [.inl (a : Int), .inl (b : Int)]
theorem nodup_lt : ∀ (n : Nat) (l : List Nat), l.Nodup → (∀ x ∈ l, x < n) → l.length ≤ n
  | 0, [], _, _ => Nat.le_refl _
  | 0, x :: _, _, h => absurd (h x List.mem_cons_self) (by omega)
  | n + 1, l, hn, h => by
    have h1 := nodup_lt n (l.erase n) (hn.erase n) fun x m => by
      have a := h x (List.mem_of_mem_erase m)
      have b : x ≠ n := fun e => by
        subst e
        exact (List.Nodup.not_mem_erase hn) m
      omega
    have h2 := List.length_erase_le (a := n) (l := l)
    by_cases c : n ∈ l
    · rw [List.length_erase_of_mem c] at h1; omega
    · rw [List.erase_of_not_mem c] at h1; omega
theorem memK_nil : MemK [] := ⟨List.nodup_nil, fun _ m => absurd m List.not_mem_nil⟩
theorem memK_val {kvs : List (List Key × V)} (h : MemK kvs) {a b : Nat} {v : V} (e : valV kvs (spK a b) = some v) : v = .int (manyN a b : Nat) := by
  unfold valV at e
  obtain ⟨p, h1, rfl⟩ := Option.map_eq_some_iff.mp e
  have h2 := List.find?_some h1
  simp only [decide_eq_true_eq] at h2
  obtain ⟨x, y, _, _, e1, e2⟩ := h.2 p (List.mem_of_find?_eq_some h1)
  rw [h2] at e1
  unfold spK at e1
  injection e1 with e1 e3
  injection e3 with e3 _
  injection e1 with e1
  injection e3 with e3
  have ex : a = x := by omega
  have ey : b = y := by omega
  subst ex ey
  exact e2
theorem memK_put {kvs : List (List Key × V)} (h : MemK kvs) {a b : Nat} (ha : a ≤ 40) (hb : b ≤ 40) : MemK (putK kvs (spK a b) (.int (manyN a b : Nat))) := by
  unfold putK
  split
  · refine ⟨?_, fun p m => ?_⟩
    · have : (kvs.map fun kv => if kv.1 = spK a b then (kv.1, V.int (manyN a b : Nat)) else kv).map (·.1) = kvs.map (·.1) := by
        rw [List.map_map]
        refine List.map_congr_left fun kv _ => ?_
        simp only [Function.comp]
        split <;> rfl
      rw [this]; exact h.1
    · obtain ⟨kv, m1, rfl⟩ := List.mem_map.mp m
      split
      · rename_i z; exact ⟨a, b, ha, hb, z, rfl⟩
      · exact h.2 kv m1
  · rename_i z
    refine ⟨?_, fun p m => ?_⟩
    · rw [List.map_append]
      refine List.nodup_append.mpr ⟨h.1, by simp, fun x mx y my => ?_⟩
      simp only [List.map_cons, List.map_nil, List.mem_singleton] at my
      subst my
      intro e
      subst e
      obtain ⟨kv, m1, e1⟩ := List.mem_map.mp mx
      exact z (List.any_eq_true.mpr ⟨kv, m1, by simpa using e1⟩)
    · rcases List.mem_append.mp m with m | m
      · exact h.2 p m
      · rw [List.mem_singleton.mp m]; exact ⟨a, b, ha, hb, rfl, rfl⟩
def keyN : List Key → Nat
  | [.inl a, .inl b] => a.toNat * 41 + b.toNat
  | _ => 0
theorem memK_len {kvs : List (List Key × V)} (h : MemK kvs) : kvs.length ≤ 1681 := by
  have e : kvs.length = ((kvs.map (·.1)).map keyN).length := by simp
  rw [e]
  refine nodup_lt 1681 _ ?_ fun x m => ?_
  · refine List.pairwise_map.mpr (h.1.imp_of_mem fun {x y} mx my ne e => ne ?_)
    obtain ⟨p, m1, rfl⟩ := List.mem_map.mp mx
    obtain ⟨q, m2, rfl⟩ := List.mem_map.mp my
    obtain ⟨a, b, ha, hb, e1, _⟩ := h.2 p m1
    obtain ⟨c, d, hc, hd, e2, _⟩ := h.2 q m2
    rw [e1, e2] at e ⊢
    simp only [keyN, Int.toNat_natCast] at e
    have : a = c := by omega
    have : b = d := by omega
    subst_vars; rfl
  · obtain ⟨k, m1, rfl⟩ := List.mem_map.mp m
    obtain ⟨p, m2, rfl⟩ := List.mem_map.mp m1
    obtain ⟨a, b, ha, hb, e1, _⟩ := h.2 p m2
    rw [e1]
    simp only [keyN, Int.toNat_natCast]; omega
@[simp] def sMemo (i j a b : Nat) (f : FE) : FS := fun env => match env[a]?, env[b]?, env[j]? with
  | some (some (.sh (.int x))), some (some (.sh (.int y))), some (some (.ob 101 _)) => if 0 ≤ x ∧ x ≤ 40 ∧ 0 ≤ y ∧ y ≤ 40 ∧ i ≠ j ∧ i < env.length then (match f (env.set i (some (.sh (.tuple [.int x, .int y])))) with
    | .val (.sh (.int v)) => if v = (manyN x.toNat y.toNat : Nat) then .rt (.sh (.int v)) else .stuck
    | _ => .stuck) else .stuck
  | _, _, _ => .stuck
section
variable {X : Cx} {T : Ct} {EX : XK} {B : Hp × Hp} {e : Expr} {f : FE} {G H : Hp} {σ : L2.St} {env : VEnv}
theorem vss_memo (i j a b : Nat) {sp kn ka kb : Str} {p1 p2 p3 p4 p5 p6 p7 p8 p9 q1 q2 q3 q4 q5 q6 q7 q8 : Pos} {x1} (C : Cv X T EX B) (he : VE X T EX B e f)
    (hi : X.N[i]? = some sp := by rfl) (hj : X.N[j]? = some kn := by rfl) (ha : X.N[a]? = some ka := by rfl) (hb : X.N[b]? = some kb := by rfl)
    (hx : Loc X.env.scope sp := by first | exact .inl rfl | exact .inr rfl) (hf : X.fn sp = true ∨ X.env.scope.names.lookup sp = some .local := by first | exact .inl rfl | exact .inr rfl)
    (vi : Vis X.env.scope sp := by first | exact Or.inl rfl | exact Or.inr (Or.inl rfl) | exact Or.inr (Or.inr rfl)) (vj : Vis X.env.scope kn := by first | exact Or.inl rfl | exact Or.inr (Or.inl rfl) | exact Or.inr (Or.inr rfl))
    (va : Vis X.env.scope ka := by first | exact Or.inl rfl | exact Or.inr (Or.inl rfl) | exact Or.inr (Or.inr rfl)) (vb : Vis X.env.scope kb := by first | exact Or.inl rfl | exact Or.inr (Or.inl rfl) | exact Or.inr (Or.inr rfl))
    (di : (sp == ("__debug__" : Str)) = false := by decide) (dj : (kn == ("__debug__" : Str)) = false := by decide) (da : (ka == ("__debug__" : Str)) = false := by decide) (db : (kb == ("__debug__" : Str)) = false := by decide)
    (ci : (sp == ("__classdict__" : Str)) = false := by decide) (cj : (kn == ("__classdict__" : Str)) = false := by decide) (ca : (ka == ("__classdict__" : Str)) = false := by decide) (cb : (kb == ("__classdict__" : Str)) = false := by decide)
    (hs0 : starEach [.Name ka p2, .Name kb p3] X.env = (false, eval (.Name ka p2) X.env) :: starEach [.Name kb p3] X.env := by rfl) (hs1 : starEach [.Name kb p3] X.env = [(false, eval (.Name kb p3) X.env)] := by rfl)
    (sw1 : swapsWith (.Tuple [.Name ka p2, .Name kb p3] x1 p4) (some (.Name sp p1)) q1.line X.env = pure false := by rfl)
    (hns : NoSl (.Name sp q6) := by intro _ _; rfl)
    (sw2 : swapsWith e (some (.Subscript (.Name kn p7) (.Name sp p8) p9)) q3.line X.env = pure false := by rfl) :
    VSs X T EX B [.Assign [.Name sp p1] (.Tuple [.Name ka p2, .Name kb p3] x1 p4) q1, .If (.Compare (.Name sp p5) [.NotIn] [.Name kn p6] q2) [.Assign [.Subscript (.Name kn p7) (.Name sp p8) p9] e q3] [] q4, .Return (some (.Subscript (.Name kn q5) (.Name sp q6) q7)) q8] (sMemo i j a b f) := by
  have hu : X.A.units + 1 < cLine := by have := C.un; omega
  refine pss_weak (pss_cons (ps_set C.nd hi hx (pe_tup (pa_cons (pe_var ha va da ca) (pa_cons (pe_var hb vb db cb) pa_nil hs1) hs0)) sw1 hf)
    (pss_cons (ps_if (pt_cmp (pc_dnotin hu (pe_var hi vi di ci) (pe_var hj vj dj cj))) (pss_one (ps_dput hu (pe_var hj vj dj cj) (pe_var hi vi di ci) he sw2)) pss_nil)
      (pss_one (ps_ret (pe_dget hu (pe_var hj vj dj cj) (pe_var hi vi di ci) hns))))) fun D σ H q => ?_
  obtain ⟨G, env, S, o⟩ := q
  unfold sMemo at o
  split at o
  rotate_left
  · exact o.elim
  rename_i x y fs ea eb ej
  split at o
  rotate_left
  · exact o.elim
  rename_i cn
  obtain ⟨x0, x1', y0, y1, nij, il⟩ := cn
  split at o
  rotate_left
  · exact o.elim
  rename_i v ev
  split at o
  rotate_left
  · exact o.elim
  rename_i hv
  obtain ⟨va', hva, qa⟩ := S.sh a _ ea
  obtain ⟨vb', hvb, qb⟩ := S.sh b _ eb
  have ea' := qa.intInv
  have eb' := qb.intInv
  subst ea' eb'
  obtain ⟨vj', hvj, qj⟩ := S.ob j 101 _ ej
  unfold ObRp at qj
  rw [if_neg (by decide), if_pos rfl] at qj
  obtain ⟨m, tm, rfl⟩ := qj
  obtain ⟨n1, rfl⟩ := Int.eq_ofNat_of_zero_le x0
  obtain ⟨n2, rfl⟩ := Int.eq_ofNat_of_zero_le y0
  simp only [Int.toNat_natCast] at hv
  refine ⟨_, hva, _, hvb, by rw [sizeLine_eq]; simp, fun p hp => ?_⟩
  have ni : i < σ.length := S.len ▸ il
  have si : (σ.set i (some (V.ref p)))[i]? = some (some (.ref p)) := List.getElem?_set_self ni
  have sj : (σ.set i (some (V.ref p)))[j]? = some (some (.ref m)) := by rw [List.getElem?_set_ne nij]; exact hvj
  have st1 : Step G H (upd G p (.tup [.int (n1 : Int), .int (n2 : Int)])) (upd H p (.tup [.int (n1 : Int), .int (n2 : Int)])) := Step.new S.gh hp _
  have S1 : Sim T B (upd G p (.tup [.int (n1 : Int), .int (n2 : Int)])) (env.set i (some (.sh (.tuple [.int (n1 : Int), .int (n2 : Int)])))) (σ.set i (some (.ref p))) (upd H p (.tup [.int (n1 : Int), .int (n2 : Int)])) :=
    (S.step st1).setSh (Dq.tup (SqT.of upd_same) (.cons .int (.cons .int .nil)))
  generalize hH1 : upd H p (.tup [.int (n1 : Int), .int (n2 : Int)]) = H1 at *
  generalize hG1 : upd G p (.tup [.int (n1 : Int), .int (n2 : Int)]) = G1 at *
  have hp1 : H1 p = some (.tup ((spK n1 n2).map kV)) := by rw [← hH1]; exact upd_same
  obtain ⟨kvs, hm1, mm1⟩ := S1.me.1 m tm
  refine ⟨_, si, _, sj, m, _, rfl, DGet.t hm1 hp1, _, rfl, ?_⟩
  cases hval : valV kvs (spK n1 n2) with
  | some w =>
    have hw := memK_val mm1 hval
    subst hw
    rw [← hv] at hval
    refine ⟨_, sj, _, si, m, _, rfl, ?_, o (.int v) _ H1 S1.st .int⟩
    rw [← hval]
    exact DGet.t hm1 hp1
  | none =>
    refine ⟨_, _, S1, ?_⟩
    rw [ev]
    intro v' G2 H2 s2 dq
    have e' := dq.intInv
    subst e'
    have S2 := S1.step s2
    obtain ⟨kvs2, hm2, mm2⟩ := S2.me.1 m tm
    have hp2 : H2 p = some (.tup ((spK n1 n2).map kV)) := s2.hh.at hp1 fun z => z
    have pm : p ≠ m := fun z => by rw [z, hm2] at hp2; cases hp2
    have mk := memK_put mm2 (a := n1) (b := n2) (by omega) (by omega)
    rw [← hv] at mk
    have ln := memK_len mm2
    refine ⟨_, sj, _, si, m, _, rfl, DPut.t hm2 hp2 (by rw [sizeLine_eq]; omega), _, sj, _, si, m, .int v, rfl, ?_, o (.int v) G2 _ (S2.st.trans ⟨fun c u z => ?_, Same.refl _, fun c u z => ?_, fun _ u w => absurd u w, fun n => n⟩) .int⟩
    · have g := DGet.t (H := upd H2 m (.dT (putK kvs2 (spK n1 n2) (.int v)))) (a := m) (b := p) (k := spK n1 n2) upd_same (by rw [upd_ne pm]; exact hp2)
      rw [valV_put, if_pos rfl] at g
      exact g
    · by_cases y : c = m
      · subst y
        rw [hm2] at z
        cases z
        exact ⟨_, upd_same, .inr ⟨mm2, mk, .inl ⟨_, _, rfl, rfl⟩⟩⟩
      · exact ⟨u, by rw [upd_ne y]; exact z, .inl rfl⟩
    · have y : c ≠ m := fun y => by
        have := S2.gh c u z
        rw [y, hm2] at this
        cases this
        exact S2.st.nm S2.nb.1 c _ z mm2
      rw [upd_ne y]; exact S2.gh c u z
end
end VL
namespace VL
open PySem L2
/-! ### f(.., {}): a call that is handed a new table -/
@[simp] def noOb : SV → Bool
  | .ob _ _ => false
  | _ => true
@[simp] def calM (n : Nat) (m : List SV → R) (fs : List FE) : FE := fun env => (evA fs env).b fun as => if as.length + 1 = n ∧ as.all noOb = true then (match m (as ++ [.ob 101 []]) with
  | .val (.ob _ _) => .stuck
  | .val (.rg _) => .stuck
  | r => r) else .stuck
section
variable {X : Cx} {T : Ct} {EX : XK} {B : Hp × Hp} {e : Expr} {es : List Expr} {pos p : Pos} {f : FE} {fs : List FE} {G H : Hp} {Q : VK}
def rdM (T : Ct) (EX : XK) (B : Hp × Hp) (fs : List FE) : TA := fun σ H Q => rdA T EX B fs σ H fun vs H1 => ∀ q, H1 q = none → Q (vs ++ [.ref q]) (upd H1 q (.dT []))
def VM (X : Cx) (T : Ct) (EX : XK) (B : Hp × Hp) (es : List Expr) (fs : List FE) : Prop := PA X es (rdM T EX B fs)
theorem rda_nil {σ : L2.St} {Q : List V → Hp → Prop} (h : rdA T EX B [] σ H Q) : Q [] H := by
  obtain ⟨G, env, S, o⟩ := h
  exact o [] G H (Step.refl S.gh) .nil
theorem vm_last (hs : starEach [.Dict [] [] p] X.env = [(false, eval (.Dict [] [] p) X.env)] := by rfl) : VM X T EX B [.Dict [] [] p] [] :=
  pa_weak (pa_cons pe_dnewT pa_nil hs) fun σ H Q q => fun r hr => rda_nil q r hr
theorem vm_cons (h : VE X T EX B e f) (hr : VM X T EX B es fs) (hs : starEach (e :: es) X.env = (false, eval e X.env) :: starEach es X.env := by rfl) : VM X T EX B (e :: es) (f :: fs) :=
  pa_weak (pa_cons h hr hs) fun σ H Q q => rdA_cons q
theorem all_other {T' : Ct} (h1 : T.ad = T'.ad) (h2 : T.fl = T'.fl) : ∀ {vs : List V} {as : List SV}, VRpAll T G vs as → as.all noOb = true → VRpAll T' G vs as
  | _, _, .nil, _ => .nil
  | _, a :: _, .cons h t, n => by
    simp only [List.all_cons, Bool.and_eq_true] at n
    refine .cons ?_ (all_other h1 h2 t n.2)
    cases a with
    | sh d => exact h
    | ow _ => exact h
    | rg _ => exact h.elim
    | ob _ _ => exact absurd n.1 (by simp)
theorem all_snoc {v : V} {a : SV} : ∀ {vs : List V} {as : List SV}, VRpAll T G vs as → VRp T G v a → VRpAll T G (vs ++ [v]) (as ++ [a])
  | _, _, .nil, h => .cons h .nil
  | _, _, .cons x t, h => .cons x (all_snoc t h)
def FnM (P : Program) (w : World) (K : PySem.W.Frag) (mg : Str → Option Value) (base : Heap) (T : Ct) (k : Nat) (x : Str) (n : Nat) (m : List SV → R) : Prop :=
  ∃ f fd ps, (∀ me : Addr, FnGd P w K mg base (L2.CX P w) k f fd ps (spV { T with me := some me } n m)) ∧ mg x = some (.ref f) ∧ PySem.W.keepIn K (.ref f) = true ∧ Binds K fd ps []
theorem ve_callM {x : Str} {n k : Nat} {m : List SV → R} (F : FnM X.prog X.w X.K X.mg X.base T k x n m) (hr : Room k X.A) (hg : Gl X x) (C : Cv X T EX B) (ha : VM X T EX B (e :: es) fs)
    (hd : (x == ("__debug__" : Str)) = false := by decide) (hs : starEach (e :: es) X.env = (false, eval e X.env) :: starEach es X.env := by rfl) (hpl : ((backTo pos (starEach es X.env)).any fun z => z.1) = false := by rfl) :
    VE X T EX B (.Call (.Name x p) (e :: es) [] pos) (calM n m fs) := by
  obtain ⟨f, fd, ps, F, hm, hk, hb⟩ := F
  have F2 : FnGd X.prog X.w X.K X.mg X.base (L2.CX X.prog X.w) k f fd ps (fun vs H Q E => ∃ me : Addr, spV { T with me := some me } n m vs H Q E) :=
    ⟨fun xs H Q E ⟨me, h⟩ => (F me).ln xs H Q E h, fun A ou s H ar us xs Q E g r e0 b v ⟨me, h⟩ => (F me).go A ou s H ar us xs Q E g r e0 b v h⟩
  refine pe_weak (pe_callG (E := fun _ => EX) F2 C.gd hr hg hm hk hb (fun σ pn H s e s' => C.pass pn σ H s e s') ha hd hs hpl) fun σ H Q q => ?_
  obtain ⟨G, env, S, o⟩ := q
  refine args_seq S o fun vs as G1 H1 s1 rp S1 o1 r hq => ?_
  split at o1
  rotate_left
  · exact o1.elim
  rename_i c
  have st : Step G1 H1 G1 (upd H1 r (.dT [])) := Step.apart S1.gh hq _
  refine ⟨r, G1, as ++ [.ob 101 []], st.gh, S1.st.nm S1.nb.1, ⟨⟨fun b z => ?_, (S1.me.step st.hh).2⟩, (S1.step st).mo.2⟩, all_snoc (all_other (T := T) (T' := { T with me := some r }) rfl rfl rp c.2) ?_, by rw [List.length_append]; exact c.1, ?_⟩
  · cases z; exact ⟨_, upd_same, memK_nil⟩
  · show ObRp _ _ _ _ _
    unfold ObRp
    rw [if_neg (by decide), if_pos rfl]
    exact ⟨r, rfl, rfl⟩
  · revert o1
    cases m (as ++ [.ob 101 []]) with
    | stuck => exact fun o1 => o1
    | err e => exact fun o1 H' z => o1 H' (st.hh.trans z)
    | val w =>
      cases w with
      | ob _ _ => exact fun o1 => o1.elim
      | sh d => exact fun o1 => Out.step o1 st
      | ow ds => exact fun o1 => Out.step o1 st
      | rg r => exact fun o1 => o1.elim
end
section
variable {P : Program} {w : World} {K : PySem.W.Frag} {mg : Str → Option Value} {base : Heap} {T : Ct}
theorem fnM_mk {x q : Str} {st : Stmt} {N ps : List Str} {k : Nat} {s : FS} (d : Df K mg x q st ps) (S : FnScope N ps (defScope st)) (hb : ∀ me : Addr, Bd P w K mg base { T with me := some me } k N q st s) : FnM P w K mg base T (k + 1) x ps.length (runB N.length s) := by
  obtain ⟨f, fd, F, hm, hbi⟩ := d
  exact ⟨f, fd, ps, fun me => fn_ok F S fun cdv A outer s0 H E B hr C po tk => hb me f cdv A outer s0 H E B hr C po tk, hm, F.kp, hbi⟩
theorem fnM_zero {x q : Str} {st : Stmt} {ps : List Str} {n : Nat} {m : List SV → R} (d : Df K mg x q st ps) (h : m = fun _ => .stuck) : FnM P w K mg base T 0 x n m := by
  obtain ⟨f, fd, F, hm, hbi⟩ := d
  subst h
  refine ⟨f, fd, ps, fun me => ?_, hm, F.kp, hbi⟩
  have no : ∀ vs H Q E, ¬ spV { T with me := some me } n (fun _ => .stuck) vs H Q E := fun vs H Q E ⟨_, _, _, _, _, _, _, o⟩ => o
  exact ⟨fun vs H Q E h => absurd h (no vs H Q E), fun A outer s H args us vs Q E _ _ _ _ _ h => absurd h (no vs H Q E)⟩
end
end VL
namespace VL
open PySem L2
/-! ### sorted, >= of data that can be compared -/
def leD (d e : D) : Bool := PySem.W.dataLe false id d e
def alikeB (ds : List D) : Bool := ds.all fun d => ds.all fun e => PySem.W.alike d e
@[simp] def plainB : D → Bool
  | .none => false
  | .tuple _ => false
  | _ => true
@[simp] def fSortedD : D → R
  | .list ds => if alikeB ds = true ∧ ds.all plainB = true ∧ ds.all (fun d => decide (d.depth ≤ 60)) = true then .val (.ow (ds.mergeSort leD)) else .stuck
  | _ => .stuck
@[simp] def fGeD (d e : D) : R := if PySem.W.alike d e = true ∧ plainB d = true ∧ d.depth ≤ 60 then rb (!PySem.W.dataLt d e) else .stuck
section
variable {X : Cx} {T : Ct} {EX : XK} {B : Hp × Hp} {a : Expr} {pos p : Pos} {f : FE} {G H : Hp} {Q : VK}
theorem each_dq {pins : List (Addr × Obj)} {σ : L2.St} {s : Shared} (I : Inv X pins σ H s) : ∀ {ds : List D} {xs : List V} {us : List Value}, DqAll H xs ds → Vals xs us → PySem.W.EachIs (fun u (b : V × D) => RelV b.1 u ∧ ∃ as, Reads s.heap u b.2 as) us (xs.zip ds)
  | [], _, _, q, r => by
    rw [q.inv0] at r ⊢
    cases r; exact .nil
  | d :: ds, _, _, q, r => by
    obtain ⟨v, vs, rfl, q1, q2⟩ := q.inv
    cases r with
    | cons r1 r2 => exact .cons ⟨r1, Dp.reads I d v _ q1.K r1⟩ (each_dq I q2 r2)
theorem vals_each : ∀ {us : List Value} {bs : List (V × D)}, PySem.W.EachIs (fun u (b : V × D) => RelV b.1 u) us bs → Vals (bs.map Prod.fst) us
  | _, _, .nil => .nil
  | _, _, .cons h t => .cons h (vals_each t)
theorem dq_pairs : ∀ {bs : List (V × D)}, (∀ b ∈ bs, Dq G b.1 b.2) → DqAll G (bs.map Prod.fst) (bs.map Prod.snd)
  | [], _ => .nil
  | b :: bs, h => .cons (h b List.mem_cons_self) (dq_pairs fun c m => h c (List.mem_cons_of_mem _ m))
theorem dq_zip : ∀ {ds : List D} {xs : List V}, DqAll G xs ds → ∀ b ∈ xs.zip ds, Dq G b.1 b.2
  | [], _, q, b, m => by rw [q.inv0] at m; simp at m
  | d :: ds, _, q, b, m => by
    obtain ⟨v, vs, rfl, q1, q2⟩ := q.inv
    rw [List.zip_cons_cons] at m
    rcases List.mem_cons.mp m with rfl | m
    · exact q1
    · exact dq_zip q2 b m
def rSortedD : List V → Hp → VK → Prop := fun vs H Q => ∃ (l : Addr) (xs : List V) (ds : List D), vs = [.ref l] ∧ SqL [] H l xs ∧ DqAll H xs ds ∧ alikeB ds = true ∧ ds.all plainB = true ∧ (∀ d ∈ ds, d.depth ≤ 60) ∧
  ∀ p, H p = none → Q (.ref p) (upd H p (.lst (((xs.zip ds).mergeSort (PySem.W.dataLe false Prod.snd)).map Prod.fst)))
theorem cr_sortedD (hu : X.A.units + 150 < cLine) : CallR X (.builtin "sorted") rSortedD := by
  intro pins s σ H vs us Q I r h
  obtain ⟨l, xs, ds, rfl, hs, dq, h1, h2, h3, q⟩ := h
  obtain ⟨its, rv, hl, hz⟩ := I.list (sqL_K hs)
  rw [Vals.ref1 r]
  have e := each_dq I dq rv
  have zl : (xs.zip ds).length = xs.length := by rw [List.length_zip, dq.length]; omega
  have zd : (xs.zip ds).map Prod.snd = ds := List.map_snd_zip (by rw [dq.length]; exact Nat.le_refl _)
  refine PySem.W.sorted_data (R := fun u (b : V × D) => RelV b.1 u) (bs := xs.zip ds) (enc := Prod.snd) hl.isList (e.mono fun _ _ z => z.1) (e.mono fun _ _ z => z.2) ?_ ?_ (by rw [zl]; exact hz) (fun b m => ?_) fun out hlo eo => ?_
  · rw [zd]
    intro d hd d' hd'
    exact List.all_eq_true.mp (List.all_eq_true.mp h1 d hd) d' hd'
  · rw [zd]
    refine .inr fun d hd => ?_
    have := List.all_eq_true.mp h2 d hd
    cases d <;> first | (simp at this; done) | exact ⟨fun z => (by cases z), fun xs z => by cases z⟩
  · have := h3 b.2 (by rw [← zd]; exact List.mem_map.mpr ⟨b, m, rfl⟩)
    omega
  · obtain ⟨ep, he'⟩ := PyProof.Rows.sortedAll_at s.heap its out.toArray
    have rv' := vals_each eo
    refine ⟨.ref _, upd H (s.heap.objs.size + 1) (.lst (((xs.zip ds).mergeSort (PySem.W.dataLe false Prod.snd)).map Prod.fst)), I.laid (t' := s.toks) (fun _ _ => PyProof.Rows.sortedAll_old) (Nat.le_succ _) ⟨?_, out, ep, rv', he'⟩, rfl, q _ (I.hok.fresh (Nat.le_succ _))⟩
    rw [List.length_map, List.length_mergeSort, zl]; exact hz
theorem ve_sortedD (C : Cv X T EX B) (t : Bt X "sorted") (ha : VE X T EX B a f) (hs : starEach [a] X.env = [(false, eval a X.env)] := by rfl) : VE X T EX B (.Call (.Name "sorted" p) [a] [] pos) (cal1 fSortedD f) :=
  ve_cal1 (cr_sortedD C.un) (fun Q v d G H gh hv o => by
    unfold fSortedD at o
    split at o
    · rename_i ds
      split at o
      · rename_i c
        obtain ⟨c1, c2, c3⟩ := c
        obtain ⟨l, xs, rfl, s1, q1⟩ := hv.lstH gh
        refine ⟨l, xs, ds, rfl, s1, q1.mono gh, c1, c2, fun d m => by simpa using List.all_eq_true.mp c3 d m, ?_⟩
        have em : ((xs.zip ds).mergeSort (PySem.W.dataLe false Prod.snd)).map Prod.snd = ds.mergeSort leD := by
          rw [List.map_mergeSort (r := PySem.W.dataLe false Prod.snd) (s := leD) (f := Prod.snd) (fun a _ b _ => rfl), List.map_snd_zip (by rw [q1.length]; exact Nat.le_refl _)]
        rw [← em] at o
        refine o.newL gh (dq_pairs fun b m => dq_zip q1 b ((List.mergeSort_perm _ _).mem_iff.mp m))
      · exact o.elim
    · exact o.elim) t.gl t.mg (by decide +kernel) ha hs
theorem c_geD (C : Cv X T EX B) : Cmp X T EX .GtE fGeD (fun x y H Q => ∃ d e, Dq H x d ∧ Dq H y e ∧ PySem.W.alike d e = true ∧ d ≠ .none ∧ d.depth ≤ 60 ∧ Q (.bl (!PySem.W.dataLt d e)) H) := by
  refine ⟨fun pins s σ H x y v u Q I rx ry h => ?_, fun Q x y dx dy G H gh hx hy o => ?_⟩
  · obtain ⟨d, e, hd, he, al, nn, dp, q⟩ := h
    obtain ⟨as, r1⟩ := Dp.reads I d x v hd.K rx
    obtain ⟨bs, r2⟩ := Dp.reads I e y u he.K ry
    exact PySem.W.ge_data r1 r2 al nn (by have := C.un; omega) ⟨.bl _, H, I, rfl, q⟩
  · unfold fGeD at o
    split at o
    · rename_i c
      exact ⟨dx, dy, hx.mono gh, hy.mono gh, c.1, fun z => by subst z; simp at c, c.2.2, o.rb gh⟩
    · exact o.elim
end
end VL
namespace VL
open PySem L2
/-! ### own classes -/
/-- what the top says of the class x, by its number c -/
structure Oc (K : PySem.W.Frag) (mg : Str → Option Value) (T : Ct) (x : Str) (c : Nat) : Prop where
  mgC : mg x = some (.ref (T.ad c))
  fl : T.fl c = clsFlds c
  cl : Cls K (T.ad c)
  na : ∀ f ∈ clsFlds c, NoAttr K (T.ad c) f
  ha : PySem.W.findIn K (.ref (T.ad c)) "__class__" = some (some (.builtin "object.__class__"))
  hn : PySem.W.specialIn K (.builtin "object.__class__") "__get__" = some (some (.builtin "getset_descriptor.__get__"))
  ht : PySem.W.takesIn K (.builtin "object.__class__") = some true
  hm : PySem.W.mroIn K (T.ad c) (.type "object") = some true
  mks : PySem.W.makesIn K (T.ad c) = true
  kp : PySem.W.keepIn K (.ref (T.ad c)) = true
/-- o.f of an object of class c: its j-th field -/
@[simp] def vAt (c j : Nat) (f : FE) : FE := fun env => (f env).v fun a => match a with
  | .ob c' fs => if c' = c then (match fs[j]? with
    | some d => ok d
    | none => .stuck) else .stuck
  | _ => .stuck
/-- isinstance(o, C), C an own class: by the class's number -/
@[simp] def vIsO (t : Nat → Bool) (f : FE) : FE := fun env => (f env).v fun a => match a with
  | .ob c _ => if c ≤ 2 then rb (t c) else .stuck
  | _ => .stuck
/-- o.m(..) -/
@[simp] def vMet (n : Nat) (ms : Nat → List SV → R) (f : FE) (gs : List FE) : FE := fun env => (f env).v fun a => match a with
  | .ob c fs => if c ≤ 2 then (evA gs env).b (fun as => if as.length + 1 = n then ms c (.ob c fs :: as) else .stuck) else .stuck
  | _ => .stuck
theorem zip_lookup {α : Type} : ∀ {fs : List Str} {vs : List α} {j : Nat} {x : Str} {v : α}, fs.Nodup → fs[j]? = some x → vs[j]? = some v → (fs.zip vs).lookup x = some v
  | [], _, _, _, _, _, h, _ => by simp at h
  | _ :: _, [], _, _, _, _, _, h => by simp at h
  | f :: fs, w :: vs, 0, x, v, nd, h1, h2 => by
    simp at h1 h2
    subst h1 h2
    rw [List.zip_cons_cons, List.lookup_cons]
    simp
  | f :: fs, w :: vs, j + 1, x, v, nd, h1, h2 => by
    have h1 : fs[j]? = some x := by simpa using h1
    have h2 : vs[j]? = some v := by simpa using h2
    have nd' := List.nodup_cons.mp nd
    rw [List.zip_cons_cons, List.lookup_cons]
    have : (x == f) = false := by
      rw [beq_eq_false_iff_ne]
      exact fun e => nd'.1 (e ▸ List.mem_of_getElem? h1)
    rw [this]
    exact zip_lookup nd'.2 h1 h2
theorem zip_none {α : Type} : ∀ {fs : List Str} {vs : List α} {x : Str}, x ∉ fs → (fs.zip vs).lookup x = none
  | [], _, _, _ => by simp
  | _ :: _, [], _, _ => by simp
  | f :: fs, w :: vs, x, h => by
    rw [List.zip_cons_cons, List.lookup_cons]
    have : (x == f) = false := by
      rw [beq_eq_false_iff_ne]
      exact fun e => h (e ▸ List.mem_cons_self)
    rw [this]
    exact zip_none fun m => h (List.mem_cons_of_mem _ m)
theorem ObRp.inv {T : Ct} {G : Hp} {v : V} {c : Nat} {fs : List D} (h : ObRp T G v c fs) (hc : c < 100) : ∃ a dx vs, v = .ref a ∧ G a = some (.ins (T.ad c) dx ((T.fl c).zip vs)) ∧ G dx = some (.own a) ∧ vs.length = (T.fl c).length ∧ DqAll G vs fs := by
  unfold ObRp at h
  rwa [if_neg (by omega), if_neg (by omega), if_neg (by omega), if_neg (by omega), if_neg (by omega)] at h
section
variable {X : Cx} {T : Ct} {EX : XK} {B : Hp × Hp} {e a b c o tg : Expr} {es : List Expr} {pos p p2 apos : Pos} {f g h : FE} {fs gs : List FE} {G H G1 H1 : Hp} {Q : VK} {σ : L2.St} {env : VEnv}
theorem ve_at (c j : Nat) {x fn : Str} (oc : Oc X.K X.mg T x c) (ha : VE X T EX B a f) (hf : (clsFlds c)[j]? = some fn := by rfl) (hc : c < 100 := by decide) (nd : (clsFlds c).Nodup := by decide +kernel) (hb : attributeBase a fn X.env (eval a X.env) = eval a X.env := by rfl) :
    VE X T EX B (.Attribute a fn pos) (vAt c j f) := pe_weak (pe_fld ha hb) fun σ H Q q => by
  obtain ⟨G, env, S, o⟩ := q
  refine rdV_mono (seqV S o) fun v H1 ⟨w, G1, s, rp, S1, o1⟩ => ?_
  split at o1
  · rename_i c' fs
    split at o1
    · rename_i ec
      subst ec
      split at o1
      · rename_i d ed
        obtain ⟨a', dx, vs, rfl, e1, e2, l, dq⟩ := ObRp.inv rp hc
        obtain ⟨u, eu, du⟩ := dq.get ed
        exact ⟨a', _, dx, _, u, rfl, S1.gh _ _ e1, oc.cl, oc.na fn (List.mem_of_getElem? hf), zip_lookup (by rw [oc.fl]; exact nd) (by rw [oc.fl]; exact hf) eu, o1.ok S1.gh du⟩
      · exact o1.elim
    · exact o1.elim
  · exact o1.elim
/-- the class D asked for, with its answers -/
def OkI (K : PySem.W.Frag) (mg : Str → Option Value) (T : Ct) (x : Str) (t : Nat → Bool) : Prop := ∃ D, mg x = some (.ref D) ∧ ∀ c, c ≤ 2 → PySem.W.kitOne K (.ref (T.ad c)) (.ref D) = some (t c)
def Oc3 (K : PySem.W.Frag) (mg : Str → Option Value) (T : Ct) : Prop := ∀ c, c ≤ 2 → ∃ x, Oc K mg T x c
theorem oc3 {K : PySem.W.Frag} {mg : Str → Option Value} {T : Ct} {x y z : Str} (h0 : Oc K mg T x 0) (h1 : Oc K mg T y 1) (h2 : Oc K mg T z 2) : Oc3 K mg T := fun c hc => by
  have : c = 0 ∨ c = 1 ∨ c = 2 := by omega
  rcases this with rfl | rfl | rfl
  · exact ⟨_, h0⟩
  · exact ⟨_, h1⟩
  · exact ⟨_, h2⟩
theorem ve_isO {d : Str} {t : Nat → Bool} {p1 : Pos} (ocs : Oc3 X.K X.mg T) (ok : OkI X.K X.mg T d t) (bi : Bt X "isinstance") (hg : Gl X d) (ha : VE X T EX B a f)
    (hs : starEach [a, .Name d p1] X.env = (false, eval a X.env) :: starEach [.Name d p1] X.env := by rfl) (hd : (d == ("__debug__" : Str)) = false := by decide) : VE X T EX B (.Call (.Name "isinstance" p) [a, .Name d p1] [] pos) (vIsO t f) := by
  obtain ⟨D, hD, hk⟩ := ok
  refine pe_weak (pe_callB call_isi bi.gl bi.mg PyProof.Rows.boot_isinstance (pa_cons ha (pa_cons (pe_glob (v := .ref D) hg hD rfl hd) pa_nil rfl) hs) (by decide) (by decide) hs rfl) fun σ H Q q => ?_
  obtain ⟨G, env, S, o⟩ := q
  refine rdV_mono (seqV S o) fun v H1 ⟨w, G1, s, rp, S1, o1⟩ => ?_
  split at o1
  · rename_i c fs
    split at o1
    · rename_i hc
      obtain ⟨x, oc⟩ := ocs c hc
      obtain ⟨a', dx, vs, rfl, e1, e2, l, dq⟩ := ObRp.inv rp (by omega)
      exact ⟨_, .ref D, .ref (T.ad c), .ref D, t c, rfl, .own D, .base (.ins (S1.gh _ _ e1) oc.cl oc.ha oc.hn oc.ht oc.hm), hk c hc, o1.rb S1.gh⟩
    · exact o1.elim
  · exact o1.elim
/-! ### methods -/
def FnSh (P : Program) (w : World) (K : PySem.W.Frag) (mg : Str → Option Value) (base : Heap) (T : Ct) (k : Nat) (m : Str) (n : Nat) (ms : Nat → List SV → R) : Prop :=
  ∀ c, c ≤ 2 → ∃ f fd ps, FnGd P w K mg base (L2.CX P w) k f fd ps (spV T n (ms c)) ∧ Meth K (T.ad c) m f ∧ Binds K fd ps []
def tMethD (T : Ct) (m : Str) (sp : Nat → Sp) (E : L2.St → XK) (ta : TE) (t : TA) : TE := fun σ H Q => ta σ H fun x H1 => ∃ c a dx fs, c ≤ 2 ∧ x = .ref a ∧ H1 a = some (.ins (T.ad c) dx fs) ∧ fs.lookup m = none ∧ t σ H1 fun vs H2 => sp c (x :: vs) H2 Q (E σ)
theorem pe_methD {k : Nat} {m : Str} {ta : TE} {t : TA} {sp : Nat → Sp} {CX : CXT} {E : L2.St → XK} {pl : Sem Bool} (he : PE X o ta) (ocs : Oc3 X.K X.mg T) (Fs : ∀ c, c ≤ 2 → ∃ f fd ps, FnGd X.prog X.w X.K X.mg X.base CX k f fd ps (sp c) ∧ Meth X.K (T.ad c) m f ∧ Binds X.K fd ps [])
    (hq : X.A.guards = some []) (hr : Room k X.A) (hx : ∀ σ, PassesAt CX X σ (E σ)) (ha : PA X (e :: es) t)
    (hst : starEach (e :: es) X.env = (false, eval e X.env) :: starEach es X.env := by rfl) (hpl : (backTo pos (starEach es X.env)).any (·.1) = false := by rfl)
    (ht : eval (.Call (.Attribute o m apos) (e :: es) [] pos) X.env = (do
      let ov ← eval o X.env
      standAt apos.atName
      let (f, first) ← holding [ov] (getMethod ov m pl)
      callWith pos f first (backTo pos (starEach (e :: es) X.env)) (backToKw pos (keywordEach [] X.env))) := by rfl) :
    PE X (.Call (.Attribute o m apos) (e :: es) [] pos) (tMethD T m sp E ta t) := by
  refine ⟨fun pins s σ H Q I h => ?_⟩
  refine PySem.W.methodCall_KW (pl := pl) (thn (he.run pins s σ H _ I h) fun u s1 ⟨x, H1, I1, rx, c, a, dx, fs, hc, ex, ea, l, q⟩ => ?_) ht
  subst ex
  obtain rfl : u = Value.ref a := rx
  obtain ⟨f, fd, ps, F, hm, hb⟩ := Fs c hc
  obtain ⟨_, oc⟩ := ocs c hc
  refine getmeth_ok I1 ea oc.cl hm l ?_
  refine PySem.W.callWith_K (first := [.ref a]) (h₀ := X.base) I.ok.mod.kin hm.kp (thn (ha.run pos pins s1 σ H1 _ I1 q) fun us s2 ⟨vs, H2, I2, r, q2⟩ => ⟨I2.kIn, ?_⟩) hst hpl
  exact go_in (us := .ref a :: us) (xs := .ref a :: vs) F hq hr hb (hx σ) I2 (.cons rfl r) q2
theorem noflds (c : Nat) : ("shows" : Str) ∉ clsFlds c := by
  match c with
  | 0 => decide +kernel
  | 1 => decide +kernel
  | _ + 2 => show ("shows" : Str) ∉ (["heap", "ways"] : List Str); decide +kernel
theorem ve_met {k n : Nat} {ms : Nat → List SV → R} {pl : Sem Bool} (ocs : Oc3 X.K X.mg T) (Fs : FnSh X.prog X.w X.K X.mg X.base T k "shows" n ms) (hr : Room k X.A) (C : Cv X T EX B) (he : VE X T EX B o f) (ha : VA X T EX B (e :: es) gs)
    (hst : starEach (e :: es) X.env = (false, eval e X.env) :: starEach es X.env := by rfl) (hpl : (backTo pos (starEach es X.env)).any (·.1) = false := by rfl)
    (ht : eval (.Call (.Attribute o "shows" apos) (e :: es) [] pos) X.env = (do
      let ov ← eval o X.env
      standAt apos.atName
      let (f, first) ← holding [ov] (getMethod ov "shows" pl)
      callWith pos f first (backTo pos (starEach (e :: es) X.env)) (backToKw pos (keywordEach [] X.env))) := by rfl) :
    VE X T EX B (.Call (.Attribute o "shows" apos) (e :: es) [] pos) (vMet n ms f gs) := by
  refine pe_weak (pe_methD (sp := fun c => spV T n (ms c)) (E := fun _ => EX) he ocs Fs C.gd hr (fun σ pn H s e s' => C.pass pn σ H s e s') ha hst hpl ht) fun σ H Q q => ?_
  obtain ⟨G, env, S, o⟩ := q
  refine rdV_mono (seqV S o) fun v H1 ⟨w, G1, s, rp, S1, o1⟩ => ?_
  split at o1
  rotate_left
  · exact o1.elim
  rename_i c fs
  split at o1
  rotate_left
  · exact o1.elim
  rename_i hc
  obtain ⟨a', dx, vs, rfl, e1, e2, l, dq⟩ := ObRp.inv rp (by omega)
  obtain ⟨_, oc⟩ := ocs c hc
  refine ⟨c, a', dx, _, hc, rfl, S1.gh _ _ e1, zip_none (by rw [oc.fl]; exact noflds c), args_seq S1 o1 fun vs as G2 H2 s2 rp2 S2 o2 => ?_⟩
  split at o2
  · rename_i z
    exact ⟨G2, .ob c fs :: as, S2.gh, S2.st.nm S2.nb.1, S2.mo, .cons (ObRp.mono rp s2.gg) rp2, z, o2⟩
  · exact o2.elim
end
end VL
namespace VL
open PySem L2
/-! ### objects are made -/
/-- what __init__ promises: the new object's fields, new lists of their own among them -/
def spN (T : Ct) (c : Nat) (mk : List D → Option (List RD)) : Sp := fun vs H Q E => ∃ x dx G ys ds rs, vs = .ref x :: ys ∧ H x = some (.ins (T.ad c) dx []) ∧ H dx = some (.own x) ∧ Same G H ∧ G x = none ∧ DqAll G ys ds ∧ mk ds = some rs ∧ ys.length + 1 = (T.fl c).length + 1 ∧
  ∀ S us H', (∀ b o, b ≠ x → H b = some o → H' b = some o) → H' x = some (.ins (T.ad c) dx ((T.fl c).zip us)) → us.length = (T.fl c).length → S.Nodup → (∀ a ∈ S, H a = none) → RRpAll T G H' S us rs → Q .non H'
@[simp] def newM (c : Nat) (mk : List D → Option (List RD)) : List SV → R := fun as => match dats as with
  | some ds => (match mk ds with
    | some rs => if ds.length = (clsFlds c).length then .val (.rg (.ins c rs)) else .stuck
    | none => .stuck)
  | none => .stuck
@[simp] def asLst : D → Option (List D)
  | .list ds => some ds
  | _ => none
@[simp] def asLsts : List D → Option (List (List D))
  | [] => some []
  | d :: r => match asLst d, asLsts r with
    | some x, some y => some (x :: y)
    | _, _ => none
@[simp] def mk1 : List D → Option (List RD)
  | [.list ds] => some [.lst (ds.map .dat)]
  | _ => none
def lstR (ds : List D) : RD := .lst (ds.map .dat)
@[simp] def mk2 : List D → Option (List RD)
  | [h, .list ws] => if ws.length ≤ 100000 then (asLsts ws).map fun wss => [.dat h, .lst (wss.map lstR)] else none
  | _ => none
theorem toDs_dat : ∀ ds : List D, RD.toDs (ds.map .dat) = some ds
  | [] => by simp only [List.map_nil, RD.toDs]
  | d :: r => by simp only [List.map_cons, RD.toDs, RD.toD, toDs_dat r]
theorem toDs_lstR : ∀ wss : List (List D), RD.toDs (wss.map lstR) = some (wss.map .list)
  | [] => by simp only [List.map_nil, RD.toDs]
  | d :: r => by simp only [List.map_cons, RD.toDs, lstR, RD.toD, toDs_dat d, Option.map_some]; rw [show (r.map lstR) = r.map lstR from rfl, toDs_lstR r]
theorem dats_rrp {T : Ct} {G H : Hp} : ∀ {ds : List D} {xs : List V}, DqAll G xs ds → RRpAll T G H [] xs (ds.map .dat)
  | [], _, q => by rw [q.inv0]; exact .nil
  | d :: ds, _, q => by
    obtain ⟨v, vs, rfl, q1, q2⟩ := q.inv
    exact .cons (S := []) (S' := []) (.dat q1) (dats_rrp q2)
theorem RRpAll.snoc {T : Ct} {G H : Hp} {S' : List Addr} {v : V} {r : RD} (h : RRp T G H S' v r) : ∀ {rs : List RD} {S : List Addr} {vs : List V}, RRpAll T G H S vs rs → RRpAll T G H (S ++ S') (vs ++ [v]) (rs ++ [r])
  | _, _, _, .nil => by simpa using RRpAll.cons h .nil
  | _, _, _, .cons a b => by
    rw [List.append_assoc, List.cons_append, List.cons_append]
    exact .cons a (RRpAll.snoc h b)
section
variable {X : Cx} {CX : CXT} {k : Nat} {f C : Addr} {fd : FuncData} {ps : List Str} {sp : Sp} {x m : Str} {p pos apos : Pos} {e o : Expr} {es : List Expr} {ta : TE} {t : TA} {E : L2.St → XK}
theorem run_makeG {pins : List (Addr × Obj)} {σ : L2.St} {H : Hp} {s : Shared} {Q : VK} {us : List Value} {vs : List V} (M : Mk X.K C f) (F : FnGd X.prog X.w X.K X.mg X.base CX k f fd ps sp) (hq : X.A.guards = some []) (hr : Room (k + 1) X.A) (hb : Binds X.K fd ps [])
    (hx : PassesAt CX X σ (E σ)) (hxm : ∀ pins H s e s', Inv X pins σ H s → CX X.stack H s (E σ) e s' → X.xe e s') (I : Inv X pins σ H s) (r : Vals vs us)
    (h : ∀ x dx, H x = none → H dx = none → dx ≠ x → sp (.ref x :: vs) (upd (upd H dx (.own x)) x (.ins C dx [])) (fun v H2 => v = .non ∧ Q (.ref x) H2) (E σ)) :
    wpAny (model X.prog X.w) X.A (call (.ref C) us) (EP X pins σ Q) X.xe s := by
  have hz := h (s.heap.objs.size + 1) s.heap.objs.size (I.hok.fresh (Nat.le_succ _)) (I.hok.fresh (Nat.le_refl _)) (Nat.ne_of_lt (Nat.lt_succ_self _))
  have I2 := Inv.made (C := C) I
  have r2 : Vals (V.ref (s.heap.objs.size + 1) :: vs) (Value.ref (s.heap.objs.size + 1) :: us) := .cons rfl r
  have hl : (Value.ref (s.heap.objs.size + 1) :: us).length = ps.length := by
    have e := r2.length
    rw [F.ln _ _ _ _ hz] at e
    exact e.symm
  have n2 := hb _ (Value.ref (s.heap.objs.size + 1) :: us) I2.kIn (by rw [List.append_nil]; exact hl)
  rw [List.append_nil] at n2
  refine wpAny_call (make_map (f := f) I.kIn M.makes M.init (beq_iff_eq.mp M.fn) (codeAny_mono (F.go _ X.stack _ _ ⟨Value.ref (s.heap.objs.size + 1) :: us, []⟩ (Value.ref (s.heap.objs.size + 1) :: us) _ _ (E σ) (by exact hq) (hr.make C us [])
    (I2.env0.make C us []) n2 r2 hz) fun r s' hq' => ?_))
  cases r with
  | error e => exact hxm pins _ _ e s' I2 hq'
  | ok fl =>
    cases fl with
    | ret u =>
      obtain ⟨v, H', I3, rv, ev, q3⟩ := I2.after hq'
      subst ev
      exact ⟨rv, ⟨V.ref (s.heap.objs.size + 1), H', I3, rfl, q3⟩⟩
    | next => exact False.elim hq'
    | brk => exact False.elim hq'
    | cont => exact False.elim hq'
def tMakeG (C : Addr) (sp : Sp) (E : L2.St → XK) (t : TA) : TE := fun σ H Q => t σ H fun vs H1 => ∀ x dx, H1 x = none → H1 dx = none → dx ≠ x →
  sp (.ref x :: vs) (upd (upd H1 dx (.own x)) x (.ins C dx [])) (fun v H2 => v = .non ∧ Q (.ref x) H2) (E σ)
theorem pe_makeG (M : Mk X.K C f) (F : FnGd X.prog X.w X.K X.mg X.base CX k f fd ps sp) (hq : X.A.guards = some []) (hr : Room (k + 1) X.A) (hg : Gl X x) (hm : X.mg x = some (.ref C)) (hb : Binds X.K fd ps []) (hx : ∀ σ, PassesAt CX X σ (E σ))
    (ha : PA X (e :: es) t) (hdb : (x == ("__debug__" : Str)) = false := by decide) (he : starEach (e :: es) X.env = (false, eval e X.env) :: starEach es X.env := by rfl) (hpl : (backTo pos (starEach es X.env)).any (·.1) = false := by rfl) :
    PE X (.Call (.Name x p) (e :: es) [] pos) (tMakeG C sp E t) := by
  refine ⟨fun pins s σ H Q I h => ?_⟩
  refine wpAny_Call_Name_kw (ld_glob I hg hm ?_ hdb)
  refine PySem.W.callWith_K (h₀ := X.base) I.ok.mod.kin M.kp (thn (ha.run pos pins s σ H _ I h) fun us s1 ⟨vs, H1, I1, r, q⟩ => ⟨I1.kIn, ?_⟩) he hpl
  exact run_makeG M F hq hr hb (hx σ) (fun pins H s e s' I z => hx σ pins H s e s' I z) I1 r q
/-- C() of a class without an __init__ -/
def tMake0 (C : Addr) : TE := fun σ H Q => ∀ x dx, H x = none → H dx = none → dx ≠ x → Q (.ref x) (upd (upd H dx (.own x)) x (.ins C dx []))
theorem pe_make00 (mk : PySem.W.makesIn X.K C = true) (kp : PySem.W.keepIn X.K (.ref C) = true) (hi : PySem.W.findIn X.K (.ref C) "__init__" = some (some (.builtin "object.__init__"))) (top : PySem.W.mroIn X.K C (.type "object") = some true) (hg : Gl X x) (hm : X.mg x = some (.ref C)) (hdb : (x == ("__debug__" : Str)) = false := by decide) :
    PE X (.Call (.Name x p) [] [] pos) (tMake0 C) := by
  refine ⟨fun pins s σ H Q I h => ?_⟩
  refine wpAny_Call_Name_kw (ld_glob I hg hm ?_ hdb)
  refine PySem.W.callWith_K0 I.kIn kp (wpAny_call (make_map0 I.kIn mk hi (fun self => PySem.W.Looks.of_pure (PySem.W.oi_bind self)) ?_))
  have I2 := Inv.made (C := C) I
  have hz := h (s.heap.objs.size + 1) s.heap.objs.size (I.hok.fresh (Nat.le_succ _)) (I.hok.fresh (Nat.le_refl _)) (Nat.ne_of_lt (Nat.lt_succ_self _))
  have e2 : ((s.heap.push PySem.W.emptyDict).push (PySem.W.instObj C s.heap.objs.size)).get? (s.heap.objs.size + 1) = some (PySem.W.instObj C s.heap.objs.size) := by
    have := Heap.get?_push_size (s.heap.push PySem.W.emptyDict) (o := PySem.W.instObj C s.heap.objs.size) rfl
    rwa [Heap.size_push] at this
  have t1 : PySem.W.Looks (model X.prog X.w) ((s.heap.push PySem.W.emptyDict).push (PySem.W.instObj C s.heap.objs.size)) (typeOf (.ref (s.heap.objs.size + 1))) (.ref C) := (PySem.W.Looks.ld e2).andThen .now
  have t2 : PySem.W.Looks (model X.prog X.w) ((s.heap.push PySem.W.emptyDict).push (PySem.W.instObj C s.heap.objs.size)) (isInstance (.ref (s.heap.objs.size + 1)) (.type "object")) true := t1.andThen (PySem.W.looks_mroIn I2.kIn top)
  refine PySem.codeAny_call_builtin PySem.W.oi_plain PySem.W.entry_oi (@PySem.W.check_slot (model X.prog X.w) _ _ _ "object.__init__" "object" "__init__" (.ref (s.heap.objs.size + 1)) [] [] _ PySem.W.oi_kind PySem.W.oi_split t2 (PySem.W.oi_args (.ref (s.heap.objs.size + 1))) ?_)
  rw [PySem.W.oi_run]
  exact wpAny_pure (And.intro rfl ⟨V.ref (s.heap.objs.size + 1), _, I2, rfl, hz⟩)
end
end VL
namespace VL
open PySem L2
def FnN (P : Program) (w : World) (K : PySem.W.Frag) (mg : Str → Option Value) (base : Heap) (T : Ct) (k : Nat) (c : Nat) (m : List FE → FE) : Prop :=
  ∃ f fd ps mk, Mk K (T.ad c) f ∧ FnGd P w K mg base (L2.CX P w) 1 f fd ps (spN T c mk) ∧ Binds K fd ps [] ∧ ((2 ≤ k ∧ m = fun fs env => (evA fs env).b (newM c mk)) ∨ m = fun _ _ => .stuck)
section
variable {X : Cx} {T : Ct} {EX : XK} {B : Hp × Hp} {e : Expr} {es : List Expr} {pos p : Pos} {fs : List FE}
theorem ve_new {x : Str} {c k : Nat} {m : List FE → FE} (oc : Oc X.K X.mg T x c) (N : FnN X.prog X.w X.K X.mg X.base T k c m) (hr : Room k X.A) (hg : Gl X x) (C : Cv X T EX B) (ha : VA X T EX B (e :: es) fs)
    (hd : (x == ("__debug__" : Str)) = false := by decide) (hs : starEach (e :: es) X.env = (false, eval e X.env) :: starEach es X.env := by rfl) (hpl : ((backTo pos (starEach es X.env)).any fun z => z.1) = false := by rfl) :
    VE X T EX B (.Call (.Name x p) (e :: es) [] pos) (m fs) := by
  obtain ⟨f, fd, ps, mk, M, F, hb, h | h⟩ := N
  rotate_left
  · subst h
    exact ⟨fun pins s σ H Q I ⟨G, env, S, o⟩ => o.elim⟩
  obtain ⟨hk, rfl⟩ := h
  refine pe_weak (pe_makeG (E := fun _ => EX) M F C.gd (hr.mono hk) hg oc.mgC hb (fun σ pn H s e s' => C.pass pn σ H s e s') ha hd hs hpl) fun σ H Q q => ?_
  obtain ⟨G, env, S, o⟩ := q
  refine args_seq S o fun vs as G1 H1 s1 rp S1 o1 x dx hx hdx ne => ?_
  unfold newM at o1
  split at o1
  rotate_left
  · exact o1.elim
  rename_i ds ed
  split at o1
  rotate_left
  · exact o1.elim
  rename_i rs er
  split at o1
  rotate_left
  · exact o1.elim
  rename_i ln
  have dq := dats_ok rp ed
  have hx2 : (upd (upd H1 dx (.own x)) x (.ins (T.ad c) dx [])) x = some (.ins (T.ad c) dx []) := upd_same
  have hdx2 : (upd (upd H1 dx (.own x)) x (.ins (T.ad c) dx [])) dx = some (.own x) := by rw [upd_ne ne, upd_same]
  have old : ∀ b o, H1 b = some o → (upd (upd H1 dx (.own x)) x (.ins (T.ad c) dx [])) b = some o := fun b o e => by
    rw [upd_ne (ne_of_none e hx), upd_ne (ne_of_none e hdx)]; exact e
  refine ⟨x, dx, G1, vs, ds, rs, rfl, hx2, hdx2, fun b o e => old b o (S1.gh b o e), same_none S1.gh hx, dq, er, by rw [dq.length, oc.fl, ln], fun F us H' kp hx' l nd nw ra => ⟨rfl, o1 (.ref x) (x :: dx :: F) G1 H' ⟨.of fun b o e => ?_, Same.refl _, fun b o e => ?_, fun _ a b => absurd a b, fun n => n⟩ ?_ ?_ ?_⟩⟩
  · exact kp b o (ne_of_none e hx) (old b o e)
  · have := S1.gh b o e
    exact kp b o (ne_of_none this hx) (old b o this)
  · refine List.nodup_cons.mpr ⟨fun z => ?_, List.nodup_cons.mpr ⟨fun z => ?_, nd⟩⟩
    · rcases List.mem_cons.mp z with z | z
      · exact ne z.symm
      · have := nw x z; rw [hx2] at this; cases this
    · have := nw dx z; rw [hdx2] at this; cases this
  · intro a m
    have : H1 a = none := by
      rcases List.mem_cons.mp m with rfl | m
      · exact hx
      rcases List.mem_cons.mp m with rfl | m
      · exact hdx
      · cases q : H1 a with
        | none => rfl
        | some o => have z := nw a m; rw [old a o q] at z; cases z
    exact ⟨same_none S1.gh this, this⟩
  · exact .ins hx' (kp dx _ ne hdx2) l ra
@[simp] def vNew0 (c : Nat) : FE := fun _ => .val (.rg (.ins c []))
theorem ve_new0 {x : Str} (c : Nat) (oc : Oc X.K X.mg T x c) (hi : PySem.W.findIn X.K (.ref (T.ad c)) "__init__" = some (some (.builtin "object.__init__"))) (hg : Gl X x) (hf : clsFlds c = [] := by rfl) (hd : (x == ("__debug__" : Str)) = false := by decide) :
    VE X T EX B (.Call (.Name x p) [] [] pos) (vNew0 c) := pe_weak (pe_make00 oc.mks oc.kp hi oc.hm hg oc.mgC hd) fun σ H Q q => by
  obtain ⟨G, env, S, o⟩ := q
  intro x dx hx hdx ne
  refine o (.ref x) [x, dx] G _ ⟨.of fun b o e => ?_, Same.refl _, fun b o e => ?_, fun _ a b => absurd a b, fun n => n⟩ (by simp [ne.symm]) (fun a m => ?_) (.ins (vs := []) (S := []) (by rw [upd_same, oc.fl, hf]; rfl) (by rw [upd_ne ne, upd_same]) (by rw [oc.fl, hf]; rfl) .nil)
  · rw [upd_ne (ne_of_none e hx), upd_ne (ne_of_none e hdx)]; exact e
  · have := S.gh b o e
    rw [upd_ne (ne_of_none this hx), upd_ne (ne_of_none this hdx)]; exact this
  · have : H a = none := by
      rcases List.mem_cons.mp m with rfl | m
      · exact hx
      · rw [List.mem_singleton.mp m]; exact hdx
    exact ⟨same_none S.gh this, this⟩
end
/-! ### .. by __init__ -/
abbrev rList (K : PySem.W.Frag) : List V → Hp → VK → Prop := fun xs H Q => ∃ p ys, xs = [.ref p] ∧ (SqL K H p ys ∨ SqT K H p ys) ∧ ∀ l, H l = none → Q (.ref l) (upd H l (.lst ys))
section
variable {K : PySem.W.Frag} {mg : Str → Option Value} {T : Ct} {vs : List V} {H : Hp} {Q : VK} {E : XK}
theorem spN_len {c : Nat} {mk : List D → Option (List RD)} {n : Nat} (hn : (T.fl c).length + 1 = n) : ∀ xs H Q E, spN T c mk xs H Q E → xs.length = n := by
  rintro xs H Q E ⟨x, dx, G, ys, ds, rs, rfl, _, _, _, _, _, _, l, _⟩
  rw [List.length_cons]; omega
theorem init1_rd (oc : Oc K mg T "Slants" 1) (h : spN T 1 mk1 vs H Q E) : sFld K (tVar 0) (tCB (rList K) (tCons (tVar 1) tNil)) "way" { nx := fun _ H' => Q .non H', rt := Q } (start ["self", "way"] vs) H := by
  obtain ⟨x, dx, G, ys, ds, rs, rfl, hx, hdx, gh, gx, dq, em, l, q⟩ := h
  have fl : T.fl 1 = (["way"] : List Str) := oc.fl
  rw [fl] at l
  match ys, l with
  | [y], _ =>
    obtain ⟨d, ds', rfl⟩ : ∃ d ds', ds = d :: ds' := by
      cases ds with
      | nil => exact absurd dq.length (by simp)
      | cons d r => exact ⟨d, r, rfl⟩
    obtain ⟨v, vs', e, q1, q2⟩ := dq.inv
    cases e
    have e0 : ds' = [] := by
      have := q2.length
      cases ds' with
      | nil => rfl
      | cons _ _ => simp at this
    subst e0
    unfold mk1 at em
    split at em
    rotate_left
    · cases em
    rename_i ds z
    cases z
    cases em
    obtain ⟨b, xs, rfl, s1, q1⟩ := q1.lstH gh
    refine ⟨.ref b, rfl, b, xs, rfl, .inl (sqL_K s1), fun p hp => ⟨.ref x, rfl, x, T.ad 1, dx, [], rfl, ?_, oc.cl, oc.na "way" (by exact List.mem_cons_self), by simp, ?_⟩⟩
    · rw [upd_ne (ne_of_none hx hp)]; exact hx
    · have px : p ≠ x := (ne_of_none hx hp).symm
      refine q [p] [.ref p] _ (fun c o nx e => ?_) ?_ (by rw [fl]; rfl) (by simp) (fun a m => by rw [List.mem_singleton.mp m]; exact hp) ?_
      · rw [upd_ne nx, upd_ne (ne_of_none e hp)]; exact e
      · rw [upd_same, fl]; rfl
      · exact .cons (S := [p]) (S' := []) (.lst (S := []) (vs := xs) (by rw [upd_ne px, upd_same]) (dats_rrp q1)) .nil
theorem asLsts_map : ∀ {ws : List D} {wss : List (List D)}, asLsts ws = some wss → ws = wss.map .list
  | [], _, h => by simp only [asLsts] at h; cases h; rfl
  | d :: r, _, h => by
    simp only [asLsts] at h
    split at h
    · rename_i x y e1 e2
      cases h
      have : d = .list x := by
        cases d <;> simp only [asLst] at e1 <;> cases e1
        rfl
      rw [List.map_cons, ← asLsts_map e2, this]
    · cases h
/-- [list(w) for w in ws]: a list of lists, all new -/
theorem lc_lists {G H1 : Hp} {l D : Addr} {xs : List V} {wss : List (List VL.D)} {σ : L2.St} {i : Nat} {Qd : Hp → Prop} (hi : i < σ.length) (gh : Same G H1) (s1 : SqL [] H1 l xs) (dq : DqAll G xs (wss.map .list)) (hD : H1 D = none) (hw : wss.length ≤ 100000)
    (hd : ∀ Hc acc S, (∀ b o, H1 b = some o → Hc b = some o) → Hc D = some (.lst acc) → RRpAll T G Hc S acc (wss.map lstR) → S.Nodup → D ∉ S → (∀ a ∈ S, H1 a = none) → Qd Hc) :
    ∃ W : Nat → Nat → Hp → Prop, (∃ m, W 0 m (upd H1 D (.lst []))) ∧ ∀ j m H, W j m H →
      ((Itl K l).stop j H ∧ Qd H) ∨ ((Itl K l).go j H ∧ ∃ Nx : Hp → Prop, (∀ H', Nx H' → ∃ m', m' < m ∧ W (j + 1) m' H') ∧ ∀ x H', (Itl K l).yld j H x H' → gName i x (wipe σ [i]) H' fun σ2 H2 => wipe σ2 [i] = wipe σ [i] ∧ tYes σ2 H2 fun b H3 =>
        if b = true then tCB (rList K) (tCons (tVar i) tNil) σ2 H3 fun y H4 => ∃ acc, H4 D = some (.lst acc) ∧ acc.length < sizeLine ∧ Nx (upd H4 D (.lst (acc ++ [y]))) else Nx H3) := by
  have lx : xs.length = wss.length := by rw [dq.length, List.length_map]
  refine lc_list (K := K) (a := l) (xs := xs) (fun j Hc => ∃ acc S, (∀ b o, H1 b = some o → Hc b = some o) ∧ Hc D = some (.lst acc) ∧ RRpAll T G Hc S acc ((wss.take j).map lstR) ∧ S.Nodup ∧ D ∉ S ∧ (∀ a ∈ S, H1 a = none) ∧ acc.length ≤ j) ?_ ?_ ?_ ?_
  · refine ⟨[], [], fun b o e => ?_, upd_same, .nil, List.nodup_nil, List.not_mem_nil, fun a m => absurd m List.not_mem_nil, Nat.zero_le _⟩
    rw [upd_ne (ne_of_none e hD)]; exact e
  · rintro j Hc _ ⟨acc, S, h1, _⟩
    rcases s1 with (s1 | ⟨o, s1⟩) | ⟨o, its, n, hk, _⟩
    · exact .inl (.inl (h1 _ _ s1))
    · exact .inl (.inr ⟨o, h1 _ _ s1⟩)
    · cases hk
  · rintro j x Hc hx ⟨acc, S, h1, h2, h3, h4, h5, h6, h7⟩
    have hj : j < xs.length := (List.getElem?_eq_some_iff.mp hx).1
    have ew : wss[j]? = some wss[j] := List.getElem?_eq_getElem (by omega)
    obtain ⟨v, hv, dv⟩ := dq.get (i := j) (d := .list wss[j]) (by rw [List.getElem?_map, ew]; rfl)
    rw [hx] at hv
    cases hv
    obtain ⟨b, ys, rfl, s2, q2⟩ := dv.lstH gh
    have hi2 : i < (wipe σ [i]).length := by rw [wipe_length]; exact hi
    have s3 : SqL [] Hc b ys := by
      rcases s2 with (s2 | ⟨o, s2⟩) | ⟨o, its, n, hk, _⟩
      · exact .inl (.inl (h1 _ _ s2))
      · exact .inl (.inr ⟨o, h1 _ _ s2⟩)
      · cases hk
    refine ⟨wipe_eq (is := [i]) SetIn.one (fun z m => m), ?_⟩
    unfold tYes
    dsimp only
    rw [if_pos rfl]
    refine ⟨.ref b, List.getElem?_set_self hi2, b, ys, rfl, .inl (sqL_K s3), fun p hp => ⟨acc, ?_, ?_, acc ++ [.ref p], S ++ [p], fun c o e => ?_, upd_same, ?_, ?_, ?_, ?_, ?_⟩⟩
    · rw [upd_ne (ne_of_none h2 hp)]; exact h2
    · exact gl_line (by omega)
    · have := h1 c o e
      rw [upd_ne (ne_of_none e hD), upd_ne (ne_of_none this hp)]; exact this
    · have pD : p ≠ D := (ne_of_none h2 hp).symm
      have k : ∀ a ∈ S, (upd (upd Hc p (.lst ys)) D (.lst (acc ++ [.ref p]))) a = Hc a := fun a m => by
        obtain ⟨o, ea, _⟩ := RRpAll.at _ _ _ h3 a m
        rw [upd_ne (show a ≠ D from fun z => h5 (z ▸ m)), upd_ne (ne_of_none ea hp)]
      have h3' := RRpAll.mono (T' := T) (Same.refl G) rfl rfl _ _ _ h3 k
      have hp' : (upd (upd Hc p (.lst ys)) D (.lst (acc ++ [.ref p]))) p = some (.lst ys) := by rw [upd_ne pD, upd_same]
      have e1 : (wss.take (j + 1)).map lstR = (wss.take j).map lstR ++ [lstR wss[j]] := by
        rw [List.take_succ, ew, List.map_append]; rfl
      rw [e1]
      exact RRpAll.snoc (S' := [p]) (.lst (S := []) hp' (dats_rrp q2)) h3'
    · refine List.nodup_append.mpr ⟨h4, by simp, fun a m c mc => ?_⟩
      rw [List.mem_singleton.mp mc]
      obtain ⟨o, ea, _⟩ := RRpAll.at _ _ _ h3 a m
      exact ne_of_none ea hp
    · intro m
      rcases List.mem_append.mp m with m | m
      · exact h5 m
      · rw [List.mem_singleton.mp m] at h2; rw [hp] at h2; cases h2
    · intro a m
      rcases List.mem_append.mp m with m | m
      · exact h6 a m
      · rw [List.mem_singleton.mp m]
        cases q : H1 p with
        | none => rfl
        | some o => have := h1 p o q; rw [hp] at this; cases this
    · rw [List.length_append, List.length_singleton]; omega
  · rintro Hc ⟨acc, S, h1, h2, h3, h4, h5, h6, h7⟩
    rw [List.take_of_length_le (by omega)] at h3
    exact hd Hc acc S h1 h2 h3 h4 h5 h6
theorem init2_rd (oc : Oc K mg T "Leaned" 2) (h : spN T 2 mk2 vs H Q E) : tSeq (sFld K (tVar 0) (tVar 1) "heap") (sFld K (tVar 0) (tLc (iList K (tVar 2)) (gName 3) tYes (tCB (rList K) (tCons (tVar 3) tNil)) [3]) "ways") { nx := fun _ H' => Q .non H', rt := Q } (start ["self", "heap", "ways", "way"] vs) H := by
  obtain ⟨x, dx, G, ys, ds, rs, rfl, hx, hdx, gh, gx, dq, em, l, q⟩ := h
  have fl : T.fl 2 = (["heap", "ways"] : List Str) := oc.fl
  rw [fl] at l
  match ys, l with
  | [y, z], _ =>
    obtain ⟨d, d2, rfl⟩ : ∃ d d2, ds = [d, d2] := by
      have := dq.length
      match ds, this with
      | [d, d2], _ => exact ⟨d, d2, rfl⟩
    obtain ⟨v, vs', e, q1, q2⟩ := dq.inv
    cases e
    obtain ⟨v2, vs2, e, q3, q4⟩ := q2.inv
    cases e
    unfold mk2 at em
    split at em
    rotate_left
    · cases em
    rename_i h0 ws0 z0
    cases z0
    split at em
    rotate_left
    · cases em
    rename_i hwl
    obtain ⟨wss, ew, rfl⟩ := Option.map_eq_some_iff.mp em
    have ews := asLsts_map ew
    subst ews
    obtain ⟨b, xs, rfl, s1, q5⟩ := q3.lstInv
    have gh1 : Same G (upd H x (.ins (T.ad 2) dx [("heap", y)])) := fun c o e => by
      rw [upd_ne (ne_of_none e gx)]; exact gh c o e
    refine ⟨y, rfl, .ref x, rfl, x, T.ad 2, dx, [], rfl, hx, oc.cl, oc.na "heap" (by exact List.mem_cons_self), by simp, ?_⟩
    refine ⟨.ref b, rfl, b, rfl, ⟨xs, sqL_K (gh1.seq s1)⟩, fun D hD => ?_⟩
    have Dx : D ≠ x := fun z => by rw [z, upd_same] at hD; cases hD
    refine lc_lists (T := T) (K := K) (G := G) (xs := xs) (wss := wss) (i := 3) (by simp [L2.start]) gh1 (gh1.seq s1) q5 hD (by rw [List.length_map] at hwl; exact hwl) fun Hc acc S h1 h2 h3 h4 h5 h6 => ?_
    have hxc : Hc x = some (.ins (T.ad 2) dx [("heap", y)]) := h1 x _ upd_same
    have hS : ∀ a ∈ S, a ≠ x := fun a m z => by
      have := h6 a m
      rw [z, upd_same] at this; cases this
    refine ⟨.ref x, rfl, x, T.ad 2, dx, _, rfl, hxc, oc.cl, oc.na "ways" (by exact List.mem_cons_of_mem _ List.mem_cons_self), by simp, ?_⟩
    refine q (D :: S) [y, .ref D] _ (fun c o nx e => ?_) ?_ (by rw [fl]; rfl) (List.nodup_cons.mpr ⟨h5, h4⟩) (fun a m => ?_) ?_
    · rw [upd_ne nx]
      exact h1 c o (by rw [upd_ne nx]; exact e)
    · rw [upd_same, fl]
      rfl
    · rcases List.mem_cons.mp m with rfl | m
      · rw [upd_ne Dx] at hD; exact hD
      · have := h6 a m
        rw [upd_ne (hS a m)] at this; exact this
    · have h3' := RRpAll.mono (T' := T) (H' := upd Hc x (.ins (T.ad 2) dx (putF "ways" (.ref D) [("heap", y)]))) (Same.refl G) rfl rfl _ _ _ h3 fun a m => upd_ne (hS a m)
      have z := RRpAll.cons (T := T) (G := G) (RRp.lst (S := S) (vs := acc) ((upd_ne Dx).trans h2) h3') .nil
      rw [List.append_nil] at z
      exact RRpAll.cons (S := []) (S' := D :: S) (.dat q1) z
end
end VL
namespace VL
open PySem L2
/-! ### a class's defs -/
def Dm (K : PySem.W.Frag) (T : Ct) (c : Nat) (x q : Str) (st : Stmt) (ps : List Str) : Prop := ∃ f fd, Fun K x q st f fd ∧ Meth K (T.ad c) x f ∧ Binds K fd ps []
def Di (K : PySem.W.Frag) (T : Ct) (c : Nat) (q : Str) (st : Stmt) (ps : List Str) : Prop := ∃ f fd, Fun K "__init__" q st f fd ∧ Mk K (T.ad c) f ∧ Binds K fd ps []
def FnC (P : Program) (w : World) (K : PySem.W.Frag) (mg : Str → Option Value) (base : Heap) (T : Ct) (k c : Nat) (x : Str) (n : Nat) (m : List SV → R) : Prop :=
  ∃ f fd ps, FnGd P w K mg base (L2.CX P w) k f fd ps (spV T n m) ∧ Meth K (T.ad c) x f ∧ Binds K fd ps []
def FnI (P : Program) (w : World) (K : PySem.W.Frag) (mg : Str → Option Value) (base : Heap) (T : Ct) (c : Nat) (mk : List D → Option (List RD)) : Prop :=
  ∃ f fd ps, Mk K (T.ad c) f ∧ FnGd P w K mg base (L2.CX P w) 1 f fd ps (spN T c mk) ∧ Binds K fd ps []
def nwM (c : Nat) (mk : List D → Option (List RD)) : Nat → List FE → FE
  | 0 => fun _ _ => .stuck
  | 1 => fun _ _ => .stuck
  | _ + 2 => fun fs env => (evA fs env).b (newM c mk)
theorem nwM_eq {c : Nat} {mk : List D → Option (List RD)} {k : Nat} (h : 2 ≤ k) : nwM c mk k = fun fs env => (evA fs env).b (newM c mk) := by
  obtain ⟨j, rfl⟩ : ∃ j, k = j + 2 := ⟨k - 2, by omega⟩
  rfl
section
variable {P : Program} {w : World} {K : PySem.W.Frag} {mg : Str → Option Value} {base : Heap} {T : Ct}
theorem fnC_mk {x q : Str} {st : Stmt} {N ps : List Str} {k c : Nat} {s : FS} (d : Dm K T c x q st ps) (S : FnScope N ps (defScope st)) (hb : Bd P w K mg base T k N q st s) : FnC P w K mg base T (k + 1) c x ps.length (runB N.length s) := by
  obtain ⟨f, fd, F, hm, hbi⟩ := d
  exact ⟨f, fd, ps, fn_ok F S fun cdv A outer s0 H E B hr C po tk => hb f cdv A outer s0 H E B hr C po tk, hm, hbi⟩
theorem fnC_zero {x q : Str} {st : Stmt} {ps : List Str} {n c : Nat} {m : List SV → R} (d : Dm K T c x q st ps) (h : m = fun _ => .stuck) : FnC P w K mg base T 0 c x n m := by
  obtain ⟨f, fd, F, hm, hbi⟩ := d
  subst h
  have no : ∀ vs H Q E, ¬ spV T n (fun _ => .stuck) vs H Q E := fun vs H Q E ⟨_, _, _, _, _, _, _, o⟩ => o
  exact ⟨f, fd, ps, ⟨fun vs H Q E h => absurd h (no vs H Q E), fun A outer s H args us vs Q E _ _ _ _ _ h => absurd h (no vs H Q E)⟩, hm, hbi⟩
def msO (a b c : List SV → R) : Nat → List SV → R
  | 0 => a
  | 1 => b
  | _ => c
theorem fnSh_of {k n : Nat} {x : Str} {a b c : List SV → R} (h0 : FnC P w K mg base T k 0 x n a) (h1 : FnC P w K mg base T k 1 x n b) (h2 : FnC P w K mg base T k 2 x n c) : FnSh P w K mg base T k x n (msO a b c) := fun i hi => by
  have : i = 0 ∨ i = 1 ∨ i = 2 := by omega
  rcases this with rfl | rfl | rfl
  · exact h0
  · exact h1
  · exact h2
theorem fnN_of {c : Nat} {mk : List D → Option (List RD)} (h : FnI P w K mg base T c mk) (k : Nat) : FnN P w K mg base T k c (nwM c mk k) := by
  obtain ⟨f, fd, ps, a, b, d⟩ := h
  refine ⟨f, fd, ps, mk, a, b, d, ?_⟩
  by_cases z : 2 ≤ k
  · exact .inl ⟨z, nwM_eq z⟩
  · refine .inr ?_
    have : k = 0 ∨ k = 1 := by omega
    rcases this with rfl | rfl <;> rfl
/-! ### the same with a table at hand -/
theorem Oc.tab {x : Str} {c : Nat} (o : Oc K mg T x c) (a : Addr) : Oc K mg { T with me := some a } x c := ⟨o.mgC, o.fl, o.cl, o.na, o.ha, o.hn, o.ht, o.hm, o.mks, o.kp⟩
theorem Dm.tab {c : Nat} {x q : Str} {st : Stmt} {ps : List Str} (d : Dm K T c x q st ps) (a : Addr) : Dm K { T with me := some a } c x q st ps := d
theorem Di.tab {c : Nat} {q : Str} {st : Stmt} {ps : List Str} (d : Di K T c q st ps) (a : Addr) : Di K { T with me := some a } c q st ps := d
theorem OkI.tab {x : Str} {t : Nat → Bool} (o : OkI K mg T x t) (a : Addr) : OkI K mg { T with me := some a } x t := o
/-! ### from the top -/
theorem ad_of {c : Nat} {x : Str} {C : Addr} {h : Heap} (X : K.In h) (G : h.Ns mainGlobals mg) (a : PySem.W.nsIn K mainGlobals x = some (some (.ref C))) (hx : clsName c = x) : (ctOf mg).ad c = C := by
  show adOf mg (clsName c) = C
  rw [hx]; exact adOf_eq (PySem.W.mg_of X G a)
theorem oc_mk {c : Nat} {x : Str} {C : Addr} {h : Heap} (X : K.In h) (G : h.Ns mainGlobals mg) (a : PySem.W.nsIn K mainGlobals x = some (some (.ref C))) (hx : clsName c = x) (cl : Cls K C) (na : ∀ f ∈ clsFlds c, NoAttr K C f)
    (ha : PySem.W.findIn K (.ref C) "__class__" = some (some (.builtin "object.__class__"))) (hn : PySem.W.specialIn K (.builtin "object.__class__") "__get__" = some (some (.builtin "getset_descriptor.__get__"))) (ht : PySem.W.takesIn K (.builtin "object.__class__") = some true)
    (hm : PySem.W.mroIn K C (.type "object") = some true) (mks : PySem.W.makesIn K C = true) (kp : PySem.W.keepIn K (.ref C) = true) : Oc K mg (ctOf mg) x c := by
  have e := ad_of X G a hx
  exact ⟨by rw [e]; exact PySem.W.mg_of X G a, rfl, by rw [e]; exact cl, by rw [e]; exact na, by rw [e]; exact ha, hn, ht, by rw [e]; exact hm, by rw [e]; exact mks, by rw [e]; exact kp⟩
theorem dm_mk {c : Nat} {x m q : Str} {C f : Addr} {h : Heap} {st : Stmt} {ps : List Str} {oc : Value} {od an : Option Addr} {osl : Array (Option Value)} {kV doc pm cdv ct : Value} (X : K.In h) (G : h.Ns mainGlobals mg) (a : PySem.W.nsIn K mainGlobals x = some (some (.ref C))) (hx : clsName c = x)
    (g : PySem.W.findIn K (.ref C) m = some (some (.ref f))) (n : PySem.W.isFn K (.ref f) = true) (l : K.lookup f = some ⟨oc, od, .func (PySem.W.fnOf m q (defArgs st) (defBody st) (defScope st) .none kV doc pm an cdv ct), osl⟩) (cd : PySem.W.codeIn K cdv q = true) (k : PySem.W.keepIn K (.ref f) = true)
    (hb : ∀ (kV doc pm : Value) (an : Option Addr) (cdv ct : Value) (us : List Value), us.length = ps.length → bindArgs (PySem.W.fnOf m q (defArgs st) (defBody st) (defScope st) .none kV doc pm an cdv ct) ⟨us, []⟩ = pure (ps.zip us)) : Dm K (ctOf mg) c m q st ps := by
  have F := fun_mk (st := st) l cd k
  exact ⟨f, _, F, ⟨by rw [ad_of X G a hx]; exact g, n, k⟩, F.binds hb⟩
theorem di_mk {c : Nat} {x q : Str} {C f : Addr} {h : Heap} {st : Stmt} {ps : List Str} {oc : Value} {od an : Option Addr} {osl : Array (Option Value)} {kV doc pm cdv ct : Value} (X : K.In h) (G : h.Ns mainGlobals mg) (a : PySem.W.nsIn K mainGlobals x = some (some (.ref C))) (hx : clsName c = x)
    (g : PySem.W.findIn K (.ref C) "__init__" = some (some (.ref f))) (n : PySem.W.isFn K (.ref f) = true) (l : K.lookup f = some ⟨oc, od, .func (PySem.W.fnOf "__init__" q (defArgs st) (defBody st) (defScope st) .none kV doc pm an cdv ct), osl⟩) (cd : PySem.W.codeIn K cdv q = true) (k : PySem.W.keepIn K (.ref f) = true)
    (mks : PySem.W.makesIn K C = true) (kp : PySem.W.keepIn K (.ref C) = true)
    (hb : ∀ (kV doc pm : Value) (an : Option Addr) (cdv ct : Value) (us : List Value), us.length = ps.length → bindArgs (PySem.W.fnOf "__init__" q (defArgs st) (defBody st) (defScope st) .none kV doc pm an cdv ct) ⟨us, []⟩ = pure (ps.zip us)) : Di K (ctOf mg) c q st ps := by
  have F := fun_mk (st := st) l cd k
  have e := ad_of X G a hx
  exact ⟨f, _, F, ⟨by rw [e]; exact mks, by rw [e]; exact g, n, by rw [e]; exact kp⟩, F.binds hb⟩
theorem z_mk {c : Nat} {x : Str} {C : Addr} {h : Heap} (X : K.In h) (G : h.Ns mainGlobals mg) (a : PySem.W.nsIn K mainGlobals x = some (some (.ref C))) (hx : clsName c = x) (g : PySem.W.findIn K (.ref C) "__init__" = some (some (.builtin "object.__init__"))) :
    PySem.W.findIn K (.ref ((ctOf mg).ad c)) "__init__" = some (some (.builtin "object.__init__")) := by rw [ad_of X G a hx]; exact g
theorem ok_mk {x : Str} {D C0 C1 C2 : Addr} {h : Heap} {t : Nat → Bool} {b0 b1 b2 : Bool} (X : K.In h) (G : h.Ns mainGlobals mg) (a : PySem.W.nsIn K mainGlobals x = some (some (.ref D))) (a0 : PySem.W.nsIn K mainGlobals "Leans" = some (some (.ref C0))) (a1 : PySem.W.nsIn K mainGlobals "Slants" = some (some (.ref C1))) (a2 : PySem.W.nsIn K mainGlobals "Leaned" = some (some (.ref C2)))
    (e0 : PySem.W.kitOne K (.ref C0) (.ref D) = some b0) (e1 : PySem.W.kitOne K (.ref C1) (.ref D) = some b1) (e2 : PySem.W.kitOne K (.ref C2) (.ref D) = some b2) (h0 : t 0 = b0) (h1 : t 1 = b1) (h2 : t 2 = b2) : OkI K mg (ctOf mg) x t := by
  refine ⟨D, PySem.W.mg_of X G a, fun c hc => ?_⟩
  have : c = 0 ∨ c = 1 ∨ c = 2 := by omega
  rcases this with rfl | rfl | rfl
  · rw [ad_of X G a0 rfl, h0]; exact e0
  · rw [ad_of X G a1 rfl, h1]; exact e1
  · rw [ad_of X G a2 rfl, h2]; exact e2
theorem na0 {K : PySem.W.Frag} {C : Addr} : ∀ f ∈ clsFlds 0, NoAttr K C f := fun _ m => absurd m List.not_mem_nil
theorem na1 {K : PySem.W.Frag} {C : Addr} (h : PySem.W.findIn K (.ref C) "way" = some none) : ∀ f ∈ clsFlds 1, NoAttr K C f := fun f m => by
  rw [show f = ("way" : Str) from List.mem_singleton.mp m]; exact h
theorem na2 {K : PySem.W.Frag} {C : Addr} (h : PySem.W.findIn K (.ref C) "heap" = some none) (h' : PySem.W.findIn K (.ref C) "ways" = some none) : ∀ f ∈ clsFlds 2, NoAttr K C f := fun f m => by
  rcases List.mem_cons.mp m with rfl | m
  · exact h
  · rw [show f = ("ways" : Str) from List.mem_singleton.mp m]; exact h'
end
end VL
namespace VL
open PySem L2
/-! ### a name takes a thing of its own; parts of it are changed -/
@[simp] def isRg : Option SV → Bool
  | some (.rg _) => true
  | _ => false
def noRg (env : VEnv) : Bool := env.all fun o => !isRg o
theorem noRg_at {env : VEnv} (h : noRg env = true) {j : Nat} {r : RD} (e : env[j]? = some (some (.rg r))) : False := by
  have := List.all_eq_true.mp h _ (List.mem_of_getElem? e)
  simp at this
@[simp] def sRg (i : Nat) (f : FE) : FS := fun env => (f env).s fun v => if noRg (env.set i none) = true then (match v with
  | .rg r => .nx (env.set i (some (.rg r)))
  | _ => .stuck) else .stuck
/-- the list that is the j-th part -/
@[simp] def subL (rs : List RD) (j : Nat) : Option (List RD) := match rs[j]? with
  | some (.lst qs) => some qs
  | _ => none
/-- x.f.append(e), x.f.pop() -/
@[simp] def sRgApp (i c j : Nat) (f : FE) : FS := fun env => match env[i]? with
  | some (some (.rg (.ins c' rs))) => if c' = c then (match subL rs j with
    | some qs => (match evA [f] env with
      | .val [.sh d] => if qs.length ≤ 1000000 then .nx (env.set i (some (.rg (.ins c (rs.set j (.lst (qs ++ [.dat d]))))))) else .stuck
      | .err c => .err c
      | _ => .stuck)
    | none => .stuck) else .stuck
  | _ => .stuck
@[simp] def sRgPop (i c j : Nat) : FS := fun env => match env[i]? with
  | some (some (.rg (.ins c' rs))) => if c' = c then (match subL rs j with
    | some qs => if qs.length = 0 then .stuck else .nx (env.set i (some (.rg (.ins c (rs.set j (.lst qs.dropLast))))))
    | none => .stuck) else .stuck
  | _ => .stuck
section
variable {X : Cx} {T : Ct} {EX : XK} {B : Hp × Hp} {e a b c o tg : Expr} {es : List Expr} {pos p p2 apos : Pos} {f g h : FE} {fs gs : List FE} {G H G1 H1 : Hp} {Q : VK} {σ : L2.St} {env : VEnv} {D : Ends}
theorem Sim.setRg (S : Sim T B G env σ H) {i : Nat} {v : V} {F : List Addr} {r : RD} (n : noRg (env.set i none) = true) (h : RgAt T B G H F v r) (ap : ∀ (j : Nat) ds p, env[j]? = some (some (.ow ds)) → σ[j]? = some (some (.ref p)) → p ∉ F) : Sim T B G (env.set i (some (.rg r))) (σ.set i (some v)) H where
  st := S.st
  nb := S.nb
  me := S.me
  len := by rw [List.length_set, List.length_set, S.len]
  sh := fun j e q => by
    rcases get_set q with ⟨z, y⟩ | ⟨z, y⟩
    · cases y
    · obtain ⟨w, h1, h2⟩ := S.sh j e y
      exact ⟨w, by rw [List.getElem?_set_ne z]; exact h1, h2⟩
  ob := fun j c' fs' q => by
    rcases get_set q with ⟨z, y⟩ | ⟨z, y⟩
    · cases y
    · obtain ⟨w, h1, h2⟩ := S.ob j c' fs' y
      exact ⟨w, by rw [List.getElem?_set_ne z]; exact h1, h2⟩
  ow := fun j ds q => by
    rcases get_set q with ⟨z, y⟩ | ⟨z, y⟩
    · cases y
    · obtain ⟨p, xs, h1, h2⟩ := S.ow j ds y
      exact ⟨p, xs, by rw [List.getElem?_set_ne z]; exact h1, h2⟩
  ap := fun j k ds es p q1 q2 q3 q4 => by
    rcases get_set q1 with ⟨z, y⟩ | ⟨z1, y1⟩
    · cases y
    rcases get_set q2 with ⟨z, y⟩ | ⟨z2, y2⟩
    · cases y
    rw [List.getElem?_set_ne z1] at q3
    rw [List.getElem?_set_ne z2] at q4
    exact S.ap j k ds es p y1 y2 q3 q4
  rg := fun j r' q => by
    have hj : j < σ.length := by have := (List.getElem?_eq_some_iff.mp q).1; rw [List.length_set] at this; rw [← S.len]; exact this
    have no : ∀ (l : Nat) r2, env[l]? = some (some (.rg r2)) → i ≠ l → False := fun l r2 e z => noRg_at (j := l) (r := r2) n (by rw [List.getElem?_set_ne z]; exact e)
    rcases get_set q with ⟨z, y⟩ | ⟨z, y⟩
    · subst z
      cases y
      refine ⟨fun l r2 q2 => ?_, v, F, List.getElem?_set_self hj, h, fun l ds p q1 q2 => ?_⟩
      · rcases get_set q2 with ⟨z, _⟩ | ⟨z, y⟩
        · exact z.symm
        · exact (no l r2 y z).elim
      · rcases get_set q1 with ⟨z, y⟩ | ⟨z, y⟩
        · cases y
        · rw [List.getElem?_set_ne z] at q2
          exact ap l ds p y q2
    · exact (no j r' y z).elim
theorem vs_rg (i : Nat) {x : Str} {pos' : Pos} (C : Cv X T EX B) (he : VE X T EX B e f) (hi : X.N[i]? = some x := by rfl) (hx : Loc X.env.scope x := by first | exact .inl rfl | exact .inr rfl) (hs : swapsWith e (some (.Name x pos')) pos.line X.env = pure false := by rfl) (hf : X.fn x = true ∨ X.env.scope.names.lookup x = some .local := by first | exact .inl rfl | exact .inr rfl) :
    VS X T EX B (.Assign [.Name x pos'] e pos) (sRg i f) := ps_weak (ps_set C.nd hi hx he hs hf) fun D σ H q => by
  obtain ⟨G, env, S, o⟩ := q
  refine seqS S o fun v _ o => ?_
  split at o
  rotate_left
  · exact o.elim
  rename_i n
  split at o
  rotate_left
  · exact o.elim
  intro v F G' H' s nd nw q
  refine o G' _ H' s.gg ((S.step s).setRg n ⟨q, nd, fun a m => ⟨(nw a m).1, SameH.free S.st.hh (nw a m).2⟩⟩ fun j ds p e1 e2 m => ?_)
  obtain ⟨p', xs, h1, h2, _⟩ := S.ow j ds e1
  rw [e2] at h1; cases h1
  have := (nw p m).2
  rw [h2] at this; cases this
/-- the thing that a name owns is changed within its places -/
theorem Sim.wrR (S : Sim T B G env σ H) {i : Nat} {r r' : RD} {v : V} {F F' : List Addr} {H' : Hp} (hi : env[i]? = some (some (.rg r))) (hv : σ[i]? = some (some v)) (ra : RgAt T B G H F v r) (ap : ∀ (j : Nat) ds p, env[j]? = some (some (.ow ds)) → σ[j]? = some (some (.ref p)) → p ∉ F)
    (k : ∀ a, a ∉ F → H' a = H a) (k2 : ∀ a ∈ F, ∃ o, H' a = some o) (rp : RRp T G H' F' v r') (sb : F'.Sublist F) : Sim T B G (env.set i (some (.rg r'))) σ H' := by
  have hl : i < σ.length := S.lt hi
  have hs : σ = σ.set i (some v) := by
    refine List.ext_getElem? fun j => ?_
    by_cases z : i = j
    · subst z; rw [List.getElem?_set_self hl]; exact hv
    · rw [List.getElem?_set_ne z]
  obtain ⟨u, _⟩ := S.rg i r hi
  have gF : ∀ a o, G a = some o → a ∉ F := fun a o e m => by rw [(ra.nw a m).1] at e; cases e
  have bF : ∀ a o, B.2 a = some o → a ∉ F := fun a o e m => by rw [(ra.nw a m).2] at e; cases e
  have S1 : Sim T B G (env.set i none) σ H' := by
    have fz : Frzs H H' := fun c oc u h => by
      rw [k c fun m => RRp.nf r F v ra.rp c m oc u h]; exact h
    refine ⟨⟨S.st.hh.alt (fun b o q => k b (bF b o q)) fz, S.st.gg, fun b o q => ?_, S.st.nw, S.st.nm⟩, S.nb, ⟨fun c z => ?_, fun P z => ?_⟩, by rw [List.length_set, S.len], fun j d q => ?_, fun j c fs q => ?_, fun j es q => ?_, fun j k es fs a q1 q2 q3 q4 => ?_, fun j r2 q => ?_⟩
    · rw [k b (gF b o q)]; exact S.st.gh b o q
    · obtain ⟨o, e, m⟩ := S.me.1 c z
      refine ⟨o, ?_, m⟩
      rw [k c fun mf => ?_]; exact e
      obtain ⟨o', e', n⟩ := RRp.at r F v ra.rp c mf
      rw [e] at e'; cases e'; exact n m
    · obtain ⟨o, e, m⟩ := S.me.2 P z
      refine ⟨o, ?_, m.mono fz⟩
      rw [k P fun mf => ?_]; exact e
      obtain ⟨o', e', n⟩ := RRp.at r F v ra.rp P mf
      rw [e] at e'; cases e'; exact n trivial
    · rcases get_set q with ⟨z, y⟩ | ⟨z, y⟩
      · cases y
      · exact S.sh j d y
    · rcases get_set q with ⟨z, y⟩ | ⟨z, y⟩
      · cases y
      · exact S.ob j c fs y
    · rcases get_set q with ⟨z, y⟩ | ⟨z, y⟩
      · cases y
      · obtain ⟨a, ys, h1, h2, h3⟩ := S.ow j es y
        exact ⟨a, ys, h1, by rw [k a (ap j es a y h1)]; exact h2, h3⟩
    · rcases get_set q1 with ⟨z, y⟩ | ⟨z1, y1⟩
      · cases y
      rcases get_set q2 with ⟨z, y⟩ | ⟨z2, y2⟩
      · cases y
      exact S.ap j k es fs a y1 y2 q3 q4
    · rcases get_set q with ⟨z, y⟩ | ⟨z, y⟩
      · cases y
      · exact absurd (u j r2 y).symm z
  have n : noRg ((env.set i none).set i none) = true := by
    rw [List.set_set]
    refine List.all_eq_true.mpr fun o m => ?_
    obtain ⟨j, hj⟩ := List.getElem?_of_mem m
    cases o with
    | none => rfl
    | some w =>
      cases w with
      | rg r2 =>
        rcases get_set hj with ⟨z, y⟩ | ⟨z, y⟩
        · cases y
        · exact absurd (u j r2 y).symm z
      | _ => rfl
  have q := S1.setRg (i := i) n (r := r') (v := v) ⟨rp, ra.nd.sublist sb, fun a m => ra.nw a (sb.subset m)⟩ (fun j ds p e1 e2 m => by
    rcases get_set e1 with ⟨z, y⟩ | ⟨z, y⟩
    · cases y
    · exact ap j ds p y e2 (sb.subset m))
  rw [← hs, List.set_set] at q
  exact q
/-- the j-th part is a list: its place; another one put there -/
theorem RRpAll.sub {T : Ct} {G H : Hp} : ∀ {rs : List RD} {S : List Addr} {vs : List V} (j : Nat) {qs : List RD}, RRpAll T G H S vs rs → rs[j]? = some (.lst qs) → S.Nodup →
    ∃ p xs Sq, vs[j]? = some (.ref p) ∧ H p = some (.lst xs) ∧ RRpAll T G H Sq xs qs ∧ p ∈ S ∧ p ∉ Sq ∧ Sq.Sublist S ∧
      ∀ H' xs' qs' Sq', (∀ a ∈ S, a ≠ p → a ∉ Sq → H' a = H a) → H' p = some (.lst xs') → RRpAll T G H' Sq' xs' qs' → Sq'.Sublist Sq → ∃ S', S'.Sublist S ∧ RRpAll T G H' S' vs (rs.set j (.lst qs'))
  | [], _, _, _, _, _, h, _ => by simp at h
  | r :: rs, _, _, 0, qs, .cons (S := S1) (S' := S2) h a, e, nd => by
    simp only [List.getElem?_cons_zero, Option.some.injEq] at e
    subst e
    cases h with
    | lst h q =>
      rename_i p xs Sq
      have nd' := List.nodup_append.mp nd
      have pq := (List.nodup_cons.mp nd'.1).1
      refine ⟨p, xs, Sq, rfl, h, q, List.mem_append_left _ List.mem_cons_self, pq, (List.sublist_cons_self p Sq).trans (List.sublist_append_left _ _), fun H' xs' qs' Sq' k hp ra sb => ⟨(p :: Sq') ++ S2, (sb.cons_cons p).append (List.Sublist.refl _), .cons (.lst hp ra) (RRpAll.mono (T' := T) (Same.refl G) rfl rfl rs _ _ a fun b m => k b (List.mem_append_right _ m) (fun z => ?_) fun z => ?_)⟩⟩
      · exact nd'.2.2 p List.mem_cons_self b m z.symm
      · exact nd'.2.2 b (List.mem_cons_of_mem _ z) b m rfl
  | r :: rs, _, _, j + 1, qs, .cons (S := S1) (S' := S2) h a, e, nd => by
    have e : rs[j]? = some (.lst qs) := by simpa using e
    have nd' := List.nodup_append.mp nd
    obtain ⟨p, xs, Sq, h1, h2, h3, h4, h5, h6, h7⟩ := RRpAll.sub j a e nd'.2.1
    refine ⟨p, xs, Sq, by simpa using h1, h2, h3, List.mem_append_right _ h4, h5, h6.trans (List.sublist_append_right _ _), fun H' xs' qs' Sq' k hp ra sb => ?_⟩
    obtain ⟨S', s1, s2⟩ := h7 H' xs' qs' Sq' (fun b m => k b (List.mem_append_right _ m)) hp ra sb
    refine ⟨S1 ++ S', (List.Sublist.refl _).append s1, .cons (RRp.mono (T' := T) (Same.refl G) rfl rfl r _ _ h fun b m => k b (List.mem_append_left _ m) (fun z => ?_) fun z => ?_) s2⟩
    · exact nd'.2.2 b m p h4 z
    · exact nd'.2.2 b m b (h6.subset z) rfl
theorem RRpAll.len {T : Ct} {G H : Hp} : ∀ {rs : List RD} {S : List Addr} {vs : List V}, RRpAll T G H S vs rs → vs.length = rs.length
  | _, _, _, .nil => rfl
  | _, _, _, .cons _ a => by rw [List.length_cons, List.length_cons, RRpAll.len a]
theorem RRpAll.dropLast {T : Ct} {G H : Hp} : ∀ {rs : List RD} {S : List Addr} {vs : List V}, RRpAll T G H S vs rs → ∃ S', S'.Sublist S ∧ RRpAll T G H S' vs.dropLast rs.dropLast
  | _, _, _, .nil => ⟨[], List.Sublist.refl _, .nil⟩
  | _, _, _, .cons (S := S1) h a => by
    rename_i S2 v vs r rs
    cases a with
    | nil => exact ⟨[], List.nil_sublist _, .nil⟩
    | cons h' a' =>
      obtain ⟨S', s1, s2⟩ := RRpAll.dropLast (.cons h' a')
      exact ⟨S1 ++ S', (List.Sublist.refl _).append s1, .cons h s2⟩
end
end VL
namespace VL
open PySem L2
theorem subL_eq {rs : List RD} {j : Nat} {qs : List RD} (h : subL rs j = some qs) : rs[j]? = some (.lst qs) := by
  unfold subL at h
  split at h
  · rename_i q e; cases h; exact e
  · cases h
section
variable {X : Cx} {T : Ct} {EX : XK} {B : Hp × Hp} {e a b c o tg : Expr} {es : List Expr} {pos p p2 apos cpos px : Pos} {f g h : FE} {fs gs : List FE} {G H G1 H1 : Hp} {Q : VK} {σ : L2.St} {env : VEnv} {D : Ends}
/-- an object of one's own, opened: its fields, the list at j -/
theorem rg_open (S : Sim T B G env σ H) {i c j : Nat} {rs qs : List RD} (ei : env[i]? = some (some (.rg (.ins c rs)))) (er : rs[j]? = some (.lst qs)) :
    ∃ a dx vs S0 p xs Sq, σ[i]? = some (some (.ref a)) ∧ H a = some (.ins (T.ad c) dx ((T.fl c).zip vs)) ∧ vs.length = (T.fl c).length ∧ vs[j]? = some (.ref p) ∧ H p = some (.lst xs) ∧ RRpAll T G H Sq xs qs ∧ p ∈ S0 ∧ p ∉ Sq ∧ Sq.Sublist S0 ∧ a ∉ S0 ∧ RgAt T B G H (a :: dx :: S0) (.ref a) (.ins c rs) ∧
      (∀ (l : Nat) ds q, env[l]? = some (some (.ow ds)) → σ[l]? = some (some (.ref q)) → q ∉ a :: dx :: S0) ∧
      ∀ H' xs' qs' Sq', (∀ b, b ∉ p :: Sq → H' b = H b) → (∀ b ∈ Sq, ∃ o, H' b = some o) → H' p = some (.lst xs') → RRpAll T G H' Sq' xs' qs' → Sq'.Sublist Sq → Sim T B G (env.set i (some (.rg (.ins c (rs.set j (.lst qs')))))) σ H' := by
  obtain ⟨u, v, F, hv, ra, ap⟩ := S.rg i _ ei
  have rp := ra.rp
  cases rp with
  | ins h h2 l q =>
    rename_i a dx vs S0
    have n1 := List.nodup_cons.mp ra.nd
    have n2 := List.nodup_cons.mp n1.2
    obtain ⟨p, xs, Sq, g1, g2, g3, g4, g5, g6, g7⟩ := RRpAll.sub j q er n2.2
    have ap' : a ≠ p := fun z => n1.1 (List.mem_cons_of_mem _ (z ▸ g4))
    have dp : dx ≠ p := fun z => n2.1 (z ▸ g4)
    refine ⟨a, dx, vs, S0, p, xs, Sq, hv, h, l, g1, g2, g3, g4, g5, g6, fun m => n1.1 (List.mem_cons_of_mem _ m), ra, ap, fun H' xs' qs' Sq' k k2 hp r' sb => ?_⟩
    obtain ⟨S', s1, s2⟩ := g7 H' xs' qs' Sq' (fun b m z1 z2 => k b fun z => (List.mem_cons.mp z).elim z1 z2) hp r' sb
    have ka : ∀ b, b ∈ [a, dx] → H' b = H b := fun b m => k b fun z => by
      simp only [List.mem_cons, List.not_mem_nil, or_false] at m
      rcases List.mem_cons.mp z with z | z
      · rcases m with rfl | rfl
        · exact ap' z
        · exact dp z
      · have := g6.subset z
        rcases m with rfl | rfl
        · exact n1.1 (List.mem_cons_of_mem _ this)
        · exact n2.1 this
    refine S.wrR ei hv ra ap (fun b nb => k b fun z => nb ?_) (fun b m => ?_) (.ins ((ka a (by simp)).trans h) ((ka dx (by simp)).trans h2) l s2) ((s1.cons_cons dx).cons_cons a)
    · rcases List.mem_cons.mp z with rfl | z
      · exact List.mem_cons_of_mem _ (List.mem_cons_of_mem _ g4)
      · exact List.mem_cons_of_mem _ (List.mem_cons_of_mem _ (g6.subset z))
    · by_cases z : b ∈ p :: Sq
      · rcases List.mem_cons.mp z with rfl | z
        · exact ⟨_, hp⟩
        · exact k2 b z
      · rw [k b z]
        obtain ⟨o, eo, _⟩ := RRp.at _ _ _ ra.rp b m
        exact ⟨o, eo⟩
theorem vs_rgApp (i c j : Nat) {x cx fn : Str} {p1 : Pos} (oc : Oc X.K X.mg T cx c) (he : VE X T EX B e f) (hf : (clsFlds c)[j]? = some fn := by rfl) (ndf : (clsFlds c).Nodup := by decide +kernel) (hN : X.N[i]? = some x := by rfl) (hv : Vis X.env.scope x := by first | exact Or.inl rfl | exact Or.inr (Or.inl rfl) | exact Or.inr (Or.inr rfl)) (hd : (x == ("__debug__" : Str)) = false := by decide) (hcd : (x == ("__classdict__" : Str)) = false := by decide)
    (hline : (apos.endLine == cpos.line) = true := by rfl) (hs : starEach [e] X.env = [(false, eval e X.env)] := by rfl) :
    VS X T EX B (.Expr (.Call (.Attribute (.Attribute (.Name x px) fn p1) "append" apos) [e] [] cpos) pos) (sRgApp i c j f) := by
  refine ps_weak (ps_expr (pe_bm PySem.F.plainAttrs_list PySem.F.slot_list_append PySem.F.type_list_append mt_append (pe_fld (pe_var hN hv hd hcd) rfl) (va_cons he va_nil hs) rfl (by rw [hs]; rfl) hline hs rfl) rfl) fun D σ H q => ?_
  obtain ⟨G, env, S, o⟩ := q
  unfold sRgApp at o
  split at o
  rotate_left
  · exact o.elim
  rename_i c' rs ei
  split at o
  rotate_left
  · exact o.elim
  rename_i ec
  subst ec
  split at o
  rotate_left
  · exact o.elim
  rename_i qs eq
  have er := subL_eq eq
  obtain ⟨a, dx, vs, S0, p, xs, Sq, hv', h, ll, g1, g2, g3, g4, g5, g6, g8, ra, ap, _⟩ := rg_open S ei er
  refine ⟨.ref a, hv', a, _, dx, _, .ref p, rfl, h, oc.cl, oc.na fn (List.mem_of_getElem? hf), zip_lookup (by rw [oc.fl]; exact ndf) (by rw [oc.fl]; exact hf) g1, .inl ⟨rfl, xs, SqL.of g2⟩,
    args1 (D := D) (K := fun a => match a with | .sh d => if qs.length ≤ 1000000 then .nx (env.set i (some (.rg (.ins c' (rs.set j (.lst (qs ++ [.dat d]))))))) else .stuck | _ => .stuck) S ?_ fun w v G1 H1 s1 rp S1 o1 => ?_⟩
  · revert o
    cases evA [f] env with
    | val as =>
      cases as with
      | nil => exact fun o => o
      | cons a r =>
        cases r with
        | nil => cases a <;> exact fun o => o
        | cons _ _ => exact fun o => by cases a <;> exact o
    | err c => exact fun o => o
    | stuck => exact fun o => o
  · cases w with
    | sh d =>
      dsimp only at o1
      split at o1
      rotate_left
      · exact o1.elim
      rename_i hl
      obtain ⟨a', dx', vs', S0', p', xs', Sq', hv2, h', ll', g1', g2', g3', g4', g5', g6', g8', ra', ap', fin⟩ := rg_open S1 ei er
      rw [hv'] at hv2; cases hv2
      obtain ⟨_, ka⟩ := s1.keepS (fun b m => (ra.nw b m).1) (RRp.at _ _ _ ra.rp)
      have ea := ka a List.mem_cons_self
      rw [h, h'] at ea
      injection ea with ea
      injection ea with _ e2 e3
      subst e2
      have e4 := zip_inj ll' ll e3
      subst e4
      rw [g1] at g1'
      injection g1' with e5
      injection e5 with e5
      subst e5
      refine ⟨p, xs', v, rfl, rfl, g2', by rw [g3'.len]; exact gl_line hl, o1 G1 σ _ (Same.refl _) (fin _ (xs' ++ [v]) (qs ++ [.dat d]) Sq' (fun b nb => upd_ne fun z => nb (z ▸ List.mem_cons_self)) (fun b m => ?_) upd_same ?_ (List.Sublist.refl _))⟩
      · obtain ⟨o, eo, _⟩ := RRpAll.at _ _ _ g3' b m
        exact ⟨o, by rw [upd_ne (show b ≠ p from fun z => g5' (z ▸ m))]; exact eo⟩
      · have z := RRpAll.snoc (S' := []) (.dat rp) (RRpAll.mono (T' := T) (H' := upd H1 p (.lst (xs' ++ [v]))) (Same.refl G1) rfl rfl _ _ _ g3' fun b m => upd_ne (show b ≠ p from fun z => g5' (z ▸ m)))
        rw [List.append_nil] at z
        exact z
    | ow _ => exact o1.elim
    | ob _ _ => exact o1.elim
    | rg _ => exact o1.elim
theorem vs_rgPop (i c j : Nat) {x cx fn : Str} {p1 : Pos} (oc : Oc X.K X.mg T cx c) (hf : (clsFlds c)[j]? = some fn := by rfl) (ndf : (clsFlds c).Nodup := by decide +kernel) (hN : X.N[i]? = some x := by rfl) (hv : Vis X.env.scope x := by first | exact Or.inl rfl | exact Or.inr (Or.inl rfl) | exact Or.inr (Or.inr rfl)) (hd : (x == ("__debug__" : Str)) = false := by decide) (hcd : (x == ("__classdict__" : Str)) = false := by decide)
    (hline : (apos.endLine == cpos.line) = true := by rfl) : VS X T EX B (.Expr (.Call (.Attribute (.Attribute (.Name x px) fn p1) "pop" apos) [] [] cpos) pos) (sRgPop i c j) := by
  refine ps_weak (ps_expr (pe_bm0 PySem.F.plainAttrs_list PySem.F.slot_list_pop PySem.F.type_list_pop mt_pop (pe_fld (pe_var hN hv hd hcd) rfl) rfl hline) rfl) fun D σ H q => ?_
  obtain ⟨G, env, S, o⟩ := q
  unfold sRgPop at o
  split at o
  rotate_left
  · exact o.elim
  rename_i c' rs ei
  split at o
  rotate_left
  · exact o.elim
  rename_i ec
  subst ec
  split at o
  rotate_left
  · exact o.elim
  rename_i qs eq
  split at o
  · exact o.elim
  rename_i hn
  have er := subL_eq eq
  obtain ⟨a, dx, vs, S0, p, xs, Sq, hv', h, ll, g1, g2, g3, g4, g5, g6, g8, ra, ap, fin⟩ := rg_open S ei er
  have lx := g3.len
  obtain ⟨y, hy⟩ : ∃ y, xs[xs.length - 1]? = some y := ⟨xs[xs.length - 1]'(by omega), List.getElem?_eq_getElem _⟩
  obtain ⟨S', s1, s2⟩ := g3.dropLast
  refine ⟨.ref a, hv', a, _, dx, _, .ref p, rfl, h, oc.cl, oc.na fn (List.mem_of_getElem? hf), zip_lookup (by rw [oc.fl]; exact ndf) (by rw [oc.fl]; exact hf) g1, .inl ⟨rfl, xs, SqL.of g2⟩, p, xs, y, rfl, rfl, g2, hy, o G _ _ (Same.refl _) (fin _ xs.dropLast qs.dropLast S' (fun b nb => upd_ne fun z => nb (z ▸ List.mem_cons_self)) (fun b m => ?_) upd_same ?_ s1)⟩
  · obtain ⟨o, eo, _⟩ := RRpAll.at _ _ _ g3 b m
    exact ⟨o, by rw [upd_ne (show b ≠ p from fun z => g5 (z ▸ m))]; exact eo⟩
  · exact RRpAll.mono (T' := T) (Same.refl G) rfl rfl _ _ _ s2 fun b m => upd_ne (show b ≠ p from fun z => g5 (z ▸ s1.subset m))
end
end VL
namespace VL
open PySem L2
/-! ### is, is not of truths -/
@[simp] def fIs : D → D → R
  | .bool a, .bool b => rb (a == b)
  | _, _ => .stuck
@[simp] def fIsn : D → D → R
  | .bool a, .bool b => rb (!(a == b))
  | _, _ => .stuck
section
variable {X : Cx} {T : Ct} {EX : XK}
theorem dec_beq (a b : Bool) : decide (a = b) = (a == b) := by cases a <;> cases b <;> rfl
theorem c_is : Cmp X T EX .Is fIs (fun x y H Q => ∃ a b, x = .bl a ∧ y = .bl b ∧ Q (.bl (decide (a = b))) H) := ⟨op_is_bl, fun Q x y dx dy G H gh hx hy o => by
  unfold fIs at o
  split at o
  · rw [hx.blInv, hy.blInv]; exact ⟨_, _, rfl, rfl, by rw [dec_beq]; exact o.rb gh⟩
  · exact o.elim⟩
theorem c_isn : Cmp X T EX .IsNot fIsn (fun x y H Q => ∃ a b, x = .bl a ∧ y = .bl b ∧ Q (.bl (!decide (a = b))) H) := ⟨op_isnot_bl, fun Q x y dx dy G H gh hx hy o => by
  unfold fIsn at o
  split at o
  · rw [hx.blInv, hy.blInv]; exact ⟨_, _, rfl, rfl, by rw [dec_beq]; exact o.rb gh⟩
  · exact o.elim⟩
end
/-! ### a list of lists of one's own -/
@[simp] def isLstR : RD → Bool
  | .lst qs => decide (qs.length ≤ 100000)
  | _ => false
/-- for w in x: w.append(..): what is within x is not looked at any more -/
@[simp] def eachJ (qs : List RD) : Option (List RD) := if qs.all isLstR = true ∧ qs.length ≤ 100000 then some (qs.map fun _ => .jk) else none
@[simp] def sRgEachL (i w : Nat) : FS := fun env => match env[i]? with
  | some (some (.rg (.lst qs))) => (match eachJ qs with
    | some js => if i ≠ w ∧ w < env.length then .nx ((env.set i (some (.rg (.lst js)))).set w none) else .stuck
    | none => .stuck)
  | _ => .stuck
@[simp] def sRgEachF (i c j w : Nat) : FS := fun env => match env[i]? with
  | some (some (.rg (.ins c' rs))) => if c' = c then (match subL rs j with
    | some qs => (match eachJ qs with
      | some js => if i ≠ w ∧ w < env.length then .nx ((env.set i (some (.rg (.ins c (rs.set j (.lst js)))))).set w none) else .stuck
      | none => .stuck)
    | none => .stuck) else .stuck
  | _ => .stuck
/-- x = [list(w) for w in e] -/
@[simp] def sRgLL (i w : Nat) (f : FE) : FS := fun env => (f env).s fun v => match v.fz with
  | .sh (.list ws) => (match asLsts ws with
    | some wss => if wss.length ≤ 100000 ∧ noRg (env.set i none) = true ∧ w < env.length then .nx (env.set i (some (.rg (.lst (wss.map lstR))))) else .stuck
    | none => .stuck)
  | _ => .stuck
/-- x.append(e) -/
@[simp] def sRgAppL (i : Nat) (f : FE) : FS := fun env => match env[i]? with
  | some (some (.rg (.lst qs))) => (match evA [f] env with
    | .val [.sh d] => if qs.length ≤ 1000000 then .nx (env.set i (some (.rg (.lst (qs ++ [.dat d]))))) else .stuck
    | .err c => .err c
    | _ => .stuck)
  | _ => .stuck
section
variable {X : Cx} {T : Ct} {EX : XK} {B : Hp × Hp} {e a b c o tg : Expr} {es : List Expr} {pos p p2 apos cpos px : Pos} {f g h : FE} {fs gs : List FE} {G H G1 H1 : Hp} {Q : VK} {σ : L2.St} {env : VEnv} {D : Ends}
theorem Sim.forget (S : Sim T B G env σ H) (w : Nat) : Sim T B G (env.set w none) σ H := by
  by_cases hl : w < σ.length
  · have := S.setNone (i := w) (o := σ[w])
    rwa [List.set_getElem_self] at this
  · have : env.set w none = env := List.set_eq_of_length_le (by rw [S.len]; omega)
    rw [this]; exact S
theorem jks_rrp : ∀ {xs : List V} {qs : List RD}, xs.length = qs.length → RRpAll T G H [] xs (qs.map fun _ => .jk)
  | [], [], _ => .nil
  | _ :: _, _ :: _, h => .cons (S := []) (S' := []) .jk (jks_rrp (by simpa using h))
theorem RRpAll.at_lst : ∀ {qs : List RD} {S : List Addr} {vs : List V}, RRpAll T G H S vs qs → qs.all isLstR = true → ∀ (m : Nat) v, vs[m]? = some v → ∃ p ys, v = .ref p ∧ p ∈ S ∧ H p = some (.lst ys) ∧ ys.length ≤ 100000
  | [], _, _, .nil, _, m, v, h => by simp at h
  | q :: qs, _, _, .cons h a, al, m, v, hm => by
    simp only [List.all_cons, Bool.and_eq_true] at al
    cases m with
    | zero =>
      simp only [List.getElem?_cons_zero, Option.some.injEq] at hm
      subst hm
      cases h with
      | lst h1 h2 =>
        refine ⟨_, _, rfl, List.mem_append_left _ List.mem_cons_self, h1, ?_⟩
        rw [h2.len]
        have := al.1
        simpa using this
      | _ => exact absurd al.1 (by simp)
    | succ m =>
      obtain ⟨p, ys, e1, e2, e3, e4⟩ := RRpAll.at_lst a al.2 m v (by simpa using hm)
      exact ⟨p, ys, e1, List.mem_append_right _ e2, e3, e4⟩
/-- w.append('..') -/
def tbApp (K : PySem.W.Frag) (w : Nat) (s : Str) : TS := fun D σ H => tBM K "list" rAppend (tVar w) (tCons (tC (.str s)) tNil) σ H fun _ H' => D.nx σ H'
/-- the turns -/
theorem each_turns {K : PySem.W.Frag} {p : Addr} {xs : List V} {qs : List RD} {Sq : List Addr} {w : Nat} {s : Str} (hw : w < σ.length) (hp : H p = some (.lst xs)) (pq : p ∉ Sq) (ra : RRpAll T G H Sq xs qs) (al : qs.all isLstR = true) (lq : qs.length ≤ 100000)
    (fin : ∀ H' o, (∀ b, b ∉ Sq → H' b = H b) → (∀ b ∈ Sq, ∃ o, H' b = some o) → (o = σ ∨ ∃ v, o = σ.set w (some v)) → D.nx o H') :
    ∃ W : Nat → Nat → L2.St → Hp → Prop, (∃ m, W 0 m σ H) ∧ ∀ i m σ H, W i m σ H →
      ((Itl K p).stop i H ∧ D.nx σ H) ∨ ((Itl K p).go i H ∧ ∃ N : L2.St → Hp → Prop, (∀ σ' H', N σ' H' → ∃ m', m' < m ∧ W (i + 1) m' σ' H') ∧ ∀ x H', (Itl K p).yld i H x H' → gName w x σ H' fun σ2 H2 =>
        tbApp K w s { D with nx := N, ct := N, bk := D.nx } σ2 H2) := by
  have at_ := RRpAll.at _ _ _ ra
  refine for_list (K := K) (a := p) (xs := xs) (fun m o H' => (∀ b, b ∉ Sq → H' b = H b) ∧ (o = σ ∨ ∃ v, o = σ.set w (some v)) ∧ ∀ b ∈ Sq, (∃ o, H' b = some o) ∧ ∀ ys, H b = some (.lst ys) → ∃ ys', H' b = some (.lst ys') ∧ ys'.length ≤ ys.length + m) ?_ ?_ ?_ ?_
  · exact ⟨fun _ _ => rfl, .inl rfl, fun b m => ⟨let ⟨o, e, _⟩ := at_ b m; ⟨o, e⟩, fun ys e => ⟨ys, e, Nat.le_refl _⟩⟩⟩
  · rintro i o H' hi ⟨h1, _⟩
    exact SqL.of ((h1 p pq).trans hp)
  · rintro i x o H' hx ⟨h1, h2, h3⟩
    obtain ⟨b, ys, rfl, mb, hb, lb⟩ := RRpAll.at_lst ra al i x hx
    obtain ⟨_, h4⟩ := h3 b mb
    obtain ⟨ys', hb', lb'⟩ := h4 ys hb
    have hi : i < xs.length := (List.getElem?_eq_some_iff.mp hx).1
    have lx := ra.len
    have ow : w < o.length := by
      rcases h2 with rfl | ⟨v, rfl⟩
      · exact hw
      · rw [List.length_set]; exact hw
    have h5 : ∃ v, o.set w (some (.ref b)) = σ.set w (some v) := by
      rcases h2 with rfl | ⟨v, rfl⟩
      · exact ⟨_, rfl⟩
      · exact ⟨_, by rw [List.set_set]⟩
    refine ⟨.ref b, List.getElem?_set_self ow, .inl ⟨rfl, ys', SqL.of hb'⟩, b, ys', .str s, rfl, rfl, hb', gl_line (by omega), fun c nc => ?_, .inr h5, fun c mc => ?_⟩
    · rw [upd_ne (show c ≠ b from fun z => nc (z ▸ mb))]; exact h1 c nc
    · by_cases z : c = b
      · subst z
        refine ⟨⟨_, upd_same⟩, fun zs e => ⟨_, upd_same, ?_⟩⟩
        rw [hb] at e; cases e
        rw [List.length_append, List.length_singleton]; omega
      · rw [upd_ne z]
        refine ⟨(h3 c mc).1, fun zs e => ?_⟩
        obtain ⟨ys2, e2, l2⟩ := (h3 c mc).2 zs e
        exact ⟨ys2, e2, by omega⟩
  · rintro o H' ⟨h1, h2, h3⟩
    exact fin H' o h1 (fun b m => (h3 b m).1) h2
theorem vs_rgEachL (i w : Nat) {x y s : Str} {j : Nat} {py pw p1 : Pos} {apos cpos spos : Pos} (C : Cv X T EX B) (po : PassesOwn (model X.prog X.w) X.A X.env X.xe) (hi : X.N[i]? = some x := by rfl) (hw : X.N[w]? = some y := by rfl)
    (vi : Vis X.env.scope x := by first | exact Or.inl rfl | exact Or.inr (Or.inl rfl) | exact Or.inr (Or.inr rfl)) (vw : Vis X.env.scope y := by first | exact Or.inl rfl | exact Or.inr (Or.inl rfl) | exact Or.inr (Or.inr rfl)) (lw : Loc X.env.scope y := by first | exact .inl rfl | exact .inr rfl) (fw : X.fn y = true ∨ X.env.scope.names.lookup y = some .local := by first | exact .inl rfl | exact .inr rfl)
    (di : (x == ("__debug__" : Str)) = false := by decide) (ci : (x == ("__classdict__" : Str)) = false := by decide) (dw : (y == ("__debug__" : Str)) = false := by decide) (cw : (y == ("__classdict__" : Str)) = false := by decide) (hline : (apos.endLine == cpos.line) = true := by rfl) :
    VS X T EX B (.For (.Name y py) (.Name x px) [.Expr (.Call (.Attribute (.Name y pw) "append" apos) [.Constant (.str s) j p1] [] cpos) spos] [] pos) (sRgEachL i w) := by
  refine ps_weak (ps_for (tb := tbApp X.K w s) po C.calm (pi_list (pe_var hi vi di ci)) (pg_name (i := w) C.nd hw lw fw) (pss_one (ps_expr (pe_bm PySem.F.plainAttrs_list PySem.F.slot_list_append PySem.F.type_list_append mt_append (pe_var hw vw dw cw) (pa_cons pe_str pa_nil rfl) rfl rfl hline rfl rfl) rfl)) fun _ => rfl) fun D σ H q => ?_
  obtain ⟨G, env, S, o⟩ := q
  unfold sRgEachL at o
  split at o
  rotate_left
  · exact o.elim
  rename_i qs ei
  split at o
  rotate_left
  · exact o.elim
  rename_i js ej
  split at o
  rotate_left
  · exact o.elim
  rename_i ne
  unfold eachJ at ej
  split at ej
  rotate_left
  · cases ej
  rename_i cj
  cases ej
  obtain ⟨u, v, F, hv, ra, ap⟩ := S.rg i _ ei
  have rp := ra.rp
  cases rp with
  | lst h q =>
    rename_i p vs Sq
    have n1 := List.nodup_cons.mp ra.nd
    have hwl : w < σ.length := S.len ▸ ne.2
    refine ⟨.ref p, hv, p, rfl, ⟨vs, SqL.of h⟩, each_turns (T := T) (G := G) hwl h n1.1 q cj.1 cj.2 fun H' o' k k2 ho => ?_⟩
    have S2 := S.wrR (r' := .lst (qs.map fun _ => .jk)) (F' := [p]) (H' := H') ei hv ra ap (fun b nb => k b fun z => nb (List.mem_cons_of_mem _ z)) (fun b m => by
      rcases List.mem_cons.mp m with rfl | m
      · exact ⟨_, (k _ n1.1).trans h⟩
      · exact k2 b m) (.lst (S := []) ((k p n1.1).trans h) (jks_rrp q.len)) (by simp)
    rcases ho with rfl | ⟨v2, rfl⟩
    · exact o G _ H' (Same.refl _) (S2.forget w)
    · exact o G _ H' (Same.refl _) (S2.setNone (i := w))
theorem vs_rgEachF (i c j w : Nat) {x y s cx fn : Str} {jj : Nat} {py pw p1 : Pos} {apos cpos spos : Pos} (C : Cv X T EX B) (po : PassesOwn (model X.prog X.w) X.A X.env X.xe) (oc : Oc X.K X.mg T cx c) (hf : (clsFlds c)[j]? = some fn := by rfl) (ndf : (clsFlds c).Nodup := by decide +kernel) (hi : X.N[i]? = some x := by rfl) (hw : X.N[w]? = some y := by rfl)
    (vi : Vis X.env.scope x := by first | exact Or.inl rfl | exact Or.inr (Or.inl rfl) | exact Or.inr (Or.inr rfl)) (vw : Vis X.env.scope y := by first | exact Or.inl rfl | exact Or.inr (Or.inl rfl) | exact Or.inr (Or.inr rfl)) (lw : Loc X.env.scope y := by first | exact .inl rfl | exact .inr rfl) (fw : X.fn y = true ∨ X.env.scope.names.lookup y = some .local := by first | exact .inl rfl | exact .inr rfl)
    (di : (x == ("__debug__" : Str)) = false := by decide) (ci : (x == ("__classdict__" : Str)) = false := by decide) (dw : (y == ("__debug__" : Str)) = false := by decide) (cw : (y == ("__classdict__" : Str)) = false := by decide) (hline : (apos.endLine == cpos.line) = true := by rfl) :
    VS X T EX B (.For (.Name y py) (.Attribute (.Name x px) fn p2) [.Expr (.Call (.Attribute (.Name y pw) "append" apos) [.Constant (.str s) jj p1] [] cpos) spos] [] pos) (sRgEachF i c j w) := by
  refine ps_weak (ps_for (tb := tbApp X.K w s) po C.calm (pi_list (pe_fld (pe_var hi vi di ci) rfl)) (pg_name (i := w) C.nd hw lw fw) (pss_one (ps_expr (pe_bm PySem.F.plainAttrs_list PySem.F.slot_list_append PySem.F.type_list_append mt_append (pe_var hw vw dw cw) (pa_cons pe_str pa_nil rfl) rfl rfl hline rfl rfl) rfl)) fun _ => rfl) fun D σ H q => ?_
  obtain ⟨G, env, S, o⟩ := q
  unfold sRgEachF at o
  split at o
  rotate_left
  · exact o.elim
  rename_i c' rs ei
  split at o
  rotate_left
  · exact o.elim
  rename_i ec
  subst ec
  split at o
  rotate_left
  · exact o.elim
  rename_i qs eq
  split at o
  rotate_left
  · exact o.elim
  rename_i js ej
  split at o
  rotate_left
  · exact o.elim
  rename_i ne
  unfold eachJ at ej
  split at ej
  rotate_left
  · cases ej
  rename_i cj
  cases ej
  have er := subL_eq eq
  obtain ⟨a, dx, vs, S0, p, xs, Sq, hv', h, ll, g1, g2, g3, g4, g5, g6, g8, ra, ap, fin⟩ := rg_open S ei er
  refine ⟨.ref a, hv', a, _, dx, _, .ref p, rfl, h, oc.cl, oc.na fn (List.mem_of_getElem? hf), zip_lookup (by rw [oc.fl]; exact ndf) (by rw [oc.fl]; exact hf) g1, p, rfl, ⟨xs, SqL.of g2⟩, each_turns (T := T) (G := G) (S.len ▸ ne.2) g2 g5 g3 cj.1 cj.2 fun H' o' k k2 ho => ?_⟩
  have S2 := fin H' xs (qs.map fun _ => .jk) [] (fun b nb => k b fun z => nb (List.mem_cons_of_mem _ z)) k2 ((k p g5).trans g2) (jks_rrp g3.len) (List.nil_sublist _)
  rcases ho with rfl | ⟨v2, rfl⟩
  · exact o G _ H' (Same.refl _) (S2.forget w)
  · exact o G _ H' (Same.refl _) (S2.setNone (i := w))
/-- x = [list(w) for w in e] on one line -/
theorem vs_rgLL (i w : Nat) {y wn : Str} {py pw pl pw2 pc : Pos} {iter : Expr} {scope : Scope} {spos : Pos} (C : Cv X T EX B) (hi : VE X T EX B iter f) (ok : BlkOk X.N X.env.scope scope [(wn, w)]) (hwn : X.N[w]? = some wn := by rfl)
    (lw : ∀ (s : Shared) (H : Hp) (C : Addr) (cl : List (Str × Addr)) (fp : List Addr), PG (X.blk s H scope (compEnvC scope cl C X.env) fp) (.Name wn pw) (gName w))
    (le : ∀ (s : Shared) (H : Hp) (C : Addr) (cl : List (Str × Addr)) (fp : List Addr), PE (X.blk s H scope (compEnvC scope cl C X.env) fp) (.Call (.Name "list" pl) [.Name wn pw2] [] pc) (tCB (rList X.K) (tCons (tVar w) tNil)))
    (hs : ∀ x, foldedSetIterable iter X.env x = pure x := by intro _; rfl)
    (hy : X.N[i]? = some y := by rfl) (hyl : X.env.scope.names.lookup y = some .local := by rfl) (hsw : swapsWith (.ListComp (.Call (.Name "list" pl) [.Name wn pw2] [] pc) [⟨.Name wn pw, iter, [], 0⟩] scope pos) (some (.Name y py)) spos.line X.env = pure true := by exact sw_true rfl rfl rfl (by decide +kernel)) :
    VS X T EX B (.Assign [.Name y py] (.ListComp (.Call (.Name "list" pl) [.Name wn pw2] [] pc) [⟨.Name wn pw, iter, [], 0⟩] scope pos) spos) (sRgLL i w f) := ps_weak (ps_setLc C.calm C.nd hy hyl hsw (pi_list hi) ok lw (fun _ _ _ _ _ => pts_nil) le hs) fun D σ H q => by
  obtain ⟨G, env, S, o⟩ := q
  refine seqS S o fun v _ o => Out.fz fun x G' H' s rp => ?_
  have S1 := S.step s
  have o := o.step s.gg
  split at o
  rotate_left
  · exact o.elim
  rename_i ws ew
  rw [ew] at rp
  split at o
  rotate_left
  · exact o.elim
  rename_i wss es
  split at o
  rotate_left
  · exact o.elim
  rename_i cn
  have em := asLsts_map es
  subst em
  obtain ⟨l, xs, rfl, sq, q1⟩ := Dq.lstInv rp
  have hwl : w < σ.length := S.len ▸ cn.2.2
  refine ⟨l, rfl, ⟨xs, sqL_K (S1.gh.seq sq)⟩, fun D' hD => lc_lists (T := T) (G := G') (wss := wss) (i := w) hwl S1.gh (S1.gh.seq sq) q1 hD cn.1 fun Hc acc F h1 h2 h3 h4 h5 h6 => ?_⟩
  have st : Step G' H' G' Hc := ⟨.of h1, Same.refl _, fun b o e => h1 b o (S1.gh b o e), fun _ a b => absurd a b, fun n => n⟩
  refine o G' _ Hc (Same.refl _) ((S1.step st).setRg cn.2.1 (F := D' :: F) ⟨.lst h2 h3, List.nodup_cons.mpr ⟨h5, h4⟩, fun a m => ?_⟩ fun j ds p e1 e2 m => ?_)
  · have : H' a = none := by
      rcases List.mem_cons.mp m with rfl | m
      · exact hD
      · exact h6 a m
    exact ⟨same_none S1.gh this, SameH.free S1.st.hh this⟩
  · obtain ⟨p', ys, g1, g2, _⟩ := S1.ow j ds e1
    rw [e2] at g1; cases g1
    have : H' p = none := by
      rcases List.mem_cons.mp m with rfl | m
      · exact hD
      · exact h6 p m
    rw [g2] at this; cases this
theorem vs_rgAppL (i : Nat) {x : Str} (he : VE X T EX B e f) (hN : X.N[i]? = some x := by rfl) (hv : Vis X.env.scope x := by first | exact Or.inl rfl | exact Or.inr (Or.inl rfl) | exact Or.inr (Or.inr rfl)) (hd : (x == ("__debug__" : Str)) = false := by decide) (hcd : (x == ("__classdict__" : Str)) = false := by decide)
    (hline : (apos.endLine == cpos.line) = true := by rfl) (hs : starEach [e] X.env = [(false, eval e X.env)] := by rfl) :
    VS X T EX B (.Expr (.Call (.Attribute (.Name x px) "append" apos) [e] [] cpos) pos) (sRgAppL i f) := by
  refine ps_weak (ps_expr (pe_bm PySem.F.plainAttrs_list PySem.F.slot_list_append PySem.F.type_list_append mt_append (pe_var hN hv hd hcd) (va_cons he va_nil hs) rfl (by rw [hs]; rfl) hline hs rfl) rfl) fun D σ H q => ?_
  obtain ⟨G, env, S, o⟩ := q
  unfold sRgAppL at o
  split at o
  rotate_left
  · exact o.elim
  rename_i qs ei
  obtain ⟨u, v, F, hv', ra, ap⟩ := S.rg i _ ei
  have rp := ra.rp
  cases rp with
  | lst h q =>
    rename_i p xs Sq
    refine ⟨.ref p, hv', .inl ⟨rfl, xs, SqL.of h⟩, args1 (D := D) (K := fun a => match a with | .sh d => if qs.length ≤ 1000000 then .nx (env.set i (some (.rg (.lst (qs ++ [.dat d]))))) else .stuck | _ => .stuck) S ?_ fun w v G1 H1 s1 rp S1 o1 => ?_⟩
    · revert o
      cases evA [f] env with
      | val as =>
        cases as with
        | nil => exact fun o => o
        | cons a r =>
          cases r with
          | nil => cases a <;> exact fun o => o
          | cons _ _ => exact fun o => by cases a <;> exact o
      | err c => exact fun o => o
      | stuck => exact fun o => o
    · cases w with
      | ow _ => exact o1.elim
      | ob _ _ => exact o1.elim
      | rg _ => exact o1.elim
      | sh d =>
        dsimp only at o1
        split at o1
        rotate_left
        · exact o1.elim
        rename_i hl
        have ra1 := ra.step s1
        obtain ⟨_, ka⟩ := s1.keepS (fun b m => (ra.nw b m).1) (RRp.at _ _ _ ra.rp)
        have n1 := List.nodup_cons.mp ra.nd
        have h1 : H1 p = some (.lst xs) := (ka p List.mem_cons_self).trans h
        have q1 := RRpAll.mono (T' := T) (H' := upd H1 p (.lst (xs ++ [v]))) s1.gg rfl rfl _ _ _ q fun b m => (upd_ne (show b ≠ p from fun z => n1.1 (z ▸ m))).trans (ka b (List.mem_cons_of_mem _ m))
        have z := RRpAll.snoc (S' := []) (.dat rp) q1
        rw [List.append_nil] at z
        refine ⟨p, xs, v, rfl, rfl, h1, by rw [q.len]; exact gl_line hl, o1 G1 σ _ (Same.refl _) (S1.wrR (F' := p :: Sq) ei hv' ra1 ap (fun b nb => upd_ne fun z => nb (z ▸ List.mem_cons_self)) (fun b m => ?_) (.lst upd_same z) (List.Sublist.refl _))⟩
        rcases List.mem_cons.mp m with rfl | m
        · exact ⟨_, upd_same⟩
        · obtain ⟨o, eo, _⟩ := RRpAll.at _ _ _ z b m
          exact ⟨o, eo⟩
end
end VL
namespace VL
open PySem L2
/-! ### x -= e, len(set(x)), list(range(n)), x = {} -/
@[simp] def sSub (i : Nat) (f : FE) : FS := fun env => match env[i]? with
  | some (some (.sh (.int x))) => (match f env with
    | .val (.sh (.int y)) => .nx (env.set i (some (.sh (.int (x - y)))))
    | .err c => .err c
    | _ => .stuck)
  | _ => .stuck
/-- how many items a list of unlike ints has, as a set -/
@[simp] def fLenSet : D → R
  | .list ds => (match intsOf ds with
    | some ns => if ns.Nodup ∧ ns.length ≤ 4000 then ri (ns.length : Nat) else .stuck
    | none => .stuck)
  | _ => .stuck
@[simp] def fListRg : D → R
  | .int n => if 0 ≤ n ∧ n ≤ 1000000 then .val (.ow (rngD 0 1 n.toNat)) else .stuck
  | _ => .stuck
@[simp] def fDivW : D → D → R
  | .int i, .int j => if 0 < j ∧ j < 2 ^ 400 then ri (i / j) else .stuck
  | _, _ => .stuck
@[simp] def noObE : Option SV → Bool
  | some (.ob _ _) => false
  | some (.rg _) => false
  | _ => true
/-- x = {}, then the rest -/
def sTab (i : Nat) (s : FS) : FS := fun env => if env.all noObE = true then (match s (env.set i (some (.ob 101 []))) with
  | .rt (.sh d) => .rt (.sh d)
  | .rt (.ow ds) => .rt (.ow ds)
  | .err c => .err c
  | _ => .stuck) else .stuck
section
variable {X : Cx} {T : Ct} {EX : XK} {B : Hp × Hp} {e a : Expr} {pos p p2 q : Pos} {f : FE} {G H : Hp} {Q : VK} {rest : List Stmt} {s : FS}
theorem vs_sub (i : Nat) {x : Str} {px : Pos} (C : Cv X T EX B) (he : VE X T EX B e f) (hN : X.N[i]? = some x := by rfl) (hx : Loc X.env.scope x := by first | exact .inl rfl | exact .inr rfl) (hf : X.fn x = true ∨ X.env.scope.names.lookup x = some .local := by first | exact .inl rfl | exact .inr rfl) :
    VS X T EX B (.AugAssign (.Name x px) .Sub e pos) (sSub i f) := ps_weak (ps_aug C.nd hN hx he ip_sub hf) fun D σ H q => by
  obtain ⟨G, env, S, o⟩ := q
  unfold sSub at o
  split at o
  · rename_i dx e
    obtain ⟨v, h1, h2⟩ := S.sh i _ e
    refine ⟨v, h1, G, env, S, ?_⟩
    split at o
    · rename_i y ey
      rw [ey]
      intro w G' H' s' dy
      rw [h2.intInv, dy.intInv]
      exact ⟨_, _, rfl, rfl, o G' _ H' s'.gg ((S.step s').setSh .int)⟩
    · rename_i c ey
      rw [ey]; exact fun H' z => o H' (S.st.hh.trans z)
    · exact o.elim
  · exact o.elim
theorem ve_lenSet (C : Cv X T EX B) (t1 : Bt X "len") (t2 : Bt X "set") (ha : VE X T EX B a f) (na : starEach [a] X.env = (false, eval a X.env) :: starEach [] X.env := by rfl) : VE X T EX B (.Call (.Name "len" p) [.Call (.Name "set" p2) [a] [] q] [] pos) (op1 fLenSet f) :=
  pe_weak (RZ.pe_lenSetI t1.gl t1.mg t2.gl t2.mg ha C.calm na) fun σ H Q q => use1 (r := fun x H1 Q => ∃ (l : Addr) (ns : List Int), x = .ref l ∧ SqL X.K H1 l (ns.map V.int) ∧ ns.Nodup ∧ ns.length ≤ 4000 ∧ Q (.int (ns.length : Nat)) H1) (fun x dx G H gh hx o => by
    unfold fLenSet at o
    split at o
    · split at o
      · rename_i ns en
        split at o
        · rename_i c
          obtain ⟨l, xs, rfl, s1, q1⟩ := hx.lstH gh
          have := intsOf_ok en q1
          subst this
          exact ⟨l, ns, rfl, sqL_K s1, c.1, c.2, o.ri gh⟩
        · exact o.elim
      · exact o.elim
    · exact o.elim) q
theorem rg_dq (n : Int) (h : 0 ≤ n) : DqAll G (rgV 0 n) (rngD 0 1 n.toNat) := by
  have e : (n - 0).toNat = n.toNat := by rw [Int.sub_zero]
  unfold rgV rngD
  rw [e]
  generalize List.range n.toNat = L
  induction L with
  | nil => exact .nil
  | cons a L ih =>
    rw [List.map_cons, List.map_cons]
    refine .cons ?_ ih
    rw [Int.mul_one]
    exact .int
theorem ve_listRg (C : Cv X T EX B) (t1 : Bt X "list") (t2 : Bt X "range") (ha : VE X T EX B a f) (na : starEach [.Call (.Name "range" p2) [a] [] q] X.env = (false, eval (.Call (.Name "range" p2) [a] [] q) X.env) :: starEach [] X.env := by rfl) (nb : starEach [a] X.env = (false, eval a X.env) :: starEach [] X.env := by rfl) : VE X T EX B (.Call (.Name "list" p) [.Call (.Name "range" p2) [a] [] q] [] pos) (op1 fListRg f) :=
  pe_weak (pe_listRg C.calm t1.gl t1.mg (prg_1 t2.gl t2.mg ha nb) na) fun σ H Q q => use1 (r := fun x H1 Q => ∃ n, x = .int n ∧ (L2.RgOk 0 n ∧ ∀ q, H1 q = none → Q (.ref q) (upd H1 q (.lst (rgV 0 n))))) (fun x dx G H gh hx o => by
    unfold fListRg at o
    split at o
    · rename_i n
      split at o
      · rename_i c
        rw [hx.intInv]
        exact ⟨n, rfl, RgOk.of_le (by omega) (by omega) (by omega) (by omega), o.newL gh (rg_dq n c.1)⟩
      · exact o.elim
    · exact o.elim) q
theorem Sim.tab {env : VEnv} {σ : L2.St} (S : Sim T B G env σ H) {i : Nat} {r : Addr} (hr : H r = none) (n : env.all noObE = true) : Sim { T with me := some r } B G (env.set i (some (.ob 101 []))) (σ.set i (some (.ref r))) (upd H r (.dT [])) := by
  have st : Step G H G (upd H r (.dT [])) := Step.apart S.gh hr _
  have S1 := S.step st
  have nob : ∀ (j : Nat) c fs, env[j]? ≠ some (some (.ob c fs)) := fun j c fs z => by
    have := List.all_eq_true.mp n _ (List.mem_of_getElem? z)
    simp at this
  have nrg : ∀ (j : Nat) r, env[j]? ≠ some (some (.rg r)) := fun j r z => by
    have := List.all_eq_true.mp n _ (List.mem_of_getElem? z)
    simp at this
  have S2 : Sim { T with me := some r } B G env σ (upd H r (.dT [])) :=
    ⟨S1.st, S1.nb, ⟨fun b z => by cases z; exact ⟨_, upd_same, memK_nil⟩, S1.me.2⟩, S1.len, S1.sh, fun j c fs z => absurd z (nob j c fs), S1.ow, S1.ap, fun j r z => absurd z (nrg j r)⟩
  refine S2.setOb ?_
  unfold ObRp
  rw [if_neg (by decide), if_pos rfl]
  exact ⟨r, rfl, rfl⟩
theorem vss_tab (i : Nat) {x : Str} {pos' : Pos} (C : Cv X T EX B) (h : ∀ me : Addr, VSs X { T with me := some me } EX B rest s) (hi : X.N[i]? = some x := by rfl) (hx : Loc X.env.scope x := by first | exact .inl rfl | exact .inr rfl) (hs : swapsWith (.Dict [] [] p) (some (.Name x pos')) pos.line X.env = pure false := by rfl) (hf : X.fn x = true ∨ X.env.scope.names.lookup x = some .local := by first | exact .inl rfl | exact .inr rfl) :
    VSs X T EX B (.Assign [.Name x pos'] (.Dict [] [] p) pos :: rest) (sTab i s) := by
  have hr : PSs X rest (fun D σ H => ∃ me : Addr, rdS { T with me := some me } EX B s D σ H) := ⟨fun pins s' σ H D I ⟨me, q⟩ => (h me).run pins s' σ H D I q⟩
  refine pss_weak (pss_cons (ps_set C.nd hi hx pe_dnewT hs hf) hr) fun D σ H q => ?_
  obtain ⟨G, env, S, o⟩ := q
  intro r hr
  unfold sTab at o
  split at o
  rotate_left
  · exact o.elim
  rename_i n
  refine ⟨r, G, _, S.tab hr n, ?_⟩
  revert o
  cases s (env.set i (some (.ob 101 []))) with
  | nx e => exact fun o => o.elim
  | stuck => exact fun o => o
  | err c => exact fun o => o
  | rt v =>
    cases v with
    | sh d => exact fun o => o
    | ow ds => exact fun o => o
    | ob _ _ => exact fun o => o.elim
    | rg _ => exact fun o => o.elim
theorem ve_fdivW {b : Expr} {g : FE} (ha : VE X T EX B a f) (hb : VE X T EX B b g) : VE X T EX B (.BinOp a .FloorDiv b pos) (op2 fDivW f g) := by
  refine ve_bin op_fdivW (fun Q x y dx dy G H gh hx hy o => ?_) ha hb
  unfold fDivW at o
  split at o
  · rename_i i j
    rw [hx.intInv, hy.intInv]
    split at o
    · rename_i hm
      refine ⟨_, _, rfl, rfl, ⟨hm.1, ?_⟩, o.ri gh⟩
      have h0 : j.natAbs ≠ 0 := by omega
      have h1 : j.natAbs < 2 ^ 400 := by omega
      exact Nat.lt_trans ((Nat.log2_lt h0).mpr h1) (by omega)
    · exact o.elim
  · exact o.elim
theorem Cv.tab (C : Cv X T EX B) (me : Addr) : Cv X { T with me := some me } EX B := ⟨C.calm, C.nd, C.pass, C.un, C.gd⟩
end
end VL
namespace VL
open PySem L2
/-! ### a call that sees nothing of the tables of code objects -/
def Hid : HO → Prop
  | .tbl _ => True
  | .frz _ (.own _) => True
  | _ => False
open Classical in
noncomputable def low (H : Hp) : Hp := fun b => match H b with
  | some o => if Hid o then none else some o
  | none => none
open Classical in
noncomputable def back (H H' : Hp) : Hp := fun b => match H b with
  | some o => if Hid o then some o else H' b
  | none => H' b
section
variable {P : Program} {w : World} {H H' : Hp} {h h' : Heap} {fs : List Addr} {b : Addr} {o : HO}
theorem low_none (e : H b = none) : low H b = none := by unfold low; rw [e]
theorem low_hid (e : H b = some o) (n : Hid o) : low H b = none := by unfold low; rw [e]; exact if_pos n
theorem low_at (e : H b = some o) (n : ¬ Hid o) : low H b = some o := by unfold low; rw [e]; exact if_neg n
theorem low_inv (e : low H b = some o) : H b = some o ∧ ¬ Hid o := by
  unfold low at e
  split at e
  · rename_i u q
    split at e
    · cases e
    · rename_i n; cases e; exact ⟨q, n⟩
  · cases e
theorem low_no (e : low H b = none) : H b = none ∨ ∃ o, H b = some o ∧ Hid o := by
  cases q : H b with
  | none => exact .inl rfl
  | some u =>
    by_cases n : Hid u
    · exact .inr ⟨u, rfl, n⟩
    · rw [low_at q n] at e; cases e
theorem back_hid (e : H b = some o) (n : Hid o) : back H H' b = some o := by unfold back; rw [e]; exact if_pos n
theorem back_at (e : H b = some o) (n : ¬ Hid o) : back H H' b = H' b := by unfold back; rw [e]; exact if_neg n
theorem back_none (e : H b = none) : back H H' b = H' b := by unfold back; rw [e]
/-- what is frozen, but for what is hidden -/
theorem low_sub {G : Hp} (g : Same G H) : Same (low G) (low H) := fun b o e => low_at (g b o (low_inv e).1) (low_inv e).2
theorem low_le {G : Hp} : Same (low G) G := fun b o e => (low_inv e).1
theorem low_nm {G : Hp} (n : NoMem G) : NoMem (low G) := fun b o e => n b o (low_inv e).1
theorem low_sqL {K : PySem.W.Frag} {G : Hp} {a : Addr} {xs : List V} (h : SqL K G a xs) : SqL K (low G) a xs := by
  rcases h with (h | ⟨o, h⟩) | h
  · exact .inl (.inl (low_at h fun z => z))
  · exact .inl (.inr ⟨o, low_at h fun z => z⟩)
  · exact .inr h
theorem low_sqT {K : PySem.W.Frag} {G : Hp} {a : Addr} {xs : List V} (h : SqT K G a xs) : SqT K (low G) a xs := by
  rcases h with (h | ⟨o, h⟩) | h
  · exact .inl (.inl (low_at h fun z => z))
  · exact .inl (.inr ⟨o, low_at h fun z => z⟩)
  · exact .inr h
mutual
theorem dp_low {K : PySem.W.Frag} {G : Hp} : ∀ (d : D) (v : V), Dp K G v d → Dp K (low G) v d
  | .none, _, h => by cases h; exact .non
  | .bool b, _, h => by cases h; exact .bl b
  | .int i, _, h => by cases h; exact .int i
  | .str x, _, h => by cases h; exact .str x
  | .list ds, _, h => by
    cases h with
    | lst hs ha => exact .lst (low_sqL hs) (dpAll_low ds _ ha)
  | .tuple ds, _, h => by
    cases h with
    | tup hs ha => exact .tup (low_sqT hs) (dpAll_low ds _ ha)
  | .dict _, _, h => by cases h
theorem dpAll_low {K : PySem.W.Frag} {G : Hp} : ∀ (ds : List D) (vs : List V), DpAll K G vs ds → DpAll K (low G) vs ds
  | [], _, h => by cases h; exact .nil
  | d :: ds, _, h => by
    cases h with
    | cons h1 h2 => exact .cons (dp_low d _ h1) (dpAll_low ds _ h2)
end
theorem dq_low {G : Hp} {v : V} {d : D} (h : Dq G v d) : Dq (low G) v d := ⟨dp_low d v h.dp, h.ok⟩
theorem dqAll_low {G : Hp} {vs : List V} {ds : List D} (h : DqAll G vs ds) : DqAll (low G) vs ds := ⟨dpAll_low ds vs h.dp, h.ok⟩
theorem thR_low {G : Hp} {v : V} {d : D} (h : ThR G v d) : ThR (low G) v d := h.imp (fun ⟨h1, a, h2, h3⟩ => ⟨h1, a, h2, low_at h3 fun z => z⟩) dq_low
noncomputable def uni (G G' : Hp) : Hp := fun b => match G b with
  | some o => some o
  | none => G' b
theorem uni_l {G G' : Hp} : Same G (uni G G') := fun b o e => by unfold uni; rw [e]
theorem low_ok (x : HOk P w H h) : HOk P w (low H) h := fun a o e => by
  obtain ⟨e1, n⟩ := low_inv e
  refine (x a o e1).stay (fun b u _ z => z) (fun b z => low_at z (fun q => q)) fun b xs z => low_at z fun q => q
/-- what was hidden is hidden still -/
def Apart (H H' : Hp) : Prop := ∀ b o, H b = some o → Hid o → H' b = none
theorem un_apart (ok : HOk P w H h) (u : Un fs [] (low H) H' h h') : Apart H H' := fun b o e n => by
  obtain ⟨ob, hb⟩ : ∃ ob, h.get? b = some ob := by
    cases o with
    | tbl ps => exact ⟨_, ok b _ e⟩
    | frz ob u => exact ⟨_, (ok b _ e).1⟩
    | _ => exact n.elim
  exact u.free b ob hb (low_hid e n) (by simp)
theorem un_back (ok : HOk P w H h) (u : Un fs [] (low H) H' h h') : Un fs [] H (back H H') h h' where
  keep := fun b o e n => u.keep b o e (low_none n)
  slot := fun b o e n => u.slot b o e (low_none n)
  free := fun b o e n z => by rw [back_none n]; exact u.free b o e (low_none n) z
  there := u.there
  tups := fun b xs e => by rw [back_at e (fun q => q)]; exact u.tups b xs (low_at e fun q => q)
  frzs := fun b o v e => by
    by_cases n : Hid (.frz o v)
    · exact back_hid e n
    · rw [back_at e n]; exact u.frzs b o v (low_at e n)
  tbls := fun b ps e => ⟨#[], by rw [back_hid e trivial]; simp⟩
theorem ok_back (ok : HOk P w H h) (nf : ∀ b ∈ fs, H b = none) (u : Un fs [] (low H) H' h h') (ok' : HOk P w H' h') : HOk P w (back H H') h' := fun a o e => by
  have ap := un_apart ok u
  have up : ∀ b v, H' b = some v → back H H' b = some v := fun b v z => by
    cases q : H b with
    | none => rw [back_none q]; exact z
    | some x =>
      by_cases n : Hid x
      · rw [ap b x q n] at z; cases z
      · rw [back_at q n]; exact z
  have kp : ∀ b v ob, H b = some v → Hid v → h.get? b = some ob → h'.get? b = some ob := fun b v ob z n hb => u.keep b ob hb (low_hid z n) (fun m => by rw [nf b m] at z; cases z) (by simp)
  cases q : H a with
  | none =>
    rw [back_none q] at e
    exact (ok' a o e).stay (fun b u _ z => z) (fun b z => up b _ z) fun b xs z => up b _ z
  | some v =>
    by_cases n : Hid v
    · rw [back_hid q n] at e
      cases e
      have z := ok a _ q
      cases o with
      | tbl ps => exact kp a _ _ q n z
      | frz ob x =>
        cases x with
        | own y => exact ⟨kp a _ _ q n z.1, _, kp a _ _ q n z.1⟩
        | _ => exact n.elim
      | _ => exact n.elim
    · rw [back_at q n] at e
      exact (ok' a o e).stay (fun b u _ z => z) (fun b z => up b _ z) fun b xs z => up b _ z
theorem same_back (s : SameH (low H) H') : SameH H (back H H') := fun b o e => by
  by_cases n : Hid o
  · exact ⟨o, back_hid e n, .inl rfl⟩
  · obtain ⟨o', e', z⟩ := s b o (low_at e n)
    refine ⟨o', by rw [back_at e n]; exact e', z.imp id fun z => ⟨z.1, z.2.1, ?_⟩⟩
    rcases z.2.2 with z | ⟨ps, _, rfl, _⟩
    · exact .inl z
    · exact absurd trivial n
theorem uni_back {G G' : Hp} (ap : Apart H H') (gh : Same G H) (s : Step (low G) (low H) G' H') : Same G' (uni G G') ∧ Same (uni G G') (back H H') := by
  have k : ∀ b o o', G b = some o → G' b = some o' → o = o' := fun b o o' e e' => by
    by_cases n : Hid o
    · have := ap b o (gh b o e) n
      rw [s.gh b o' e'] at this; cases this
    · have := s.gg b o (low_at e n)
      rw [e'] at this; exact (Option.some.inj this).symm
  refine ⟨fun b o e => ?_, fun b o e => ?_⟩
  · unfold uni
    split
    · rename_i u q; rw [k b u o q e]
    · exact e
  · unfold uni at e
    split at e
    · rename_i u q
      cases e
      by_cases n : Hid o
      · exact back_hid (gh b o q) n
      · rw [back_at (gh b o q) n]
        exact s.gh b o (s.gg b o (low_at q n))
    · rename_i q
      have z := s.gh b o e
      cases y : H b with
      | none => rw [back_none y]; exact z
      | some x =>
        by_cases n : Hid x
        · rw [ap b x y n] at z; cases z
        · rw [back_at y n]; exact z
theorem step_back {G G' : Hp} (ap : Apart H H') (gh : Same G H) (s : Step (low G) (low H) G' H') : Step G H (uni G G') (back H H') := by
  refine ⟨same_back s.hh, uni_l, (uni_back ap gh s).2, fun a h1 h2 => ?_, fun n b o e => ?_⟩
  · have e2 : uni G G' a = G' a := by unfold uni; rw [h1]
    rw [e2] at h2
    have l1 : low G a = none := low_none h1
    rcases s.nw a l1 h2 with z | ⟨o, z, ob, u, rfl⟩
    · rcases low_no z with z | ⟨x, q, n⟩
      · exact .inl z
      · exfalso
        cases z : G' a with
        | none => exact h2 z
        | some v =>
          have y := s.gh a v z
          rw [ap a x q n] at y
          cases y
    · exact absurd trivial (low_inv z).2
  · unfold uni at e
    split at e
    · rename_i q; cases e; exact n b _ q
    · exact s.nm (low_nm n) b o e
/-- what is found by a call that sees nothing of the tables -/
theorem out_back {T T' : Ct} {EX EX' : XK} {G : Hp} {r : VL.R} {Q : VK} (gh : Same G H) (hr : ∀ v, r = .val v → (∃ d, v = .sh d) ∨ ∃ ds, v = .ow ds) (ne : ∀ c, r ≠ .err c) (o : Out T EX r G H Q) : Out T' EX' r (low G) (low H) fun v H' => Apart H H' → Q v (back H H') := by
  cases r with
  | err c => exact absurd rfl (ne c)
  | stuck => exact o.elim
  | val v =>
    rcases hr v rfl with ⟨d, rfl⟩ | ⟨ds, rfl⟩
    · exact fun v G' H' st dq ap => o v _ _ (step_back ap gh st) (dq.mono (uni_back ap gh st).1)
    · intro p xs G' H' st n1 n2 e dq ap
      have hp : H p = none := by
        rcases low_no n1 with z | ⟨x, q, n⟩
        · exact z
        · rw [ap p x q n] at e; cases e
      have gp : G p = none := same_none gh hp
      refine o p xs _ _ (step_back ap gh st) hp ?_ ?_ (dq.mono (uni_back ap gh st).1)
      · unfold uni; rw [gp]; exact n2
      · rw [back_none hp]; exact e
end
/-! ### all that is not tracked is fixed while another def runs -/
noncomputable def bigB (X : Cx) (s : Shared) (H : Hp) : Heap := hidT s.heap fun b => if b ∈ frs X.stack then some (.own 0) else low H b
section
variable {X : Cx} {pins : List (Addr × Obj)} {σ : L2.St} {H H' : Hp} {s s' : Shared} {b : Addr} {ob : Obj}
theorem big_get (e : s.heap.get? b = some ob) (n : low H b = none) (nf : b ∉ frs X.stack) : (bigB X s H).get? b = some ob := hidT_get e (by rw [if_neg nf]; exact n)
theorem of_big (e : (bigB X s H).get? b = some ob) : s.heap.get? b = some ob ∧ low H b = none ∧ b ∉ frs X.stack := by
  obtain ⟨e1, e2⟩ := of_hidT e
  by_cases m : b ∈ frs X.stack
  · rw [if_pos m] at e2; cases e2
  · rw [if_neg m] at e2; exact ⟨e1, e2, m⟩
theorem big_base (I : Inv X pins σ H s) (e : X.base.get? b = some ob) : (bigB X s H).get? b = some ob := by
  obtain ⟨e1, e2⟩ := I.bs b ob e
  refine big_get e1 (low_none e2) fun m => ?_
  have := (I.env0.funs.mem m).1
  rw [e] at this; cases this
theorem funs_big {h base : Heap} (k : ∀ b, b ∈ frs X.stack → base.get? b = none) : ∀ {l : List Env} {B : Heap}, h.FunFrames B l → (∀ b ∈ frs l, b ∈ frs X.stack) → h.FunFrames base l
  | [], _, _, _ => trivial
  | env :: r, B, ⟨h1, ⟨L, o, h2, h3, h4, h5⟩, h6⟩, s => ⟨h1, ⟨L, o, h2, k L (s L (by unfold frs; rw [List.filterMap_cons, h2]; exact List.mem_cons_self)), h4, h5⟩, funs_big k h6 fun b m => s b (by
    unfold frs at m ⊢
    rw [List.filterMap_cons, h2]
    exact List.mem_cons_of_mem _ m)⟩
theorem env_big (I : Inv X pins σ H s) : Env0 X.prog X.w X.K X.mg (bigB X s H) X.A X.stack s (low H) := by
  have e0 := I.env0
  have up : ∀ b o, X.base.get? b = some o → (bigB X s H).get? b = some o := fun b o e => big_base I e
  refine ⟨e0.frames, ⟨e0.mod.kin.keeps up, e0.mod.glob.keeps up, ?_, e0.mod.nolimit.keeps up⟩, fun b o e => ?_, Nat.le_of_eq (hidT_size _ _), funs_big (fun b m => ?_) e0.funs fun _ m => m, fun b m => low_none (e0.frf b m), low_ok e0.hok, e0.bare⟩
  · obtain ⟨mb, h1, h2⟩ := e0.mod.blt
    exact ⟨mb, h1.keeps up, h2⟩
  · obtain ⟨e1, e2, _⟩ := of_big e
    exact ⟨e1, e2⟩
  · cases q : (bigB X s H).get? b with
    | none => rfl
    | some o => exact absurd m (of_big q).2.2
/-- a def is called by a promise over the greater base -/
theorem run_big {CX : CXT} {k : Nat} {g : Addr} {fd : FuncData} {ps : List Str} {sp : Sp} {us : List Value} {xs : List V} {Q : VK} (I : Inv X pins σ H s) (F : FnGd X.prog X.w X.K X.mg (bigB X s H) (L2.CX X.prog X.w) k g fd ps sp) (hq : X.A.guards = some []) (hr : Room k X.A) (hb : Binds X.K fd ps []) (r : Vals xs us)
    (h : sp xs (low H) (fun v H' => Apart H H' → Q v (back H H')) fun _ _ _ => False) : wpAny (model X.prog X.w) X.A (call (.ref g) us) (EP X pins σ Q) X.xe s := by
  have n1 : us.length = ps.length := (r.length).symm.trans (F.ln _ _ _ _ h)
  have n2 : BindsTo s fd ⟨us, []⟩ (ps.zip us) := by
    have n3 := hb s us I.kIn (by rwa [List.append_nil])
    rwa [List.append_nil] at n3
  refine wpAny_call (codeAny_mono (F.go X.A X.stack s (low H) ⟨us, []⟩ us xs _ _ hq hr (env_big I) n2 r h) fun z s2 w => ?_)
  rcases z with z | z
  · obtain ⟨_, _, _, _, _, _, _, _, _, _, _, _, w⟩ := w
    exact w.elim
  · cases z with
    | ret u =>
      obtain ⟨v, H2, os, br, un, ok, rv, q⟩ := w
      exact I.after ⟨v, back H H2, os, br, un_back I.hok un, ok_back I.hok I.stkFree un ok, rv, q (un_apart I.hok un)⟩
    | next => exact w.elim
    | brk => exact w.elim
    | cont => exact w.elim
end
end VL
namespace VL
open PySem L2
/-! ### a lambda of one parameter, all that it needs in the base -/
structure LamSc (scope : Scope) (p : Str) (ys : List Str) : Prop where
  kind : scope.kind = .function
  co : scope.isCoroutine = false
  gen : scope.isGenerator = false
  own : ∀ y ∈ scope.names, y.2 ≠ .cell
  par : scope.names.lookup p = some .local
  only : ∀ y ∈ p :: ys, Vis scope y → y = p ∨ scope.names.lookup y = some .free
  nd : (p :: ys).Nodup
def lamScB (scope : Scope) (p : Str) (ys : List Str) : Bool :=
  decide (scope.kind = .function) && !scope.isCoroutine && !scope.isGenerator && (scope.names.all fun y => !decide (y.2 = .cell)) && decide (scope.names.lookup p = some .local) && (ys.all fun y => decide (scope.names.lookup y = some .free)) && decide (p :: ys).Nodup
theorem lamSc_by {scope : Scope} {p : Str} {ys : List Str} (h : lamScB scope p ys = true) : LamSc scope p ys := by
  unfold lamScB at h
  simp only [Bool.and_eq_true, Bool.not_eq_true', decide_eq_true_eq, List.all_eq_true, decide_eq_false_iff_not] at h
  obtain ⟨⟨⟨⟨⟨⟨h1, h2⟩, h3⟩, h4⟩, h5⟩, h6⟩, h7⟩ := h
  refine ⟨h1, h2, h3, h4, h5, fun y m _ => ?_, h7⟩
  rcases List.mem_cons.mp m with m | m
  · exact .inl m
  · exact .inr (h6 y m)
abbrev lamE (q : Str) (scope : Scope) (L f c : Addr) (cl : List (Str × Addr)) : Env := PySem.W.envX q scope L f (.ref c) cl
/-- its body's context -/
def lamX (P : Program) (w : World) (K : PySem.W.Frag) (mg : Str → Option Value) (base : Heap) (N : List Str) (q : Str) (scope : Scope) (f c : Addr) (cl : List (Str × Addr)) (A : Around) (ou : List Env) (s : Shared) (H : Hp) (E : XK) : Cx where
  prog := P
  w := w
  K := K
  mg := mg
  base := base
  A := A.deeper (lamE q scope s.heap.objs.size f c cl)
  N := N
  s_0 := s
  H_0 := H
  env := lamE q scope s.heap.objs.size f c cl
  outer := ou
  stack := lamE q scope s.heap.objs.size f c cl :: ou
  ex := []
  fn := fun _ => false
  calm := true
  pn := []
  xe := fun e z => wpAny (model P w) (A.deeper (lamE q scope s.heap.objs.size f c cl)) (leaving (lamE q scope s.heap.objs.size f c cl) e) (fun _ z2 => L2.CX P w ou H s E e z2) (fun e2 z2 => L2.CX P w ou H s E e2 z2) z
section
variable {P : Program} {w : World} {A : Around} {R : Result → Shared → Prop} {s : Shared}
/-- a lambda called, whatever its code object is called -/
theorem lam_call {f : Addr} {ar : Args} {ob oc : Obj} {fd : FuncData} {body : Expr} {c : Addr} {vs : Array Value} {q : Str} {tq : Tok} (room : A.depth < recursionLimit) (hf : s.heap.get? f = some ob) (hd : ob.data = .func fd) (n1 : fd.scope.isCoroutine = false) (n2 : fd.scope.isGenerator = false) (hb : fd.body = .expr body)
    (hc : fd.code = .ref c) (ho : s.heap.get? c = some oc) (hv : oc.data = .fields vs) (hq : vs[1]? = some (.str q tq))
    (k : wpAny (model P w) A.in1 (bindArgs fd ar) (fun bs z => wpAny (model P w) A.in1 (newFunctionEnv fd.scope fd.globals fd.closure bs (q ++ ".<locals>.") (some f) (.ref c) none fd.builtins) (fun en z2 => z2.heap.NoLimit ∧ codeAny (model P w) A (.expr body en) R z2) (fun e z2 => R (.error e) z2) z) (fun e z => R (.error e) z) s) :
    codeAny (model P w) A (.call (.ref f) ar) R s := by
  apply codeAny_of_tree
  show wpAny _ A.in1 (callAny (Value.ref f) ar) _ _ _
  simp only [callAny]
  apply wpAny_bind
  apply wpAny_load hf
  simp only [hd, callFunction, n1, n2, hb, hc]
  refine wpAny_bind (m := field (.ref c) 1) (wpAny_field ho hv hq (wpAny_bind (wpAny_pure (wpAny_bind (wpAny_mono k ?_ ?_)))))
  · intro bs z kz
    refine wpAny_bind (wpAny_mono kz ?_ fun _ _ x => x)
    intro en z2 kz2
    exact wpAny_bind (wpAny_enterFrame kz2.1 room (wpAny_pure ⟨rfl, kz2.2⟩))
  · exact fun _ _ x => x
end
/-- what a lambda's cells are in the base -/
structure Clo (base : Heap) (scope : Scope) (cl : List (Str × Addr)) : Prop where
  inj : ∀ x y c, cl.lookup x = some c → cl.lookup y = some c → x = y
  has : ∀ x, scope.names.lookup x = some .free → ∃ c, cl.lookup x = some c
  cell : ∀ x c, cl.lookup x = some c → ∃ o v, base.get? c = some o ∧ o.data = .cell v
def errOf : R → R
  | .err c => .err c
  | _ => .stuck
section
variable {P : Program} {w : World} {K : PySem.W.Frag} {mg : Str → Option Value} {base : Heap} {T : Ct} {k : Nat} {G G' H : Hp}
theorem uni_h (h : Same G H) (h' : Same G' H) : Same (uni G G') H := fun b o e => by
  unfold uni at e
  split at e
  · rename_i q; cases e; exact h b _ q
  · exact h' b o e
theorem uni_r (h : Same G H) (h' : Same G' H) : Same G' (uni G G') := fun b o e => by
  unfold uni
  split
  · rename_i u q
    have z := h b u q
    rw [h' b o e] at z
    exact z.symm
  · exact e
theorem uni_nm (h : NoMem G) (h' : NoMem G') : NoMem (uni G G') := fun b o e => by
  unfold uni at e
  split at e
  · rename_i q; cases e; exact h b _ q
  · exact h' b o e
theorem vrp_app : ∀ {vs ws : List V} {as bs : List SV}, VRpAll T G vs as → VRpAll T G ws bs → VRpAll T G (vs ++ ws) (as ++ bs)
  | _, _, _, _, .nil, h => h
  | _, _, _, _, .cons x t, h => .cons x (vrp_app t h)
theorem lam_inv {A : Around} {ou : List Env} {s : Shared} {E : XK} {q p : Str} {ys : List Str} {scope : Scope} {f c : Addr} {cl : List (Str × Addr)} {h1 : Heap} {tk : Nat} {v : V} {u : Value} {cw : List V} (S : LamSc scope p ys) (L : Clo base scope cl) (e0 : Env0 P w K mg base A ou s H) (hd : A.handled = none) (rv : RelV v u)
    (hn : h1.Ns s.heap.objs.size fun y => ([(p, u)] : List (Str × Value)).reverse.lookup y) (kp : ∀ b o, s.heap.get? b = some o → h1.get? b = some o)
    (lw : cw.length = ys.length) (hc : ∀ (i : Nat) y, ys[i]? = some y → ∃ c o u v, cl.lookup y = some c ∧ base.get? c = some o ∧ o.data = .cell (some u) ∧ RelV v u ∧ cw[i]? = some v) :
    Inv (lamX P w K mg base (p :: ys) q scope f c cl A ou s H E) [] (some v :: cw.map some) H { s with heap := h1, toks := tk } := by
  have no : ∀ b : Addr, b ∉ (lamX P w K mg base (p :: ys) q scope f c cl A ou s H E).ex := fun b z => absurd (show b ∈ ([] : List Addr) from z) (by simp)
  have cl1 : ∀ {c : Addr} {o : Obj} {x : Option Value}, base.get? c = some o → o.data = .cell x → h1.IsCell c x := fun {c o x} e d => ⟨o, kp _ _ (e0.bs _ _ e).1, d⟩
  refine ⟨⟨e0.mod, S.kind, rfl, rfl, Nat.le_refl _, L.inj, fun y hy => ?_, fun y c z _ => ?_, fun _ => hd, Around.frames_deeper e0.frames, .inr ⟨rfl, rfl⟩, fun b z => absurd z (no b), e0.bs, e0.bsz, fun b _ _ => no b, fun b z => absurd z (no b), e0.funs, e0.frf⟩,
    rfl, e0.bare, Un.kept kp, ⟨_, hn, fun i y x g1 g2 g3 => ?_⟩, fun y c e => ?_, e0.hok.fresh (Nat.le_refl _), fun y c e => ?_, fun r hr => absurd (show r ∈ ([] : List (Addr × Obj)) ++ [] from hr) (by simp), e0.hok.kept kp, ?_⟩
  · rcases (show scope.names.lookup y = some .cell ∨ scope.names.lookup y = some .free from hy) with z | z
    · exact absurd rfl (S.own _ (PySem.mem_of_lookup z))
    · exact L.has y z
  · exact absurd (show false = true from z) (by decide)
  · have g3 : Vis scope y := g3
    have g1 : (p :: ys)[i]? = some y := g1
    cases i with
    | zero =>
      simp only [List.getElem?_cons_zero, Option.some.injEq] at g1 g2
      subst g1 g2
      exact ⟨u, rv, .inl ⟨S.par, by simp [List.lookup]⟩⟩
    | succ i =>
      simp only [List.getElem?_cons_succ] at g1 g2
      obtain ⟨c, o, u', v', a1, a2, a3, a4, a5⟩ := hc i y g1
      rw [List.getElem?_map, a5] at g2
      have g2 : v' = x := Option.some.inj (Option.some.inj g2)
      subst g2
      have fr : scope.names.lookup y = some .free := by
        rcases S.only y (List.mem_cons_of_mem _ (List.mem_of_getElem? g1)) g3 with z | z
        · have := (List.nodup_cons.mp S.nd).1
          rw [← z] at this
          exact absurd (List.mem_of_getElem? g1) this
        · exact z
      exact ⟨u', a4, .inr ⟨.inr fr, c, a1, cl1 a2 a3⟩⟩
  · obtain ⟨o, x, e1, e2⟩ := L.cell y c e
    exact ⟨x, cl1 e1 e2⟩
  · obtain ⟨o, x, e1, e2⟩ := L.cell y c e
    exact (e0.bs _ _ e1).2
  · show (some v :: cw.map some).length = (p :: ys).length
    simp [lw]
/-- it is called as it is due, where it raises -/
theorem lam_gd {f c : Addr} {p q0 : Str} {ys : List Str} {params : Arguments} {body : Expr} {scope : Scope} {cl : List (Str × Addr)} {pm ct : Value} {oc : Obj} {fb : FE} {cw : List V} {cs : List SV}
    (ho : base.get? f = some (PySem.W.kla_obj "<lambda>" q0 params body scope cl pm c ct)) (hoc : base.get? c = some oc) (hcd : CdO oc) (S : LamSc scope p ys) (L : Clo base scope cl)
    (lw : cw.length = ys.length) (hc : ∀ (i : Nat) y, ys[i]? = some y → ∃ c o u v, cl.lookup y = some c ∧ base.get? c = some o ∧ o.data = .cell (some u) ∧ RelV v u ∧ cw[i]? = some v) (rc : VRpAll T T.gc cw cs)
    (hb : ∀ (q : Str) (A : Around) (ou : List Env) (s : Shared) (H : Hp) (E : XK) (B : Hp × Hp), Room k (A.deeper (lamE q scope s.heap.objs.size f c cl)) → Cv (lamX P w K mg base (p :: ys) q scope f c cl A ou s H E) T E B → VE (lamX P w K mg base (p :: ys) q scope f c cl A ou s H E) T E B body fb) :
    FnGd P w K mg base (L2.CX P w) (k + 1) f (PySem.W.kla_fn "<lambda>" q0 params body scope cl pm (.ref c) ct) [p] (spV T 1 fun as => errOf (fb ((as ++ cs).map some))) := by
  refine ⟨fun xs H Q E h => ?_, fun A ou s H ar us xs Q E hq hr e0 hbi hv h => ?_⟩
  · obtain ⟨G, as, _, _, _, r, hl, _⟩ := h
    rw [vrp_len r, hl]; rfl
  obtain ⟨G, as, gh, nm, mo, rp, hl, o⟩ := h
  obtain ⟨vs, q, tq, d1, d2⟩ := hcd
  obtain ⟨a1, rfl⟩ : ∃ a, as = [a] := List.length_eq_one_iff.mp hl
  cases rp with
  | cons r1 rp =>
    cases rp
    rename_i v
    cases hv with
    | cons rv hv =>
      cases hv
      rename_i u
      have gu : Same (uni G T.gc) H := uni_h gh mo.2.1
      refine lam_call hr.depth (e0.bs _ _ ho).1 rfl S.co S.gen rfl rfl (e0.bs _ _ hoc).1 d1 d2 (hbi _ _ _ _ (wpAny_newFunctionEnv S.own (fun y hy => ?_) (fun h1 hn hs => ?_) S.kind))
      · have : y = (p, u) := by simpa using hy
        rw [this]; exact S.par
      · have kp : ∀ b o, s.heap.get? b = some o → h1.get? b = some o := fun b o e => hs.extBut b o (Nat.ne_of_lt (Heap.lt_size e)) (Heap.get?_push_of_some _ e)
        refine ⟨e0.mod.nolimit.keeps fun b o e => kp b o (e0.bs b o e).1, ?_⟩
        have J := lam_inv (E := E) (q := q) (f := f) (c := c) (tk := s.toks + ([p].zip [u]).length) (ys := ys) S L e0 hr.hd rv hn kp lw hc
        have hr2 := hr.deeper (lamE q scope s.heap.objs.size f c cl)
        have C : Cv (lamX P w K mg base (p :: ys) q scope f c cl A ou s H E) T E (uni G T.gc, H) := ⟨rfl, S.nd, passes_call (takes_of rfl rfl rfl rfl) fun _ _ _ _ z => z, by
          have := hr2.un
          show (A.deeper (lamE q scope s.heap.objs.size f c cl)).units + 150 < cLine
          omega, hq⟩
        have st := sim_start (T := T) (G := uni G T.gc) (H := H) (vs := v :: cw) (as := a1 :: cs) (p :: ys).length gu (uni_nm nm mo.2.2) mo (.cons (r1.mono uni_l) (VRpAll.mono (uni_r gh mo.2.1) rc)) (p :: ys) rfl
        have lc : cs.length = ys.length := by rw [← vrp_len rc, lw]
        have ee : (a1 :: cs).map some ++ List.replicate ((p :: ys).length - (a1 :: cs).length) none = ([a1] ++ cs).map some := by simp [lc]
        have es : L2.start (p :: ys) (v :: cw) = some v :: cw.map some := by simp [L2.start, lw]
        rw [ee, es] at st
        refine PySem.W.kla_codeExpr (wpAny_mono ((hb q A ou s H E _ hr2 C).run [] _ _ H Q J ⟨_, _, st, ?_⟩) (fun x z y => ?_) fun _ _ y => y)
        · have o : Out T E (errOf (fb (([a1] ++ cs).map some))) G H Q := o
          revert o
          cases fb (([a1] ++ cs).map some) with
          | err c => exact fun o => o
          | val _ => exact fun o => o.elim
          | stuck => exact fun o => o
        · obtain ⟨x', H2, J2, rx, y⟩ := y
          exact ⟨x', H2, J2.os, J2.bare, J2.base, J2.hok, rx, y⟩
end
end VL
namespace VL
open PySem L2
/-! ### a lambda is made -/
section
variable {X : Cx} {pins : List (Addr × Obj)} {σ : L2.St} {H H' : Hp} {s s' : Shared}
theorem grow_same {P c : Addr} {ps : Array Value} {pos : Pos} {oc : Obj} (hP : H P = some (.tbl ps)) (nc : H c = none) (cd : CdO oc) : SameH H (upd (upd H P (.tbl (ps ++ #[rawInt pos.line, rawInt pos.col, .ref c]))) c (.frz oc (.own c))) := fun b o e => by
  have nb : b ≠ c := ne_of_none e nc
  by_cases z : b = P
  · subst z
    rw [hP] at e
    cases e
    refine ⟨.tbl (ps ++ #[rawInt pos.line, rawInt pos.col, .ref c]), by rw [upd_ne nb, upd_same], .inr ⟨trivial, trivial, .inr ⟨ps, _, rfl, rfl, fun g => ?_⟩⟩⟩
    have eL : (ps ++ #[rawInt pos.line, rawInt pos.col, .ref c]).toList = ps.toList ++ [rawInt pos.line, rawInt pos.col, .ref c] := by simp
    refine ⟨by rw [eL]; exact PySem.TriplesOk_snoc _ _ _ _ g.1, fun p2 cv hc => ?_⟩
    rw [eL] at hc
    rcases LamX.among_app _ g.1 hc with y | y
    · obtain ⟨c2, o2, a, e1, e2, e3⟩ := g.2 p2 cv y
      refine ⟨c2, o2, a, e1, ?_, e3⟩
      rw [upd_ne (ne_of_none e2 nc), upd_ne (fun q => by rw [q, hP] at e2; cases e2)]
      exact e2
    · exact ⟨c, oc, c, y, upd_same, cd⟩
  · exact ⟨o, by rw [upd_ne nb, upd_ne z]; exact e, .inl rfl⟩
theorem grow_inv {P c : Addr} {ps more : Array Value} {h2 : Heap} {t2 : Nat} {oc : Obj} (I : Inv X pins σ H s) (hP : H P = some (.tbl ps)) (kp : ∀ b o, b ≠ P → s.heap.get? b = some o → h2.get? b = some o)
    (hT : h2.get? P = some { cls := .none, data := .fields (ps ++ more) }) (hc : s.heap.objs.size ≤ c) (ho : h2.get? c = some oc) : Inv X pins σ (upd (upd H P (.tbl (ps ++ more))) c (.frz oc (.own c))) { s with heap := h2, toks := t2 } := by
  have nc : H c = none := I.hok.fresh hc
  have oth : ∀ {b : Addr}, b ≠ P → b ≠ c → upd (upd H P (.tbl (ps ++ more))) c (.frz oc (.own c)) b = H b := fun {b} n m => by rw [upd_ne m, upd_ne n]
  have pc : P ≠ c := ne_of_none hP nc
  have pT : upd (upd H P (.tbl (ps ++ more))) c (.frz oc (.own c)) P = some (.tbl (ps ++ more)) := by rw [upd_ne pc, upd_same]
  have nP0 : ∀ {b : Addr}, H b = none → b ≠ P := fun e z => by rw [z, hP] at e; cases e
  have nP1 : ∀ {b : Addr} {u : HO}, H b = some u → (∀ q, u ≠ .tbl q) → b ≠ P := fun e n z => by rw [z, hP] at e; exact n _ (Option.some.inj e).symm
  have nC : ∀ {b : Addr} {o : Obj}, s.heap.get? b = some o → b ≠ c := fun e z => by rw [z] at e; exact Nat.lt_irrefl _ (Nat.lt_of_lt_of_le (Heap.lt_size e) hc)
  have nC1 : ∀ {b : Addr} {u : HO}, H b = some u → b ≠ c := fun e => ne_of_none e nc
  refine I.step (ch := []) (g' := s.gens) (d' := s.drawn) (fun b m => absurd m (by simp)) (fun b o _ _ _ e n => kp b o (nP0 n) e) (fun b o _ _ _ e n => ⟨o.slots, kp b o (nP0 n) e⟩) (fun b o _ e n => by rw [oth (nP0 n) (nC e)]; exact n) (fun b o _ e => ?_)
    (fun b xs e => by rw [oth (nP1 e fun q z => by cases z) (nC1 e)]; exact e) (fun b o u e => by rw [oth (nP1 e fun q z => by cases z) (nC1 e)]; exact e) (fun b qs e => ?_) (fun m hm => ?_) (fun b u e => ?_) I.bare
  · by_cases z : b = P
    · subst z; exact ⟨_, hT⟩
    · exact ⟨o, kp b o z e⟩
  · by_cases z : b = P
    · subst z
      rw [hP] at e; cases e
      exact ⟨more, pT⟩
    · exact ⟨#[], by rw [oth z (nC1 e), e]; simp⟩
  · obtain ⟨ob, es, ep, e, r⟩ := hm
    exact ⟨ob, es, ep, kp _ ob (nP0 I.free) e, r⟩
  · by_cases z : b = c
    · subst z
      rw [upd_same] at e; cases e
      exact ⟨ho, oc, ho⟩
    · by_cases y : b = P
      · subst y
        rw [pT] at e; cases e
        exact hT
      · rw [oth y z] at e
        refine (I.hok b u e).stay (fun d v hd q => kp d v ?_ q) (fun d q => by rw [oth (nP1 q fun q z => by cases z) (nC1 q)]; exact q) fun d xs q => by rw [oth (nP1 q fun q z => by cases z) (nC1 q)]; exact q
        rcases hd with x | x
        · rw [x]; exact y
        · exact nP1 x fun q z => by cases z
/-- what is made, and what is known of it -/
structure Made (X : Cx) (H1 : Hp) (s1 : Shared) (f c : Addr) (params : Arguments) (body : Expr) (scope : Scope) (ob oc : Obj) : Prop where
  eo : ∃ pm ct, ob = PySem.W.kla_obj "<lambda>" (X.env.qual ++ "<lambda>") params body scope (cloFrom X.env.cells scope.names []) pm c ct
  hf : s1.heap.get? f = some ob
  nf : H1 f = none
  fr : f ∉ frs X.stack
  fl : f ≠ X.env.locals
  co : H1 c = some (.frz oc (.own c)) ∨ ∃ a, H1 c = some (.frz oc (.own a))
  cd : CdO oc
theorem lam_make {c P : Addr} {params : Arguments} {body : Expr} {scope : Scope} {pos : Pos} {E : Value → Shared → Prop} {Q : Value → Shared → Prop} (I : Inv X pins σ H s) (TB : LamX.TabB X.base X.mg c P) (hcode : X.env.code = .ref c) (hP : ∃ ps, H P = some (.tbl ps) ∧ Good H ps)
    (hdef : defaultsOf params X.env = ([], [])) (hfree : ∀ y ∈ scope.names, y.2 = .free → ∃ c, X.env.cells.lookup y.1 = some c)
    (h : ∀ (f c1 : Addr) (ob oc : Obj) (H1 : Hp) (s1 : Shared), Inv X pins σ H1 s1 → SameH H H1 → Made X H1 s1 f c1 params body scope ob oc → Q (.ref f) s1) :
    wpAny (model X.prog X.w) X.A (eval (.Lambda params body scope pos) X.env) Q E s := by
  obtain ⟨ps, hP, gd⟩ := hP
  have hT : s.heap.get? P = some { cls := .none, data := .fields ps } := I.hok P _ hP
  have bP := TB.bm.keeps I.bk
  have sz : ∀ {f : Addr}, s.heap.objs.size ≤ f → f ∉ frs X.stack ∧ f ≠ X.env.locals := fun {f} hf => by
    have nl : f ≠ X.env.locals := fun z => by
      have z2 := I.lt
      rw [← z] at z2
      exact Nat.lt_irrefl _ (Nat.lt_of_lt_of_le z2 hf)
    refine ⟨fun z => ?_, nl⟩
    rcases List.mem_cons.mp (I.stkSub _ z) with e | e
    · exact nl e
    · exact I.nofs hf e
  refine PySem.W.kla_eval hdef ?_
  cases hc : codeAmong pos ps.toList with
  | none =>
    refine PySem.W.kla_makeFunction (mg := X.mg) (c := c) (P := P) (closure_ok hfree) I.ok.glob (I.mod.glob.keeps I.bk) hcode (TB.code.keeps I.bk) hT gd.1 hc TB.gP bP fun c1 ct h2 tk hx hge hlt hrec htb => ?_
    obtain ⟨c2, oc, vs, t, e2, hoc, hd, hv⟩ := hrec
    cases e2
    have s2 : s.heap.objs.size ≤ h2.objs.size := Nat.le_trans hge (Nat.le_of_lt hlt)
    have nc : H c1 = none := I.hok.fresh hge
    have cd : CdO oc := ⟨vs, _, t, hd, hv⟩
    have fP : h2.objs.size ≠ P := Nat.ne_of_gt (Nat.lt_of_lt_of_le (Heap.lt_size hT) s2)
    refine h h2.objs.size c1 _ oc _ _ (grow_inv (more := #[rawInt pos.line, rawInt pos.col, .ref c1]) I hP (fun b o n e => Heap.get?_push_of_some _ (hx b o n e)) (Heap.get?_push_of_some _ htb) hge (Heap.get?_push_of_some _ hoc)) (grow_same hP nc cd) ⟨⟨_, ct, rfl⟩, Heap.get?_push_size _ rfl, ?_, (sz s2).1, (sz s2).2, .inl upd_same, cd⟩
    rw [upd_ne (Nat.ne_of_gt hlt), upd_ne fP]
    exact I.hok.fresh s2
  | some cv =>
    obtain ⟨c1, oc, a, rfl, hco, cd⟩ := gd.2 pos cv hc
    refine PySem.W.kla_makeFunctionHit (mg := X.mg) (c := c) (P := P) (closure_ok hfree) I.ok.glob (I.mod.glob.keeps I.bk) hcode (TB.code.keeps I.bk) hT gd.1 hc bP fun ct h2 tk hx s2 => ?_
    exact h h2.objs.size c1 _ oc H _ (I.kept fun b o e => Heap.get?_push_of_some _ (hx b o e)) (SameH.refl _) ⟨⟨_, ct, rfl⟩, Heap.get?_push_size _ rfl, I.hok.fresh s2, (sz s2).1, (sz s2).2, .inr ⟨a, hco⟩, cd⟩
end
end VL
namespace VL
open PySem L2
/-! ### f(lambda x: .., ..) -/
/-- a callable in the base -/
def FnV (P : Program) (w : World) (K : PySem.W.Frag) (mg : Str → Option Value) (base : Heap) (T : Ct) (k : Nat) (f : Addr) (n : Nat) (m : List SV → R) : Prop :=
  ∃ fd ps, FnGd P w K mg base (L2.CX P w) k f fd ps (spV T n m) ∧ (∃ oc od fd2 sl, base.get? f = some ⟨oc, od, .func fd2, sl⟩) ∧ Binds K fd ps []
abbrev Ct.cal (T : Ct) (f : Nat → Addr → Prop) (G : Hp) : Ct := { T with fr := fun n g _ => f n g, fm := fun _ _ _ _ _ h => h, tb := [], gc := G }
def capS (env : VEnv) : List Nat → Option (List SV)
  | [] => some []
  | j :: js => match env[j]?, capS env js with
    | some (some (.sh d)), some cs => some (.sh d :: cs)
    | _, _ => none
def allSh : List SV → Bool
  | [] => true
  | .sh _ :: r => allSh r
  | _ => false
def shR : R → R
  | .val (.sh d) => .val (.sh d)
  | _ => .stuck
def calL (n : Nat) (M : (List SV → R) → List SV → R) (fb : FE) (js : List Nat) (fs : List FE) : FE := fun env => match capS env js, evA fs env with
  | some cs, .val as => if as.length + 1 = n ∧ allSh as = true then shR (M (fun bs => errOf (fb ((bs ++ cs).map some))) (.ob 104 [.int 0] :: as)) else .stuck
  | _, _ => .stuck
structure LamOk (N : List Str) (sc scope : Scope) (p : Str) (ys : List Str) (js : List Nat) : Prop where
  L : LamSc scope p ys
  fr : ∀ y ∈ scope.names, y.2 = .free → sc.names.lookup y.1 = some .cell
  hj : ∀ (i : Nat) y, ys[i]? = some y → ∃ j, js[i]? = some j ∧ N[j]? = some y ∧ (y, NameKind.free) ∈ scope.names
  lj : js.length = ys.length
def lamOkB (N : List Str) (sc scope : Scope) (p : Str) (ys : List Str) (js : List Nat) : Bool :=
  lamScB scope p ys && (scope.names.all fun y => !decide (y.2 = .free) || decide (sc.names.lookup y.1 = some .cell)) && decide (js.map (fun j => N[j]?) = ys.map some) && ys.all fun y => decide ((y, NameKind.free) ∈ scope.names)
theorem lamOk_by {N : List Str} {sc scope : Scope} {p : Str} {ys : List Str} {js : List Nat} (h : lamOkB N sc scope p ys js = true) : LamOk N sc scope p ys js := by
  unfold lamOkB at h
  simp only [Bool.and_eq_true, Bool.or_eq_true, Bool.not_eq_true', decide_eq_true_eq, decide_eq_false_iff_not, List.all_eq_true] at h
  obtain ⟨⟨⟨h1, h2⟩, h3⟩, h4⟩ := h
  have lj : js.length = ys.length := by
    have := congrArg List.length h3
    simpa using this
  refine ⟨lamSc_by h1, fun y m e => ?_, fun i y e => ?_, lj⟩
  · rcases h2 y m with z | z
    · exact absurd e z
    · exact z
  · have li : i < js.length := by rw [lj]; exact (List.getElem?_eq_some_iff.mp e).1
    have z := congrArg (fun l : List (Option Str) => l[i]?) h3
    simp only [List.getElem?_map, e, Option.map_some, List.getElem?_eq_getElem li] at z
    exact ⟨js[i], List.getElem?_eq_getElem li, Option.some.inj z, h4 y (List.mem_of_getElem? e)⟩
theorem df_at {K : PySem.W.Frag} {mg : Str → Option Value} {x q : Str} {st : Stmt} {ps : List Str} (d : Df K mg x q st ps) : ∃ g, mg x = some (.ref g) ∧ PySem.W.keepIn K (.ref g) = true := by
  obtain ⟨f, fd, F, hm, _⟩ := d
  exact ⟨f, hm, F.kp⟩
section
variable {X : Cx} {T T' : Ct} {EX : XK} {B : Hp × Hp} {pins : List (Addr × Obj)} {σ : L2.St} {G H H' : Hp} {s s' : Shared} {env : VEnv}
theorem sh_other : ∀ {vs : List V} {as : List SV}, allSh as = true → VRpAll T G vs as → VRpAll T' (low G) vs as
  | _, _, _, .nil => .nil
  | _, a :: as, n, .cons h t => by
    cases a with
    | sh d => exact .cons (dq_low h) (sh_other n t)
    | ow _ => cases n
    | ob _ _ => cases n
    | rg _ => cases n
theorem cap_read (S : Sim T B G env σ H) : ∀ {js : List Nat} {cs : List SV}, capS env js = some cs → ∃ cw : List V, VRpAll T' (low G) cw cs ∧ cw.length = js.length ∧ ∀ (i j : Nat), js[i]? = some j → ∃ v, cw[i]? = some v ∧ σ[j]? = some (some v)
  | [], cs, e => by
    unfold capS at e
    cases e
    exact ⟨[], .nil, rfl, fun i j z => by simp at z⟩
  | j :: js, cs, e => by
    unfold capS at e
    split at e
    · rename_i d cs' e1 e2
      cases e
      obtain ⟨cw, h1, h2, h3⟩ := cap_read S e2
      obtain ⟨v, h4, h5⟩ := S.sh j d e1
      refine ⟨v :: cw, .cons (show Dq (low G) v d from dq_low h5) h1, by rw [List.length_cons, List.length_cons, h2], fun i j' z => ?_⟩
      cases i with
      | zero => simp at z; subst z; exact ⟨v, rfl, h4⟩
      | succ i => simp at z; simpa using h3 i j' z
    · cases e
theorem clo_look {cells : List (Str × Addr)} {scope : Scope} {y : Str} {c : Addr} (hm : (y, NameKind.free) ∈ scope.names) (e : cells.lookup y = some c) : (cloFrom cells scope.names []).lookup y = some c := by
  obtain ⟨c2, h2⟩ := mem_lookup (cloFrom_has (cells := cells) (acc := []) hm)
  rcases cloFrom_mem (PySem.mem_of_lookup h2) with z | ⟨_, z⟩
  · cases z
  · rw [h2, z, e]; rfl
theorem clo_back {scope : Scope} (fr : ∀ y ∈ scope.names, y.2 = .free → ∃ c, X.env.cells.lookup y.1 = some c) {y : Str} {c : Addr} (e : (cloFrom X.env.cells scope.names []).lookup y = some c) : X.env.cells.lookup y = some c := by
  rcases cloFrom_mem (PySem.mem_of_lookup e) with z | ⟨h1, h2⟩
  · cases z
  · obtain ⟨c1, h3⟩ := fr _ h1 rfl
    have h3 : X.env.cells.lookup y = some c1 := h3
    rw [h3] at h2 ⊢
    rw [h2]; rfl
theorem cell_fr (I : Inv X pins σ H s) (hfn : X.fn = fun _ => true) {y : Str} {c : Addr} (e : X.env.cells.lookup y = some c) : c ∉ frs X.stack := fun m => by
  rcases List.mem_cons.mp (I.stkSub _ m) with z | z
  · exact I.cne y c e z
  · have h1 := I.ok.cab y c (by rw [hfn]) e
    obtain ⟨_, o, ho, _⟩ := I.ok.funs.mem z
    exact Nat.lt_irrefl _ (Nat.lt_of_lt_of_le (Heap.lt_size ho) h1)
theorem clo_big {scope : Scope} (I : Inv X pins σ H s) (hfn : X.fn = fun _ => true) (fr : ∀ y ∈ scope.names, y.2 = .free → ∃ c, X.env.cells.lookup y.1 = some c) : Clo (bigB X s H) scope (cloFrom X.env.cells scope.names []) where
  inj := fun x y c h1 h2 => I.ok.inj x y c (clo_back fr h1) (clo_back fr h2)
  has := fun x hx => by
    obtain ⟨c, e⟩ := fr _ (PySem.mem_of_lookup hx) rfl
    exact ⟨c, clo_look (PySem.mem_of_lookup hx) e⟩
  cell := fun x c h => by
    have e := clo_back fr h
    obtain ⟨v, o, ho, hd⟩ := I.cell x c e
    exact ⟨o, v, big_get ho (low_none (I.freeC x c e)) (cell_fr I hfn e), hd⟩
theorem me_cal {f : Nat → Addr → Prop} (S : Sim T B G env σ H) : MeO (T.cal f (low G)) (low H) := ⟨⟨fun a z => by
    obtain ⟨kvs, e, k⟩ := S.me.1 a z
    exact ⟨kvs, low_at e fun q => q, k⟩, fun P z => nomatch z⟩, low_sub S.gh, low_nm (S.st.nm S.nb.1)⟩
/-- a lambda that was made and stands still: its promise over all that is not tracked -/
theorem lam_big {k : Nat} {f c : Addr} {p : Str} {ys : List Str} {js : List Nat} {cs : List SV} {params : Arguments} {body : Expr} {scope : Scope} {ob oc : Obj} {fb : FE} {fv : Nat → Addr → Prop} (I : Inv X pins σ H s) (S : Sim T B G env σ H) (hfn : X.fn = fun _ => true) (L : LamSc scope p ys)
    (fr : ∀ y ∈ scope.names, y.2 = .free → X.env.scope.names.lookup y.1 = some .cell) (hj : ∀ (i : Nat) y, ys[i]? = some y → ∃ j, js[i]? = some j ∧ X.N[j]? = some y ∧ (y, NameKind.free) ∈ scope.names) (lj : js.length = ys.length) (ec : capS env js = some cs)
    (eo : ∃ pm ct, ob = PySem.W.kla_obj "<lambda>" (X.env.qual ++ "<lambda>") params body scope (cloFrom X.env.cells scope.names []) pm c ct) (hf : s.heap.get? f = some ob) (nf : low H f = none) (ff : f ∉ frs X.stack) (co : ∃ a, H c = some (.frz oc (.own a))) (cd : CdO oc)
    (hbi : ∀ (q : Str) (cl : List (Str × Addr)) (pm cv ct : Value) (us : List Value), us.length = 1 → bindArgs (PySem.W.kla_fn "<lambda>" q params body scope cl pm cv ct) ⟨us, []⟩ = pure ([p].zip us))
    (hb : ∀ (B' : Heap) (q : Str) (cl : List (Str × Addr)) (A : Around) (ou : List Env) (s : Shared) (H : Hp) (E : XK) (Bd : Hp × Hp), Room k (A.deeper (lamE q scope s.heap.objs.size f c cl)) → Cv (lamX X.prog X.w X.K X.mg B' (p :: ys) q scope f c cl A ou s H E) (T.cal fv (low G)) E Bd → VE (lamX X.prog X.w X.K X.mg B' (p :: ys) q scope f c cl A ou s H E) (T.cal fv (low G)) E Bd body fb) :
    FnV X.prog X.w X.K X.mg (bigB X s H) (T.cal fv (low G)) (k + 1) f 1 fun bs => errOf (fb ((bs ++ cs).map some)) := by
  have fre : ∀ y ∈ scope.names, y.2 = .free → ∃ c, X.env.cells.lookup y.1 = some c := fun y m z => I.ok.has _ (.inl (fr y m z))
  obtain ⟨pm, ct, rfl⟩ := eo
  obtain ⟨cw, w1, w2, w3⟩ := cap_read (T' := T.cal fv (low G)) S ec
  obtain ⟨a, co⟩ := co
  have hB := big_get (X := X) hf nf ff
  have hC : (bigB X s H).get? c = some oc := big_get (I.hok c _ co).1 (low_hid co trivial) fun m => by
    rw [I.stkFree c m] at co; cases co
  refine ⟨_, [p], lam_gd (cw := cw) (cs := cs) hB hC cd L (clo_big I hfn fre) (by rw [w2, lj]) (fun i y ey => ?_) w1 (fun q A ou s H E Bd => hb _ q _ A ou s H E Bd), ⟨_, _, _, _, hB⟩, Binds.all (hbi _ _ _ _ _)⟩
  obtain ⟨j, e1, e2, e3⟩ := hj i y ey
  obtain ⟨v, e4, e5⟩ := w3 i j e1
  obtain ⟨m, hn, hl⟩ := I.loc
  have kc := fr _ e3 rfl
  have kc : X.env.scope.names.lookup y = some .cell := kc
  obtain ⟨u, rv, lk⟩ := hl j y v e2 e5 (.inr (.inl kc))
  rcases lk with ⟨z, _⟩ | ⟨_, c2, h1, o2, h2, h3⟩
  · have z : X.env.scope.names.lookup y = some .local := z
    rw [kc] at z; cases z
  · exact ⟨c2, o2, u, v, clo_look e3 h1, big_get h2 (low_none (I.freeC y c2 h1)) (cell_fr I hfn h1), h3, rv, e4⟩
theorem ve_callL {x p : Str} {n k : Nat} {c P : Addr} {M : (List SV → R) → List SV → R} {fb : FE} {js : List Nat} {ys : List Str} {params : Arguments} {body e : Expr} {es : List Expr} {scope : Scope} {lpos p0 pos : Pos} {fs : List FE}
    (C : Cv X T EX B) (hr : Room (k + 2) X.A) (hg : Gl X x) (hx : ∃ g, X.mg x = some (.ref g) ∧ PySem.W.keepIn X.K (.ref g) = true)
    (hF : ∀ (B' : Heap) (f : Addr) (G' : Hp) (m1 : List SV → R), FnV X.prog X.w X.K X.mg B' (T.cal (fun _ g => g = f) G') (k + 1) f 1 m1 → Fn X.prog X.w X.K X.mg B' (T.cal (fun _ g => g = f) G') (k + 2) x n (M m1))
    (TB : LamX.TabB X.base X.mg c P) (hcode : X.env.code = .ref c) (hP : P ∈ T.tb) (hfn : X.fn = fun _ => true) (ok : LamOk X.N X.env.scope scope p ys js)
    (hb : ∀ (B' : Heap) (f c1 : Addr) (G' : Hp) (q : Str) (cl : List (Str × Addr)) (A : Around) (ou : List Env) (s : Shared) (H : Hp) (E : XK) (Bd : Hp × Hp), Room k (A.deeper (lamE q scope s.heap.objs.size f c1 cl)) → Cv (lamX X.prog X.w X.K X.mg B' (p :: ys) q scope f c1 cl A ou s H E) (T.cal (fun _ g => g = f) G') E Bd → VE (lamX X.prog X.w X.K X.mg B' (p :: ys) q scope f c1 cl A ou s H E) (T.cal (fun _ g => g = f) G') E Bd body fb)
    (ha : VA X T EX B (e :: es) fs) (hbi : ∀ (q : Str) (cl : List (Str × Addr)) (pm cv ct : Value) (us : List Value), us.length = 1 → bindArgs (PySem.W.kla_fn "<lambda>" q params body scope cl pm cv ct) ⟨us, []⟩ = pure ([p].zip us)) (hdef : defaultsOf params X.env = ([], []) := by rfl)
    (hd : (x == ("__debug__" : Str)) = false := by decide) (hs : starEach (.Lambda params body scope lpos :: e :: es) X.env = (false, eval (.Lambda params body scope lpos) X.env) :: starEach (e :: es) X.env := by rfl) (hpl : ((backTo pos (starEach (e :: es) X.env)).any fun z => z.1) = false := by rfl) :
    VE X T EX B (.Call (.Name x p0) (.Lambda params body scope lpos :: e :: es) [] pos) (calL n M fb js fs) := by
  obtain ⟨g, hm, hk⟩ := hx
  obtain ⟨L, fr, hj, lj⟩ := ok
  refine ⟨fun pins s σ H Q I h => ?_⟩
  obtain ⟨G, env, Sm, o⟩ := h
  unfold calL at o
  split at o
  rotate_left
  · exact o.elim
  rename_i cs as ec ea
  split at o
  rotate_left
  · exact o.elim
  rename_i cond
  have fre : ∀ y ∈ scope.names, y.2 = .free → ∃ c, X.env.cells.lookup y.1 = some c := fun y m z => I.ok.has _ (.inl (fr y m z))
  refine wpAny_Call_Name_kw (ld_glob I hg hm ?_ hd)
  refine PySem.W.callWith_K (h₀ := X.base) I.ok.mod.kin hk ?_ hs hpl
  rw [hs]
  show wpAny _ _ (spliced ((false, eval (.Lambda params body scope lpos) X.env) :: backTo pos (starEach (e :: es) X.env))) _ _ s
  refine Calls.spliced_cons (lam_make I TB hcode (Sm.me.2 P hP) hdef fre fun f c1 ob oc H1 s1 I1 sh md => ?_)
  have st1 : Step G H G H1 := ⟨sh, Same.refl _, sh.up Sm.gh (Sm.st.nm Sm.nb.1), fun _ a b => absurd a b, fun n => n⟩
  have S1 := Sm.step st1
  have ffs : f ∉ X.fs := fun m => by
    rcases I1.ok.stk with z | ⟨z, z2⟩
    · exact md.fr (by rw [z]; exact m)
    · refine md.fr ?_
      rw [z]
      unfold frs
      rw [List.filterMap_cons, z2]
      exact List.mem_cons_of_mem _ m
  have I1p : Inv X ((f, ob) :: pins) σ H1 s1 := I1.pins_of fun r hr => by
    rcases List.mem_cons.mp hr with rfl | hr
    · refine ⟨md.hf, md.nf, md.fl, ffs, fun v z => ?_⟩
      obtain ⟨_, _, rfl⟩ := md.eo
      cases z
    · exact I1.pin r (List.mem_append_right _ hr)
  refine wpAny_mono (ha.run pos _ s1 σ H1 (fun vs H2 => ∃ G2, Step G H1 G2 H2 ∧ VRpAll T G2 vs as) I1p ⟨G, env, S1, ?_⟩) (fun us s2 ⟨vs, H2, I2, rv, G2, st2, rp⟩ => ?_) fun _ _ z => z
  · rw [ea]
    exact fun vs G' H' st rp => ⟨G', st, rp⟩
  have I2p : Inv X pins σ H2 s2 := I2.pins_of fun r hr => I2.pin r (List.mem_append_right _ (List.mem_cons_of_mem _ hr))
  obtain ⟨q1, q2, _, _, _⟩ := I2.pin (f, ob) (List.mem_append_right _ List.mem_cons_self)
  refine ⟨I2.kIn, ?_⟩
  have S2 := S1.step st2
  have co2 : ∃ a, H2 c1 = some (.frz oc (.own a)) := by
    rcases md.co with z | ⟨a, z⟩
    · exact ⟨_, st2.hh.code _ _ _ z⟩
    · exact ⟨a, st2.hh.code _ _ _ z⟩
  have V := lam_big (k := k) (fv := fun _ g => g = f) (p := p) (ys := ys) (js := js) I2p S2 hfn L fr hj lj ec md.eo q1 (low_none q2) md.fr co2 md.cd hbi (fun B' q cl A ou s H E Bd => hb B' f c1 (low G2) q cl A ou s H E Bd)
  obtain ⟨g2, fd, ps, Fg, hm2, hk2, hb2⟩ := hF (bigB X s2 H2) f (low G2) _ V
  rw [hm] at hm2
  cases hm2
  refine run_big (CX := L2.CX X.prog X.w) (Q := Q) I2p Fg C.gd hr hb2 (us := .ref f :: us) (xs := .ref f :: vs) (.cons rfl rv) ?_
  refine ⟨low G2, .ob 104 [.int 0] :: as, low_sub S2.gh, low_nm (S2.st.nm S2.nb.1), me_cal S2, .cons ?_ (sh_other cond.2 rp), by rw [List.length_cons]; exact cond.1, ?_⟩
  · show ObRp _ _ _ _ _
    unfold ObRp XoR
    rw [if_neg (by decide), if_neg (by decide), if_neg (by decide), if_neg (by decide), if_pos (by decide), if_pos rfl]
    exact ⟨0, f, rfl, rfl, rfl⟩
  · revert o
    generalize M (fun bs => errOf (fb ((bs ++ cs).map some))) (.ob 104 [.int 0] :: as) = rr
    intro o
    cases rr with
    | err c => exact o.elim
    | stuck => exact o.elim
    | val v =>
      cases v with
      | sh d => exact fun v G' H' st dq ap => o v _ _ ((st1.trans st2).trans (step_back ap S2.gh st)) (dq.mono (uni_back ap S2.gh st).1)
      | ow _ => exact o.elim
      | ob _ _ => exact o.elim
      | rg _ => exact o.elim
end
end VL
namespace VL
open PySem L2
/-! ### try: a call of what was handed in, except the errors of one class -/
@[simp] def sTryR (i : Nat) (es : List Str) (n : Nat) (m : List SV → R) (fs : List FE) (hd : Str → FS) : FS := fun env => if noX env = true then (match evA fs env with
    | .val as => if as.length = n then (match m as with
      | .val _ => .nx env
      | .err c => if c ∈ es then (match hd c (env.set i (some (.ob 100 []))) with
        | .nx e => if noX (e.set i none) = true then .nx (e.set i none) else .stuck
        | .rt (.sh d) => .rt (.sh d)
        | _ => .stuck) else .stuck
      | .stuck => .stuck) else .stuck
    | _ => .stuck) else .stuck
@[simp] def sTryV (i ia : Nat) (es : List Str) (n : Nat) (m : Nat → List SV → R) (fs : List FE) (hd : Str → FS) : FS := fun env => match env[ia]? with
  | some (some (.ob 104 [.int z])) => sTryR i es n (m z.toNat) fs hd env
  | _ => .stuck
def FnVs (P : Program) (w : World) (K : PySem.W.Frag) (mg : Str → Option Value) (base : Heap) (T : Ct) (k : Nat) (n : Nat) (m : Nat → List SV → R) : Prop := ∀ (j : Nat) (f : Addr) (G : Hp), T.fr j f G → FnV P w K mg base T k f n (m j)
section
variable {X : Cx} {T : Ct} {EX : XK} {B : Hp × Hp} {e a b c o tg : Expr} {es : List Expr} {pos p p2 : Pos} {f g h : FE} {fs : List FE} {G H G1 H1 : Hp} {Q : VK} {st : Stmt} {sts : List Stmt} {s t : FS} {D : Ends} {σ : L2.St} {env : VEnv}
theorem ve_indexU {g : FE} {apos : Pos} (hu : X.A.units + 150 < cLine) (ha : VE X T EX B a f) (hb : VE X T EX B b g) (hbase : attributeBase a "index" X.env (eval a X.env) = eval a X.env := by rfl)
    (hline : (apos.endLine == pos.line) = true := by rfl) (hs : starEach [b] X.env = [(false, eval b X.env)] := by rfl) (hplain : (backTo pos (starEach [] X.env)).any (·.1) = false := by rfl)
    (hfew : ((backTo pos (starEach [b] X.env)).all (fun x => !x.1) && (backToKw pos (keywordEach [] X.env)).all (fun x => x.1.isSome)
      && decide ([b].length + ([] : List Keyword).length + (if ([] : List Keyword).isEmpty then 0 else 1) < 30)) = true := by rfl) : VE X T EX B (.Call (.Attribute a "index" apos) [b] [] pos) (vMth fIdxD f g) := by
  refine pe_weak (pe_bm PySem.F.plainAttrs_list PySem.F.slot_list_index PySem.F.type_list_index (mt_indexD (by omega)) ha (va_cons hb va_nil hs) hbase hfew hline hs hplain) fun σ H Q q => ?_
  refine rdV_mono (mth_use (r := rIndexD X.K) (fun l y ds d G H gh h1 h2 o => ?_) q) fun x H1 z => ?_
  · simp only [fIdxD] at o
    split at o
    · rename_i c
      split at o
      · rename_i j ej
        obtain ⟨hj, h3, h4⟩ := List.findIdx?_eq_some_iff_getElem.mp ej
        exact ⟨l, y, d, ds, j, ds[j], rfl, rfl, dq_dp h1 gh, dq_dp h2 gh, c.1, c.2, List.getElem?_eq_getElem hj, h3, fun m z' hm hz => by
          obtain ⟨w, hw⟩ := List.getElem?_eq_some_iff.mp hz
          have := h4 m hm
          rw [hw] at this
          simpa using this, o.ri gh⟩
      · exact o.elim
    · exact o.elim
  · obtain ⟨⟨l, xs, rfl, sq⟩, z⟩ := z
    exact ⟨.inl ⟨rfl, xs, sqL_K sq⟩, z⟩
theorem pe_callV {CX : CXT} {i k : Nat} {x : Str} {f : Addr} {fd : FuncData} {ps : List Str} {sp : Sp} {E : L2.St → XK} {t : TA} (F : FnGd X.prog X.w X.K X.mg X.base CX k f fd ps sp) (ho : ∃ oc od fd2 sl, X.base.get? f = some ⟨oc, od, .func fd2, sl⟩) (hq : X.A.guards = some []) (hr : Room k X.A) (hb : Binds X.K fd ps []) (hx : ∀ σ, PassesAt CX X σ (E σ))
    (ha : PA X (e :: es) t) (hN : X.N[i]? = some x) (hv : Vis X.env.scope x) (hd : (x == ("__debug__" : Str)) = false) (hcd : (x == ("__classdict__" : Str)) = false) (he : starEach (e :: es) X.env = (false, eval e X.env) :: starEach es X.env) (hpl : (backTo pos (starEach es X.env)).any (·.1) = false) :
    PE X (.Call (.Name x p) (e :: es) [] pos) (fun σ H Q => σ[i]? = some (some (.ref f)) ∧ tCallS sp E t σ H Q) := by
  refine ⟨fun pins s σ H Q I h => ?_⟩
  obtain ⟨h1, h2⟩ := h
  obtain ⟨oc, od, fd2, sl, ho⟩ := ho
  refine wpAny_Call_Name_kw (thn ((pe_var (pos := p) hN hv hd hcd).run pins s σ H (fun v H1 => v = .ref f ∧ H1 = H) I ⟨.ref f, h1, rfl, rfl⟩) fun u s1 ⟨v, H1, I1, r1, q1⟩ => ?_)
  obtain ⟨ev, eH⟩ := q1
  subst ev
  rw [eH] at I1
  obtain rfl : u = Value.ref f := r1
  refine PySem.W.callWith_F ⟨oc, od, fd2, sl, I1.bk _ _ ho⟩ (thn (ha.run pos pins s1 σ H _ I1 h2) fun us s2 ⟨xs, H2, I2, r, q⟩ => ⟨⟨oc, od, fd2, sl, I2.bk _ _ ho⟩, go_in F hq hr hb (hx σ) I2 r q⟩) he hpl
theorem vs_tryV (i ia : Nat) {x n hn : Str} {k q : Nat} {m : Nat → List SV → R} {ers ds : List Str} {hd : Str → FS} {np pos' pos1 pos2 : Pos} {b₀ : Stmt} {suite : List Stmt}
    (C : Cv X T EX B) (hs : X.stack = X.env :: X.outer) (hf : X.env.frame = some X.env.locals) (F : FnVs X.prog X.w X.K X.mg X.base T k q m) (hr : Room k X.A)
    (hgh : Gl X hn) (xc : ∀ c ∈ ers, Xc X.K X.mg T hn ds c) (hc : ∃ cH, X.mg hn = some cH)
    (ha : ∀ pn xe, VA (X.tr pn xe) T E0 B (e :: es) fs)
    (hsu : ∀ (a : Addr) (oe : Obj) (pn : List (Addr × Obj)) (c : Str), c ∈ ers → Zc (.ref (T.er c)) none oe → (∃ vs, oe.data = .fields vs) → VSs (X.suite a ((a, oe) :: pn)) { T with xa := a } E0 B (b₀ :: suite) (hd c))
    (hi : X.N[i]? = some n := by rfl) (hln : X.env.kindOf n = some .local := by rfl) (hN : X.N[ia]? = some x := by rfl) (hv : Vis X.env.scope x := by first | exact Or.inl rfl | exact Or.inr (Or.inl rfl) | exact Or.inr (Or.inr rfl)) (hcd : (x == ("__classdict__" : Str)) = false := by decide)
    (hdh : (hn == ("__debug__" : Str)) = false := by decide) (hdb : (x == ("__debug__" : Str)) = false := by decide) (hst : starEach (e :: es) X.env = (false, eval e X.env) :: starEach es X.env := by rfl) (hpl : ((backTo pos1 (starEach es X.env)).any fun z => z.1) = false := by rfl)
    (hsw : swapsWith (.Call (.Name x p) (e :: es) [] pos1) none pos2.line X.env = pure false := by rfl) :
    VS X T EX B (.Try [.Expr (.Call (.Name x p) (e :: es) [] pos1) pos2] [.ExceptHandler (some (.Name hn np)) (some n) (b₀ :: suite) pos'] [] [] pos) (sTryV i ia ers q m fs hd) := by
  obtain ⟨cH, hcH⟩ := hc
  have key : ∀ (j : Nat) (f : Addr), FnV X.prog X.w X.K X.mg X.base T k f q (m j) → PS X (.Try [.Expr (.Call (.Name x p) (e :: es) [] pos1) pos2] [.ExceptHandler (some (.Name hn np)) (some n) (b₀ :: suite) pos'] [] [] pos) fun D σ H => σ[ia]? = some (some (.ref f)) ∧ rdS T EX B (sTryR i ers q (m j) fs hd) D σ H := by
    intro j f Fj
    obtain ⟨fd, ps, F, ho, hb⟩ := Fj
    refine ps_weak (ps_try_as (i := i) (c := cH) (tb := fun W D σ H => σ[ia]? = some (some (.ref f)) ∧ tCallS (spV T q (m j)) (WE W) (rdA T E0 B fs) σ H fun _ H' => D.nx σ H') (Wout := fun _ _ _ _ => False)
      (ts := fun a cls d D σ H => ∃ c, c ∈ ers ∧ cls = .ref (T.er c) ∧ d = none ∧ rdS { T with xa := a } E0 B (hd c) D σ H) hs hf C.nd hi hln ⟨hgh, hdh, .inl hcH⟩ takes0 (fun W pn xe tk _ => ?_) (fun a oe cls d pn hz hfl => ?_)) fun D σ H w => ?_
    · exact pss_one (ps_weak (ps_expr (pe_callV (X := X.tr pn xe) (E := WE W) F ho C.gd hr hb (fun σ => passAt tk σ) (ha pn xe) hN hv hdb hcd hst hpl) hsw) fun D σ H z => z)
    · refine ⟨fun pins s σ H D I z => ?_⟩
      obtain ⟨c, h1, h2, h3, z⟩ := z
      subst h2 h3
      exact (hsu a oe pn c h1 hz hfl).run pins s σ H D I z
    · obtain ⟨w0, G, env, S, o⟩ := w
      refine ⟨w0, ?_⟩
      unfold sTryR at o
      split at o
      case isFalse => exact o.elim
      rename_i nx0
      refine ⟨G, env, S, ?_⟩
      revert o
      cases evA fs env with
      | err c => exact fun o => o.elim
      | stuck => exact fun o => o.elim
      | val as =>
        intro o vs G' H' st rp
        dsimp only at o
        split at o
        case isFalse => exact o.elim
        rename_i hl
        refine ⟨G', as, st.gh, st.nm (S.st.nm S.nb.1), (S.step st).mo, rp, hl, ?_⟩
        revert o
        cases m j as with
        | stuck => exact fun o => o.elim
        | val v => exact fun o => Out.fz fun y G2 H2 s2 _ => o G2 σ H2 (st.trans s2).gg (S.step (st.trans s2))
        | err c =>
          intro o H2 sh
          dsimp only at o
          split at o
          case isFalse => exact o.elim
          rename_i hc
          obtain ⟨cH', h1, h2⟩ := (xc c hc).ct
          rw [hcH] at h1
          cases h1
          refine ⟨true, h2, fun _ a na => ⟨c, hc, rfl, rfl, G', env.set i (some (.ob 100 [])), ?_, ?_⟩, fun z => nomatch z⟩
          · have S1 : Sim T B G' env σ H2 := (S.step st).step ⟨sh, Same.refl _, sh.up st.gh (st.nm (S.st.nm S.nb.1)), fun _ u w => absurd u w, fun n => n⟩
            exact Sim.setOb (S1.other (T' := { T with xa := a }) nx0 rfl rfl rfl) (by unfold ObRp; rw [if_pos rfl])
          · revert o
            cases hd c (env.set i (some (.ob 100 []))) with
            | stuck => exact fun o => o.elim
            | err c => exact fun o => o.elim
            | rt v =>
              cases v with
              | sh d => exact fun o => o
              | ow _ => exact fun o => o.elim
              | ob _ _ => exact fun o => o.elim
              | rg _ => exact fun o => o.elim
            | nx e =>
              intro o G3 σ3 H3 sg S3
              dsimp only at o
              split at o
              case isFalse => exact o.elim
              rename_i nx1
              exact o G3 (σ3.set i none) H3 (st.gg.trans sg) (Sim.other (T := { T with xa := a }) S3.setNone nx1 rfl rfl rfl)
  refine ⟨fun pins s σ H D I h => ?_⟩
  obtain ⟨G, env, S, o⟩ := h
  unfold sTryV at o
  split at o
  · rename_i z ez
    obtain ⟨v, h1, h2⟩ := S.ob ia 104 _ ez
    unfold ObRp XoR at h2
    rw [if_neg (by decide), if_neg (by decide), if_neg (by decide), if_neg (by decide), if_pos (by decide), if_pos rfl] at h2
    obtain ⟨nn, ff, e1, rfl, hfr⟩ := h2
    simp only [List.cons.injEq, PyData.int.injEq, and_true] at e1
    subst e1
    rw [Int.toNat_natCast] at o
    exact (key nn ff (F nn ff G hfr)).run pins s σ H D I ⟨h1, G, env, S, o⟩
  · exact o.elim
end
end VL
namespace VL
open PySem L2
/-! ### a def that makes lambdas -/
/-- its code object's table is among those that are to be there -/
def MkT (K : PySem.W.Frag) (mg : Str → Option Value) (base : Heap) (T : Ct) (x : Str) : Prop := ∃ c Pt, LamX.TabB base mg c Pt ∧ Pt ∈ T.tb ∧ ∀ f o fd, mg x = some (.ref f) → K.lookup f = some o → o.data = .func fd → fd.code = .ref c
section
variable {P : Program} {w : World} {K : PySem.W.Frag} {mg : Str → Option Value} {base : Heap} {T : Ct}
theorem gd_mkC {x qu : Str} {st : Stmt} {f c : Addr} {fd : FuncData} {N ps : List Str} {k : Nat} {sp : Sp} (F : Fun K x qu st f fd) (hcode : fd.code = .ref c) (S : FnScope N ps (defScope st)) (ln : ∀ xs H Q E, sp xs H Q E → xs.length = ps.length)
    (hb : ∀ (A : Around) (ou : List Env) (s : Shared) (H : Hp) (xs : List V) (Q : VK) (E : XK), A.guards = some [] → Room k (A.deeper (PyProof.Rows.envOfC qu (defScope st) s.heap.objs.size f (.ref c))) → sp xs H Q E →
      ∃ t, PSs (cxOf (L2.CX P w) P w K mg base N qu (defScope st) f (.ref c) A ou s H E) (defBody st) t ∧ t { nx := fun _ H' => Q .non H', rt := Q } (L2.start N xs) H) : FnGd P w K mg base (L2.CX P w) (k + 1) f fd ps sp := by
  obtain ⟨oc, od, kV, dc, pm, an, cdv, ct, osl, rfl, lk, hcd⟩ := F.ex
  have hcode : cdv = .ref c := hcode
  subst hcode
  refine ⟨ln, fun A ou s H ar us xs Q E hq hr e0 hbi r hsp => ?_⟩
  have stays : ∀ b o, base.get? b = some o → s.heap.get? b = some o := fun b o e => (e0.bs b o e).1
  have inK : K.In s.heap := e0.mod.kin.keeps stays
  have kinds : ∀ y ∈ ps.zip us, (defScope st).names.lookup y.1 = some .local ∨ ((defScope st).names.lookup y.1 = some .cell ∧ ((cellsFrom (s.heap.objs.size + 1) (defScope st).names []).lookup y.1).isSome = true) := by
    rintro ⟨n, v⟩ hy
    exact (S.par n (List.of_mem_zip hy).1).imp id fun z => ⟨z, PySem.W.cellsFrom_some _ _ _ (.inl z)⟩
  refine codeAny_call_function hr.depth (inK _ _ lk) rfl S.co S.gen rfl (PySem.W.codeRec_of inK hcd) (hbi _ _ _ _ (wpAny_newFunctionEnv_cells S.kind kinds fun env he s1 nw => ?_))
  subst he
  refine ⟨(e0.mod.nolimit.keeps stays).keeps nw.toInCall.keep, codeAny_func ?_⟩
  obtain ⟨t, ht, w0⟩ := hb A ou s H xs Q E hq (hr.deeper _) hsp
  refine wpAny_mono (ht.run [] s1 (L2.start N xs) H _ (inv_start S hr.hd e0 (ln _ _ _ _ hsp) r nw) w0) (fun fl s2 z => ?_) fun _ _ z => z
  cases fl with
  | ret u => obtain ⟨v, σ2, H2, J, rv, q⟩ := z; exact ⟨v, H2, J.os, J.bare, J.base, J.hok, rv, q⟩
  | next => obtain ⟨σ2, H2, J, q⟩ := z; exact ⟨V.non, H2, J.os, J.bare, J.base, J.hok, rfl, q⟩
  | brk => obtain ⟨_, _, _, q⟩ := z; exact q.elim
  | cont => obtain ⟨_, _, _, q⟩ := z; exact q.elim
/-- its body, the code object known -/
def BdC (P : Program) (w : World) (K : PySem.W.Frag) (mg : Str → Option Value) (base : Heap) (T : Ct) (k : Nat) (N : List Str) (q : Str) (st : Stmt) (s : FS) : Prop :=
  ∀ (f c Pt : Addr) (A : Around) (outer : List Env) (s0 : Shared) (H : Hp) (E : XK) (B : Hp × Hp), LamX.TabB base mg c Pt → Pt ∈ T.tb → Room k (A.deeper (PyProof.Rows.envOfC q (defScope st) s0.heap.objs.size f (.ref c))) →
      Cv (cxOf (L2.CX P w) P w K mg base N q (defScope st) f (.ref c) A outer s0 H E) T E B →
      PassesOwn (model P w) (A.deeper (PyProof.Rows.envOfC q (defScope st) s0.heap.objs.size f (.ref c))) (PyProof.Rows.envOfC q (defScope st) s0.heap.objs.size f (.ref c)) (cxOf (L2.CX P w) P w K mg base N q (defScope st) f (.ref c) A outer s0 H E).xe →
      Takes (cxOf (L2.CX P w) P w K mg base N q (defScope st) f (.ref c) A outer s0 H E) (fun cls d _ H => E cls d H) →
      VSs (cxOf (L2.CX P w) P w K mg base N q (defScope st) f (.ref c) A outer s0 H E) T E B (defBody st) s
theorem gd_mkT {x q : Str} {st : Stmt} {f c Pt : Addr} {fd : FuncData} {N ps : List Str} {k : Nat} {s : FS} (F : Fun K x q st f fd) (hcode : fd.code = .ref c) (TB : LamX.TabB base mg c Pt) (hP : Pt ∈ T.tb) (S : FnScope N ps (defScope st)) (hb : BdC P w K mg base T k N q st s) :
    FnGd P w K mg base (L2.CX P w) (k + 1) f fd ps (spV T ps.length (runB N.length s)) := by
  refine gd_mkC F hcode S (fun vs H Q E h => ?_) (fun A outer s0 H vs Q E hq hr h => ?_)
  · obtain ⟨G, as, gh, _, _, r, hl, _⟩ := h
    rw [vrp_len r, hl]
  obtain ⟨G, as, gh, nb, mo, r, hl, o⟩ := h
  have tk : Takes (cxOf (L2.CX P w) P w K mg base N q (defScope st) f (.ref c) A outer s0 H E) (fun cls d _ H => E cls d H) := takes_of rfl rfl rfl rfl
  refine ⟨_, hb f c Pt A outer s0 H E (G, H) TB hP hr ⟨rfl, S.nd, passes_call tk fun _ _ _ _ z => z, ?_, hq⟩ (passes_of rfl) tk, G, _, sim_start N.length gh nb mo r N rfl, ?_⟩
  · have := hr.un
    show (A.deeper (PyProof.Rows.envOfC q (defScope st) s0.heap.objs.size f (.ref c))).units + 150 < cLine
    omega
  · unfold runB at o
    revert o
    cases s (as.map some ++ List.replicate (N.length - as.length) none) with
    | nx e => exact fun o G' σ' H' sg S' => o .non G' H' S'.st .non
    | rt v => exact fun o => o
    | err c => exact fun o => o
    | stuck => exact fun o => o
theorem fn_mkT {x q : Str} {st : Stmt} {N ps : List Str} {k : Nat} {s : FS} (d : Df K mg x q st ps) (mt : MkT K mg base T x) (S : FnScope N ps (defScope st)) (hb : BdC P w K mg base T k N q st s) : Fn P w K mg base T (k + 1) x ps.length (runB N.length s) := by
  obtain ⟨f, fd, F, hm, hbi⟩ := d
  obtain ⟨c, Pt, TB, hP, hc⟩ := mt
  obtain ⟨oc, od, kV, dc, pm, an, cdv, ct, osl, e, lk, hcd⟩ := F.ex
  exact ⟨f, fd, ps, gd_mkT F (hc f _ fd hm lk rfl) TB hP S hb, hm, F.kp, hbi⟩
end
section
variable {P : Program} {w : World} {K : PySem.W.Frag} {mg : Str → Option Value} {base : Heap} {T : Ct}
theorem fn_no {x q : Str} {st : Stmt} {ps : List Str} {n k : Nat} {m : List SV → R} (d : Df K mg x q st ps) (h : m = fun _ => .stuck) : Fn P w K mg base T k x n m := by
  obtain ⟨f, fd, F, hm, hbi⟩ := d
  subst h
  have no : ∀ vs H Q E, ¬ spV T n (fun _ => .stuck) vs H Q E := fun vs H Q E ⟨_, _, _, _, _, _, _, o⟩ => o
  exact ⟨f, fd, ps, ⟨fun vs H Q E h => absurd h (no vs H Q E), fun A outer s H args us vs Q E _ _ _ _ _ h => absurd h (no vs H Q E)⟩, hm, F.kp, hbi⟩
end
theorem Oc.cal {K : PySem.W.Frag} {mg : Str → Option Value} {T : Ct} {x : Str} {c : Nat} (h : Oc K mg T x c) (fr : Nat → Addr → Hp → Prop) (fm) (l : List Addr) (G : Hp) : Oc K mg { T with fr := fr, fm := fm, tb := l, gc := G } x c := by
  cases h; constructor <;> assumption
theorem OkI.cal {K : PySem.W.Frag} {mg : Str → Option Value} {T : Ct} {x : Str} {c : Nat → Bool} (h : OkI K mg T x c) (fr : Nat → Addr → Hp → Prop) (fm) (l : List Addr) (G : Hp) : OkI K mg { T with fr := fr, fm := fm, tb := l, gc := G } x c := by
  cases h; constructor <;> assumption
/-! ### the end of a law with such tables -/
section
open PySem.Spec PyProof.Rows
variable {P : Program} {w : World} {K : PySem.W.Frag} {mg mb : Str → Option Value} {k : Nat} {fa a : Addr} {fd : FuncData} {x : Str} {sp : Sp} {s1 : Shared} {vs : List Value} {ns : List Int}
/-- what the top tells of the code objects and their tables -/
structure TabF (K : PySem.W.Frag) (h : Heap) (cs : List (Addr × Addr)) : Prop where
  em : ∀ p ∈ cs, h.get? p.2 = some { cls := .none, data := .fields #[] }
  nk : ∀ p ∈ cs, K.lookup p.2 = none
  cd : ∀ p ∈ cs, PySem.W.CodeHd h p.1 p.2
/-- a maker's code object and table, by the top -/
structure TabX (K : PySem.W.Frag) (mg : Str → Option Value) (h : Heap) (x : Str) (c Pt : Addr) : Prop where
  em : h.get? Pt = some { cls := .none, data := .fields #[] }
  nk : K.lookup Pt = none
  cd : PySem.W.CodeHd h c Pt
  co : ∀ f o fd, mg x = some (.ref f) → K.lookup f = some o → o.data = .func fd → fd.code = .ref c
theorem tabX_mk {mg : Str → Option Value} {h : Heap} {K : PySem.W.Frag} {x q : Str} {st : Stmt} {f c Pt : Addr} {oc : Value} {od an od2 : Option Addr} {osl sl2 : Array (Option Value)} {kV doc pm ct tc : Value} {vs : Array Value} (KX : K.In h) (G : h.Ns mainGlobals mg)
    (a : PySem.W.nsIn K mainGlobals x = some (some (.ref f))) (l : K.lookup f = some ⟨oc, od, .func (PySem.W.fnOf q q (defArgs st) (defBody st) (defScope st) .none kV doc pm an (.ref c) ct), osl⟩) (v : K.lookup c = some ⟨tc, od2, .fields vs, sl2⟩) (v11 : vs[11]? = some (.ref Pt)) (cd : PySem.W.codeHdIn K c Pt = true) (n : K.lookup Pt = none) (em : h.get? Pt = some (PySem.W.tabObj #[])) : TabX K mg h x c Pt :=
  ⟨em, n, PySem.W.codeHd_of_K KX cd, fun f2 o fd hm lk hd => by
    have e := PySem.W.mg_of KX G a
    rw [hm] at e
    cases e
    rw [l] at lk
    cases lk
    cases hd
    rfl⟩
theorem TabF.nil {h : Heap} : TabF K h [] := ⟨(fun _ m => nomatch m), (fun _ m => nomatch m), (fun _ m => nomatch m)⟩
theorem TabF.cons {h : Heap} {c Pt : Addr} {cs : List (Addr × Addr)} {x : Str} (X : TabX K mg h x c Pt) (F : TabF K h cs) : TabF K h ((c, Pt) :: cs) := ⟨fun p m => (List.mem_cons.mp m).elim (fun z => by rw [z]; exact X.em) (F.em p), fun p m => (List.mem_cons.mp m).elim (fun z => by rw [z]; exact X.nk) (F.nk p), fun p m => (List.mem_cons.mp m).elim (fun z => by rw [z]; exact X.cd) (F.cd p)⟩
theorem due_T {cs : List (Addr × Addr)} (inK : K.In s1.heap) (hns : s1.heap.Ns mainGlobals mg) (hb : s1.heap.Ns builtinsNs mb) (hbb : ∀ x : Str, x ≠ "__name__" → mb x = bootBuiltins x) (lim : s1.heap.NoLimit) (hg : s1.gens = #[]) (TF : TabF K s1.heap cs)
    (bm : ∃ (m : Addr) (ob : Obj), mg "__builtins__" = some (.ref m) ∧ m ≠ builtinsNs ∧ s1.heap.get? m = some ob ∧ ob.cls = .type "module" ∧ ob.dict = some builtinsNs ∧ ob.data = .plain)
    (ha : s1.heap.get? a = some { cls := .type "list", data := .seq vs.toArray }) (hi : IntsAre vs ns) (hl : ns.length ≤ sizeLine) (hr : Room k callerA) (F : ∀ bs : Heap, K.In bs → (∀ p ∈ cs, LamX.TabB bs mg p.1 p.2) → FnGd P w K mg bs (L2.CX P w) k fa fd [x] sp) (hbi : ∀ (s : Shared) (u : Value), BindsTo s fd ⟨[u], []⟩ [(x, u)])
    (hs : ∀ H : Hp, (∀ p ∈ cs, H p.2 = some (.tbl #[])) → SqL K H a (ns.map V.int) → sp [.ref a] H (fun v _ => v = .bl true) fun _ _ _ => False) : Due P w fa a s1 := by
  let oa : Obj := { cls := .type "list", data := .seq vs.toArray }
  have rv := vals_ints hi
  have ln := hi.length
  let tb := cs.map (·.2)
  have inT : ∀ p ∈ cs, p.2 ∈ tb := fun p m => List.mem_map.mpr ⟨p, m, rfl⟩
  have atT : ∀ b ∈ tb, s1.heap.get? b = some { cls := .none, data := .fields #[] } := fun b m => by
    obtain ⟨p, hp, rfl⟩ := List.mem_map.mp m
    exact TF.em p hp
  have noT : ∀ {b : Addr} {o : Obj}, s1.heap.get? b = some o → o.data ≠ .fields #[] → b ∉ tb := fun {b o} e n m => by
    rw [atT b m] at e; cases e; exact n rfl
  have aT : a ∉ tb := noT ha fun z => by cases z
  -- the tracked: the script, if it stands apart, and the tables
  let H : Hp := fun b => if b ∈ tb then some (.tbl #[]) else if b = a ∧ K.lookup a = none then some (.frz oa (.lst (ns.map V.int))) else none
  have h1 : ∀ {b : Addr}, b ∈ tb → H b = some (.tbl #[]) := fun m => if_pos m
  have h2 : K.lookup a = none → H a = some (.frz oa (.lst (ns.map V.int))) := fun q => (if_neg aT).trans (if_pos ⟨rfl, q⟩)
  have h3 : ∀ {b : Addr}, b ∉ tb → ¬ (b = a ∧ K.lookup a = none) → H b = none := fun m n => (if_neg m).trans (if_neg n)
  have free : ∀ {b : Addr} {o : Obj}, s1.heap.get? b = some o → o.data ≠ .fields #[] → (∀ us n, o.data ≠ .seq us n) → H b = none := fun {b o} e n m => h3 (noT e n) fun z => by
    rw [z.1, ha] at e; cases e; exact m _ _ rfl
  have ok : HOk P w H s1.heap := fun b u e => by
    by_cases m : b ∈ tb
    · rw [h1 m] at e; cases e; exact atT b m
    · by_cases z : b = a ∧ K.lookup a = none
      · obtain ⟨rfl, q⟩ := z
        rw [h2 q] at e; cases e
        exact ⟨ha, by rw [List.length_map]; exact hl, vs, _, rv, ha⟩
      · rw [h3 m z] at e; cases e
  have sq : SqL K H a (ns.map V.int) := by
    cases q : K.lookup a with
    | none => exact .inl (.inr ⟨oa, h2 q⟩)
    | some o =>
      have e := ha.symm.trans (inK a o q)
      cases e
      exact .inr ⟨_, vs.toArray, _, q, rfl, rfl, rfl, by rw [List.size_toArray, ln]; exact hl, by simpa using rv⟩
  have nsB : ∀ {b : Addr} {m : Str → Option Value}, s1.heap.Ns b m → (hidT s1.heap H).Ns b m := by
    rintro b m ⟨o, es, ep, e, d, r⟩
    exact ⟨o, es, ep, hidT_get e (free e (fun z => by rw [d] at z; cases z) fun _ _ z => by rw [d] at z; cases z), d, r⟩
  have inB : K.In (hidT s1.heap H) := fun b o e => by
    refine hidT_get (inK b o e) (h3 (fun m => ?_) fun z => ?_)
    · obtain ⟨p, hp, rfl⟩ := List.mem_map.mp m
      rw [TF.nk p hp] at e; cases e
    · rw [z.1, z.2] at e; cases e
  obtain ⟨mc, l1, l2⟩ := lim
  have md : Mod K mg (hidT s1.heap H) := ⟨inB, nsB hns, ⟨mb, nsB hb, hbb⟩, mc, nsB l1, l2⟩
  have tB : ∀ p ∈ cs, LamX.TabB (hidT s1.heap H) mg p.1 p.2 := fun p hp => by
    have ep := TF.em p hp
    have ng : mainGlobals ≠ p.2 := fun z => by
      obtain ⟨o, es, ep', e, d, _⟩ := hns
      rw [z, ep] at e; cases e; cases d
    refine ⟨?_, ?_, ng⟩
    · obtain ⟨o, us, f1, f2, f3, f4, f5, f6, f7, e1, r1, r2, r3, r⟩ := TF.cd p hp
      refine ⟨o, us, f1, f2, f3, f4, f5, f6, f7, hidT_get e1 (free e1 (fun z => ?_) fun _ _ z => by rw [r2] at z; cases z), r1, r2, r3, r⟩
      rw [r2] at z
      cases z
      simp at r3
    · obtain ⟨m, ob, b1, b2, b3, b4, b5, b6⟩ := bm
      refine ⟨m, ob, b1, b2, fun z => ?_, fun z => ?_, hidT_get b3 (free b3 (fun z => by rw [b6] at z; cases z) fun _ _ z => by rw [b6] at z; cases z), b4, b5, b6⟩
      · obtain ⟨o, es, ep', e, d, _⟩ := hns
        rw [z, e] at b3; cases b3
        rw [d] at b6; cases b6
      · rw [z, ep] at b3; cases b3; cases b6
  have e0 : Env0 P w K mg (hidT s1.heap H) callerA [] s1 H := ⟨rfl, md, fun _ _ e => of_hidT e, Nat.le_of_eq (hidT_size _ _), trivial, fun b z => absurd (show b ∈ ([] : List Addr) from z) List.not_mem_nil, ok, .of_eq hg⟩
  refine codeAny_mono ((F _ inB tB).go callerA [] s1 H ⟨[.ref a], []⟩ [.ref a] [.ref a] _ _ rfl hr e0 (hbi s1 (.ref a)) (.cons rfl .nil) (hs H (fun p hp => h1 (inT p hp)) sq)) fun r s2 z => ?_
  rcases r with r | r
  · obtain ⟨_, _, _, _, _, _, _, _, _, _, _, _, z⟩ := z
    exact z.elim
  · cases r with
    | next => exact z.elim
    | brk => exact z.elim
    | cont => exact z.elim
    | ret u =>
      obtain ⟨v, H2, os, bare, un, ok2, rv2, rfl⟩ := z
      obtain rfl : u = Value.bool true := rv2
      have kept : ∀ b o, b ∉ tb → s1.heap.get? b = some o → s2.heap.get? b = some o := fun b o m e => by
        by_cases y : b = a ∧ K.lookup a = none
        · obtain ⟨rfl, q⟩ := y
          have g2 := (ok2 b _ (un.frzs b _ _ (h2 q))).1
          rw [ha] at e; cases e
          exact g2
        · exact un.keep b o e (h3 m y) (fun z => absurd (show b ∈ ([] : List Addr) from z) List.not_mem_nil) (by simp)
      have grown : ∀ b ∈ tb, ∃ more : Array Value, s2.heap.get? b = some { cls := .none, data := .fields (#[] ++ more) } := fun b m => by
        obtain ⟨more, e⟩ := un.tbls b _ (h1 m)
        exact ⟨more, ok2 b _ e⟩
      refine ⟨rfl, ⟨fun b o e => ?_, fun b o e => ?_⟩, os, bare⟩
      · by_cases m : b ∈ tb
        · obtain ⟨more, e2⟩ := grown b m
          obtain ⟨p, hp, rfl⟩ := List.mem_map.mp m
          have ep := TF.em p hp
          have e' := e
          rw [ep] at e'
          cases e'
          exact .inr (.inl ⟨((TF.cd p hp).tab ep).isCodeTable, rfl, #[], more, rfl, e2⟩)
        · exact .inl (kept b o m e)
      · by_cases m : b ∈ tb
        · obtain ⟨more, e2⟩ := grown b m
          exact ⟨_, e2⟩
        · exact ⟨o, kept b o m e⟩
end
def spLawT (tb : List Addr) : Sp := fun vs H Q _ => ∃ (a : Addr) (ns : List Int), vs = [.ref a] ∧ ns.length ≤ 63 ∧ (∀ z ∈ ns, Builtin.Int.intBits z ≤ 1048576) ∧ SqL [] H a (ns.map V.int) ∧ (∀ b ∈ tb, H b = some (.tbl #[])) ∧ ∀ H', Q (.bl true) H'
theorem law_impT {T : Ct} (h1 : T.me = none) (h2 : T.gc = fun _ => none) {m : List SV → R} (h : ∀ ns : List Int, ns.length ≤ 63 → (∀ z ∈ ns, Builtin.Int.intBits z ≤ 1048576) → m [.sh (.list (ns.map .int))] = .val (.sh (.bool true))) : ∀ vs H Q E, spLawT T.tb vs H Q E → spV T 1 m vs H Q E := by
  rintro vs H Q E ⟨a, ns, rfl, n1, n2, s, tb, q⟩
  have nT : NoMe { T with tb := [] } := ⟨h1, rfl, h2⟩
  obtain ⟨G, as, gh, nm, mo, rp, hl, o⟩ := law_imp nT h [.ref a] H Q E ⟨a, ns, rfl, n1, n2, s, q⟩
  have rp2 : VRpAll T G [.ref a] as := by
    cases rp with
    | cons r1 rp =>
      cases rp
      refine .cons ?_ .nil
      rename_i a1
      cases a1 with
      | sh d => exact r1
      | ow _ => exact r1
      | rg _ => exact r1
      | ob c fs => exact r1
  refine ⟨G, as, gh, nm, ⟨⟨mo.1.1, fun P hP => ⟨#[], tb P hP, trivial, fun pos cv e => ?_⟩⟩, mo.2⟩, rp2, hl, ?_⟩
  · have e : codeAmong pos [] = some cv := e
    simp [codeAmong] at e
  · revert o
    cases m as with
    | err c => exact fun o => o
    | stuck => exact fun o => o
    | val v =>
      cases v with
      | sh d => exact fun o => o
      | ow d => exact fun o => o
      | ob c fs => exact fun o => o
      | rg r => exact fun o v S G' H' st nd nw r => o v S G' H' st nd nw (RRp.mono (T := T) (T' := { T with tb := [] }) (Same.refl _) rfl rfl _ _ _ r fun _ _ => rfl)
theorem walkT {l : PySem.W.OpenLaw} {q : Program} {loose : List Str} {XP : (Str → Option Value) → Heap → Prop} {YP : World → Heap → Prop} {d : DefRec} {K : Params → PySem.W.Frag} {k : Nat} (hr : Room k callerA) (hn : l.most = some 63) (hdf : d.params.defaults = [])
    (hY : ∀ (w : World) (h : Heap), YP w h → (K w.params).In h) (hL : ∀ w : World, noLst (K w.params) = true)
    (F : ∀ (w : World) (s0 : Shared) (mg mb : Str → Option Value) (fa : Addr) (h : Heap), (K w.params).In h → h.Ns mainGlobals mg → mg d.name = some (.ref fa) → PySem.W.Ground q loose [] XP w s0 mg mb h → YP w h →
      ∃ (fd : FuncData) (cs : List (Addr × Addr)), TabF (K w.params) h cs ∧ (∀ (s : Shared) (u : Value), BindsTo s fd ⟨[u], []⟩ [("_law_script", u)]) ∧ ∀ base : Heap, (K w.params).In base → (∀ p ∈ cs, LamX.TabB base mg p.1 p.2) → FnGd l.prog w (K w.params) mg base (L2.CX l.prog w) k fa fd ["_law_script"] (spLawT (cs.map (·.2)))) :
    PySem.W.WalkO q loose XP YP l.row.toRowW d [] (fun f vs => PySem.call f vs) := by
  refine Att.attach_callB hn hdf fun w s0 s1 mg mb fa o pm cd doc a vs ns G Y ho hd hcd hmg hobj hints hlen hbits hg => ?_
  obtain ⟨fd, cs, TF, hb, hF⟩ := F w s0 mg mb fa _ (hY w _ Y) G.T.g hmg G Y
  exact due_T (hY w _ Y) G.T.g G.T.b G.T.builtins G.T.nolimit hg TF G.T.bmain hobj hints (Nat.le_trans hlen (by decide)) hr hF hb fun H hT hS => ⟨a, ns, rfl, hlen, hbits, noLst_sq (hL w) hS, fun b m => by
    obtain ⟨p, hp, rfl⟩ := List.mem_map.mp m
    exact hT p hp, fun _ => rfl⟩
end VL
namespace VL
open PySem L2
/-! ### a lambda as a value, told from here on -/
section
variable {X : Cx} {pins : List (Addr × Obj)} {σ : L2.St} {H H' : Hp} {s s' : Shared}
theorem lam_make2 {c P : Addr} {params : Arguments} {body : Expr} {scope : Scope} {pos : Pos} {E : Value → Shared → Prop} {Q : Value → Shared → Prop} (I : Inv X pins σ H s) (TB : LamX.TabB X.base X.mg c P) (hcode : X.env.code = .ref c) (hP : ∃ ps, H P = some (.tbl ps) ∧ Good H ps)
    (hdef : defaultsOf params X.env = ([], [])) (hfree : ∀ y ∈ scope.names, y.2 = .free → ∃ c, X.env.cells.lookup y.1 = some c)
    (h : ∀ (f c1 b : Addr) (ob oc : Obj) (H1 : Hp) (s1 : Shared), Inv X pins σ H1 s1 → SameH H H1 → H f = none → Fresh H c1 → H1 f = some (.frz ob (.own f)) → (∃ pm ct, ob = PySem.W.kla_obj "<lambda>" (X.env.qual ++ "<lambda>") params body scope (cloFrom X.env.cells scope.names []) pm c1 ct) → H1 c1 = some (.frz oc (.own b)) → CdO oc → Q (.ref f) s1) :
    wpAny (model X.prog X.w) X.A (eval (.Lambda params body scope pos) X.env) Q E s := by
  obtain ⟨ps, hP, gd⟩ := hP
  have hT : s.heap.get? P = some { cls := .none, data := .fields ps } := I.hok P _ hP
  have bP := TB.bm.keeps I.bk
  refine PySem.W.kla_eval hdef ?_
  cases hc : codeAmong pos ps.toList with
  | none =>
    refine PySem.W.kla_makeFunction (mg := X.mg) (c := c) (P := P) (closure_ok hfree) I.ok.glob (I.mod.glob.keeps I.bk) hcode (TB.code.keeps I.bk) hT gd.1 hc TB.gP bP fun c1 ct h2 tk hx hge hlt hrec htb => ?_
    obtain ⟨c2, oc, vs, t, e2, hoc, hd, hv⟩ := hrec
    cases e2
    have s2 : s.heap.objs.size ≤ h2.objs.size := Nat.le_trans hge (Nat.le_of_lt hlt)
    have nc : H c1 = none := I.hok.fresh hge
    have cd : CdO oc := ⟨vs, _, t, hd, hv⟩
    have fP : h2.objs.size ≠ P := Nat.ne_of_gt (Nat.lt_of_lt_of_le (Heap.lt_size hT) s2)
    have I2 := grow_inv (t2 := tk) (more := #[rawInt pos.line, rawInt pos.col, .ref c1]) I hP hx htb hge hoc
    have gs := grow_same (pos := pos) hP nc cd
    have f0 := I2.hok.fresh (Nat.le_refl h2.objs.size)
    refine' h h2.objs.size c1 c1 _ oc (upd _ h2.objs.size (.frz _ (.own h2.objs.size))) _ (I2.laid (fun b u e => Heap.get?_push_of_some _ e) (Nat.le_refl _) ⟨Heap.get?_push_size _ (by rfl), _, Heap.get?_push_size _ (by rfl)⟩) (gs.trans (.of (same_upd f0 _))) (I.hok.fresh s2) (.inl nc) upd_same ⟨_, ct, by rfl⟩ ?_ cd
    rw [upd_ne (Nat.ne_of_lt hlt), upd_same]
  | some cv =>
    obtain ⟨c1, oc, a, rfl, hco, cd⟩ := gd.2 pos cv hc
    refine PySem.W.kla_makeFunctionHit (mg := X.mg) (c := c) (P := P) (closure_ok hfree) I.ok.glob (I.mod.glob.keeps I.bk) hcode (TB.code.keeps I.bk) hT gd.1 hc bP fun ct h2 tk hx s2 => ?_
    have f0 := I.hok.fresh s2
    refine' h h2.objs.size c1 a _ oc (upd _ h2.objs.size (.frz _ (.own h2.objs.size))) _ (I.laid (fun b u e => Heap.get?_push_of_some _ (hx b u e)) s2 ⟨Heap.get?_push_size _ (by rfl), _, Heap.get?_push_size _ (by rfl)⟩) (.of (same_upd f0 _)) f0 (.inr ⟨_, hco, oc, a, rfl⟩) upd_same ⟨_, ct, by rfl⟩ ?_ cd
    rw [upd_ne (ne_of_none hco f0)]; exact hco
end
/-! ### callables by their numbers -/
/-- a lambda of a def: its parameter, what it captures, where these stand in the def's names -/
structure LamD where
  p : Str
  ys : List Str
  js : List Nat
  params : Arguments
  body : Expr
  scope : Scope
inductive CS where
  | glob (x : Str)
  | lam (L : LamD)
def lamAt (X : Cx) (L : LamD) (f : Addr) (G : Hp) : Prop := ∃ ob oc c a b, G f = some (.frz ob (.own b)) ∧ (∃ pm ct, ob = PySem.W.kla_obj "<lambda>" (X.env.qual ++ "<lambda>") L.params L.body L.scope (cloFrom X.env.cells L.scope.names []) pm c ct) ∧ G c = some (.frz oc (.own a)) ∧ CdO oc
def frM (X : Cx) (tab : Nat → Option CS) : Nat → Addr → Hp → Prop := fun n f G => match tab n with
  | some (.glob x) => X.mg x = some (.ref f)
  | some (.lam L) => lamAt X L f G
  | none => False
theorem frM_mono (X : Cx) (tab : Nat → Option CS) : ∀ (n : Nat) (f : Addr) (G G' : Hp), Same G G' → frM X tab n f G → frM X tab n f G' := by
  intro n f G G' e h
  unfold frM at *
  split at h
  · rename_i q; exact h
  · obtain ⟨ob, oc, c, a, b, h1, h2, h3, h4⟩ := h
    exact ⟨ob, oc, c, a, b, e _ _ h1, h2, e _ _ h3, h4⟩
  · exact h
section
variable {X : Cx} {T : Ct} {EX : XK} {B : Hp × Hp} {e a b c o tg : Expr} {es : List Expr} {pos p p2 : Pos} {f g h : FE} {fs : List FE} {G H G1 H1 : Hp} {Q : VK} {st : Stmt} {sts : List Stmt} {s t : FS} {σ : L2.St} {env : VEnv}
theorem obRp_104 {v : V} {fs : List D} : ObRp T G v 104 fs ↔ ∃ (n : Nat) (f : Addr), fs = [.int n] ∧ v = .ref f ∧ T.fr n f G := by
  unfold ObRp XoR
  rw [if_neg (by decide), if_neg (by decide), if_neg (by decide), if_neg (by decide), if_pos (by decide), if_pos rfl]
theorem obRp_105 {v : V} {fs : List D} : ObRp T G v 105 fs ↔ ∃ (p : Addr) (xs : List V), v = .ref p ∧ G p = some (.lst xs) ∧ Paired (CaR T G) xs fs := by
  unfold ObRp XoR
  rw [if_neg (by decide), if_neg (by decide), if_neg (by decide), if_neg (by decide), if_pos (by decide), if_neg (by decide), if_pos rfl]
def vFn (n : Nat) : FE := fun _ => .val (.ob 104 [.int n])
theorem ve_lam {c0 P : Addr} {tab : Nat → Option CS} {n : Nat} {L : LamD} (hT : T.fr = frM X tab) (hn : tab n = some (.lam L)) (TB : LamX.TabB X.base X.mg c0 P) (hcode : X.env.code = .ref c0) (hP : P ∈ T.tb) (fr : ∀ y ∈ L.scope.names, y.2 = .free → X.env.scope.names.lookup y.1 = some .cell) (hdef : defaultsOf L.params X.env = ([], []) := by rfl) :
    VE X T EX B (.Lambda L.params L.body L.scope pos) (vFn n) := by
  refine ⟨fun pins s σ H Q I q => ?_⟩
  obtain ⟨G, env, S, o⟩ := q
  refine lam_make2 I TB hcode (S.me.2 P hP) hdef (fun y m z => I.ok.has _ (.inl (fr y m z))) fun f c1 b ob oc H1 s1 I1 sh nf fc hf eo hc cd => ?_
  have st1 : Step G H G H1 := ⟨sh, Same.refl _, sh.up S.gh (S.st.nm S.nb.1), fun _ a b => absurd a b, fun n => n⟩
  have st2 := Step.know st1 hf (.inl (.inl nf))
  have st3 := Step.know st2 hc (.inl fc)
  refine ⟨.ref f, H1, I1, rfl, o (.ref f) _ H1 st3 (obRp_104.mpr ⟨n, f, rfl, rfl, ?_⟩)⟩
  rw [hT]
  unfold frM
  rw [hn]
  refine ⟨ob, oc, c1, b, f, ?_, eo, upd_same, cd⟩
  by_cases z : f = c1
  · subst z
    rw [hf] at hc
    cases hc
    exact upd_same
  · rw [upd_ne z, upd_same]
theorem ve_cglob {tab : Nat → Option CS} {n : Nat} {x : Str} (hT : T.fr = frM X tab) (hn : tab n = some (.glob x)) (hg : Gl X x) (hx : ∃ g, X.mg x = some (.ref g)) (hd : (x == ("__debug__" : Str)) = false := by decide) : VE X T EX B (.Name x pos) (vFn n) := by
  obtain ⟨g, hx⟩ := hx
  refine pe_weak (pe_glob (v := .ref g) hg hx rfl hd) fun σ H Q q => ?_
  obtain ⟨G, env, S, o⟩ := q
  refine o (.ref g) G H (Step.refl S.gh) (obRp_104.mpr ⟨n, g, rfl, rfl, ?_⟩)
  rw [hT]; unfold frM; rw [hn]; exact hx
def cals : List SV → Option (List D)
  | [] => some []
  | .ob 104 [d] :: r => (cals r).map (d :: ·)
  | _ :: _ => none
theorem cals_ok : ∀ {as : List SV} {vs : List V} {ds : List D}, VRpAll T G vs as → cals as = some ds → Paired (CaR T G) vs ds
  | [], _, _, .nil, e => by cases e; exact .nil
  | a :: r, _, _, .cons h t, e => by
    unfold cals at e
    split at e
    · rename_i q; cases q
    · rename_i d r' q
      cases q
      obtain ⟨l, e1, rfl⟩ := Option.map_eq_some_iff.mp e
      obtain ⟨n, f, h1, h2, h3⟩ := obRp_104.mp h
      cases h1
      exact .cons ⟨n, f, rfl, h2, h3⟩ (cals_ok t e1)
    · cases e
theorem paired_len {α β : Type} {F : α → β → Prop} : ∀ {l₁ : List α} {l₂ : List β}, Paired F l₁ l₂ → l₁.length = l₂.length
  | _, _, .nil => rfl
  | _, _, .cons _ t => by simp [paired_len t]
theorem paired_app {α β : Type} {F : α → β → Prop} : ∀ {l₁ m₁ : List α} {l₂ m₂ : List β}, Paired F l₁ l₂ → Paired F m₁ m₂ → Paired F (l₁ ++ m₁) (l₂ ++ m₂)
  | _, _, _, _, .nil, h => h
  | _, _, _, _, .cons a t, h => .cons a (paired_app t h)
/-- a list of callables -/
def vLstC (fs : List FE) : FE := fun env => (evA fs env).b fun as => match cals as with
  | some ds => gl ds.length (.val (.ob 105 ds))
  | none => .stuck
theorem ve_lstC (h : VA X T EX B es fs) : VE X T EX B (.List es pos) (vLstC fs) := by
  refine pe_weak (pe_lst h) fun σ H Q q => args_use (r := fun xs H1 Q => xs.length ≤ sizeLine ∧ ∀ p, H1 p = none → Q (.ref p) (upd H1 p (.lst xs))) (fun vs as G H gh r o => ?_) q
  split at o
  · rename_i ds e
    have d := cals_ok r e
    unfold gl at o
    split at o
    · rename_i hl
      refine ⟨by rw [paired_len d]; exact Nat.le_of_lt (gl_line hl), fun p hp => ?_⟩
      exact o (.ref p) _ _ (Step.new gh hp (.lst vs)) (obRp_105.mpr ⟨p, vs, rfl, upd_same, Paired.mapP d fun _ _ z => z.mono (same_upd (same_none gh hp) _)⟩)
    · exact o.elim
  · exact o.elim
/-- two lists of callables, one behind the other -/
def vAddC (f g : FE) : FE := fun env => match f env, g env with
  | .val (.ob 105 as), .val (.ob 105 bs) => gl (as.length + bs.length) (.val (.ob 105 (as ++ bs)))
  | _, _ => .stuck
theorem ve_addC (ha : VE X T EX B a f) (hb : VE X T EX B b g) : VE X T EX B (.BinOp a .Add b pos) (vAddC f g) := by
  refine pe_weak (pe_op op_catR ha hb) fun σ H Q q => ?_
  obtain ⟨G, env, S, o⟩ := q
  unfold vAddC at o
  split at o
  · rename_i as bs ef eg
    refine ⟨G, env, S, ?_⟩
    rw [ef]
    refine fun x G1 H1 st1 r1 => ⟨G1, env, S.step st1, ?_⟩
    rw [eg]
    refine fun y G2 H2 st2 r2 => ?_
    unfold gl at o
    split at o
    case isFalse => exact o.elim
    rename_i hl
    obtain ⟨p, xs, rfl, g1, d1⟩ := obRp_105.mp (r1.mono st2.gg)
    obtain ⟨q, ys, rfl, g2, d2⟩ := obRp_105.mp r2
    have S2 := (S.step st1).step st2
    refine ⟨p, q, xs, ys, rfl, rfl, .inl (.inl (S2.gh _ _ g1)), .inl (.inl (S2.gh _ _ g2)), by rw [paired_len d1, paired_len d2]; exact Nat.le_of_lt (gl_line hl), fun l hl => ?_⟩
    exact o (.ref l) _ _ ((st1.trans st2).trans (Step.new S2.gh hl (.lst (xs ++ ys)))) (obRp_105.mpr ⟨l, _, rfl, upd_same, Paired.mapP (paired_app d1 d2) fun _ _ z => z.mono (same_upd (same_none S2.gh hl) _)⟩)
  · exact o.elim
end
end VL
namespace VL
open PySem L2
/-! ### a def that is handed callables -/
def lamM (js : List Nat) (fb : FE) : VEnv → List SV → R := fun env bs => match capS env js with
  | some cs => errOf (fb ((bs ++ cs).map some))
  | none => .stuck
/-- what a callable comes to -/
def CalOk (X : Cx) (T : Ct) (k : Nat) : CS → (VEnv → List SV → R) → Prop
  | .glob x, m => ∃ m0, m = (fun _ => m0) ∧ ∀ (B' : Heap) (fr : Nat → Addr → Prop) (G' : Hp), X.K.In B' → ∀ f, X.mg x = some (.ref f) → FnV X.prog X.w X.K X.mg B' (T.cal fr G') (k + 1) f 1 m0
  | .lam L, m => ∃ fb, m = lamM L.js fb ∧ LamOk X.N X.env.scope L.scope L.p L.ys L.js ∧
    (∀ (q : Str) (cl : List (Str × Addr)) (pm cv ct : Value) (us : List Value), us.length = 1 → bindArgs (PySem.W.kla_fn "<lambda>" q L.params L.body L.scope cl pm cv ct) ⟨us, []⟩ = pure ([L.p].zip us)) ∧
    ∀ (B' : Heap) (f c1 : Addr) (fr : Nat → Addr → Prop) (G' : Hp) (q : Str) (cl : List (Str × Addr)) (A : Around) (ou : List Env) (s : Shared) (H : Hp) (E : XK) (Bd : Hp × Hp), Room k (A.deeper (lamE q L.scope s.heap.objs.size f c1 cl)) → Cv (lamX X.prog X.w X.K X.mg B' (L.p :: L.ys) q L.scope f c1 cl A ou s H E) (T.cal fr G') E Bd → VE (lamX X.prog X.w X.K X.mg B' (L.p :: L.ys) q L.scope f c1 cl A ou s H E) (T.cal fr G') E Bd L.body fb
inductive Cals (X : Cx) (T : Ct) (k : Nat) : List CS → List (VEnv → List SV → R) → Prop
  | nil : Cals X T k [] []
  | cons {c : CS} {m : VEnv → List SV → R} {cs ms} (h : CalOk X T k c m) (t : Cals X T k cs ms) : Cals X T k (c :: cs) (m :: ms)
abbrev tabN (tab : List CS) : Nat → Option CS := fun n => tab[n]?
def askM (ms : List (VEnv → List SV → R)) (env : VEnv) : Nat → List SV → R := fun n => match ms[n]? with
  | some m => m env
  | none => fun _ => .stuck
def allC : List SV → Bool
  | [] => true
  | .sh _ :: r => allC r
  | .ob c _ :: r => decide (104 ≤ c) && allC r
  | _ => false
def keepR : R → R
  | .val (.sh d) => .val (.sh d)
  | .val (.ow ds) => .val (.ow ds)
  | _ => .stuck
def calA (n : Nat) (M : (Nat → List SV → R) → List SV → R) (ms : List (VEnv → List SV → R)) (fs : List FE) : FE := fun env => match evA fs env with
  | .val as => if as.length = n ∧ allC as = true then keepR (M (askM ms env) as) else .stuck
  | _ => .stuck
section
variable {X : Cx} {T T' : Ct} {EX : XK} {B : Hp × Hp} {pins : List (Addr × Obj)} {σ : L2.St} {G H H' : Hp} {s s' : Shared} {env : VEnv} {tab : List CS} {ms : List (VEnv → List SV → R)} {k : Nat}
theorem Cals.at (h : Cals X T k tab ms) : ∀ {n : Nat} {c : CS}, tab[n]? = some c → ∃ m, ms[n]? = some m ∧ CalOk X T k c m := by
  induction h with
  | nil => intro n c e; simp at e
  | cons h t ih =>
    intro n c e
    cases n with
    | zero => simp at e; subst e; exact ⟨_, rfl, h⟩
    | succ n => simpa using ih (n := n) (c := c) (by simpa using e)
theorem fnV_no {f : Addr} {base : Heap} {n : Nat} {ps : List Str} {fd : FuncData} {P : Program} {w : World} {K : PySem.W.Frag} {mg : Str → Option Value} (ho : ∃ oc od fd2 sl, base.get? f = some ⟨oc, od, .func fd2, sl⟩) (hb : Binds K fd ps []) : FnV P w K mg base T k f n fun _ => .stuck := by
  have no : ∀ vs H Q E, ¬ spV T n (fun _ => .stuck) vs H Q E := fun vs H Q E ⟨_, _, _, _, _, _, _, o⟩ => o
  exact ⟨fd, ps, ⟨fun vs H Q E h => absurd h (no vs H Q E), fun A outer s H args us vs Q E _ _ _ _ _ h => absurd h (no vs H Q E)⟩, ho, hb⟩
theorem ask_big (I : Inv X pins σ H s) (S : Sim T B G env σ H) (hfn : X.fn = fun _ => true) (hc : Cals X T k tab ms) :
    FnVs X.prog X.w X.K X.mg (bigB X s H) (T.cal (fun n f => frM X (tabN tab) n f G) (low G)) (k + 1) 1 (askM ms env) := by
  intro j f G' hfr
  have hfr : frM X (tabN tab) j f G := hfr
  have kin : X.K.In (bigB X s H) := (env_big I).mod.kin
  unfold frM at hfr
  split at hfr
  · rename_i x q
    obtain ⟨m, e1, m0, e2, h⟩ := hc.at q
    have : askM ms env j = m0 := by unfold askM; rw [e1, e2]
    rw [this]
    exact h _ _ _ kin f hfr
  · rename_i L q
    obtain ⟨m, e1, fb, e2, ok, hbi, hb⟩ := hc.at q
    obtain ⟨ob, oc, c, a, b, g1, eo, g2, cd⟩ := hfr
    obtain ⟨lc, fr, hj, lj⟩ := ok
    have hf := S.gh _ _ g1
    have gf : s.heap.get? f = some ob := (I.hok f _ hf).1
    have ff : f ∉ frs X.stack := fun m => by rw [I.stkFree f m] at hf; cases hf
    have lf : low H f = none := low_hid hf trivial
    have ea : askM ms env j = lamM L.js fb env := by unfold askM; rw [e1, e2]
    rw [ea]
    cases ec : capS env L.js with
    | none =>
      have : lamM L.js fb env = fun _ => .stuck := by funext bs; unfold lamM; rw [ec]
      rw [this]
      obtain ⟨pm, ct, rfl⟩ := eo
      exact fnV_no (ps := [L.p]) ⟨_, _, _, _, big_get gf lf ff⟩ (Binds.all (hbi X.env.qual [] pm pm ct))
    | some cs =>
      have : lamM L.js fb env = fun bs => errOf (fb ((bs ++ cs).map some)) := by funext bs; unfold lamM; rw [ec]
      rw [this]
      exact lam_big (fv := fun n f => frM X (tabN tab) n f G) I S hfn lc fr hj lj ec eo gf lf ff ⟨a, S.gh _ _ g2⟩ cd hbi fun B' q cl A ou s H E Bd => hb B' f c _ (low G) q cl A ou s H E Bd
  · exact hfr.elim
theorem c_other (hT : T.fr = frM X (tabN tab)) : ∀ {vs : List V} {as : List SV}, allC as = true → VRpAll T G vs as → VRpAll (T.cal (fun n f => frM X (tabN tab) n f G) (low G)) (low G) vs as
  | _, _, _, .nil => .nil
  | _, a :: as, n, .cons h t => by
    have hca : ∀ x d, CaR T G x d → CaR (T.cal (fun n f => frM X (tabN tab) n f G) (low G)) (low G) x d := fun x d ⟨m, f, h1, h2, h3⟩ => ⟨m, f, h1, h2, by rw [hT] at h3; exact h3⟩
    cases a with
    | sh d => exact .cons (show Dq (low G) _ d from dq_low h) (c_other hT n t)
    | ow _ => cases n
    | rg _ => cases n
    | ob c fs =>
      unfold allC at n
      rw [Bool.and_eq_true, decide_eq_true_eq] at n
      refine .cons ?_ (c_other hT n.2 t)
      have n1 := n.1
      have h : ObRp T G _ c fs := h
      show ObRp _ _ _ c fs
      unfold ObRp XoR at *
      rw [if_neg (by omega), if_neg (by omega), if_neg (by omega), if_neg (by omega), if_pos n1] at h ⊢
      split at h
      · rename_i z; rw [if_pos z]
        obtain ⟨m, f, h1, h2, h3⟩ := h
        exact ⟨m, f, h1, h2, by rw [hT] at h3; exact h3⟩
      rename_i z; rw [if_neg z]
      split at h
      · rename_i z; rw [if_pos z]
        obtain ⟨p, xs, h1, h2, h3⟩ := h
        exact ⟨p, xs, h1, low_at h2 fun z => z, Paired.mapP h3 hca⟩
      rename_i z; rw [if_neg z]
      split at h
      · rename_i z; rw [if_pos z]
        obtain ⟨p, h1, h2⟩ := h
        exact ⟨p, h1, low_at h2 fun z => z⟩
      rename_i z; rw [if_neg z]
      obtain ⟨p, xs, h1, h2, h3⟩ := h
      exact ⟨p, xs, h1, low_at h2 fun z => z, Paired.mapP h3 fun _ _ z => thR_low z⟩
theorem ve_callA {x : Str} {n kf : Nat} {M : (Nat → List SV → R) → List SV → R} {e : Expr} {es : List Expr} {p0 pos : Pos} {fs : List FE}
    (C : Cv X T EX B) (hr : Room kf X.A) (hg : Gl X x) (hx : ∃ g, X.mg x = some (.ref g) ∧ PySem.W.keepIn X.K (.ref g) = true)
    (hF : ∀ (B' : Heap) (fr : Nat → Addr → Prop) (G' : Hp) (m1 : Nat → List SV → R), FnVs X.prog X.w X.K X.mg B' (T.cal fr G') (k + 1) 1 m1 → Fn X.prog X.w X.K X.mg B' (T.cal fr G') kf x n (M m1))
    (hfn : X.fn = fun _ => true) (hT : T.fr = frM X (tabN tab)) (hc : Cals X T k tab ms) (ha : VA X T EX B (e :: es) fs)
    (hd : (x == ("__debug__" : Str)) = false := by decide) (hs : starEach (e :: es) X.env = (false, eval e X.env) :: starEach es X.env := by rfl) (hpl : ((backTo pos (starEach es X.env)).any fun z => z.1) = false := by rfl) :
    VE X T EX B (.Call (.Name x p0) (e :: es) [] pos) (calA n M ms fs) := by
  obtain ⟨g, hm, hk⟩ := hx
  refine ⟨fun pins s σ H Q I h => ?_⟩
  obtain ⟨G, env, Sm, o⟩ := h
  unfold calA at o
  split at o
  rotate_left
  · exact o.elim
  rename_i as ea
  split at o
  case isFalse => exact o.elim
  rename_i cond
  refine wpAny_Call_Name_kw (ld_glob I hg hm ?_ hd)
  refine PySem.W.callWith_K (h₀ := X.base) I.ok.mod.kin hk ?_ hs hpl
  refine wpAny_mono (ha.run pos _ s σ H (fun vs H2 => ∃ G2, Step G H G2 H2 ∧ VRpAll T G2 vs as) I ⟨G, env, Sm, ?_⟩) (fun us s2 ⟨vs, H2, I2, rv, G2, st2, rp⟩ => ?_) fun _ _ z => z
  · rw [ea]
    exact fun vs G' H' st rp => ⟨G', st, rp⟩
  refine ⟨I2.kIn, ?_⟩
  have S2 := Sm.step st2
  have V := ask_big I2 S2 hfn hc
  obtain ⟨g2, fd, ps, Fg, hm2, hk2, hb2⟩ := hF (bigB X s2 H2) _ (low G2) _ V
  rw [hm] at hm2
  cases hm2
  refine run_big (CX := L2.CX X.prog X.w) (Q := Q) I2 Fg C.gd hr hb2 (us := us) (xs := vs) rv ?_
  refine ⟨low G2, as, low_sub S2.gh, low_nm (S2.st.nm S2.nb.1), me_cal S2, c_other hT cond.2 rp, cond.1, ?_⟩
  revert o
  generalize M (askM ms env) as = rr
  intro o
  cases rr with
  | err c => exact o.elim
  | stuck => exact o.elim
  | val v =>
    cases v with
    | sh d => exact out_back (EX := EX) S2.gh (fun v z => by cases z; exact .inl ⟨d, rfl⟩) (fun c z => nomatch z) (Out.step o st2)
    | ow ds => exact out_back (EX := EX) S2.gh (fun v z => by cases z; exact .inr ⟨ds, rfl⟩) (fun c z => nomatch z) (Out.step o st2)
    | ob _ _ => exact o.elim
    | rg _ => exact o.elim
end
end VL
namespace VL
open PySem L2
/-! ### a walk over things: {} among data, callables -/
def WalksQ (R : Hp → V → D → Prop) (J : It) (G : Hp) (ds : List D) : Prop :=
  Walk J ds.length (fun H => Same G H) (fun i H x H' => ∀ Gc, Same G Gc → Same Gc H → ∃ d Gc', ds[i]? = some d ∧ Step Gc H Gc' H' ∧ R Gc' x d)
def OutIQ (R : Hp → V → D → Prop) (r : Option (List D)) (G H : Hp) (Q : It → Hp → Prop) : Prop := match r with
  | some ds => ∀ J G' H', Step G H G' H' → WalksQ R J G' ds → Q J H'
  | none => False
abbrev FQ := VEnv → Option (List D)
def rdIQ (R : Hp → V → D → Prop) (T : Ct) (B : Hp × Hp) (f : FQ) : TI := fun σ H Q => ∃ G env, Sim T B G env σ H ∧ OutIQ R (f env) G H Q
def VIQ (R : Hp → V → D → Prop) (X : Cx) (T : Ct) (B : Hp × Hp) (tg e : Expr) (f : FQ) : Prop := PI X tg e (rdIQ R T B f)
def TgRunQ (R : Hp → V → D → Prop) (T : Ct) (B : Hp × Hp) (g : TG) (is : List Nat) (t : Tg) : Prop := ∀ {G : Hp} {env : VEnv} {σ : L2.St} {H : Hp} {v : V} {d : D} {env' : VEnv} {Q : L2.St → Hp → Prop}, Sim T B G env σ H → R G v d → t d env = some env' → (∀ σ', Sim T B G env' σ' H → SetIn is σ σ' → Q σ' H) → g v σ H Q
/-- {} or data -/
def thSV : D → SV
  | .dict _ => .ob 106 []
  | d => .sh d
@[simp] def tgT (i : Nat) : Tg := fun d env => some (env.set i (some (thSV d)))
@[simp] def tgC (i : Nat) : Tg := fun d env => some (env.set i (some (.ob 104 [d])))
def itC (f : FE) : FQ := fun env => match f env with
  | .val (.ob 105 ds) => some ds
  | _ => none
def itT (f : FE) : FQ := fun env => match f env with
  | .val (.ob 107 ds) => some ds
  | .val (.sh (.list ds)) => some ds
  | .val (.ow ds) => some ds
  | _ => none
def sForQ (t : Tg) (it : FQ) (b : FS) : FS := fun env => match it env with
  | some ds => forL t b ds env
  | none => .stuck
def vLcQ (vs : List Nat) (t : Tg) (it : FQ) (e : FE) : FE := fun env => match it env with
  | some ds => if ds.length ≤ 1000000 then (match lcGo t (vC (.bool true)) e (wipeE env vs) ds with
    | some ys => .val (.ow ys)
    | none => .stuck) else .stuck
  | none => .stuck
section
variable {X : Cx} {T : Ct} {EX : XK} {B : Hp × Hp} {e a b c o tg : Expr} {es : List Expr} {pos p p2 : Pos} {f g h : FE} {fs : List FE} {G H G1 H1 : Hp} {Q : VK} {st : Stmt} {sts : List Stmt} {s t : FS} {σ : L2.St} {env : VEnv} {R : Hp → V → D → Prop}
theorem obRp_106 {v : V} {fs : List D} : ObRp T G v 106 fs ↔ ∃ p, v = .ref p ∧ G p = some (.dK []) := by
  unfold ObRp XoR
  rw [if_neg (by decide), if_neg (by decide), if_neg (by decide), if_neg (by decide), if_pos (by decide), if_neg (by decide), if_neg (by decide), if_pos rfl]
theorem obRp_107 {v : V} {fs : List D} : ObRp T G v 107 fs ↔ ∃ p xs, v = .ref p ∧ G p = some (.lst xs) ∧ Paired (ThR G) xs fs := by
  unfold ObRp XoR
  rw [if_neg (by decide), if_neg (by decide), if_neg (by decide), if_neg (by decide), if_pos (by decide), if_neg (by decide), if_neg (by decide), if_neg (by decide)]
theorem tr_T {i : Nat} : TgRunQ ThR T B (gName i) [i] (tgT i) := by
  intro G env σ H v d env' Q S dq e q
  cases e
  rcases dq with ⟨rfl, a, rfl, ga⟩ | dq
  · exact q _ (S.setOb (obRp_106.mpr ⟨a, rfl, ga⟩)) .one
  · have : thSV d = .sh d := by
      cases d with
      | dict x => exact absurd dq.ok (by simp [PyData.canLay0])
      | _ => rfl
    rw [this] at q
    exact q _ (S.setSh dq) .one
theorem tr_C {i : Nat} : TgRunQ (CaR T) T B (gName i) [i] (tgC i) := by
  intro G env σ H v d env' Q S dq e q
  cases e
  obtain ⟨n, f, h1, h2, h3⟩ := dq
  subst h1
  exact q _ (S.setOb (obRp_104.mpr ⟨n, f, rfl, h2, h3⟩)) .one
theorem paired_get {α β : Type} {F : α → β → Prop} : ∀ {l₁ : List α} {l₂ : List β} {i : Nat} {b : β}, Paired F l₁ l₂ → l₂[i]? = some b → ∃ a, l₁[i]? = some a ∧ F a b
  | _, _, _, _, .nil, e => by simp at e
  | _, _, 0, _, .cons h t, e => by simp at e; subst e; exact ⟨_, rfl, h⟩
  | _, _, i + 1, _, .cons h t, e => by simpa using paired_get (i := i) t (by simpa using e)
theorem walksQ {K : PySem.W.Frag} {l : Addr} {xs : List V} {ds : List D} (hm : ∀ G G' v d, Same G G' → R G v d → R G' v d) (s : SqL [] G l xs) (q : Paired (R G) xs ds) : WalksQ R (Itl K l) G ds := by
  unfold WalksQ
  rw [← paired_len q]
  refine walk_list.mono (fun H e => sqL_K (e.seq s)) fun i H x H' hi gh y Gc h1 h2 => ?_
  obtain ⟨rfl, e⟩ := y
  obtain ⟨d, hd⟩ : ∃ d, ds[i]? = some d := ⟨ds[i]'(by rw [← paired_len q]; exact hi), List.getElem?_eq_getElem _⟩
  obtain ⟨v, hv, dv⟩ := paired_get q hd
  rw [e] at hv; cases hv
  exact ⟨d, Gc, hd, Step.refl h2, hm _ _ _ _ h1 dv⟩
theorem viC (ha : VE X T EX B a f) : VIQ (CaR T) X T B tg a (itC f) := pi_weak (pi_list ha) fun σ H R q => by
  obtain ⟨G, env, S, o⟩ := q
  refine ⟨G, env, S, ?_⟩
  unfold itC at o
  split at o
  · rename_i ds ef
    rw [ef]
    refine fun v G1 H1 st r => ?_
    obtain ⟨l, xs, rfl, gl, pr⟩ := obRp_105.mp r
    exact ⟨l, rfl, ⟨xs, .inl (.inl (st.gh _ _ gl))⟩, o _ G1 H1 st (walksQ (fun _ _ _ _ s h => h.mono s) (.inl (.inl gl)) pr)⟩
  · exact o.elim
theorem th_of {xs : List V} : ∀ {ds : List D} {xs : List V}, DqAll G xs ds → Paired (ThR G) xs ds
  | [], _, h => by rw [h.inv0]; exact .nil
  | _ :: _, _, h => by
    obtain ⟨v, vs', rfl, h1, h2⟩ := h.inv
    exact .cons (.inr h1) (th_of (xs := vs') h2)
theorem viT (ha : VE X T EX B a f) : VIQ ThR X T B tg a (itT f) := pi_weak (pi_list ha) fun σ H R q => by
  obtain ⟨G, env, S, o⟩ := q
  refine ⟨G, env, S, ?_⟩
  have mo : ∀ (G G' : Hp) (v : V) (d : D), Same G G' → ThR G v d → ThR G' v d := fun _ _ _ _ s h => h.mono s
  unfold itT at o
  split at o
  · rename_i ds ef
    rw [ef]
    refine fun v G1 H1 st r => ?_
    obtain ⟨l, xs, rfl, gl, pr⟩ := obRp_107.mp r
    exact ⟨l, rfl, ⟨xs, .inl (.inl (st.gh _ _ gl))⟩, o _ G1 H1 st (walksQ mo (.inl (.inl gl)) pr)⟩
  · rename_i ds ef
    rw [ef]
    refine fun v G1 H1 st r => ?_
    obtain ⟨l, xs, rfl, sq, q1⟩ := r.lstInv
    exact ⟨l, rfl, ⟨xs, sqL_K (st.gh.seq sq)⟩, o _ G1 H1 st (walksQ mo sq (th_of (xs := xs) q1))⟩
  · rename_i ds ef
    rw [ef]
    refine Out.fz fun v G1 H1 st r => ?_
    obtain ⟨l, xs, rfl, sq, q1⟩ := Dq.lstInv r
    exact ⟨l, rfl, ⟨xs, sqL_K (st.gh.seq sq)⟩, o _ G1 H1 st (walksQ mo sq (th_of (xs := xs) q1))⟩
  · exact o.elim
theorem vs_forQ {body : List Stmt} {gt : TG} {is : List Nat} {tt : Tg} {it : FQ} (C : Cv X T EX B) (po : PassesOwn (model X.prog X.w) X.A X.env X.xe) (hi : VIQ R X T B tg a it) (hr : TgRunQ R T B gt is tt) (hg : PG X tg gt) (hb : VSs X T EX B body s) (hs : ∀ x, foldedSetIterable a X.env x = pure x := by intro _; rfl) :
    VS X T EX B (.For tg a body [] pos) (sForQ tt it s) := ps_weak (ps_for po C.calm hi hg hb hs) fun D σ H q => by
  obtain ⟨G, env, S, o⟩ := q
  refine ⟨G, env, S, ?_⟩
  unfold sForQ at o
  revert o
  cases it env with
  | none => exact fun o => o
  | some ds =>
    intro o J G1 H1 s1 wk
    dsimp only at o
    refine for_it wk (fun i σ H => ∃ Gc env', Sim T B Gc env' σ H ∧ Same G1 Gc ∧ OutS T EX B (forL tt s (ds.drop i) env') Gc D) ⟨G1, env, S.step s1, Same.refl _, o.step s1.gg⟩ ?_ ?_ ?_
    · rintro i σ H _ ⟨Gc, env', S', sg, _⟩
      exact sg.trans S'.gh
    · rintro i x σ Hc H' hi ⟨Gc, env', S', sg, o'⟩ y
      obtain ⟨d, Gd, hd, sd, dx⟩ := y Gc sg S'.gh
      have ed : ds.drop i = d :: ds.drop (i + 1) := by
        have hi' : i < ds.length := hi
        rw [List.drop_eq_getElem_cons hi']
        rw [List.getElem?_eq_getElem hi'] at hd
        cases hd; rfl
      rw [ed] at o'
      unfold forL at o'
      split at o'
      · exact o'.elim
      · rename_i env2 e2
        refine hr (S'.step sd) dx e2 fun σ2 S2 _ => ⟨Gd, env2, S2, ?_⟩
        revert o'
        cases s env2 with
        | nx e3 => exact fun o' G' σ' H' sg' S3 => ⟨G', e3, S3, (sg.trans sd.gg).trans sg', o'.step (sd.gg.trans sg')⟩
        | rt v => exact fun o' => o'
        | err c => exact fun o' => o'
        | stuck => exact fun o' => o'
    · rintro σ H ⟨Gc, env', S', sg, o'⟩
      rw [List.drop_length] at o'
      exact o' Gc σ H (Same.refl _) S'
theorem lc_useQ {vs is : List Nat} {t : Tg} {it : FQ} {e : FE} {gt : TG} {σ : L2.St} (hg : TgRunQ R T B gt is t)
    (hsub : ∀ i ∈ is, i ∈ vs) (q : rdV T EX B (vLcQ vs t it e) σ H Q) : tLc (rdIQ R T B it) gt (rdT T E0 B (vC (.bool true))) (rdV T E0 B e) vs σ H Q := by
  obtain ⟨G, env, S, o⟩ := q
  refine ⟨G, env, S, ?_⟩
  unfold vLcQ at o
  revert o
  cases it env with
  | none => exact fun o => o
  | some ds =>
    intro o J G1 H1 s1 wk D hD
    dsimp only at o
    split at o
    rotate_left
    · exact o.elim
    rename_i hlen
    split at o
    rotate_left
    · exact o.elim
    rename_i total et
    have S1 := S.step s1
    have W1 := S1.wipe vs
    refine lc_it wk (fun i Hc => ∃ Gc acc ys zs, Step G1 H1 Gc Hc ∧ Hc D = some (.lst acc) ∧ Gc D = none ∧ DqAll Gc acc ys ∧ ys.length ≤ i ∧ lcGo t (vC (.bool true)) e (wipeE env vs) (ds.drop i) = some zs ∧ ys ++ zs = total) ?_ ?_ ?_ ?_
    · exact ⟨G1, [], [], total, Step.apart S1.gh hD _, upd_same, same_none S1.gh hD, .nil, Nat.le_refl _, et, rfl⟩
    · rintro i Hc hi ⟨Gc, acc, ys, zs, st, _⟩
      exact st.gg.trans st.gh
    · rintro i x Hc H' hi ⟨Gc, acc, ys, zs, st, hDc, gD, dq, hyl, el, ez⟩ y
      obtain ⟨d, Gd, hd, sd, dx⟩ := y Gc st.gg st.gh
      have ed : ds.drop i = d :: ds.drop (i + 1) := by
        have hi' : i < ds.length := hi
        rw [List.drop_eq_getElem_cons hi']
        rw [List.getElem?_eq_getElem hi'] at hd
        cases hd; rfl
      rw [ed] at el
      obtain ⟨env', e1, hc⟩ := lcGo_cons el
      have sS : Sim T B Gd (wipeE env vs) (L2.wipe σ vs) H' := (W1.step st).step sd
      obtain ⟨gD', hD'⟩ := sd.own gD hDc
      refine hg sS dx e1 fun σ' S' hset => ⟨wipe_eq hset hsub, Gd, env', S', ?_⟩
      rcases hc with ⟨hc, y, zs', e3, e4, rfl⟩ | ⟨hc, e4⟩
      · rw [hc]
        intro G3 H3 s3
        refine iteT ⟨G3, env', S'.step s3, ?_⟩
        obtain ⟨gD3, hD3⟩ := s3.own gD' hD'
        have fin : ∀ v G4 H4, Step G3 H3 G4 H4 → Dq G4 v y → ∃ acc, H4 D = some (.lst acc) ∧ acc.length < sizeLine ∧ ∃ Gc acc' ys zs, Step G1 H1 Gc (upd H4 D (.lst (acc ++ [v]))) ∧ upd H4 D (.lst (acc ++ [v])) D = some (.lst acc') ∧ Gc D = none ∧ DqAll Gc acc' ys ∧ ys.length ≤ i + 1 ∧ lcGo t (vC (.bool true)) e (wipeE env vs) (ds.drop (i + 1)) = some zs ∧ ys ++ zs = total := by
          intro v G4 H4 s4 dv
          obtain ⟨gD4, hD4⟩ := s4.own gD3 hD3
          have st4 := ((st.trans sd).trans s3).trans s4
          have dq4 := ((dq.mono sd.gg).mono s3.gg).mono s4.gg
          refine ⟨acc, hD4, by rw [dq.length]; exact gl_line (by omega), G4, acc ++ [v], ys ++ [y], zs', ⟨st4.hh.wr hD _ (by rw [hD4]; exact fun _ _ => lst_code), st4.gg, fun b u z => ?_, st4.nw, st4.nm⟩, upd_same, gD4, dq4.append (.cons dv .nil), ?_, e4, ?_⟩
          · rw [upd_ne (ne_of_none z gD4)]; exact st4.gh b u z
          · rw [List.length_append, List.length_singleton]; omega
          · rw [← ez, List.append_assoc]; rfl
        cases ee : e env' with
        | val w =>
          refine Out.fz fun v G4 H4 s4 dv => fin v G4 H4 s4 ?_
          rw [ee] at e3
          cases w with
          | sh d => cases e3; exact dv
          | ow ds => cases e3; exact dv
          | ob _ _ => cases e3
          | rg r =>
            have z := RD.fzv_of (r := r) (d := y) e3
            simp only [SV.fz, z] at dv
            exact dv
        | err _ => rw [ee] at e3; cases e3
        | stuck => rw [ee] at e3; cases e3
      · cases hc
    · rintro Hc ⟨Gc, acc, ys, zs, st, hDc, gD, dq, hyl, el, ez⟩
      rw [List.drop_length] at el
      cases el
      rw [List.append_nil] at ez
      subst ez
      exact o D acc Gc Hc (s1.trans st) (SameH.free s1.hh hD) gD hDc dq
theorem ve_lcQ {elt iter : Expr} {scope : Scope} {own : List (Str × Nat)} {gt : TG} {is : List Nat} {t : Tg} {it : FQ} {fe : FE} (C : Cv X T EX B) (hi : VIQ R X T B tg iter it) (ok : BlkOk X.N X.env.scope scope own)
    (hr : TgRunQ R T B gt is t) (hg : ∀ (s : Shared) (H : Hp) (C : Addr) (cl : List (Str × Addr)) (fp : List Addr), PG (X.blk s H scope (compEnvC scope cl C X.env) fp) tg gt)
    (he : ∀ (s : Shared) (H : Hp) (C : Addr) (cl : List (Str × Addr)) (fp : List Addr), VE (X.blk s H scope (compEnvC scope cl C X.env) fp) T E0 B elt fe) (hsub : ∀ i ∈ is, i ∈ own.map (·.2) := by decide) (hs : ∀ x, foldedSetIterable iter X.env x = pure x := by intro _; rfl) :
    VE X T EX B (.ListComp elt [⟨tg, iter, [], 0⟩] scope pos) (vLcQ (own.map (·.2)) t it fe) := by
  exact pe_weak (pe_lc C.calm C.nd hi ok hg (fun _ _ _ _ _ => vts_nil) he hs) fun σ H Q q => lc_useQ hr hsub q
end
end VL
namespace VL
open PySem L2
/-! ### {} and lists of things -/
def vD0 : FE := fun _ => .val (.ob 106 [])
def thOf : SV → Option D
  | .sh d => some d
  | .ob c _ => if c = 106 then some (.dict []) else none
  | _ => none
def thsOf : List SV → Option (List D)
  | [] => some []
  | a :: r => match thOf a, thsOf r with
    | some d, some ds => some (d :: ds)
    | _, _ => none
def vLstT (fs : List FE) : FE := fun env => (evA fs env).b fun as => match thsOf as with
  | some ds => gl ds.length (.val (.ob 107 ds))
  | none => .stuck
def vAddT (f g : FE) : FE := fun env => match itT f env, itT g env with
  | some as, some bs => gl (as.length + bs.length) (.val (.ob 107 (as ++ bs)))
  | _, _ => .stuck
/-- isinstance, {} among what is asked -/
@[simp] def vIsT (t : D → Bool) (f : FE) : FE := fun env => match f env with
  | .val (.ob 106 _) => rb (t (.dict []))
  | r => r.d fun d => rb (t d)
/-- a def of a thing: {} is told first -/
@[simp] def sThF (r : SV) (s : FS) : FS := fun env => match env with
  | [some (.ob 106 _), none, none, none] => .rt r
  | _ => s env
def rNeN : R2 := fun x y H Q => ∃ a b xs, x = .ref a ∧ y = .ref b ∧ SqL [] H a xs ∧ SqL [] H b [] ∧ xs ≠ [] ∧ Q (.bl true) H
section
variable {X : Cx} {T : Ct} {EX : XK} {B : Hp × Hp} {e a b c o tg : Expr} {es : List Expr} {pos p p2 : Pos} {f g h : FE} {fs : List FE} {G H G1 H1 : Hp} {Q : VK} {st : Stmt} {sts : List Stmt} {s t : FS} {σ : L2.St} {env : VEnv} {R : Hp → V → D → Prop}
theorem op_neN (hu : X.A.units + 150 < cLine) : OpR X (compareOp .NotEq) rNeN := by
  intro pins s σ H x y v u Q I rx ry h
  obtain ⟨a, b, xs, rfl, rfl, h1, h2, ne, q⟩ := h
  cases rx
  cases ry
  obtain ⟨its, rv, hl, _⟩ := I.list (sqL_K h1)
  obtain ⟨its2, rv2, hl2, _⟩ := I.list (sqL_K h2)
  have l1 := rv.length
  have l2 := rv2.length
  have n1 : xs.length ≠ 0 := fun z => ne (List.length_eq_zero_iff.mp z)
  refine SeqAt.RcNeAt.lists_lengths hl.isList hl2.isList ?_ (by omega) X.prog X.w _ _ ⟨.bl true, H, I, rfl, q⟩
  simp only [List.size_toArray, bne_iff_ne, ne_eq]
  simp only [List.length_nil] at l2
  omega
theorem ve_d0 : VE X T EX B (.Dict [] [] pos) vD0 := pe_weak pe_dnewK fun σ H Q q => by
  obtain ⟨G, env, S, o⟩ := q
  exact fun p hp => o (.ref p) _ _ (Step.new S.gh hp (.dK [])) (obRp_106.mpr ⟨p, rfl, upd_same⟩)
theorem ths_ok : ∀ {as : List SV} {vs : List V} {ds : List D}, VRpAll T G vs as → thsOf as = some ds → Paired (ThR G) vs ds
  | [], _, _, .nil, e => by cases e; exact .nil
  | a :: r, _, _, .cons h t, e => by
    unfold thsOf at e
    split at e
    · rename_i d ds e1 e2
      cases e
      refine .cons ?_ (ths_ok t e2)
      unfold thOf at e1
      split at e1
      · cases e1; exact .inr h
      · split at e1
        · rename_i z
          cases e1
          subst z
          obtain ⟨p, h1, h2⟩ := obRp_106.mp h
          exact .inl ⟨rfl, p, h1, h2⟩
        · cases e1
      · cases e1
    · cases e
theorem ve_lstT (h : VA X T EX B es fs) : VE X T EX B (.List es pos) (vLstT fs) := by
  refine pe_weak (pe_lst h) fun σ H Q q => args_use (r := fun xs H1 Q => xs.length ≤ sizeLine ∧ ∀ p, H1 p = none → Q (.ref p) (upd H1 p (.lst xs))) (fun vs as G H gh r o => ?_) q
  split at o
  · rename_i ds e
    have d := ths_ok r e
    unfold gl at o
    split at o
    · rename_i hl
      refine ⟨by rw [paired_len d]; exact Nat.le_of_lt (gl_line hl), fun p hp => ?_⟩
      exact o (.ref p) _ _ (Step.new gh hp (.lst vs)) (obRp_107.mpr ⟨p, vs, rfl, upd_same, Paired.mapP d fun _ _ z => z.mono (same_upd (same_none gh hp) _)⟩)
    · exact o.elim
  · exact o.elim
/-- a list of things, by its places -/
theorem itT_use {as : List D} {Q : VK} (S : Sim T B G env σ H) (e : itT f env = some as) (k : ∀ v G1 H1 xs l, Step G H G1 H1 → v = .ref l → SqL [] G1 l xs → Paired (ThR G1) xs as → Q v H1) : rdV T EX B f σ H Q := by
  refine ⟨G, env, S, ?_⟩
  unfold itT at e
  split at e
  · rename_i ds ef
    cases e
    rw [ef]
    refine fun v G1 H1 st r => ?_
    obtain ⟨l, xs, rfl, gl, pr⟩ := obRp_107.mp r
    exact k _ G1 H1 xs l st rfl (.inl (.inl gl)) pr
  · rename_i ds ef
    cases e
    rw [ef]
    refine fun v G1 H1 st r => ?_
    obtain ⟨l, xs, rfl, sq, q1⟩ := r.lstInv
    exact k _ G1 H1 xs l st rfl sq (th_of (xs := xs) q1)
  · rename_i ds ef
    cases e
    rw [ef]
    refine Out.fz fun v G1 H1 st r => ?_
    obtain ⟨l, xs, rfl, sq, q1⟩ := Dq.lstInv r
    exact k _ G1 H1 xs l st rfl sq (th_of (xs := xs) q1)
  · cases e
theorem ve_addT (ha : VE X T EX B a f) (hb : VE X T EX B b g) : VE X T EX B (.BinOp a .Add b pos) (vAddT f g) := by
  refine pe_weak (pe_op op_catR ha hb) fun σ H Q q => ?_
  obtain ⟨G, env, S, o⟩ := q
  unfold vAddT at o
  split at o
  · rename_i as bs ef eg
    refine itT_use S ef fun x G1 H1 xs l st1 hx s1 r1 => itT_use (S.step st1) eg fun y G2 H2 ys l2 st2 hy s2 r2 => ?_
    unfold gl at o
    split at o
    case isFalse => exact o.elim
    rename_i hl
    have S2 := (S.step st1).step st2
    have r1' : Paired (ThR G2) xs as := Paired.mapP r1 fun _ _ z => z.mono st2.gg
    refine ⟨l, l2, xs, ys, hx, hy, S2.gh.seq (st2.gg.seq s1), S2.gh.seq s2, by rw [paired_len r1', paired_len r2]; exact Nat.le_of_lt (gl_line hl), fun q hq => ?_⟩
    exact o (.ref q) _ _ ((st1.trans st2).trans (Step.new S2.gh hq (.lst (xs ++ ys)))) (obRp_107.mpr ⟨q, _, rfl, upd_same, Paired.mapP (paired_app r1' r2) fun _ _ z => z.mono (same_upd (same_none S2.gh hq) _)⟩)
  · exact o.elim
theorem ve_isT {x : Str} {n : String} {t : D → Bool} {p1 : Pos} (ty : Ty n t) (bi : Bt X "isinstance") (bt : Bt X x) (hv : bootBuiltins x = some (.type n)) (ha : VE X T EX B a f)
    (hs : starEach [a, .Name x p1] X.env = (false, eval a X.env) :: starEach [.Name x p1] X.env := by rfl) (hn : x ≠ "__name__" := by decide) (hd : (x == ("__debug__" : Str)) = false := by decide) : VE X T EX B (.Call (.Name "isinstance" p) [a, .Name x p1] [] pos) (vIsT t f) := by
  refine pe_weak (pe_callB call_isi bi.gl bi.mg PyProof.Rows.boot_isinstance (pa_cons ha (pa_cons (pe_bltn (v := .ty n) bt.gl bt.mg hv rfl hn hd) pa_nil rfl) hs) (by decide) (by decide) hs rfl) fun σ H Q q => ?_
  obtain ⟨G, env, S, o⟩ := q
  unfold vIsT at o
  split at o
  · rename_i fs ef
    refine ⟨G, env, S, ?_⟩
    rw [ef]
    refine fun v G1 H1 st r => ?_
    obtain ⟨p, rfl, gp⟩ := obRp_106.mp r
    have hp := st.gh _ _ gp
    exact ⟨.ref p, .ty n, .type "dict", .type n, t (.dict []), rfl, .ty n, .base (.dK hp), kit_ty (ty.ok (.dict [])), (o.step st).rb st.gh⟩
  · exact rdV_mono (seqD S o) fun v H1 ⟨d, G1, s, dq, S1, o1⟩ => ⟨v, .ty n, .type (tyD d), .type n, t d, rfl, .ty n, (dq.mono S1.gh).tyX, kit_ty (ty.ok d), o1.rb S1.gh⟩
end
end VL
namespace VL
open PySem L2
section
variable {X : Cx} {T : Ct} {EX : XK} {B : Hp × Hp} {e a b c o tg : Expr} {es : List Expr} {pos p p2 : Pos} {f g h : FE} {fs : List FE} {G H G1 H1 : Hp} {Q : VK} {st : Stmt} {sts : List Stmt} {s t : FS} {σ : L2.St} {env : VEnv} {R : Hp → V → D → Prop}
theorem Sim.wr0 {p : Addr} {xs ys : List V} (S : Sim T B G env σ H) (h1 : H p = some (.lst xs)) (g : G p = none) (b : B.2 p = none) (no : ∀ (i : Nat) ds, env[i]? ≠ some (some (.ow ds))) (nr : ∀ (i : Nat) r, env[i]? ≠ some (some (.rg r))) : Sim T B G env σ (upd H p (.lst ys)) :=
  ⟨⟨S.st.hh.wr b _ (by rw [h1]; exact fun _ _ => lst_code), S.st.gg, fun b u q => by rw [upd_ne (ne_of_none q g)]; exact S.st.gh b u q, S.st.nw, S.st.nm⟩, S.nb, S.me.wr h1 _, S.len, S.sh, S.ob, fun i ds e => absurd e (no i ds), fun i j ds es p e => absurd e (no i ds), fun i r e => absurd e (nr i r)⟩
/-- a thing's knots are gone through: {} is none -/
theorem vss_form0 {x0 x1 x2 x3 : Str} {s s3 s4 : FS} {rest tail : List Stmt} {n0 : Expr} {px py pt pl pn0 k1 k2 k3 r1 r2 ap cp sp wp ip : Pos} {kt k' pt2} (C : Cv X T EX B) (po : PassesOwn (model X.prog X.w) X.A X.env X.xe)
    (h : VSs X T EX B (.Assign [.Tuple [.Name x1 px, .Name x2 py] kt pt] (.Tuple [.List [.Name x0 pn0] pl, n0] k' pt2) ip :: .While (.Compare (.Name x1 k1) [.NotEq] [.List [] k2] k3) (.Assign [.Name x3 r1] (.Call (.Attribute (.Name x1 r2) "pop" ap) [] [] cp) sp :: rest) [] wp :: tail) s)
    (hn : PE X n0 (tC (.int 0))) (hb : VSs X T EX B rest s3) (ht : VSs X T EX B tail s4) (hs : ∀ fs, s3 [some (.ob 106 fs), some (.ob 102 []), some (.sh (.int 0)), some (.ob 106 [])] = .rt (.sh (.bool false)))
    (hN0 : X.N[0]? = some x0 := by rfl) (hN1 : X.N[1]? = some x1 := by rfl) (hN2 : X.N[2]? = some x2 := by rfl) (hN3 : X.N[3]? = some x3 := by rfl)
    (hv0 : Vis X.env.scope x0 := by first | exact Or.inl rfl | exact Or.inr (Or.inl rfl) | exact Or.inr (Or.inr rfl)) (hv1 : Vis X.env.scope x1 := by first | exact Or.inl rfl | exact Or.inr (Or.inl rfl) | exact Or.inr (Or.inr rfl))
    (hx1 : X.env.scope.names.lookup x1 = some .local := by rfl) (hx2 : X.env.scope.names.lookup x2 = some .local := by rfl) (hx3 : Loc X.env.scope x3 := by first | exact .inl rfl | exact .inr rfl) (hf3 : X.fn x3 = true ∨ X.env.scope.names.lookup x3 = some .local := by first | exact .inl rfl | exact .inr rfl)
    (hd0 : (x0 == ("__debug__" : Str)) = false := by decide) (hc0 : (x0 == ("__classdict__" : Str)) = false := by decide) (hd1 : (x1 == ("__debug__" : Str)) = false := by decide) (hc1 : (x1 == ("__classdict__" : Str)) = false := by decide)
    (hs1 : starEach [.List [.Name x0 pn0] pl, n0] X.env = (false, eval (.List [.Name x0 pn0] pl) X.env) :: starEach [n0] X.env := by rfl) (hs2 : starEach [n0] X.env = [(false, eval n0 X.env)] := by rfl) (hs3 : starEach [.Name x0 pn0] X.env = [(false, eval (.Name x0 pn0) X.env)] := by rfl)
    (hw : swappedStores [.Tuple [.Name x1 px, .Name x2 py] kt pt] (.Tuple [.List [.Name x0 pn0] pl, n0] k' pt2) X.env = pure (some [x1, x2]) := by rfl) (hsw : swapsWithSole [.Tuple [.Name x1 px, .Name x2 py] kt pt] (.Tuple [.List [.Name x0 pn0] pl, n0] k' pt2) ip.line X.env = pure false := by rfl)
    (hline : (ap.endLine == cp.line) = true := by rfl) :
    VSs X T EX B (.Assign [.Tuple [.Name x1 px, .Name x2 py] kt pt] (.Tuple [.List [.Name x0 pn0] pl, n0] k' pt2) ip :: .While (.Compare (.Name x1 k1) [.NotEq] [.List [] k2] k3) (.Assign [.Name x3 r1] (.Call (.Attribute (.Name x1 r2) "pop" ap) [] [] cp) sp :: rest) [] wp :: tail) (sThF (.sh (.bool false)) s) := by
  refine ⟨fun pins s' σ H D I q => ?_⟩
  obtain ⟨G, env, S, o⟩ := q
  unfold sThF at o
  split at o
  rotate_left
  · exact h.run pins s' σ H D I ⟨G, env, S, o⟩
  rename_i fs
  have key := pss_cons (ps_par C.calm C.nd hN1 hN2 (by decide) hx1 hx2 (pa_cons (pe_lst (pos := pl) (pa_cons (pe_var (pos := pn0) hN0 hv0 hd0 hc0) pa_nil hs3)) (pa_cons hn pa_nil hs2) hs1) hw hsw)
    (pss_cons (ps_while (pos := wp) po (pt_cmpR (pos := k3) (op_neN C.un) (pe_var (pos := k1) hN1 hv1 hd1 hc1) (pe_lst (pos := k2) pa_nil) (nomark _)) (pss_cons (ps_set (pos := sp) (pos' := r1) C.nd hN3 hx3 (pe_bm0 PySem.F.plainAttrs_list PySem.F.slot_list_pop PySem.F.type_list_pop mt_pop (pe_var (pos := r2) hN1 hv1 hd1 hc1) rfl hline) rfl hf3) hb)) ht)
  refine key.run pins s' σ H D I ?_
  obtain ⟨v, h1, h2⟩ := S.ob 0 106 fs rfl
  obtain ⟨a, rfl, ga⟩ := obRp_106.mp h2
  have L : σ.length = 4 := S.len.symm
  refine ⟨.ref a, h1, (by show 1 ≤ sizeLine; rw [sizeLine_eq]; omega), fun p hp => ⟨.ref p, .int 0, rfl, ?_⟩⟩
  have gp := same_none S.gh hp
  have bp : B.2 p = none := SameH.free S.st.hh hp
  have S1 := S.step (Step.apart S.gh hp (.lst [.ref a]))
  have S2 := (S1.setOb (i := 1) (v := .ref p) (c := 102) (fs := []) (by unfold ObRp; rw [if_neg (by decide), if_neg (by decide), if_pos rfl]; trivial)).setSh (i := 2) (v := .int 0) (d := .int 0) .int
  refine ⟨fun m σ' H' => m = 1 ∧ ∃ G1 p, Sim T B G1 [some (.ob 106 fs), some (.ob 102 []), some (.sh (.int 0)), none] σ' H' ∧ σ'[1]? = some (some (.ref p)) ∧ H' p = some (.lst [.ref a]) ∧ G1 p = none ∧ B.2 p = none ∧ G1 a = some (.dK []), ⟨1, rfl, G, p, S2, ?_, upd_same, gp, bp, ga⟩, ?_⟩
  · rw [List.getElem?_set_ne (by decide), List.getElem?_set_self (by omega)]
  · rintro m σ' H' ⟨rfl, G1, p, S3, e1, hp, gp, bp, ga⟩
    refine ⟨.ref p, e1, Nat.zero_le _, fun q hq => ⟨p, q, [.ref a], rfl, rfl, .inl (.inl ?_), .inl (.inl upd_same), (fun z => nomatch z), true, rfl, ?_⟩⟩
    · rw [upd_ne (ne_of_none hp hq)]; exact hp
    refine iteT ?_
    have st := Step.apart S3.gh hq (.lst [])
    have S4 := S3.step st
    have hp2 : upd H' q (.lst []) p = some (.lst [.ref a]) := by rw [upd_ne (ne_of_none hp hq)]; exact hp
    refine ⟨fun _ _ => False, fun _ _ z => z.elim, ?_⟩
    refine ⟨.ref p, e1, .inl ⟨rfl, [.ref a], SqL.of hp2⟩, p, [.ref a], .ref a, rfl, rfl, hp2, rfl, ?_⟩
    have S5 := S4.wr0 (ys := []) hp2 gp bp (fun i ds => by
      match i with
      | 0 => exact fun z => nomatch z
      | 1 => exact fun z => nomatch z
      | 2 => exact fun z => nomatch z
      | 3 => exact fun z => nomatch z
      | n + 4 => exact fun z => nomatch z) (fun i r => by
      match i with
      | 0 => exact fun z => nomatch z
      | 1 => exact fun z => nomatch z
      | 2 => exact fun z => nomatch z
      | 3 => exact fun z => nomatch z
      | n + 4 => exact fun z => nomatch z)
    have S6 := S5.setOb (i := 3) (v := .ref a) (c := 106) (fs := []) (obRp_106.mpr ⟨a, rfl, ga⟩)
    refine ⟨G1, _, S6, ?_⟩
    rw [show ([some (.ob 106 fs), some (.ob 102 []), some (.sh (.int 0)), none] : VEnv).set 3 (some (.ob 106 [])) = [some (.ob 106 fs), some (.ob 102 []), some (.sh (.int 0)), some (.ob 106 [])] from rfl, hs fs]
    exact o
end
end VL
namespace VL
open PySem L2
/-! ### an error handed on -/
@[simp] def vIsX (i : Nat) : FE := fun env => match env[i]? with
  | some (some (.ob 100 _)) => rb true
  | _ => .stuck
def calX (M : List SV → R) (i : Nat) : FE := fun env => match env[i]? with
  | some (some (.ob 100 _)) => keepR (M [.ob 100 []])
  | _ => .stuck
/-- what the top says of an error that is a ValueError -/
structure Xv (K : PySem.W.Frag) (T : Ct) (c : Str) : Prop where
  v : PySem.W.kitOne K (.ref (T.er c)) (.type "ValueError") = some true
/-- the error at hand, in the base -/
structure XaB (base : Heap) (T : Ct) (cn : Str) : Prop where
  ex : ∃ oe, base.get? T.xa = some oe ∧ Zc (.ref (T.er cn)) none oe ∧ ∃ vs, oe.data = .fields vs
@[simp] def noOw1 : Option SV → Bool
  | some (.ow _) => false
  | some (.rg _) => false
  | _ => true
@[simp] def noOw (env : VEnv) : Bool := env.all noOw1
def sSetAppC (i : Nat) (f g h : FE) : FS := fun env => match f env, g env with
  | .val (.ob 105 as), .val (.ob 105 bs) => (match h (env.set i (some (.ob 102 []))) with
    | .val (.ob 104 [d]) => if as.length + bs.length ≤ 1000000 ∧ noOw env = true then .nx (env.set i (some (.ob 105 (as ++ bs ++ [d])))) else .stuck
    | _ => .stuck)
  | _, _ => .stuck
theorem call_isEB {X : Cx} {a D : Addr} {oe : Obj} (C : ExcC X.K D) (hz : Zc (.ref D) none oe) (hf : ∃ vs, oe.data = .fields vs) (hb : X.base.get? a = some oe) : CallR X (.builtin "isinstance") (rIsE X.K D a) := by
  intro pins s σ H xs us Q I r h
  obtain ⟨c, cv, b, rfl, hcv, e, q⟩ := h
  cases r with
  | cons rx rr =>
    cases rr with
    | cons rt rr =>
      cases rr
      cases rx
      have ec := hcv _ rt
      subst ec
      have hget := (I.bs a oe hb).1
      obtain ⟨vs, hv⟩ := hf
      have J : PySem.W.InstAt s.heap a oe D none := by
        obtain ⟨oc, od, oda, osl⟩ := oe
        obtain ⟨h1, h2⟩ := hz
        dsimp only at h1 h2 hv
        subst h1 h2 hv
        exact ⟨hget, rfl, rfl, trivial⟩
      exact PySem.W.kia_one (PySem.W.handS_kitx_exc C.hg C.hk C.hs C.hd C.ha C.hn C.ht C.hm) I.kIn J e (fun z => nomatch z) fun tk => ⟨.bl b, H, I.kept (t' := tk) fun _ _ z => z, rfl, q⟩
section
variable {X : Cx} {T : Ct} {EX : XK} {B : Hp × Hp} {e a b c o tg : Expr} {es : List Expr} {pos p p2 : Pos} {f g h : FE} {fs : List FE} {G H G1 H1 : Hp} {Q : VK} {st : Stmt} {sts : List Stmt} {s t : FS} {σ : L2.St} {env : VEnv}
theorem ve_isEB (i : Nat) {x d cn hn : Str} {ds : List Str} {px p1 : Pos} (xc : Xc X.K X.mg T hn ds cn) (xb : XaB X.base T cn) (hd : d ∈ ds)
    (bi : Bt X "isinstance") (hg : Gl X d) (hN : X.N[i]? = some x := by rfl) (hv : Vis X.env.scope x := by first | exact Or.inl rfl | exact Or.inr (Or.inl rfl) | exact Or.inr (Or.inr rfl)) (hdb : (x == ("__debug__" : Str)) = false := by decide) (hcd : (x == ("__classdict__" : Str)) = false := by decide) (hdd : (d == ("__debug__" : Str)) = false := by decide)
    (hs : starEach [.Name x px, .Name d p1] X.env = (false, eval (.Name x px) X.env) :: starEach [.Name d p1] X.env := by rfl) :
    VE X T EX B (.Call (.Name "isinstance" p) [.Name x px, .Name d p1] [] pos) (vIsE i cn d) := by
  obtain ⟨C, h1, h2⟩ := xc.is d hd
  obtain ⟨oe, hb, hz, hf⟩ := xb.ex
  refine pe_weak (pe_callB (call_isEB xc.ex hz hf hb) bi.gl bi.mg PyProof.Rows.boot_isinstance (pa_cons (pe_var hN hv hdb hcd) (pa_cons (pe_glob (v := .ref C) hg h1 rfl hdd) pa_nil rfl) hs) (by decide) (by decide) hs rfl) fun σ H Q q => ?_
  obtain ⟨G, env, S, o⟩ := q
  unfold vIsE at o
  split at o
  · rename_i fs' e'
    obtain ⟨v, e1, e2⟩ := S.ob i 100 _ e'
    unfold ObRp at e2
    rw [if_pos rfl] at e2
    subst e2
    refine ⟨_, e1, .ref C, .ref C, _, rfl, fun u r => r, h2, ?_⟩
    exact o.rb S.gh
  · exact o.elim
theorem ve_isXB (i : Nat) {x cn hn : Str} {ds : List Str} {px p1 : Pos} (xc : Xc X.K X.mg T hn ds cn) (xv : Xv X.K T cn) (xb : XaB X.base T cn)
    (bi : Bt X "isinstance") (bt : Bt X "ValueError") (hN : X.N[i]? = some x := by rfl) (hv : Vis X.env.scope x := by first | exact Or.inl rfl | exact Or.inr (Or.inl rfl) | exact Or.inr (Or.inr rfl)) (hdb : (x == ("__debug__" : Str)) = false := by decide) (hcd : (x == ("__classdict__" : Str)) = false := by decide)
    (hs : starEach [.Name x px, .Name "ValueError" p1] X.env = (false, eval (.Name x px) X.env) :: starEach [.Name "ValueError" p1] X.env := by rfl) :
    VE X T EX B (.Call (.Name "isinstance" p) [.Name x px, .Name "ValueError" p1] [] pos) (vIsX i) := by
  obtain ⟨oe, hb, hz, hf⟩ := xb.ex
  refine pe_weak (pe_callB (call_isEB xc.ex hz hf hb) bi.gl bi.mg PyProof.Rows.boot_isinstance (pa_cons (pe_var hN hv hdb hcd) (pa_cons (pe_bltn (v := .ty "ValueError") bt.gl bt.mg (by decide +kernel) rfl (by decide) (by decide)) pa_nil rfl) hs) (by decide) (by decide) hs rfl) fun σ H Q q => ?_
  obtain ⟨G, env, S, o⟩ := q
  unfold vIsX at o
  split at o
  · rename_i fs' e'
    obtain ⟨v, e1, e2⟩ := S.ob i 100 _ e'
    unfold ObRp at e2
    rw [if_pos rfl] at e2
    subst e2
    refine ⟨_, e1, .ty "ValueError", .type "ValueError", _, rfl, fun u r => r, xv.v, ?_⟩
    exact o.rb S.gh
  · exact o.elim
theorem ve_callX (i : Nat) {ad : Addr} {oe : Obj} {pn : List (Addr × Obj)} {x en : Str} {kf : Nat} {M : List SV → R} {p0 pe pos : Pos}
    (C : Cv X T EX B) (hr : Room kf X.A) (hg : Gl X x) (hx : ∃ g, X.mg x = some (.ref g) ∧ PySem.W.keepIn X.K (.ref g) = true) (hX : ∃ X0, X = Cx.suite X0 ad ((ad, oe) :: pn)) (hxa : T.xa = ad)
    (hF : ∀ (B' : Heap) (fr : Nat → Addr → Prop) (G' : Hp), X.K.In B' → B'.get? ad = some oe → Fn X.prog X.w X.K X.mg B' (T.cal fr G') kf x 1 M)
    (hN : X.N[i]? = some en := by rfl) (hv : Vis X.env.scope en := by first | exact Or.inl rfl | exact Or.inr (Or.inl rfl) | exact Or.inr (Or.inr rfl)) (hdb : (en == ("__debug__" : Str)) = false := by decide) (hcd : (en == ("__classdict__" : Str)) = false := by decide)
    (hd : (x == ("__debug__" : Str)) = false := by decide) (hs : starEach [.Name en pe] X.env = (false, eval (.Name en pe) X.env) :: starEach [] X.env := by rfl) (hpl : ((backTo pos (starEach [] X.env)).any fun z => z.1) = false := by rfl) :
    VE X T EX B (.Call (.Name x p0) [.Name en pe] [] pos) (calX M i) := by
  obtain ⟨g, hm, hk⟩ := hx
  refine ⟨fun pins s σ H Q I h => ?_⟩
  obtain ⟨G, env, S, o⟩ := h
  unfold calX at o
  split at o
  rotate_left
  · exact o.elim
  rename_i fs' e'
  obtain ⟨v, e1, e2⟩ := S.ob i 100 _ e'
  unfold ObRp at e2
  rw [if_pos rfl, hxa] at e2
  subst e2
  refine wpAny_Call_Name_kw (ld_glob I hg hm ?_ hd)
  refine PySem.W.callWith_K (h₀ := X.base) I.ok.mod.kin hk ?_ hs hpl
  refine wpAny_mono ((pa_cons (pe_var (pos := pe) hN hv hdb hcd) pa_nil hs).run pos _ s σ H (fun vs H2 => vs = [.ref ad] ∧ H2 = H) I ⟨.ref ad, e1, rfl, rfl⟩) (fun us s2 ⟨vs, H2, I2, rv, ev, eH⟩ => ?_) fun _ _ z => z
  subst ev eH
  refine ⟨I2.kIn, ?_⟩
  have ha : (bigB X s2 H2).get? ad = some oe := by
    obtain ⟨X0, rfl⟩ := hX
    obtain ⟨q1, q2, q3, q4, _⟩ := I2.pin (ad, oe) (List.mem_append.mpr (.inl List.mem_cons_self))
    refine big_get q1 (low_none q2) fun m => ?_
    rcases List.mem_cons.mp (I2.stkSub _ m) with z | z
    · exact q3 z
    · exact q4 z
  obtain ⟨g2, fd, ps, Fg, hm2, hk2, hb2⟩ := hF (bigB X s2 H2) (fun _ _ => False) (low G) (env_big I2).mod.kin ha
  rw [hm] at hm2
  cases hm2
  refine run_big (CX := L2.CX X.prog X.w) (Q := Q) I2 Fg C.gd hr hb2 (us := us) (xs := [.ref ad]) rv ?_
  refine ⟨low G, [.ob 100 []], low_sub S.gh, low_nm (S.st.nm S.nb.1), me_cal S, .cons ?_ .nil, rfl, ?_⟩
  · show ObRp _ _ _ _ _
    unfold ObRp
    rw [if_pos rfl]
    exact congrArg V.ref hxa.symm
  revert o
  generalize M [.ob 100 []] = rr
  intro o
  cases rr with
  | err c => exact o.elim
  | stuck => exact o.elim
  | val v =>
    cases v with
    | sh d => exact out_back (EX := EX) S.gh (fun v z => by cases z; exact .inl ⟨d, rfl⟩) (fun c z => nomatch z) o
    | ow ds => exact out_back (EX := EX) S.gh (fun v z => by cases z; exact .inr ⟨ds, rfl⟩) (fun c z => nomatch z) o
    | ob _ _ => exact o.elim
    | rg _ => exact o.elim
theorem noOw_1 {env : VEnv} (h : noOw env = true) {i : Nat} : (∀ ds, env[i]? ≠ some (some (.ow ds))) ∧ ∀ r, env[i]? ≠ some (some (.rg r)) := by
  refine ⟨fun ds e => ?_, fun r e => ?_⟩
  · have := List.all_eq_true.mp h _ (List.mem_of_getElem? e)
    simp at this
  · have := List.all_eq_true.mp h _ (List.mem_of_getElem? e)
    simp at this
theorem noOw_set {env : VEnv} (h : noOw env = true) {i : Nat} {c : Nat} {fs : List D} : noOw (env.set i (some (.ob c fs))) = true := by
  refine List.all_eq_true.mpr fun o m => ?_
  rcases List.mem_or_eq_of_mem_set m with m | rfl
  · exact List.all_eq_true.mp h o m
  · rfl
/-- what stands apart is told from here on -/
theorem Sim.frz0 {p : Addr} {xs : List V} (S : Sim T B G env σ H) (h1 : H p = some (.lst xs)) (g : G p = none) (b : B.2 p = none) (no : noOw env = true) : Sim T B (upd G p (.lst xs)) env σ H :=
  have sg : Same G (upd G p (.lst xs)) := same_upd g _
  ⟨S.st.freeze b g h1, S.nb, S.me, S.len, fun i d e => let ⟨v, a, b⟩ := S.sh i d e; ⟨v, a, b.mono sg⟩, fun i c fs e => let ⟨v, a, b⟩ := S.ob i c fs e; ⟨v, a, b.mono sg⟩, fun i ds e => absurd e ((noOw_1 no).1 ds), fun i j ds es p e => absurd e ((noOw_1 no).1 ds), fun i r e => absurd e ((noOw_1 no).2 r)⟩
theorem vss_setAppC (i : Nat) {x : Str} {px p1 p2 p3 ap cp p6 : Pos} {rest : List Stmt} {r : FS} (C : Cv X T EX B) (ha : VE X T EX B a f) (hb : VE X T EX B b g) (he : VE X T EX B e h) (hr : VSs X T EX B rest r)
    (hN : X.N[i]? = some x := by rfl) (hx : Loc X.env.scope x := by first | exact .inl rfl | exact .inr rfl) (hf : X.fn x = true ∨ X.env.scope.names.lookup x = some .local := by first | exact .inl rfl | exact .inr rfl) (hsw : swapsWith (.BinOp a .Add b p1) (some (.Name x px)) p2.line X.env = pure false := by rfl)
    (hv : Vis X.env.scope x := by first | exact Or.inl rfl | exact Or.inr (Or.inl rfl) | exact Or.inr (Or.inr rfl)) (hd : (x == ("__debug__" : Str)) = false := by decide) (hcd : (x == ("__classdict__" : Str)) = false := by decide)
    (hline : (ap.endLine == cp.line) = true := by rfl) (hs : starEach [e] X.env = [(false, eval e X.env)] := by rfl) :
    VSs X T EX B (.Assign [.Name x px] (.BinOp a .Add b p1) p2 :: .Expr (.Call (.Attribute (.Name x p3) "append" ap) [e] [] cp) p6 :: rest) (sSeq (sSetAppC i f g h) r) := by
  have key := pss_cons (ps_set (pos := p2) C.nd hN hx (pe_op (pos := p1) op_catR ha hb) hsw hf) (pss_cons (ps_expr (pos := p6) (pe_bm (apos := ap) (cpos := cp) PySem.F.plainAttrs_list PySem.F.slot_list_append PySem.F.type_list_append mt_append (pe_var (pos := p3) hN hv hd hcd) (pa_cons he pa_nil hs) rfl (by rw [hs]; rfl) hline hs rfl) rfl) hr)
  refine ⟨fun pins s' σ H D I q => key.run pins s' σ H D I ?_⟩
  obtain ⟨G, env, S, o⟩ := q
  have alt : sSetAppC i f g h env = .stuck ∨ ∃ as bs d, f env = .val (.ob 105 as) ∧ g env = .val (.ob 105 bs) ∧ h (env.set i (some (.ob 102 []))) = .val (.ob 104 [d]) ∧ (as.length + bs.length ≤ 1000000 ∧ noOw env = true) ∧ sSetAppC i f g h env = .nx (env.set i (some (.ob 105 (as ++ bs ++ [d])))) := by
    unfold sSetAppC
    split
    · rename_i as bs ef eg
      split
      · rename_i d eh
        split
        · rename_i cond
          exact .inr ⟨as, bs, d, ef, eg, eh, cond, rfl⟩
        · exact .inl rfl
      · exact .inl rfl
    · exact .inl rfl
  unfold sSeq at o
  rcases alt with ea | ⟨as, bs, d, ef, eg, eh, cond, ea⟩
  · rw [ea] at o; exact o.elim
  rw [ea] at o
  obtain ⟨hl, no⟩ := cond
  refine ⟨G, env, S, ?_⟩
  rw [ef]
  refine fun x1 G1 H1 st1 r1 => ⟨G1, env, S.step st1, ?_⟩
  rw [eg]
  refine fun y1 G2 H2 st2 r2 => ?_
  obtain ⟨p, xs, rfl, g1, d1⟩ := obRp_105.mp (r1.mono st2.gg)
  obtain ⟨q, ys, rfl, g2, d2⟩ := obRp_105.mp r2
  have S2 := (S.step st1).step st2
  have len : xs.length + ys.length ≤ sizeLine := by rw [paired_len d1, paired_len d2]; exact Nat.le_of_lt (gl_line hl)
  refine ⟨p, q, xs, ys, rfl, rfl, .inl (.inl (S2.gh _ _ g1)), .inl (.inl (S2.gh _ _ g2)), len, fun l hnl => ?_⟩
  have gl0 := same_none S2.gh hnl
  have bl : B.2 l = none := SameH.free S2.st.hh hnl
  have S3 := (S2.step (Step.apart S2.gh hnl (.lst (xs ++ ys)))).setOb (i := i) (v := .ref l) (c := 102) (fs := []) (by unfold ObRp; rw [if_neg (by decide), if_neg (by decide), if_pos rfl]; trivial)
  have il : i < σ.length := by
    have := (List.getElem?_eq_some_iff.mp hN).1
    have h2 := I.len
    omega
  refine ⟨.ref l, List.getElem?_set_self il, .inl ⟨rfl, xs ++ ys, SqL.of upd_same⟩, G2, _, S3, ?_⟩
  rw [eh]
  refine fun v G4 H4 st4 r4 => ?_
  have S4 := S3.step st4
  obtain ⟨gl4, hl4⟩ := st4.own gl0 (upd_same (H := H2) (a := l) (o := .lst (xs ++ ys)))
  have no' := noOw_set (i := i) (c := 102) (fs := []) no
  refine ⟨l, xs ++ ys, v, rfl, rfl, hl4, ?_, ?_⟩
  · rw [List.length_append, paired_len d1, paired_len d2]; exact gl_line hl
  have S5 := S4.wr0 (ys := xs ++ ys ++ [v]) hl4 gl4 bl (fun i ds => (noOw_1 no').1 ds) (fun i r => (noOw_1 no').2 r)
  have S6 := S5.frz0 upd_same gl4 bl no'
  obtain ⟨n1, f1, hd1, hv1, hfr⟩ := obRp_104.mp r4
  have cr : CaR T G4 v d := by
    cases hd1
    exact ⟨n1, f1, rfl, hv1, hfr⟩
  have pr : Paired (CaR T G4) (xs ++ ys ++ [v]) (as ++ bs ++ [d]) := paired_app (paired_app (Paired.mapP d1 fun _ _ z => z.mono st4.gg) (Paired.mapP d2 fun _ _ z => z.mono st4.gg)) (.cons cr .nil)
  have S7 := S6.setOb (i := i) (v := .ref l) (c := 105) (fs := as ++ bs ++ [d]) (obRp_105.mpr ⟨l, _, rfl, upd_same, Paired.mapP pr fun _ _ z => z.mono (same_upd gl4 _)⟩)
  rw [List.set_set, List.set_set] at S7
  refine ⟨_, _, S7, o.step ?_⟩
  exact ((st1.gg.trans st2.gg).trans st4.gg).trans (same_upd gl4 _)
end
end VL
namespace VL
open PySem L2
/-! ### defs that make lists of callables -/
def runBS (n : Nat) (s : FS) (as : List SV) : R := if allSh as = true then shR (runB n s as) else .stuck
section
variable {P : Program} {w : World} {K : PySem.W.Frag} {mg : Str → Option Value} {base : Heap} {T : Ct}
theorem fnV_of {x q : Str} {st : Stmt} {ps : List Str} {k n : Nat} {m : List SV → R} (d : Df K mg x q st ps) (F : Fn P w K mg base T k x n m) (kin : K.In base) {f : Addr} (hf : mg x = some (.ref f)) : FnV P w K mg base T k f n m := by
  obtain ⟨g, fd, F2, hm, hbi⟩ := d
  obtain ⟨f2, fd2, ps2, Fg, hm2, hk2, hb2⟩ := F
  rw [hf] at hm hm2
  cases hm
  cases hm2
  obtain ⟨_, _, _, _, _, _, _, _, _, rfl, lk, _⟩ := F2.ex
  exact ⟨fd2, ps2, Fg, ⟨_, _, _, _, kin _ _ lk⟩, hb2⟩
/-- its body, the code object known, its callables by a table -/
def BdM (P : Program) (w : World) (K : PySem.W.Frag) (mg : Str → Option Value) (base : Heap) (T : Ct) (k : Nat) (N : List Str) (q : Str) (st : Stmt) (tab : List CS) (s : FS) : Prop :=
  ∀ (f c Pt : Addr) (A : Around) (outer : List Env) (s0 : Shared) (H : Hp) (E : XK) (B : Hp × Hp), LamX.TabB base mg c Pt → Pt ∈ T.tb → Room k (A.deeper (PyProof.Rows.envOfC q (defScope st) s0.heap.objs.size f (.ref c))) →
      T.fr = frM (cxOf (L2.CX P w) P w K mg base N q (defScope st) f (.ref c) A outer s0 H E) (tabN tab) →
      Cv (cxOf (L2.CX P w) P w K mg base N q (defScope st) f (.ref c) A outer s0 H E) T E B →
      PassesOwn (model P w) (A.deeper (PyProof.Rows.envOfC q (defScope st) s0.heap.objs.size f (.ref c))) (PyProof.Rows.envOfC q (defScope st) s0.heap.objs.size f (.ref c)) (cxOf (L2.CX P w) P w K mg base N q (defScope st) f (.ref c) A outer s0 H E).xe →
      Takes (cxOf (L2.CX P w) P w K mg base N q (defScope st) f (.ref c) A outer s0 H E) (fun cls d _ H => E cls d H) →
      VSs (cxOf (L2.CX P w) P w K mg base N q (defScope st) f (.ref c) A outer s0 H E) T E B (defBody st) s
theorem sh_same {T T' : Ct} {G : Hp} : ∀ {vs : List V} {as : List SV}, allSh as = true → VRpAll T G vs as → VRpAll T' G vs as
  | _, _, _, .nil => .nil
  | _, a :: as, n, .cons h t => by
    cases a with
    | sh d => exact .cons h (sh_same n t)
    | ow _ => cases n
    | ob _ _ => cases n
    | rg _ => cases n
theorem gd_mkM {x q : Str} {st : Stmt} {f c Pt : Addr} {fd : FuncData} {N ps : List Str} {k : Nat} {s : FS} {tab : List CS} (F : Fun K x q st f fd) (hcode : fd.code = .ref c) (TB : LamX.TabB base mg c Pt) (hP : Pt ∈ T.tb) (S : FnScope N ps (defScope st)) (hb : ∀ (fr : Nat → Addr → Hp → Prop) (fm : ∀ (n : Nat) (f : Addr) (G G' : Hp), Same G G' → fr n f G → fr n f G'), BdM P w K mg base { T with fr := fr, fm := fm } k N q st tab s) :
    FnGd P w K mg base (L2.CX P w) (k + 1) f fd ps (spV T ps.length (runBS N.length s)) := by
  refine gd_mkC F hcode S (fun vs H Q E h => ?_) (fun A outer s0 H vs Q E hq hr h => ?_)
  · obtain ⟨G, as, gh, _, _, r, hl, _⟩ := h
    rw [vrp_len r, hl]
  obtain ⟨G, as, gh, nb, mo, r, hl, o⟩ := h
  have tk : Takes (cxOf (L2.CX P w) P w K mg base N q (defScope st) f (.ref c) A outer s0 H E) (fun cls d _ H => E cls d H) := takes_of rfl rfl rfl rfl
  unfold runBS at o
  split at o
  case isFalse => exact o.elim
  rename_i al
  have mo' : MeO { T with fr := frM (cxOf (L2.CX P w) P w K mg base N q (defScope st) f (.ref c) A outer s0 H E) (tabN tab), fm := frM_mono _ _ } H := mo
  refine ⟨_, hb (frM (cxOf (L2.CX P w) P w K mg base N q (defScope st) f (.ref c) A outer s0 H E) (tabN tab)) (frM_mono _ _) f c Pt A outer s0 H E (G, H) TB hP hr rfl ⟨rfl, S.nd, passes_call tk fun _ _ _ _ z => z, ?_, hq⟩ (passes_of rfl) tk, G, _, sim_start N.length gh nb mo' (sh_same al r) N rfl, ?_⟩
  · have := hr.un
    show (A.deeper (PyProof.Rows.envOfC q (defScope st) s0.heap.objs.size f (.ref c))).units + 150 < cLine
    omega
  · unfold runB at o
    revert o
    cases s (as.map some ++ List.replicate (N.length - as.length) none) with
    | nx e => exact fun o G' σ' H' sg S' => o .non G' H' S'.st .non
    | rt v =>
      cases v with
      | sh d => exact fun o => o
      | ow _ => exact fun o => o.elim
      | ob _ _ => exact fun o => o.elim
      | rg _ => exact fun o => o.elim
    | err c => exact fun o => o.elim
    | stuck => exact fun o => o.elim
theorem fn_mkM {x q : Str} {st : Stmt} {N ps : List Str} {k : Nat} {s : FS} (d : Df K mg x q st ps) (mt : MkT K mg base T x) (S : FnScope N ps (defScope st)) (hb : ∃ tab, ∀ (fr : Nat → Addr → Hp → Prop) (fm : ∀ (n : Nat) (f : Addr) (G G' : Hp), Same G G' → fr n f G → fr n f G'), BdM P w K mg base { T with fr := fr, fm := fm } k N q st tab s) : Fn P w K mg base T (k + 1) x ps.length (runBS N.length s) := by
  obtain ⟨f, fd, F, hm, hbi⟩ := d
  obtain ⟨c, Pt, TB, hP, hc⟩ := mt
  obtain ⟨tab, hb⟩ := hb
  obtain ⟨oc, od, kV, dc, pm, an, cdv, ct, osl, e, lk, hcd⟩ := F.ex
  exact ⟨f, fd, ps, gd_mkM F (hc f _ fd hm lk rfl) TB hP S hb, hm, F.kp, hbi⟩
end
end VL
namespace VL
open PySem L2
/-! ### a def that makes a list of callables, no lambda among them -/
section
variable {P : Program} {w : World} {K : PySem.W.Frag} {mg : Str → Option Value} {base : Heap} {T : Ct}
def BdN (P : Program) (w : World) (K : PySem.W.Frag) (mg : Str → Option Value) (base : Heap) (T : Ct) (k : Nat) (N : List Str) (q : Str) (st : Stmt) (tab : List CS) (s : FS) : Prop :=
  ∀ (f : Addr) (cdv : Value) (A : Around) (outer : List Env) (s0 : Shared) (H : Hp) (E : XK) (B : Hp × Hp), Room k (A.deeper (PyProof.Rows.envOfC q (defScope st) s0.heap.objs.size f cdv)) →
      T.fr = frM (cxOf (L2.CX P w) P w K mg base N q (defScope st) f cdv A outer s0 H E) (tabN tab) →
      Cv (cxOf (L2.CX P w) P w K mg base N q (defScope st) f cdv A outer s0 H E) T E B →
      PassesOwn (model P w) (A.deeper (PyProof.Rows.envOfC q (defScope st) s0.heap.objs.size f cdv)) (PyProof.Rows.envOfC q (defScope st) s0.heap.objs.size f cdv) (cxOf (L2.CX P w) P w K mg base N q (defScope st) f cdv A outer s0 H E).xe →
      Takes (cxOf (L2.CX P w) P w K mg base N q (defScope st) f cdv A outer s0 H E) (fun cls d _ H => E cls d H) →
      VSs (cxOf (L2.CX P w) P w K mg base N q (defScope st) f cdv A outer s0 H E) T E B (defBody st) s
theorem gd_mkN {x q : Str} {st : Stmt} {f : Addr} {fd : FuncData} {N ps : List Str} {k : Nat} {s : FS} {tab : List CS} (F : Fun K x q st f fd) (S : FnScope N ps (defScope st)) (hb : ∀ (fr : Nat → Addr → Hp → Prop) (fm : ∀ (n : Nat) (f : Addr) (G G' : Hp), Same G G' → fr n f G → fr n f G'), BdN P w K mg base { T with fr := fr, fm := fm } k N q st tab s) :
    FnGd P w K mg base (L2.CX P w) (k + 1) f fd ps (spV T ps.length (runBS N.length s)) := by
  refine gd_mk F S (fun vs H Q E h => ?_) (fun cdv A outer s0 H vs Q E hq hr h => ?_)
  · obtain ⟨G, as, gh, _, _, r, hl, _⟩ := h
    rw [vrp_len r, hl]
  obtain ⟨G, as, gh, nb, mo, r, hl, o⟩ := h
  have tk : Takes (cxOf (L2.CX P w) P w K mg base N q (defScope st) f cdv A outer s0 H E) (fun cls d _ H => E cls d H) := takes_of rfl rfl rfl rfl
  unfold runBS at o
  split at o
  case isFalse => exact o.elim
  rename_i al
  have mo' : MeO { T with fr := frM (cxOf (L2.CX P w) P w K mg base N q (defScope st) f cdv A outer s0 H E) (tabN tab), fm := frM_mono _ _ } H := mo
  refine ⟨_, hb (frM (cxOf (L2.CX P w) P w K mg base N q (defScope st) f cdv A outer s0 H E) (tabN tab)) (frM_mono _ _) f cdv A outer s0 H E (G, H) hr rfl ⟨rfl, S.nd, passes_call tk fun _ _ _ _ z => z, ?_, hq⟩ (passes_of rfl) tk, G, _, sim_start N.length gh nb mo' (sh_same al r) N rfl, ?_⟩
  · have := hr.un
    show (A.deeper (PyProof.Rows.envOfC q (defScope st) s0.heap.objs.size f cdv)).units + 150 < cLine
    omega
  · unfold runB at o
    revert o
    cases s (as.map some ++ List.replicate (N.length - as.length) none) with
    | nx e => exact fun o G' σ' H' sg S' => o .non G' H' S'.st .non
    | rt v =>
      cases v with
      | sh d => exact fun o => o
      | ow _ => exact fun o => o.elim
      | ob _ _ => exact fun o => o.elim
      | rg _ => exact fun o => o.elim
    | err c => exact fun o => o.elim
    | stuck => exact fun o => o.elim
theorem fn_mkN {x q : Str} {st : Stmt} {N ps : List Str} {k : Nat} {s : FS} (d : Df K mg x q st ps) (S : FnScope N ps (defScope st)) (hb : ∃ tab, ∀ (fr : Nat → Addr → Hp → Prop) (fm : ∀ (n : Nat) (f : Addr) (G G' : Hp), Same G G' → fr n f G → fr n f G'), BdN P w K mg base { T with fr := fr, fm := fm } k N q st tab s) : Fn P w K mg base T (k + 1) x ps.length (runBS N.length s) := by
  obtain ⟨f, fd, F, hm, hbi⟩ := d
  obtain ⟨tab, hb⟩ := hb
  exact ⟨f, fd, ps, gd_mkN F S hb, hm, F.kp, hbi⟩
end
/-! ### a def called while an exception is handled: its promise, the exception pinned -/
structure FnK (P : Program) (w : World) (K : PySem.W.Frag) (mg : Str → Option Value) (base : Heap) (k : Nat) (f : Addr) (fd : FuncData) (ps : List Str) (p : Addr × Obj) (sp : Sp) : Prop where
  len : ∀ vs H Q E, sp vs H Q E → vs.length = ps.length
  run : ∀ (A : Around) (outer : List Env) (s : Shared) (H : Hp) (args : Args) (us : List Value) (vs : List V) (Q : VK) (E : XK), L2H.RoomH k A → L2H.PinOk outer H s p → Env0 P w K mg base A outer s H → BindsTo s fd args (ps.zip us) → Vals vs us → sp vs H Q E →
    codeAny (model P w) A (.call (.ref f) args) (CR (L2.CX P w) outer P w H s Q E) s
section
variable {P : Program} {w : World} {K : PySem.W.Frag} {mg : Str → Option Value} {base : Heap} {T : Ct}
theorem gd_mkK {k : Nat} {f : Addr} {fd : FuncData} {x q : Str} {st : Stmt} {N ps : List Str} {s : FS} {p : Addr × Obj} (F : Fun K x q st f fd) (S : FnScope N ps (defScope st))
    (hb : ∀ (cdv : Value) (A : Around) (outer : List Env) (s0 : Shared) (H : Hp) (E : XK) (B : Hp × Hp), L2H.RoomH k (A.deeper (PyProof.Rows.envOfC q (defScope st) s0.heap.objs.size f cdv)) →
      VSs (L2H.cxH (L2.CX P w) P w K mg base N q (defScope st) f cdv A outer s0 H E p) T E B (defBody st) s) :
    FnK P w K mg base (k + 1) f fd ps p (spV T ps.length (runB N.length s)) := by
  obtain ⟨oc, od, kV, doc, pm, an, cdv, ct, osl, rfl, lk, hcd⟩ := F.ex
  refine ⟨fun vs H Q E h => ?_, fun A outer s0 H args us vs Q E hr hpin e0 hbi r h => ?_⟩
  · obtain ⟨G, as, gh, _, _, r, hl, _⟩ := h
    rw [vrp_len r, hl]
  have hl : vs.length = ps.length := by
    obtain ⟨G, as, gh, _, _, r, hl, _⟩ := h
    rw [vrp_len r, hl]
  have KX : K.In s0.heap := e0.mod.kin.keeps fun b o e => (e0.bs b o e).1
  have lim : s0.heap.NoLimit := e0.mod.nolimit.keeps fun b o e => (e0.bs b o e).1
  have hkind : ∀ y ∈ ps.zip us, (defScope st).names.lookup y.1 = some .local ∨ ((defScope st).names.lookup y.1 = some .cell ∧ ((cellsFrom (s0.heap.objs.size + 1) (defScope st).names []).lookup y.1).isSome = true) := fun ⟨n, v⟩ hy => by
    rcases S.par n (List.of_mem_zip hy).1 with q | q
    · exact .inl q
    · exact .inr ⟨q, PySem.W.cellsFrom_some _ _ _ (.inl q)⟩
  refine codeAny_call_function hr.depth (KX _ _ lk) rfl S.co S.gen rfl (PySem.W.codeRec_of KX hcd) (hbi _ _ _ _ ?_)
  refine wpAny_newFunctionEnv_cells S.kind hkind fun env he s1 x => ?_
  subst he
  refine ⟨lim.keeps x.toInCall.keep, codeAny_func ?_⟩
  obtain ⟨G, as, gh, nb, mo, rp, hal, o⟩ := h
  have I : Inv (L2H.cxH (L2.CX P w) P w K mg base N q (defScope st) f cdv A outer s0 H E p) [] (L2.start N vs) H s1 := L2H.inv_startH S hpin e0 hl r x
  refine wpAny_mono ((hb cdv A outer s0 H E (G, H) (hr.deeper _)).run [] s1 (L2.start N vs) H { nx := fun _ H' => Q .non H', rt := Q } I ⟨G, _, sim_start N.length gh nb mo rp N rfl, ?_⟩) (fun fl s' hs => ?_) fun e s' hs => hs
  · unfold runB at o
    revert o
    cases s (as.map some ++ List.replicate (N.length - as.length) none) with
    | nx e => exact fun o G' σ' H' sg S' => o .non G' H' S'.st .non
    | rt v => exact fun o => o
    | err c => exact fun o => o
    | stuck => exact fun o => o
  have fin : ∀ {σ' : L2.St} {H' : Hp} {v : V} {u : Value}, Inv (L2H.cxH (L2.CX P w) P w K mg base N q (defScope st) f cdv A outer s0 H E p) [] σ' H' s' → RelV v u → Q v H' → CE outer P w H s0 Q u s' :=
    fun {σ' H' v u} J rv q => ⟨v, H', J.os, J.bare, J.base, J.hok, rv, q⟩
  cases fl with
  | ret u =>
    obtain ⟨v, σ', H', J, rv, q⟩ := hs
    exact fin J rv q
  | next =>
    obtain ⟨σ', H', J, q⟩ := hs
    exact fin (v := V.non) (u := Value.none) J rfl q
  | brk =>
    obtain ⟨_, _, _, q⟩ := hs
    exact False.elim q
  | cont =>
    obtain ⟨_, _, _, q⟩ := hs
    exact False.elim q
/-- a def of an error, by the error's class -/
def FnKs (P : Program) (w : World) (K : PySem.W.Frag) (mg : Str → Option Value) (base : Heap) (T : Ct) (k : Nat) (x : Str) (ers : List Str) (m : Str → List SV → R) : Prop :=
  ∀ (oe : Obj) (cn : Str), cn ∈ ers → Zc (.ref (T.er cn)) none oe → (∃ vs, oe.data = .fields vs) → ∃ f fd ps, FnK P w K mg base k f fd ps (T.xa, oe) (spV T 1 (m cn)) ∧ mg x = some (.ref f) ∧ PySem.W.keepIn K (.ref f) = true ∧ Binds K fd ps []
theorem fnKs_mk {k : Nat} {x q : Str} {st : Stmt} {N ps : List Str} {ers : List Str} {s : Str → FS} (d : Df K mg x q st ps) (hl : ps.length = 1) (S : FnScope N ps (defScope st))
    (hb : ∀ (oe : Obj) (cn : Str), cn ∈ ers → Zc (.ref (T.er cn)) none oe → (∃ vs, oe.data = .fields vs) → ∀ (f : Addr) (cdv : Value) (A : Around) (outer : List Env) (s0 : Shared) (H : Hp) (E : XK) (B : Hp × Hp),
      VSs (L2H.cxH (L2.CX P w) P w K mg base N q (defScope st) f cdv A outer s0 H E (T.xa, oe)) T E B (defBody st) (s cn)) : FnKs P w K mg base T (k + 1) x ers fun cn => runB N.length (s cn) := by
  intro oe cn hc hz hf
  obtain ⟨f, fd, F, hm, hbi⟩ := d
  have := gd_mkK (k := k) (T := T) (p := (T.xa, oe)) F S fun cdv A outer s0 H E B _ => hb oe cn hc hz hf f cdv A outer s0 H E B
  rw [hl] at this
  exact ⟨f, fd, ps, this, hm, F.kp, hbi⟩
end
theorem call_isEK {X : Cx} {a D : Addr} {oe : Obj} (C : ExcC X.K D) (hz : Zc (.ref D) none oe) (hf : ∃ vs, oe.data = .fields vs) (hp : (a, oe) ∈ X.pn) : CallR X (.builtin "isinstance") (rIsE X.K D a) := by
  intro pins s σ H xs us Q I r h
  obtain ⟨c, cv, b, rfl, hcv, e, q⟩ := h
  cases r with
  | cons rx rr =>
    cases rr with
    | cons rt rr =>
      cases rr
      cases rx
      have ec := hcv _ rt
      subst ec
      have hget := (I.pin (a, oe) (List.mem_append_left _ hp)).1
      obtain ⟨vs, hv⟩ := hf
      have J : PySem.W.InstAt s.heap a oe D none := by
        obtain ⟨oc, od, oda, osl⟩ := oe
        obtain ⟨h1, h2⟩ := hz
        dsimp only at h1 h2 hv
        subst h1 h2 hv
        exact ⟨hget, rfl, rfl, trivial⟩
      exact PySem.W.kia_one (PySem.W.handS_kitx_exc C.hg C.hk C.hs C.hd C.ha C.hn C.ht C.hm) I.kIn J e (fun z => nomatch z) fun tk => ⟨.bl b, H, I.kept (t' := tk) fun _ _ z => z, rfl, q⟩
section
variable {X : Cx} {T : Ct} {EX : XK} {B : Hp × Hp} {e a b c o tg : Expr} {es : List Expr} {pos p p2 : Pos} {f g h : FE} {fs : List FE} {G H G1 H1 : Hp} {Q : VK} {st : Stmt} {sts : List Stmt} {s t : FS} {σ : L2.St} {env : VEnv}
theorem ve_isEK (i : Nat) {x d cn hn : Str} {ds : List Str} {px p1 : Pos} {oe : Obj} (xc : Xc X.K X.mg T hn ds cn) (hz : Zc (.ref (T.er cn)) none oe) (hf : ∃ vs, oe.data = .fields vs) (hp : (T.xa, oe) ∈ X.pn) (hd : d ∈ ds)
    (bi : Bt X "isinstance") (hg : Gl X d) (hN : X.N[i]? = some x := by rfl) (hv : Vis X.env.scope x := by first | exact Or.inl rfl | exact Or.inr (Or.inl rfl) | exact Or.inr (Or.inr rfl)) (hdb : (x == ("__debug__" : Str)) = false := by decide) (hcd : (x == ("__classdict__" : Str)) = false := by decide) (hdd : (d == ("__debug__" : Str)) = false := by decide)
    (hs : starEach [.Name x px, .Name d p1] X.env = (false, eval (.Name x px) X.env) :: starEach [.Name d p1] X.env := by rfl) :
    VE X T EX B (.Call (.Name "isinstance" p) [.Name x px, .Name d p1] [] pos) (vIsE i cn d) := by
  obtain ⟨C, h1, h2⟩ := xc.is d hd
  refine pe_weak (pe_callB (call_isEK xc.ex hz hf hp) bi.gl bi.mg PyProof.Rows.boot_isinstance (pa_cons (pe_var hN hv hdb hcd) (pa_cons (pe_glob (v := .ref C) hg h1 rfl hdd) pa_nil rfl) hs) (by decide) (by decide) hs rfl) fun σ H Q q => ?_
  obtain ⟨G, env, S, o⟩ := q
  unfold vIsE at o
  split at o
  · rename_i fs' e'
    obtain ⟨v, e1, e2⟩ := S.ob i 100 _ e'
    unfold ObRp at e2
    rw [if_pos rfl] at e2
    subst e2
    refine ⟨_, e1, .ref C, .ref C, _, rfl, fun u r => r, h2, ?_⟩
    exact o.rb S.gh
  · exact o.elim
theorem ve_isXK (i : Nat) {x cn hn : Str} {ds : List Str} {px p1 : Pos} {oe : Obj} (xc : Xc X.K X.mg T hn ds cn) (xv : Xv X.K T cn) (hz : Zc (.ref (T.er cn)) none oe) (hf : ∃ vs, oe.data = .fields vs) (hp : (T.xa, oe) ∈ X.pn)
    (bi : Bt X "isinstance") (bt : Bt X "ValueError") (hN : X.N[i]? = some x := by rfl) (hv : Vis X.env.scope x := by first | exact Or.inl rfl | exact Or.inr (Or.inl rfl) | exact Or.inr (Or.inr rfl)) (hdb : (x == ("__debug__" : Str)) = false := by decide) (hcd : (x == ("__classdict__" : Str)) = false := by decide)
    (hs : starEach [.Name x px, .Name "ValueError" p1] X.env = (false, eval (.Name x px) X.env) :: starEach [.Name "ValueError" p1] X.env := by rfl) :
    VE X T EX B (.Call (.Name "isinstance" p) [.Name x px, .Name "ValueError" p1] [] pos) (vIsX i) := by
  refine pe_weak (pe_callB (call_isEK xc.ex hz hf hp) bi.gl bi.mg PyProof.Rows.boot_isinstance (pa_cons (pe_var hN hv hdb hcd) (pa_cons (pe_bltn (v := .ty "ValueError") bt.gl bt.mg (by decide +kernel) rfl (by decide) (by decide)) pa_nil rfl) hs) (by decide) (by decide) hs rfl) fun σ H Q q => ?_
  obtain ⟨G, env, S, o⟩ := q
  unfold vIsX at o
  split at o
  · rename_i fs' e'
    obtain ⟨v, e1, e2⟩ := S.ob i 100 _ e'
    unfold ObRp at e2
    rw [if_pos rfl] at e2
    subst e2
    refine ⟨_, e1, .ty "ValueError", .type "ValueError", _, rfl, fun u r => r, xv.v, ?_⟩
    exact o.rb S.gh
  · exact o.elim
/-- the error handed on to such a def, in the except clause -/
theorem ve_callK (i : Nat) {ad : Addr} {oe : Obj} {pn : List (Addr × Obj)} {x en cn : Str} {k : Nat} {ers : List Str} {M : Str → List SV → R} {p0 pe pos : Pos}
    (hr : Room k X.A) (hg : Gl (X.suite ad ((ad, oe) :: pn)) x) (hF : FnKs X.prog X.w X.K X.mg X.base { T with xa := ad } k x ers M) (hc : cn ∈ ers) (hz : Zc (.ref (T.er cn)) none oe) (hf : ∃ vs, oe.data = .fields vs)
    (hN : X.N[i]? = some en := by rfl) (hv : Vis X.env.scope en := by first | exact Or.inl rfl | exact Or.inr (Or.inl rfl) | exact Or.inr (Or.inr rfl)) (hdb : (en == ("__debug__" : Str)) = false := by decide) (hcd : (en == ("__classdict__" : Str)) = false := by decide)
    (hd : (x == ("__debug__" : Str)) = false := by decide) (hs : starEach [.Name en pe] X.env = (false, eval (.Name en pe) X.env) :: starEach [] X.env := by rfl) (hpl : ((backTo pos (starEach [] X.env)).any fun z => z.1) = false := by rfl) :
    VE (X.suite ad ((ad, oe) :: pn)) { T with xa := ad } E0 B (.Call (.Name x p0) [.Name en pe] [] pos) (calX (M cn) i) := by
  obtain ⟨f, fd, ps, F, hm, hk, hb⟩ := hF oe cn hc hz hf
  refine ⟨fun pins s σ H Q I h => ?_⟩
  obtain ⟨G, env, S, o⟩ := h
  unfold calX at o
  split at o
  rotate_left
  · exact o.elim
  rename_i fs' e'
  obtain ⟨v, e1, e2⟩ := S.ob i 100 _ e'
  unfold ObRp at e2
  rw [if_pos rfl] at e2
  subst e2
  refine wpAny_Call_Name_kw (ld_glob I hg hm ?_ hd)
  refine PySem.W.callWith_K (h₀ := X.base) I.ok.mod.kin hk ?_ hs hpl
  refine wpAny_mono ((pa_cons (X := X.suite ad ((ad, oe) :: pn)) (pe_var (pos := pe) hN hv hdb hcd) pa_nil hs).run pos _ s σ H (fun vs H2 => vs = [.ref ad] ∧ H2 = H) I ⟨.ref ad, e1, rfl, rfl⟩) (fun us s2 ⟨vs, H2, I2, rv, ev, eH⟩ => ?_) fun _ _ z => z
  subst ev eH
  refine ⟨I2.kIn, ?_⟩
  have n1 : us.length = ps.length := (rv.length).symm.trans (by
    obtain ⟨w, hw⟩ : ∃ w : Unit, True := ⟨(), trivial⟩
    exact F.len [.ref ad] H2 Q (fun _ _ _ => False) ⟨G, [.ob 100 []], S.gh, S.st.nm S.nb.1, S.mo, .cons (by show ObRp _ _ _ _ _; unfold ObRp; rw [if_pos rfl]) .nil, rfl, by
      revert o
      generalize M cn [.ob 100 []] = rr
      intro o
      cases rr with
      | err c => exact o.elim
      | stuck => exact o.elim
      | val v =>
        cases v with
        | sh d => exact o
        | ow ds => exact o
        | ob _ _ => exact o.elim
        | rg _ => exact o.elim⟩)
  have n2 : BindsTo s2 fd ⟨us, []⟩ (ps.zip us) := by
    have n3 := hb s2 us I2.kIn (by rwa [List.append_nil])
    rwa [List.append_nil] at n3
  obtain ⟨q1, q2, q3, q4, q5⟩ := I2.pin (ad, oe) (List.mem_append.mpr (.inl List.mem_cons_self))
  have hpin : L2H.PinOk X.stack H2 s2 (ad, oe) := ⟨q1, q2, fun m => by
    rcases List.mem_cons.mp (I2.stkSub _ m) with z | z
    · exact q3 z
    · exact q4 z, q5⟩
  refine wpAny_call (codeAny_mono (F.run (X.suite ad ((ad, oe) :: pn)).A X.stack s2 H2 ⟨us, []⟩ us [.ref ad] Q (fun _ _ _ => False) ⟨hr.dp, hr.un⟩ hpin I2.env0 n2 rv ⟨G, [.ob 100 []], S.gh, S.st.nm S.nb.1, S.mo, .cons (by show ObRp _ _ _ _ _; unfold ObRp; rw [if_pos rfl]) .nil, rfl, ?_⟩) fun z s3 w => ?_)
  · revert o
    generalize M cn [.ob 100 []] = rr
    intro o
    cases rr with
    | err c => exact o.elim
    | stuck => exact o.elim
    | val v =>
      cases v with
      | sh d => exact o
      | ow ds => exact o
      | ob _ _ => exact o.elim
      | rg _ => exact o.elim
  · rcases z with z | z
    · obtain ⟨_, _, _, _, _, _, _, _, _, _, _, _, w⟩ := w
      exact w.elim
    · cases z with
      | ret u => exact I2.after w
      | next => exact w.elim
      | brk => exact w.elim
      | cont => exact w.elim
end
end VL
namespace VL
open PySem L2
theorem Oc.calx {K : PySem.W.Frag} {mg : Str → Option Value} {T : Ct} {x : Str} {c : Nat} (h : Oc K mg T x c) (fr : Nat → Addr → Hp → Prop) (fm) (l : List Addr) (G : Hp) (a : Addr) : Oc K mg { T with fr := fr, fm := fm, tb := l, gc := G, xa := a } x c := by
  cases h; constructor <;> assumption
theorem OkI.calx {K : PySem.W.Frag} {mg : Str → Option Value} {T : Ct} {x : Str} {c : Nat → Bool} (h : OkI K mg T x c) (fr : Nat → Addr → Hp → Prop) (fm) (l : List Addr) (G : Hp) (a : Addr) : OkI K mg { T with fr := fr, fm := fm, tb := l, gc := G, xa := a } x c := by
  cases h; constructor <;> assumption
theorem xv_mk {K : PySem.W.Frag} {h : Heap} {mg : Str → Option Value} {C : Addr} {c : Str} (X : K.In h) (G : h.Ns mainGlobals mg) (a : PySem.W.nsIn K mainGlobals c = some (some (.ref C))) (v : PySem.W.kitOne K (.ref C) (.type "ValueError") = some true) : Xv K (ctOf mg) c := by
  have e : (ctOf mg).er c = C := adOf_eq (PySem.W.mg_of X G a)
  exact ⟨by rw [e]; exact v⟩
theorem fnKs_zero {P : Program} {w : World} {K : PySem.W.Frag} {mg : Str → Option Value} {base : Heap} {T : Ct} {x q : Str} {st : Stmt} {ps : List Str} {ers : List Str} {m : Str → List SV → R} (d : Df K mg x q st ps) (h : ∀ cn, m cn = fun _ => .stuck) : FnKs P w K mg base T 0 x ers m := by
  intro oe cn _ _ _
  obtain ⟨f, fd, F, hm, hbi⟩ := d
  rw [h cn]
  have no : ∀ vs H Q E, ¬ spV T 1 (fun _ => .stuck) vs H Q E := fun vs H Q E ⟨_, _, _, _, _, _, _, o⟩ => o
  exact ⟨f, fd, ps, ⟨fun vs H Q E h => absurd h (no vs H Q E), fun A outer s H args us vs Q E _ _ _ _ _ h => absurd h (no vs H Q E)⟩, hm, F.kp, hbi⟩
/-! ### a lambda of a def's text, by the way to it -/
inductive Nd where
  | e (x : Expr)
  | s (x : Stmt)
  | no
def ndS (l : List Stmt) (i : Nat) : Nd := match l[i]? with
  | some x => .s x
  | none => .no
def ndE (l : List Expr) (i : Nat) : Nd := match l[i]? with
  | some x => .e x
  | none => .no
def kid : Nd → Nat → Nd
  | .s (.Assign _ v _), _ => .e v
  | .s (.Return (some v) _), _ => .e v
  | .s (.Expr v _), _ => .e v
  | .s (.If c a _ _), i => match i with
    | 0 => .e c
    | j + 1 => ndS a j
  | .s (.For _ it b _ _), i => match i with
    | 0 => .e it
    | j + 1 => ndS b j
  | .e (.List es _), i => ndE es i
  | .e (.BinOp l _ r _), i => match i with
    | 0 => .e l
    | _ => .e r
  | .e (.Call _ es _ _), i => ndE es i
  | .e (.UnaryOp _ x _), _ => .e x
  | .e (.BoolOp _ xs _), i => ndE xs i
  | _, _ => .no
def lamD (p : Str) (ys : List Str) (js : List Nat) : Nd → LamD
  | .e (.Lambda a b c _) => ⟨p, ys, js, a, b, c⟩
  | _ => ⟨p, ys, js, ⟨[], [], none, [], [], none, []⟩, .Constant .none 0 ⟨0, 0, 0, 0⟩, ⟨.function, [], false, false, []⟩⟩
end VL
namespace VL
open PySem PySem.Spec PyProof.Rows L2
/-! ### len(set(x)), like ints among them -/
def metN (ns : List Int) : Nat := (PyProof.Rows.firstMet (fun i => ns.getD i 0) ns.length).length
theorem metN_nodup {ns : List Int} (h : ns.Nodup) : metN ns = ns.length := by
  unfold metN
  rw [RZ.firstMet_nodup h ns.length (Nat.le_refl _), List.take_length]
@[simp] def fLenSetD : D → R
  | .list ds => (match intsOf ds with
    | some ns => if ns.length ≤ 4000 then ri (metN ns : Nat) else .stuck
    | none => .stuck)
  | _ => .stuck
def tLenSetD (K : PySem.W.Frag) (ta : TE) : TE := fun σ H Q => ta σ H fun x H1 => ∃ (l : Addr) (ns : List Int), x = .ref l ∧ SqL K H1 l (ns.map V.int) ∧ ns.length ≤ 4000 ∧ Q (.int (metN ns : Nat)) H1
theorem pe_lenSetD {X : Cx} {a : Expr} {ta : TE} {p p2 q pos : Pos} (hg : Gl X "len") (hm : X.mg "len" = none) (hg2 : Gl X "set") (hm2 : X.mg "set" = none) (ha : PE X a ta) (hc : X.calm = true)
    (na : starEach [a] X.env = (false, eval a X.env) :: starEach [] X.env) : PE X (.Call (.Name "len" p) [.Call (.Name "set" p2) [a] [] q] [] pos) (tLenSetD X.K ta) := by
  refine ⟨fun pins s σ H Q I h => ?_⟩
  refine Call_ (ld_blt I hg hm PySem.boot_len ?_)
  refine PyProof.Rows.callWith_builtin1 (PyProof.Rows.args_cons ?_ rfl) rfl rfl
  refine Call_ (ld_blt I hg2 hm2 PyProof.Rows.boot_set ?_)
  refine PyProof.Rows.callWith_type1 (PyProof.Rows.args_cons (thn (ha.run pins s σ H _ I h) fun v s1 ⟨x, H1, I1, r1, q1⟩ => PyProof.Rows.args_nil ?_) na) na rfl
  obtain ⟨l, ns, rfl, hq, hl, q1⟩ := q1
  cases r1
  obtain ⟨its, r, pl, hz⟩ := I1.list hq
  have hlen : its.toArray.size = ns.length := by rw [List.size_toArray, ← r.length, List.length_map]
  have hm : metN ns ≤ ns.length := PyProof.Rows.firstMet_length_le _ _
  refine PySem.call_set_list (I1.ok.hd hc) pl.isList (by simpa using RZ.intsAre_vals r) (by rw [hlen]; unfold scanBound; omega) fun h' tk hS hk => ?_
  refine PyProof.Rows.args_nil ?_
  rw [hlen] at hS
  obtain ⟨o, es, ep, t, ho, hex, hd, _, _, _, hf, hn⟩ := hS
  have hn : es.size = metN ns := hn
  have I2 : Inv X pins σ H1 { s1 with heap := h', toks := tk } := I1.kept fun b o e => hk b o (Heap.lt_size e) e
  exact call_len_set ho hex hd hf (by rw [hn]; omega) ⟨.int (metN ns : Nat), H1, I2.tok _, ⟨_, by rw [hn]⟩, q1⟩
theorem ve_lenSetD {X : Cx} {T : Ct} {EX : XK} {B : Hp × Hp} {a : Expr} {f : FE} {p p2 q pos : Pos} (C : Cv X T EX B) (t1 : Bt X "len") (t2 : Bt X "set") (ha : VE X T EX B a f) (na : starEach [a] X.env = (false, eval a X.env) :: starEach [] X.env := by rfl) : VE X T EX B (.Call (.Name "len" p) [.Call (.Name "set" p2) [a] [] q] [] pos) (op1 fLenSetD f) :=
  pe_weak (pe_lenSetD t1.gl t1.mg t2.gl t2.mg ha C.calm na) fun σ H Q q => use1 (r := fun x H1 Q => ∃ (l : Addr) (ns : List Int), x = .ref l ∧ SqL X.K H1 l (ns.map V.int) ∧ ns.length ≤ 4000 ∧ Q (.int (metN ns : Nat)) H1) (fun x dx G H gh hx o => by
    unfold fLenSetD at o
    split at o
    · split at o
      · rename_i ns en
        split at o
        · rename_i c
          obtain ⟨l, xs, rfl, s1, q1⟩ := hx.lstH gh
          have := intsOf_ok en q1
          subst this
          exact ⟨l, ns, rfl, sqL_K s1, c, o.ri gh⟩
        · exact o.elim
      · exact o.elim
    · exact o.elim) q
end VL
namespace HM
open PySem L2 VL
def b_is_key : FS := sRet (vAnd (vIsT isInt (vVar 0)) (vNot (vIsT isBool (vVar 0))))
def m_is_key : Nat → List SV → R
  | 0 => fun _ => .stuck
  | k + 1 => runB 1 (b_is_key)
def p_is_form_1 (c_is_key : List SV → R) : FE := vBor 1 (op2 fNe (vVar 1) (vLst []))
def p_is_form_2 (c_is_key : List SV → R) : FS := sSeq (sPop 3 1) (sSeq (sIf (vOr (vNot (vIsT isTup (vVar 3))) (op2 fNin (cal1 fLen (vVar 3)) (vTup [vC (.int 0), vC (.int 3)]))) (sRet (vC (.bool false))) (sNil)) (sIf (op2 fEq (cal1 fLen (vVar 3)) (vC (.int 3))) (sSeq (sAdd 2 (vC (.int 1))) (sSeq (sIf (vOr (op2 fGt (vVar 2) (vC (.int 40))) (vNot (calF 1 c_is_key [op2 fIx (vVar 3) (vC (.int 1))]))) (sRet (vC (.bool false))) (sNil)) (sExt 1 (vLst [op2 fIx (vVar 3) (vC (.int 0)), op2 fIx (vVar 3) (vC (.int 2))])))) (sNil)))
def b_is_form (c_is_key : List SV → R) : FS := sThF (.sh (.bool false)) (sSeq (sPar2 1 2 true false (vLst [vVar 0]) (vC (.int 0))) (sSeq (sWhile WF (p_is_form_1 c_is_key) (p_is_form_2 c_is_key)) (sRet (vC (.bool true)))))
def m_is_form : Nat → List SV → R
  | 0 => fun _ => .stuck
  | k + 1 => runB 4 (b_is_form (m_is_key k))
def p_is_ordered_1 (c_is_ordered : List SV → R) : FS := sIf (vAnd (op2 fNe (vVar 1) (vTup [])) (op2 fLt (op2 fIx (vVar 1) (vC (.int 1))) (op2 fIx (vVar 0) (vC (.int 1))))) (sRet (vC (.bool false))) (sNil)
def b_is_ordered (c_is_ordered : List SV → R) : FS := sSeq (sIf (op2 fEq (vVar 0) (vTup [])) (sRet (vC (.bool true))) (sNil)) (sSeq (sFor (tgN 1) (itD iT (vTup [op2 fIx (vVar 0) (vC (.int 0)), op2 fIx (vVar 0) (vC (.int 2))])) (p_is_ordered_1 c_is_ordered)) (sRet (vAnd (calF 1 c_is_ordered [op2 fIx (vVar 0) (vC (.int 0))]) (calF 1 c_is_ordered [op2 fIx (vVar 0) (vC (.int 2))]))))
def m_is_ordered : Nat → List SV → R
  | 0 => fun _ => .stuck
  | k + 1 => runB 2 (b_is_ordered (m_is_ordered k))
def b_check_heap (c_is_form : List SV → R) (c_is_ordered : List SV → R) : FS := sIf (vOr (vNot (calF 1 c_is_form [vVar 0])) (vNot (calF 1 c_is_ordered [vVar 0]))) (sRaise "BadHeap") (sNil)
def m_check_heap : Nat → List SV → R
  | 0 => fun _ => .stuck
  | k + 1 => runB 1 (b_check_heap (m_is_form k) (m_is_ordered k))
def b_row_from (c_row_from : List SV → R) : FS := sRet (vIf (op2 fEq (vVar 0) (vTup [])) (vLst []) (op2 fAdd (op2 fAdd (calF 1 c_row_from [op2 fIx (vVar 0) (vC (.int 0))]) (vLst [op2 fIx (vVar 0) (vC (.int 1))])) (calF 1 c_row_from [op2 fIx (vVar 0) (vC (.int 2))])))
def m_row_from : Nat → List SV → R
  | 0 => fun _ => .stuck
  | k + 1 => runB 1 (b_row_from (m_row_from k))
def b_keys_of (c_check_heap : List SV → R) (c_row_from : List SV → R) : FS := sSeq (sExpr (calF 1 c_check_heap [vVar 0])) (sRet (cal1 fSorted (calF 1 c_row_from [vVar 0])))
def m_keys_of : Nat → List SV → R
  | 0 => fun _ => .stuck
  | k + 1 => runB 1 (b_keys_of (m_check_heap k) (m_row_from k))
def b_row_of (c_check_heap : List SV → R) (c_row_from : List SV → R) : FS := sSeq (sExpr (calF 1 c_check_heap [vVar 0])) (sRet (calF 1 c_row_from [vVar 0]))
def m_row_of : Nat → List SV → R
  | 0 => fun _ => .stuck
  | k + 1 => runB 1 (b_row_of (m_check_heap k) (m_row_from k))
def b_rank_of (c_rank_of : List SV → R) : FS := sRet (vIf (op2 fEq (vVar 0) (vTup [])) (vC (.int 0)) (op2 fAdd (vC (.int 1)) (cal2 fMin2 (calF 1 c_rank_of [op2 fIx (vVar 0) (vC (.int 0))]) (calF 1 c_rank_of [op2 fIx (vVar 0) (vC (.int 2))]))))
def m_rank_of : Nat → List SV → R
  | 0 => fun _ => .stuck
  | k + 1 => runB 1 (b_rank_of (m_rank_of k))
def b_slants (c_rank_of : List SV → R) : FS := sRet (vAnd (op2 fNe (vVar 0) (vTup [])) (op2 fGt (calF 1 c_rank_of [op2 fIx (vVar 0) (vC (.int 2))]) (calF 1 c_rank_of [op2 fIx (vVar 0) (vC (.int 0))])))
def m_slants : Nat → List SV → R
  | 0 => fun _ => .stuck
  | k + 1 => runB 1 (b_slants (m_rank_of k))
def b_slanting (c_slants : List SV → R) (c_slanting : List SV → R) : FS := sSeq (sIf (op2 fEq (vVar 0) (vTup [])) (sRet (vLst [])) (sNil)) (sSeq (sSet 2 (vIf (calF 1 c_slants [vVar 0]) (vLst [vVar 1]) (vLst []))) (sRet (op2 fAdd (op2 fAdd (vVar 2) (calF 2 c_slanting [op2 fIx (vVar 0) (vC (.int 0)), op2 fAdd (vVar 1) (vLst [vC (.str "left")])])) (calF 2 c_slanting [op2 fIx (vVar 0) (vC (.int 2)), op2 fAdd (vVar 1) (vLst [vC (.str "right")])]))))
def m_slanting : Nat → List SV → R
  | 0 => fun _ => .stuck
  | k + 1 => runB 3 (b_slanting (m_slants k) (m_slanting k))
def b_exchanged (c_exchanged : List SV → R) : FS := sSeq (sIf (op2 fEq (vVar 0) (vTup [])) (sRet (vTup [])) (sNil)) (sSeq (sPar2 3 4 false false (calF 3 c_exchanged [op2 fIx (vVar 0) (vC (.int 0)), op2 fAdd (vVar 1) (vLst [vC (.str "left")]), vVar 2]) (calF 3 c_exchanged [op2 fIx (vVar 0) (vC (.int 2)), op2 fAdd (vVar 1) (vLst [vC (.str "right")]), vVar 2])) (sRet (vIf (op2 fIn (vVar 1) (vVar 2)) (vTup [vVar 4, op2 fIx (vVar 0) (vC (.int 1)), vVar 3]) (vTup [vVar 3, op2 fIx (vVar 0) (vC (.int 1)), vVar 4]))))
def m_exchanged : Nat → List SV → R
  | 0 => fun _ => .stuck
  | k + 1 => runB 5 (b_exchanged (m_exchanged k))
def b_rank (c_check_heap : List SV → R) (c_rank_of : List SV → R) : FS := sSeq (sExpr (calF 1 c_check_heap [vVar 0])) (sRet (calF 1 c_rank_of [vVar 0]))
def m_rank : Nat → List SV → R
  | 0 => fun _ => .stuck
  | k + 1 => runB 1 (b_rank (m_check_heap k) (m_rank_of k))
def m_Slants : Nat → List FE → FE := nwM 1 mk1
def b_judged (c_check_heap : List SV → R) (c_slanting : List SV → R) (c_Slants : List FE → FE) : FS := sSeq (sExpr (calF 1 c_check_heap [vVar 0])) (sSeq (sSet 1 (calF 2 c_slanting [vVar 0, vLst []])) (sRet (vIf (op2 fEq (vVar 1) (vLst [])) (vNew0 0) (c_Slants [op2 fIx (vVar 1) (vC (.int 0))]))))
def m_judged : Nat → List SV → R
  | 0 => fun _ => .stuck
  | k + 1 => runB 2 (b_judged (m_check_heap k) (m_slanting k) (m_Slants k))
def m_Leaned : Nat → List FE → FE := nwM 2 mk2
def b_size_of (c_size_of : List SV → R) : FS := sRet (vIf (op2 fEq (vVar 0) (vTup [])) (vC (.int 0)) (op2 fAdd (op2 fAdd (vC (.int 1)) (calF 1 c_size_of [op2 fIx (vVar 0) (vC (.int 0))])) (calF 1 c_size_of [op2 fIx (vVar 0) (vC (.int 2))])))
def m_size_of : Nat → List SV → R
  | 0 => fun _ => .stuck
  | k + 1 => runB 1 (b_size_of (m_size_of k))
def b_check_both (c_check_heap : List SV → R) (c_size_of : List SV → R) : FS := sSeq (sExpr (calF 1 c_check_heap [vVar 0])) (sSeq (sExpr (calF 1 c_check_heap [vVar 1])) (sIf (op2 fGt (op2 fAdd (calF 1 c_size_of [vVar 0]) (calF 1 c_size_of [vVar 1])) (vC (.int 40))) (sRaise "TooMany") (sNil)))
def m_check_both : Nat → List SV → R
  | 0 => fun _ => .stuck
  | k + 1 => runB 2 (b_check_both (m_check_heap k) (m_size_of k))
def b_check_leaning (c_slanting : List SV → R) : FS := sIf (op2 fNe (calF 2 c_slanting [vVar 0, vLst []]) (vLst [])) (sRaise "NotLeaning") (sNil)
def m_check_leaning : Nat → List SV → R
  | 0 => fun _ => .stuck
  | k + 1 => runB 1 (b_check_leaning (m_slanting k))
def b_leaning_knot (c_rank_of : List SV → R) : FS := sSeq (sIf (op2 fLt (calF 1 c_rank_of [vVar 0]) (calF 1 c_rank_of [vVar 2])) (sRet (vTup [vVar 2, vVar 1, vVar 0])) (sNil)) (sRet (vTup [vVar 0, vVar 1, vVar 2]))
def m_leaning_knot : Nat → List SV → R
  | 0 => fun _ => .stuck
  | k + 1 => runB 3 (b_leaning_knot (m_rank_of k))
def b_joinL (c_joinL : List SV → R) (c_leaning_knot : List SV → R) : FS := sSeq (sIf (vOr (op2 fEq (vVar 0) (vTup [])) (op2 fEq (vVar 1) (vTup []))) (sRet (vIf (op2 fEq (vVar 1) (vTup [])) (vVar 0) (vVar 1))) (sNil)) (sSeq (sIf (op2 fLt (op2 fIx (vVar 1) (vC (.int 1))) (op2 fIx (vVar 0) (vC (.int 1)))) (sPar2 0 1 false false (vVar 1) (vVar 0)) (sNil)) (sRet (calF 3 c_leaning_knot [op2 fIx (vVar 0) (vC (.int 0)), op2 fIx (vVar 0) (vC (.int 1)), calF 2 c_joinL [op2 fIx (vVar 0) (vC (.int 2)), vVar 1]])))
def m_joinL : Nat → List SV → R
  | 0 => fun _ => .stuck
  | k + 1 => runB 2 (b_joinL (m_joinL k) (m_leaning_knot k))
def b_lean_join (c_check_both : List SV → R) (c_check_leaning : List SV → R) (c_joinL : List SV → R) : FS := sSeq (sExpr (calF 2 c_check_both [vVar 0, vVar 1])) (sSeq (sExpr (calF 1 c_check_leaning [vVar 0])) (sSeq (sExpr (calF 1 c_check_leaning [vVar 1])) (sRet (calF 2 c_joinL [vVar 0, vVar 1]))))
def m_lean_join : Nat → List SV → R
  | 0 => fun _ => .stuck
  | k + 1 => runB 2 (b_lean_join (m_check_both k) (m_check_leaning k) (m_joinL k))
def b_lean_take (c_check_heap : List SV → R) (c_check_leaning : List SV → R) (c_joinL : List SV → R) : FS := sSeq (sExpr (calF 1 c_check_heap [vVar 0])) (sSeq (sExpr (calF 1 c_check_leaning [vVar 0])) (sSeq (sIf (op2 fEq (vVar 0) (vTup [])) (sRaise "Empty") (sNil)) (sRet (vTup [op2 fIx (vVar 0) (vC (.int 1)), calF 2 c_joinL [op2 fIx (vVar 0) (vC (.int 0)), op2 fIx (vVar 0) (vC (.int 2))]]))))
def m_lean_take : Nat → List SV → R
  | 0 => fun _ => .stuck
  | k + 1 => runB 1 (b_lean_take (m_check_heap k) (m_check_leaning k) (m_joinL k))
def b_check_keys (c_is_key : List SV → R) : FS := sIf (vOr (vNot (vIsT isList (vVar 0))) (vOr (op2 fGt (cal1 fLen (vVar 0)) (vC (.int 40))) (vNot (cal1 fAll (vLc [1] (tgN 1) (itD iL (vVar 0)) (vC (.bool true)) (calF 1 c_is_key [vVar 1])))))) (sRaise "BadKey") (sNil)
def m_check_keys : Nat → List SV → R
  | 0 => fun _ => .stuck
  | k + 1 => runB 2 (b_check_keys (m_is_key k))
def p_lean_of_1 (c_check_keys : List SV → R) (c_joinL : List SV → R) : FE := op2 fGt (cal1 fLen (vVar 1)) (vC (.int 1))
def p_lean_of_2 (c_check_keys : List SV → R) (c_joinL : List SV → R) : FS := sSet 1 (op2 fAdd (vSlL (vVar 1) (vC (.int 2))) (vLst [calF 2 c_joinL [op2 fIx (vVar 1) (vC (.int 0)), op2 fIx (vVar 1) (vC (.int 1))]]))
def b_lean_of (c_check_keys : List SV → R) (c_joinL : List SV → R) : FS := sSeq (sExpr (calF 1 c_check_keys [vVar 0])) (sSeq (sSet 1 (vLc [2] (tgN 2) (itD iL (vVar 0)) (vC (.bool true)) (vTup [vTup [], vVar 2, vTup []]))) (sSeq (sWhile WF (p_lean_of_1 c_check_keys c_joinL) (p_lean_of_2 c_check_keys c_joinL)) (sRet (vIf (op2 fNe (vVar 1) (vLst [])) (op2 fIx (vVar 1) (vC (.int 0))) (vTup [])))))
def m_lean_of : Nat → List SV → R
  | 0 => fun _ => .stuck
  | k + 1 => runB 3 (b_lean_of (m_check_keys k) (m_joinL k))
def b_leaned (c_check_heap : List SV → R) (c_slanting : List SV → R) (c_exchanged : List SV → R) (c_Leaned : List FE → FE) : FS := sSeq (sExpr (calF 1 c_check_heap [vVar 0])) (sSeq (sSet 1 (cal1 fSortedD (calF 2 c_slanting [vVar 0, vLst []]))) (sRet (c_Leaned [calF 3 c_exchanged [vVar 0, vLst [], vVar 1], vVar 1])))
def m_leaned : Nat → List SV → R
  | 0 => fun _ => .stuck
  | k + 1 => runB 2 (b_leaned (m_check_heap k) (m_slanting k) (m_exchanged k) (m_Leaned k))
def b_joinT (c_joinT : List SV → R) : FS := sSeq (sIf (vOr (op2 fEq (vVar 0) (vTup [])) (op2 fEq (vVar 1) (vTup []))) (sRet (vTup [vIf (op2 fEq (vVar 1) (vTup [])) (vVar 0) (vVar 1), vC (.int 0)])) (sNil)) (sSeq (sIf (op2 fLt (op2 fIx (vVar 1) (vC (.int 1))) (op2 fIx (vVar 0) (vC (.int 1)))) (sPar2 0 1 false false (vVar 1) (vVar 0)) (sNil)) (sSeq (sUnp (tg2 2 3) (calF 2 c_joinT [op2 fIx (vVar 0) (vC (.int 2)), vVar 1])) (sRet (vTup [vTup [vVar 2, op2 fIx (vVar 0) (vC (.int 1)), op2 fIx (vVar 0) (vC (.int 0))], op2 fAdd (vVar 3) (vC (.int 1))]))))
def m_joinT : Nat → List SV → R
  | 0 => fun _ => .stuck
  | k + 1 => runB 4 (b_joinT (m_joinT k))
def b_turn_join (c_check_both : List SV → R) (c_joinT : List SV → R) : FS := sSeq (sExpr (calF 2 c_check_both [vVar 0, vVar 1])) (sRet (calF 2 c_joinT [vVar 0, vVar 1]))
def m_turn_join : Nat → List SV → R
  | 0 => fun _ => .stuck
  | k + 1 => runB 2 (b_turn_join (m_check_both k) (m_joinT k))
def b_purse_of (c_size_of : List SV → R) (c_purse_of : List SV → R) : FS := sSeq (sIf (op2 fEq (vVar 0) (vTup [])) (sRet (vC (.int 0))) (sNil)) (sRet (op2 fAdd (op2 fAdd (cal1 fInt (op2 fGt (calF 1 c_size_of [op2 fIx (vVar 0) (vC (.int 2))]) (calF 1 c_size_of [op2 fIx (vVar 0) (vC (.int 0))]))) (calF 1 c_purse_of [op2 fIx (vVar 0) (vC (.int 0))])) (calF 1 c_purse_of [op2 fIx (vVar 0) (vC (.int 2))])))
def m_purse_of : Nat → List SV → R
  | 0 => fun _ => .stuck
  | k + 1 => runB 1 (b_purse_of (m_size_of k) (m_purse_of k))
def b_purse (c_check_heap : List SV → R) (c_purse_of : List SV → R) : FS := sSeq (sExpr (calF 1 c_check_heap [vVar 0])) (sRet (calF 1 c_purse_of [vVar 0]))
def m_purse : Nat → List SV → R
  | 0 => fun _ => .stuck
  | k + 1 => runB 1 (b_purse (m_check_heap k) (m_purse_of k))
def b_turn_take (c_check_heap : List SV → R) (c_joinT : List SV → R) : FS := sSeq (sExpr (calF 1 c_check_heap [vVar 0])) (sSeq (sIf (op2 fEq (vVar 0) (vTup [])) (sRaise "Empty") (sNil)) (sSeq (sUnp (tg2 1 2) (calF 2 c_joinT [op2 fIx (vVar 0) (vC (.int 0)), op2 fIx (vVar 0) (vC (.int 2))])) (sRet (vTup [op2 fIx (vVar 0) (vC (.int 1)), vVar 1, vVar 2]))))
def m_turn_take : Nat → List SV → R
  | 0 => fun _ => .stuck
  | k + 1 => runB 3 (b_turn_take (m_check_heap k) (m_joinT k))
def b_heap_from (c_heap_from : List SV → R) : FS := sSeq (sIf (op2 fEq (vVar 0) (vLst [])) (sRet (vTup [])) (sNil)) (sSeq (sSet 1 (vIdx (vVar 0) (cal1 fMin1 (vVar 0)))) (sRet (vTup [calF 1 c_heap_from [vSlH (vVar 0) (vVar 1)], op2 fIx (vVar 0) (vVar 1), calF 1 c_heap_from [vSlL (vVar 0) (op2 fAdd (vVar 1) (vC (.int 1)))]])))
def m_heap_from : Nat → List SV → R
  | 0 => fun _ => .stuck
  | k + 1 => runB 2 (b_heap_from (m_heap_from k))
def b_heap_of (c_check_keys : List SV → R) (c_heap_from : List SV → R) : FS := sSeq (sExpr (calF 1 c_check_keys [vVar 0])) (sSeq (sIf (op2 fNe (op1 fLenSetD (vVar 0)) (cal1 fLen (vVar 0))) (sRaise "BadKey") (sNil)) (sRet (calF 1 c_heap_from [vVar 0])))
def m_heap_of : Nat → List SV → R
  | 0 => fun _ => .stuck
  | k + 1 => runB 1 (b_heap_of (m_check_keys k) (m_heap_from k))
def b_sizes_of (c_sizes_of : List SV → R) (c_size_of : List SV → R) : FS := sRet (vIf (op2 fEq (vVar 0) (vTup [])) (vLst []) (op2 fAdd (op2 fAdd (calF 1 c_sizes_of [op2 fIx (vVar 0) (vC (.int 0))]) (vLst [calF 1 c_size_of [vVar 0]])) (calF 1 c_sizes_of [op2 fIx (vVar 0) (vC (.int 2))])))
def m_sizes_of : Nat → List SV → R
  | 0 => fun _ => .stuck
  | k + 1 => runB 1 (b_sizes_of (m_sizes_of k) (m_size_of k))
def p_how_many_rows_1 (c_is_form : List SV → R) (c_sizes_of : List SV → R) : FS := sSet 1 (op2 fMul (vVar 1) (op2 fAdd (vVar 3) (vC (.int 1))))
def p_how_many_rows_2 (c_is_form : List SV → R) (c_sizes_of : List SV → R) : FS := sSet 1 (op2 fDiv (vVar 1) (vVar 4))
def b_how_many_rows (c_is_form : List SV → R) (c_sizes_of : List SV → R) : FS := sSeq (sIf (vNot (calF 1 c_is_form [vVar 0])) (sRaise "BadShape") (sNil)) (sSeq (sSet 1 (vC (.int 1))) (sSeq (sSet 2 (calF 1 c_sizes_of [vVar 0])) (sSeq (sFor (tgN 3) (itA iR1 [cal1 fLen (vVar 2)]) (p_how_many_rows_1 c_is_form c_sizes_of)) (sSeq (sFor (tgN 4) (itD iL (vVar 2)) (p_how_many_rows_2 c_is_form c_sizes_of)) (sRet (vVar 1))))))
def m_how_many_rows : Nat → List SV → R
  | 0 => fun _ => .stuck
  | k + 1 => runB 5 (b_how_many_rows (m_is_form k) (m_sizes_of k))
def b_l_kinds (cn : Str) : FS := sSeq (sSet 1 (vLst [vIsE 0 cn "BadHeap", vIsE 0 cn "BadKey", vIsE 0 cn "BadShape"])) (sSeq (sSet 1 (op2 fAdd (vVar 1) (vLst [vIsE 0 cn "BadCount", vIsE 0 cn "BadNumber", vIsE 0 cn "BadPile"]))) (sSeq (sSet 1 (op2 fAdd (vVar 1) (vLst [vIsE 0 cn "NotLeaning", vIsE 0 cn "Empty", vIsE 0 cn "TooMany"]))) (sRet (op2 fAdd (vVar 1) (vLst [vIsX 0])))))
def m_l_kinds (cn : Str) : Nat → List SV → R
  | 0 => fun _ => .stuck
  | k + 1 => runB 2 (b_l_kinds cn)
def b_l_refused_k19 (c_ask : Nat → List SV → R) (c_kinds : Str → List SV → R) : FS := sSeq (sSet 3 (vLst [])) (sSeq (sTryV 4 0 ["BadHeap", "BadKey", "BadShape", "BadCount", "BadNumber", "BadPile", "NotLeaning", "Empty", "TooMany"] 1 c_ask [vVar 1] (fun cn => sSet 3 (calX (c_kinds cn) 4))) (sRet (op2 fEq (vVar 3) (op2 fAdd (vLc [5] (tgN 5) (itA iR1 [vC (.int 9)]) (vC (.bool true)) (op2 fEq (vVar 5) (vVar 2))) (vLst [vC (.bool true)])))))
def m_l_refused_k19 (c_ask : Nat → List SV → R) : Nat → List SV → R
  | 0 => fun _ => .stuck
  | k + 1 => runB 6 (b_l_refused_k19 c_ask (fun cn => m_l_kinds cn k))
def p_l_all_1 (c_l_refused_k19 : List SV → R) : FS := sIf (vNot (cal1 fAll (vLcQ [4] (tgT 4) (itT (vVar 1)) (calF 3 c_l_refused_k19 [vVar 3, vVar 4, vVar 2])))) (sRet (vC (.bool false))) (sNil)
def b_l_all (c_l_refused_k19 : List SV → R) : FS := sSeq (sForQ (tgC 3) (itC (vVar 0)) (p_l_all_1 c_l_refused_k19)) (sRet (vC (.bool true)))
def m_l_all (c_ask : Nat → List SV → R) : Nat → List SV → R
  | 0 => fun _ => .stuck
  | k + 1 => runB 5 (b_l_all (m_l_refused_k19 c_ask k))
def p_l_no_forms_k19_1 : FS := sPar2 2 3 false false (vTup [vVar 2, op1 fNeg (vVar 4), vTup []]) (vTup [vTup [], op1 fNeg (vVar 0), vVar 3])
def p_l_no_forms_k19_2 : FS := sSet 5 (vTup [vVar 5, op1 fNeg (vVar 4), vTup []])
def p_l_no_forms_k19_3 : FS := sSet 6 (vTup [vVar 6, op1 fNeg (vVar 4), vVar 6])
def b_l_no_forms_k19 : FS := sSeq (sSet 1 (vLstT [vC .none, vC (.int 5), vC (.str ""), vLst [], vD0, vTup [vC (.int 1)], vTup [vC (.int 1), vC (.int 2)], vTup [vTup [], vC (.int 1)], vTup [vTup [], vC (.int 1), vTup [], vTup []], vLst [vTup [], vC (.int 1), vTup []], vTup [vTup [], vC .none, vTup []]])) (sSeq (sSet 1 (vAddT (vVar 1) (vLst [vTup [vTup [], vC (.bool true), vTup []], vTup [vTup [], vC (.str "1"), vTup []], vTup [vLst [], vC (.int 1), vTup []], vTup [vTup [], vC (.int 1), vLst []], vTup [vC .none, vC (.int 1), vTup []], vTup [vTup [], vC (.int 1), vVar 0]]))) (sSeq (sUnp (tg2 2 3) (vTup [vTup [], vTup []])) (sSeq (sFor (tgN 4) (itA iR1 [vC (.int 41)]) (p_l_no_forms_k19_1)) (sSeq (sUnp (tg2 5 6) (vTup [vTup [], vTup []])) (sSeq (sFor (tgN 4) (itA iR1 [vIf (op2 fEq (vVar 0) (vC (.int 0))) (vC (.int 1200)) (vC (.int 41))]) (p_l_no_forms_k19_2)) (sSeq (sFor (tgN 4) (itA iR1 [vC (.int 60)]) (p_l_no_forms_k19_3)) (sRet (vAddT (vVar 1) (vLst [vVar 2, vVar 3, vVar 5, vVar 6, vTup [vTup [vTup [], vC (.int 5), vTup []], vC (.int 1), vTup [vC .none, vC (.int 7), vTup []]], vTup [vVar 2, op1 fNeg (vC (.int 99)), vTup []]])))))))))
def m_l_no_forms_k19 : Nat → List SV → R
  | 0 => fun _ => .stuck
  | k + 1 => runB 7 (b_l_no_forms_k19)
def b_l_no_heaps (c_l_no_forms_k19 : List SV → R) : FS := sSeq (sSet 1 (vTup [vTup [vTup [], vC (.int 4), vTup []], vC (.int 1), vTup [vTup [], op2 fAdd (vC (.int 7)) (vVar 0), vTup []]])) (sSeq (sSet 2 (vLst [vTup [vTup [], vC (.int 1), vTup [vTup [], vC (.int 0), vTup []]], vTup [vTup [vTup [], op1 fNeg (vVar 0), vTup []], vC (.int 1), vTup []], vTup [vVar 1, vC (.int 2), vTup []], vTup [vTup [], op2 fAdd (vC (.int 2)) (vVar 0), vVar 1]])) (sRet (vAddT (vAddT (calF 1 c_l_no_forms_k19 [vVar 0]) (vVar 2)) (vLst [vTup [vTup [vVar 1, vC (.int 1), vTup [vTup [], vC (.int 0), vTup []]], vC (.int 0), vVar 1], vTup [vTup [], vC (.int 8), vTup [vTup [], vC (.int 9), vTup [vTup [], vC (.int 8), vTup []]]]]))))
def m_l_no_heaps : Nat → List SV → R
  | 0 => fun _ => .stuck
  | k + 1 => runB 3 (b_l_no_heaps (m_l_no_forms_k19 k))
def b_l_no_rows : FS := sSeq (sSet 1 (vLstT [vC .none, vC (.int 5), vC (.str "12"), vTup [], vTup [vC (.int 1), vC (.int 2)], vD0, vLst [vC .none], vLst [vC (.int 1), vC (.str "2")], vLst [vC (.bool true)], vLst [vC (.int 0), vC (.bool false)], vLst [vLst [vC (.int 1)]], op2 fMul (vLst [vC (.int 1)]) (vC (.int 41))])) (sRet (vAddT (vVar 1) (vLst [op2 fMul (vLst [vVar 0]) (op2 fAdd (vC (.int 41)) (op2 fMod (vVar 0) (vC (.int 9))))])))
def m_l_no_rows : Nat → List SV → R
  | 0 => fun _ => .stuck
  | k + 1 => runB 2 (b_l_no_rows)
def p_l_chain_1 : FS := sSet 2 (vTup [vVar 2, op2 fSub (vVar 1) (vVar 3), vTup []])
def b_l_chain : FS := sSeq (sSet 2 (vTup [])) (sSeq (sFor (tgN 3) (itA iR1 [vVar 0]) (p_l_chain_1)) (sRet (vVar 2)))
def m_l_chain : Nat → List SV → R
  | 0 => fun _ => .stuck
  | k + 1 => runB 4 (b_l_chain)
def b_l_heaps_right_k19 (c_G_keys_of : List SV → R) (c_G_row_of : List SV → R) (c_G_rank : List SV → R) (c_G_judged : List SV → R) (c_G_leaned : List SV → R) (c_G_lean_take : List SV → R) (c_G_turn_take : List SV → R) (c_G_purse : List SV → R) (c_W_lean_join : List SV → R) (c_W_turn_join : List SV → R) (c_l_no_heaps : List SV → R) (c_L_l_all : (Nat → List SV → R) → List SV → R) : FS := sSeq (sSet 1 (vTup [vTup [], vC (.int 1), vTup [vTup [], vC (.int 2), vTup []]])) (sSeq (sSet 2 (vLstC [vFn 0, vFn 1, vFn 2, vFn 3, vFn 4, vFn 5, vFn 6, vFn 7, vFn 8])) (sSeq (sSet 2 (vAddC (vVar 2) (vLstC [vFn 9, vFn 10]))) (sSeq (sSetAppC 2 (vVar 2) (vLstC [vFn 11, vFn 12]) (vFn 13)) (sRet (calA 3 c_L_l_all [(fun _ => c_G_keys_of), (fun _ => c_G_row_of), (fun _ => c_G_rank), (fun _ => c_G_judged), (fun _ => c_G_leaned), (fun _ => c_G_lean_take), (fun _ => c_G_turn_take), (fun _ => c_G_purse), (lamM [1] (calF 2 c_W_lean_join [vVar 0, vVar 1])), (lamM [1] (calF 2 c_W_lean_join [vVar 1, vVar 0])), (lamM [] (calF 2 c_W_lean_join [vVar 0, vC .none])), (lamM [] (calF 2 c_W_turn_join [vVar 0, vC .none])), (lamM [] (calF 2 c_W_turn_join [vTup [], vVar 0])), (lamM [] (calF 2 c_W_turn_join [vVar 0, vTup []]))] [vVar 2, calF 1 c_l_no_heaps [vVar 0], vC (.int 0)])))))
def m_l_heaps_right_k19 : Nat → List SV → R
  | k + 4 => runBS 3 (b_l_heaps_right_k19 (m_keys_of (k + 1)) (m_row_of (k + 1)) (m_rank (k + 1)) (m_judged (k + 1)) (m_leaned (k + 1)) (m_lean_take (k + 1)) (m_turn_take (k + 1)) (m_purse (k + 1)) (m_lean_join k) (m_turn_join k) (m_l_no_heaps (k + 3)) (fun m1 => m_l_all m1 (k + 3)))
  | _ => fun _ => .stuck
def b_l_rows_right_k19 (c_G_heap_of : List SV → R) (c_G_lean_of : List SV → R) (c_l_no_rows : List SV → R) (c_L_l_all : (Nat → List SV → R) → List SV → R) (c_G_how_many_rows : List SV → R) (c_l_no_forms_k19 : List SV → R) : FS := sSeq (sIf (vNot (calA 3 c_L_l_all [(fun _ => c_G_heap_of), (fun _ => c_G_lean_of), (fun _ => c_G_how_many_rows)] [vLstC [vFn 0, vFn 1], calF 1 c_l_no_rows [vVar 0], vC (.int 1)])) (sRet (vC (.bool false))) (sNil)) (sSeq (sIf (vNot (calA 3 c_L_l_all [(fun _ => c_G_heap_of), (fun _ => c_G_lean_of), (fun _ => c_G_how_many_rows)] [vLstC [vFn 0], vLst [vLst [vC (.int 1), vC (.int 1)], vLst [vVar 0, vC (.int 2), vVar 0], vLst [vC (.int 0), vC (.int 0), vC .none]], vC (.int 1)])) (sRet (vC (.bool false))) (sNil)) (sRet (calA 3 c_L_l_all [(fun _ => c_G_heap_of), (fun _ => c_G_lean_of), (fun _ => c_G_how_many_rows)] [vLstC [vFn 2], calF 1 c_l_no_forms_k19 [vVar 0], vC (.int 2)])))
def m_l_rows_right_k19 : Nat → List SV → R
  | k + 4 => runBS 1 (b_l_rows_right_k19 (m_heap_of (k + 1)) (m_lean_of (k + 1)) (m_l_no_rows (k + 3)) (fun m1 => m_l_all m1 (k + 3)) (m_how_many_rows (k + 1)) (m_l_no_forms_k19 (k + 3)))
  | _ => fun _ => .stuck
def p_law_k19_1 (c_l_heaps_right_k19 : List SV → R) (c_l_rows_right_k19 : List SV → R) (c_l_chain : List SV → R) (c_W_lean_join : List SV → R) (c_W_turn_join : List SV → R) (c_L_l_all : (Nat → List SV → R) → List SV → R) (c_G_lean_take : List SV → R) (c_G_turn_take : List SV → R) (c_rank : List SV → R) (c_how_many_rows : List SV → R) (c_lean_of : List SV → R) : FS := sSeq (sSet 2 (op2 fMod (cal1 fAbs (vVar 1)) (op2 fPow (vC (.int 10)) (vC (.int 20))))) (sSeq (sIf (vOr (vNot (calF 1 c_l_heaps_right_k19 [vVar 2])) (vNot (calF 1 c_l_rows_right_k19 [vVar 2]))) (sRet (vC (.bool false))) (sNil)) (sSeq (sUnp (tg3 3 4 5) (vTup [calF 2 c_l_chain [vC (.int 20), vVar 2], calF 2 c_l_chain [vC (.int 21), vVar 2], vTup [vTup [], vC (.int 1), vTup [vTup [], vC (.int 2), vTup []]]])) (sSeq (sSet 6 (vLstC [vFn 0, vFn 1])) (sSeq (sIf (vNot (calA 3 c_L_l_all [(lamM [] (calF 2 c_W_lean_join [op2 fIx (vVar 0) (vC (.int 0)), op2 fIx (vVar 0) (vC (.int 1))])), (lamM [] (calF 2 c_W_turn_join [op2 fIx (vVar 0) (vC (.int 0)), op2 fIx (vVar 0) (vC (.int 1))])), (lamM [] (calF 2 c_W_lean_join [vVar 0, vTup []])), (lamM [3] (calF 2 c_W_lean_join [vVar 1, vVar 0])), (fun _ => c_G_lean_take), (fun _ => c_G_turn_take)] [vVar 6, vLst [vTup [vVar 3, vVar 4], vTup [calF 2 c_l_chain [vC (.int 40), vVar 2], vTup [vTup [], vVar 2, vTup []]], vTup [calF 2 c_l_chain [vC (.int 39), vVar 2], vVar 5]], vC (.int 8)])) (sRet (vC (.bool false))) (sNil)) (sSeq (sSet 6 (vLstC [vFn 2, vFn 3, vFn 4])) (sIf (vNot (calA 3 c_L_l_all [(lamM [] (calF 2 c_W_lean_join [op2 fIx (vVar 0) (vC (.int 0)), op2 fIx (vVar 0) (vC (.int 1))])), (lamM [] (calF 2 c_W_turn_join [op2 fIx (vVar 0) (vC (.int 0)), op2 fIx (vVar 0) (vC (.int 1))])), (lamM [] (calF 2 c_W_lean_join [vVar 0, vTup []])), (lamM [3] (calF 2 c_W_lean_join [vVar 1, vVar 0])), (fun _ => c_G_lean_take), (fun _ => c_G_turn_take)] [vVar 6, vLst [vVar 5, vIf (op2 fLt (vVar 2) (vC (.int 2))) (vTup [vTup [], vVar 2, vVar 5]) (vVar 5), vTup [vVar 5, vC (.int 0), vTup [vTup [], vC (.int 5), vTup []]]], vC (.int 6)])) (sRet (vC (.bool false))) (sNil)))))))
def b_law_k19 (c_l_heaps_right_k19 : List SV → R) (c_l_rows_right_k19 : List SV → R) (c_l_chain : List SV → R) (c_W_lean_join : List SV → R) (c_W_turn_join : List SV → R) (c_L_l_all : (Nat → List SV → R) → List SV → R) (c_G_lean_take : List SV → R) (c_G_turn_take : List SV → R) (c_rank : List SV → R) (c_how_many_rows : List SV → R) (c_lean_of : List SV → R) : FS := sSeq (sFor (tgN 1) (itD iL (op2 fAdd (vLst [vC (.int 0)]) (vSlH (vVar 0) (vC (.int 3))))) (p_law_k19_1 c_l_heaps_right_k19 c_l_rows_right_k19 c_l_chain c_W_lean_join c_W_turn_join c_L_l_all c_G_lean_take c_G_turn_take c_rank c_how_many_rows c_lean_of)) (sSeq (sIf (vNot (calA 3 c_L_l_all [(lamM [] (calF 2 c_W_lean_join [op2 fIx (vVar 0) (vC (.int 0)), op2 fIx (vVar 0) (vC (.int 1))])), (lamM [] (calF 2 c_W_turn_join [op2 fIx (vVar 0) (vC (.int 0)), op2 fIx (vVar 0) (vC (.int 1))])), (lamM [] (calF 2 c_W_lean_join [vVar 0, vTup []])), (lamM [3] (calF 2 c_W_lean_join [vVar 1, vVar 0])), (fun _ => c_G_lean_take), (fun _ => c_G_turn_take)] [vLstC [vFn 4, vFn 5], vLst [vTup []], vC (.int 7)])) (sRet (vC (.bool false))) (sNil)) (sRet (vAnd (op2 fEq (calF 1 c_rank [calF 2 c_l_chain [vC (.int 40), vC (.int 0)]]) (vC (.int 1))) (vAnd (op2 fEq (calF 1 c_how_many_rows [vTup [vTup [], vC (.int 3), vTup [vTup [], vC (.int 1), vTup []]]]) (vC (.int 1))) (op2 fEq (op2 fIx (calF 1 c_lean_of [op2 fMul (vLst [vC (.int 1)]) (vC (.int 40))]) (vC (.int 1))) (vC (.int 1)))))))
def m_law_k19 : Nat → List SV → R
  | k + 4 => runBS 7 (b_law_k19 (m_l_heaps_right_k19 (k + 3)) (m_l_rows_right_k19 (k + 3)) (m_l_chain (k + 3)) (m_lean_join k) (m_turn_join k) (fun m1 => m_l_all m1 (k + 3)) (m_lean_take (k + 1)) (m_turn_take (k + 1)) (m_rank (k + 3)) (m_how_many_rows (k + 3)) (m_lean_of (k + 3)))
  | _ => fun _ => .stuck
inductive Tr where
  | lf
  | nd (l : Tr) (k : Int) (r : Tr)
  deriving DecidableEq
def Tr.d : Tr → D
  | .lf => .tuple []
  | .nd l k r => .tuple [l.d, .int k, r.d]
def Tr.rank : Tr → Int
  | .lf => 0
  | .nd l _ r => 1 + min l.rank r.rank
def Tr.size : Tr → Nat
  | .lf => 0
  | .nd l _ r => 1 + l.size + r.size
def Tr.row : Tr → List Int
  | .lf => []
  | .nd l k r => l.row ++ [k] ++ r.row
def Tr.rw : Tr → Int
  | .lf => 0
  | .nd _ _ r => 1 + r.rw
def geTop (x : Int) : Tr → Bool
  | .lf => true
  | .nd _ k _ => !decide (k < x)
def Tr.heap : Tr → Bool
  | .lf => true
  | .nd l k r => geTop k l && geTop k r && l.heap && r.heap
def Tr.leans : Tr → Bool
  | .lf => true
  | .nd l _ r => decide (r.rank ≤ l.rank) && l.leans && r.leans
theorem Tr.row_length : ∀ t : Tr, t.row.length = t.size
  | .lf => rfl
  | .nd l _ r => by
    simp only [Tr.row, Tr.size, List.length_append, List.length_cons, List.length_nil, l.row_length, r.row_length]; omega
@[simp] theorem fEq_nil (x : D) : fEq x (.tuple []) = rb (PyData.eqv x (.tuple [])) := if_pos (by simp only [PyData.depth, PyData.depthAll]; omega)
@[simp] theorem fNe_nil (x : D) : fNe x (.tuple []) = rb (!PyData.eqv x (.tuple [])) := if_pos (by simp only [PyData.depth, PyData.depthAll]; omega)
@[simp] theorem fEq_nilL (x : D) : fEq x (.list []) = rb (PyData.eqv x (.list [])) := if_pos (by simp only [PyData.depth, PyData.depthAll]; omega)
@[simp] theorem fNe_nilL (x : D) : fNe x (.list []) = rb (!PyData.eqv x (.list [])) := if_pos (by simp only [PyData.depth, PyData.depthAll]; omega)
@[simp] theorem fEq_int (i j : Int) : fEq (.int i) (.int j) = rb (i == j) := by simp [fEq, PyData.depth, PyData.eqv]
@[simp] theorem fNe_int (i j : Int) : fNe (.int i) (.int j) = rb (!(i == j)) := by simp [fNe, PyData.depth, PyData.eqv]
@[simp] theorem eqv_tnil : PyData.eqv (.tuple []) (.tuple []) = true := by simp only [PyData.eqv, PyData.eqvAll]
@[simp] theorem eqv_tcons (x : D) (xs : List D) : PyData.eqv (.tuple (x :: xs)) (.tuple []) = false := by simp only [PyData.eqv, PyData.eqvAll]
@[simp] theorem eqv_lnil : PyData.eqv (.list []) (.list []) = true := by simp only [PyData.eqv, PyData.eqvAll]
@[simp] theorem eqv_lcons (x : D) (xs : List D) : PyData.eqv (.list (x :: xs)) (.list []) = false := by simp only [PyData.eqv, PyData.eqvAll]
@[simp] theorem eqv_lE (xs : List D) : PyData.eqv (.list xs) (.list []) = xs.isEmpty := eqv_nil xs
@[simp] theorem eqv_tE (xs : List D) : PyData.eqv (.tuple xs) (.tuple []) = xs.isEmpty := by cases xs <;> simp
@[simp] theorem eqv_int (i j : Int) : PyData.eqv (.int i) (.int j) = (i == j) := by simp only [PyData.eqv]
theorem sWhile_go {n : Nat} {c : FE} {b : FS} {env e : VEnv} (hc : c env = rb true) (hb : b env = .nx e) : sWhile (n + 1) c b env = sWhile n c b e := by simp only [sWhile, hc, hb]
theorem sWhile_end {n : Nat} {c : FE} {b : FS} {env : VEnv} (hc : c env = rb false) : sWhile (n + 1) c b env = .nx env := by simp only [sWhile, hc]
theorem sWhile_rt {n : Nat} {c : FE} {b : FS} {env : VEnv} {v : SV} (hc : c env = rb true) (hb : b env = .rt v) : sWhile (n + 1) c b env = .rt v := by simp only [sWhile, hc, hb]
theorem forL_go {t : Tg} {b : FS} {d : D} {r : List D} {env env' e : VEnv} (ht : t d env = some env') (hb : b env' = .nx e) : forL t b (d :: r) env = forL t b r e := by simp only [forL, ht, hb]
@[simp] theorem forL_nil {t : Tg} {b : FS} {env : VEnv} : forL t b [] env = .nx env := rfl
@[simp] theorem atI0 (x : D) (xs : List D) : atI (x :: xs) 0 = some x := atI_nat (j := 0) rfl
@[simp] theorem atI1 (x y : D) (xs : List D) : atI (x :: y :: xs) 1 = some y := atI_nat (j := 1) rfl
@[simp] theorem atI2 (x y z : D) (xs : List D) : atI (x :: y :: z :: xs) 2 = some z := atI_nat (j := 2) rfl
theorem k_succ {n k : Nat} (h : n < k) : ∃ j, k = j + 1 := ⟨k - 1, by omega⟩
theorem ite_min (a b : Int) : (if b < a then b else a) = min a b := by omega
@[simp] theorem ite_max (a b : Int) : (if b > a then b else a) = max a b := by omega
@[simp] theorem nl_d : ∀ t : Tr, noList t.d = true
  | .lf => by simp only [Tr.d, noList, noLists]
  | .nd l k r => by simp only [Tr.d, noList, noLists, nl_d l, nl_d r, Bool.and_self]
@[simp] theorem nl_ints : ∀ ns : List Int, noLists (ns.map PyData.int) = true
  | [] => by simp only [List.map_nil, noLists]
  | _ :: r => by simp only [List.map_cons, noLists, noList, nl_ints r, Bool.and_self]
theorem e_rank_of : ∀ (t : Tr) (k : Nat), t.size < k → m_rank_of k [.sh t.d] = ri t.rank
  | .lf, k, h => by
    obtain ⟨k, rfl⟩ := k_succ h
    simp [m_rank_of, b_rank_of, Tr.d, Tr.rank]
  | .nd l x r, k, h => by
    obtain ⟨k, rfl⟩ := k_succ h
    simp only [Tr.size] at h
    have h1 := e_rank_of l k (by omega)
    have h2 := e_rank_of r k (by omega)
    simp [m_rank_of, b_rank_of, Tr.d, h1, h2, Tr.rank, ite_min]
theorem e_size_of : ∀ (t : Tr) (k : Nat), t.size < k → m_size_of k [.sh t.d] = ri t.size
  | .lf, k, h => by
    obtain ⟨k, rfl⟩ := k_succ h
    simp [m_size_of, b_size_of, Tr.d, Tr.size]
  | .nd l x r, k, h => by
    obtain ⟨k, rfl⟩ := k_succ h
    simp only [Tr.size] at h
    have h1 := e_size_of l k (by omega)
    have h2 := e_size_of r k (by omega)
    simp [m_size_of, b_size_of, Tr.d, h1, h2, Tr.size]
theorem e_is_key (k : Nat) (i : Int) : m_is_key (k + 1) [.sh (.int i)] = rb true := by simp [m_is_key, b_is_key]
theorem e_is_ordered : ∀ (t : Tr) (k : Nat), t.size < k → m_is_ordered k [.sh t.d] = rb t.heap
  | .lf, k, h => by
    obtain ⟨k, rfl⟩ := k_succ h
    simp [m_is_ordered, b_is_ordered, p_is_ordered_1, Tr.d, Tr.heap]
  | .nd l x r, k, h => by
    obtain ⟨k, rfl⟩ := k_succ h
    simp only [Tr.size] at h
    have h1 := e_is_ordered l k (by omega)
    have h2 := e_is_ordered r k (by omega)
    show _ = rb (geTop x l && geTop x r && l.heap && r.heap)
    generalize l.heap = b1 at h1 ⊢
    generalize r.heap = b2 at h2 ⊢
    cases l with
    | lf =>
      simp only [Tr.d] at h1
      cases r with
      | lf =>
        simp only [Tr.d] at h2
        cases b1 <;> cases b2 <;> simp_all [m_is_ordered, b_is_ordered, p_is_ordered_1, Tr.d, forL, geTop]
      | nd r1 y r2 =>
        simp only [Tr.d] at h2
        cases c : decide (y < x) <;> cases b1 <;> cases b2 <;> simp [m_is_ordered, b_is_ordered, p_is_ordered_1, Tr.d, forL, geTop, h1, h2, c]
    | nd l1 z l2 =>
      simp only [Tr.d] at h1
      cases r with
      | lf =>
        simp only [Tr.d] at h2
        cases c1 : decide (z < x) <;> cases b1 <;> cases b2 <;> simp [m_is_ordered, b_is_ordered, p_is_ordered_1, Tr.d, forL, geTop, c1, h1, h2]
      | nd r1 y r2 =>
        simp only [Tr.d] at h2
        cases c1 : decide (z < x) <;> cases c : decide (y < x) <;> cases b1 <;> cases b2 <;> simp [m_is_ordered, b_is_ordered, p_is_ordered_1, Tr.d, forL, geTop, c1, c, h1, h2]
theorem mulOk_right {a b : Int} (h1 : -(2 ^ 64) < b) (h2 : b < 2 ^ 64) : mulOk a b = true := mulOk_iff.mpr (.of_right (intBits_le_64 h1 h2))
@[simp] theorem atI_lit (xs : List D) (n : Nat) : atI xs (no_index (@OfNat.ofNat Int n _)) = xs[n]? := by
  show atI xs ((n : Nat) : Int) = xs[n]?
  cases h : xs[n]? with
  | some v => exact atI_nat h
  | none =>
    have := List.getElem?_eq_none_iff.mp h
    unfold atI ixN
    rw [if_pos (by omega), if_neg (by omega)]
    rfl
theorem rngD_cons (lo : Int) (n : Nat) : rngD lo 1 (n + 1) = .int lo :: rngD (lo + 1) 1 n := by
  unfold rngD
  rw [List.range_succ_eq_map, List.map_cons, List.map_map]
  congr 1
  · simp
  · apply List.map_congr_left
    intro i _
    simp
    omega
def szs (ts : List Tr) : Nat := (ts.map Tr.size).sum
def mss (ts : List Tr) : Nat := (ts.map fun t => 2 * t.size + 1).sum
theorem szs_append (a b : List Tr) : szs (a ++ b) = szs a + szs b := by simp [szs]
theorem mss_append (a b : List Tr) : mss (a ++ b) = mss a + mss b := by simp [mss]
theorem list_last {α : Type} (l : List α) : l = [] ∨ ∃ L b, l = L ++ [b] := by
  rcases List.eq_nil_or_concat l with h | ⟨L, b, h⟩
  · exact .inl h
  · exact .inr ⟨L, b, by rw [h, List.concat_eq_append]⟩
theorem is_form_c (f : List SV → R) (th z w : Option SV) (ts : List D) : p_is_form_1 f [th, some (.ow ts), w, z] = rb (!ts.isEmpty) := by simp [p_is_form_1]
theorem is_form_lf (f : List SV → R) (th z : Option SV) (ts : List D) (c : Int) : p_is_form_2 f [th, some (.ow (ts ++ [.tuple []])), some (.sh (.int c)), z] = .nx [th, some (.ow ts), some (.sh (.int c)), some (.sh (.tuple []))] := by
  simp [p_is_form_2]
theorem is_form_nd (k : Nat) (th z : Option SV) (ts : List D) (c x : Int) (l r : D) (h : c + 1 ≤ 40) (hl : ts.length ≤ 1000) : p_is_form_2 (m_is_key (k + 1)) [th, some (.ow (ts ++ [.tuple [l, .int x, r]])), some (.sh (.int c)), z] = .nx [th, some (.ow (ts ++ [l, r])), some (.sh (.int (c + 1))), some (.sh (.tuple [l, .int x, r]))] := by
  have c1 : ¬ 40 < c + 1 := by omega
  have a1 : ts.length + 2 ≤ 1000000 := by omega
  simp [p_is_form_2, c1, a1, e_is_key]
theorem is_form_go (k : Nat) (th : Option SV) : ∀ (n : Nat) (ts : List Tr) (c : Int) (z : Option SV), mss ts < n → 0 ≤ c → c + szs ts ≤ 40 → ts.length + szs ts ≤ 1000 →
    ∃ z', sWhile n (p_is_form_1 (m_is_key (k + 1))) (p_is_form_2 (m_is_key (k + 1))) [th, some (.ow (ts.map Tr.d)), some (.sh (.int c)), z] = .nx [th, some (.ow []), some (.sh (.int (c + szs ts))), z']
  | 0, _, _, _, h, _, _, _ => by omega
  | n + 1, ts, c, z, h, h1, h2, h3 => by
    rcases list_last ts with rfl | ⟨L, b, rfl⟩
    · exact ⟨z, by rw [sWhile_end (is_form_c _ _ _ _ _)]; simp [szs]⟩
    · rw [mss_append] at h
      rw [szs_append] at h2 h3
      simp only [List.length_append, List.length_cons, List.length_nil] at h3
      rw [List.map_append]
      have cc : p_is_form_1 (m_is_key (k + 1)) [th, some (.ow (L.map Tr.d ++ [b].map Tr.d)), some (.sh (.int c)), z] = rb true := by rw [is_form_c]; simp
      cases b with
      | lf =>
        have hs : szs [Tr.lf] = 0 := rfl
        have hm : mss [Tr.lf] = 1 := rfl
        rw [hm] at h
        rw [hs] at h2 h3
        obtain ⟨z', e⟩ := is_form_go k th n L c (some (.sh (.tuple []))) (by omega) h1 (by omega) (by omega)
        refine ⟨z', ?_⟩
        rw [sWhile_go cc (is_form_lf _ _ _ _ _), e, szs_append, hs]; rfl
      | nd l x r =>
        have hs : szs [Tr.nd l x r] = 1 + l.size + r.size := by simp [szs, Tr.size]
        have hs2 : szs [l, r] = l.size + r.size := by simp [szs]
        have hm : mss [Tr.nd l x r] = 2 * (1 + l.size + r.size) + 1 := by simp [mss, Tr.size]
        have hm2 : mss [l, r] = 2 * l.size + 1 + (2 * r.size + 1) := by simp [mss]
        rw [hm] at h
        rw [hs] at h2 h3
        obtain ⟨z', e⟩ := is_form_go k th n (L ++ [l, r]) (c + 1) (some (.sh (Tr.nd l x r).d)) (by rw [mss_append, hm2]; omega) (by omega) (by rw [szs_append, hs2]; omega) (by rw [szs_append, hs2]; simp; omega)
        refine ⟨z', ?_⟩
        have e1 : c + 1 + ((szs L + (l.size + r.size) : Nat) : Int) = c + ((szs L + (1 + l.size + r.size) : Nat) : Int) := by omega
        rw [szs_append, hs2, e1, List.map_append] at e
        rw [szs_append, hs, sWhile_go cc (is_form_nd k th z _ c x l.d r.d (by omega) (by simp; omega))]
        exact e
theorem e_is_form (t : Tr) (k : Nat) (h : t.size ≤ 40) : m_is_form (k + 2) [.sh t.d] = rb true := by
  have hm : mss [t] = 2 * t.size + 1 := by simp [mss]
  have hs : szs [t] = t.size := by simp [szs]
  obtain ⟨z', e⟩ := is_form_go k (some (.sh t.d)) WF [t] 0 none (by rw [hm]; unfold WF; omega) (by omega) (by rw [hs]; omega) (by rw [hs]; simp; omega)
  simp only [List.map_cons, List.map_nil] at e
  simp [m_is_form, b_is_form, e]
theorem e_check_heap (t : Tr) (k : Nat) (h : t.size ≤ 40) (hk : 42 ≤ k) : m_check_heap (k + 1) [.sh t.d] = if t.heap = true then .val (.sh .none) else .err "BadHeap" := by
  obtain ⟨j, rfl⟩ : ∃ j, k = j + 2 := ⟨k - 2, by omega⟩
  have h1 := e_is_form t j h
  have h2 := e_is_ordered t (j + 2) (by omega)
  cases c : t.heap <;> simp [m_check_heap, b_check_heap, h1, h2, c]
def kn (l : Tr) (x : Int) (r : Tr) : Tr := if l.rank < r.rank then .nd r x l else .nd l x r
def joinL : Tr → Tr → Tr
  | .lf, b => b
  | .nd l x r, .lf => .nd l x r
  | .nd l x r, .nd l' y r' => if y < x then kn l' y (joinL r' (.nd l x r)) else kn l x (joinL r (.nd l' y r'))
termination_by a b => a.size + b.size
decreasing_by all_goals (simp only [Tr.size]; omega)
theorem kn_size (l : Tr) (x : Int) (r : Tr) : (kn l x r).size = 1 + l.size + r.size := by
  unfold kn; split <;> simp only [Tr.size] <;> omega
theorem joinL_size (a b : Tr) : (joinL a b).size = a.size + b.size := by
  fun_induction joinL a b with
  | case1 b => simp [Tr.size]
  | case2 l x r => simp [Tr.size]
  | case3 l x r l' y r' h ih => rw [kn_size, ih]; simp only [Tr.size]; omega
  | case4 l x r l' y r' h ih => rw [kn_size, ih]; simp only [Tr.size]; omega
theorem kn_row (l : Tr) (x : Int) (r : Tr) : (kn l x r).row.Perm (x :: (l.row ++ r.row)) := by
  unfold kn
  split
  · simp only [Tr.row, List.append_assoc, List.singleton_append]
    exact (List.perm_middle).trans ((List.perm_append_comm).cons x)
  · simp only [Tr.row, List.append_assoc, List.singleton_append]
    exact List.perm_middle
theorem nd_row (l : Tr) (x : Int) (r : Tr) : (Tr.nd l x r).row.Perm (x :: (l.row ++ r.row)) := by
  simp only [Tr.row, List.append_assoc, List.singleton_append]
  exact List.perm_middle
theorem joinL_row (a b : Tr) : (joinL a b).row.Perm (a.row ++ b.row) := by
  fun_induction joinL a b with
  | case1 b => simp [Tr.row]
  | case2 l x r => simp [Tr.row]
  | case3 l x r l' y r' h ih =>
    refine (kn_row _ _ _).trans ?_
    refine List.Perm.trans ?_ (List.perm_append_comm)
    refine List.Perm.trans ?_ ((nd_row l' y r').symm.append_right _)
    rw [List.cons_append, List.append_assoc]
    exact (ih.append_left _).cons y
  | case4 l x r l' y r' h ih =>
    refine (kn_row _ _ _).trans ?_
    refine List.Perm.trans ?_ ((nd_row l x r).symm.append_right _)
    rw [List.cons_append, List.append_assoc]
    exact (ih.append_left _).cons x
theorem e_leaning_knot (l : Tr) (x : Int) (r : Tr) (k : Nat) (h1 : l.size < k) (h2 : r.size < k) : m_leaning_knot (k + 1) [.sh l.d, .sh (.int x), .sh r.d] = ok (kn l x r).d := by
  have a1 := e_rank_of l k h1
  have a2 := e_rank_of r k h2
  by_cases c : l.rank < r.rank <;> simp [m_leaning_knot, b_leaning_knot, a1, a2, c, kn, Tr.d]
theorem e_joinL (a b : Tr) : ∀ k, a.size + b.size + 2 < k → m_joinL k [.sh a.d, .sh b.d] = ok (joinL a b).d := by
  fun_induction joinL a b with
  | case1 b =>
    intro k h
    obtain ⟨k, rfl⟩ := k_succ h
    cases b <;> simp [m_joinL, b_joinL, Tr.d]
  | case2 l x r =>
    intro k h
    obtain ⟨k, rfl⟩ := k_succ h
    simp [m_joinL, b_joinL, Tr.d]
  | case3 l x r l' y r' c ih =>
    intro k h
    obtain ⟨k, rfl⟩ := k_succ h
    simp only [Tr.size] at h
    have h1 := ih k (by simp only [Tr.size]; omega)
    have h2 : m_leaning_knot k [.sh (l').d, .sh (.int y), .sh (joinL r' (.nd l x r)).d] = ok (kn l' y (joinL r' (.nd l x r))).d := by
      obtain ⟨j, rfl⟩ : ∃ j, k = j + 1 := ⟨k - 1, by omega⟩
      exact e_leaning_knot l' y (joinL r' (.nd l x r)) j (by omega) (by rw [joinL_size]; simp only [Tr.size]; omega)
    simp only [Tr.d] at h1
    simp [m_joinL, b_joinL, Tr.d, c, h1, h2]
  | case4 l x r l' y r' c ih =>
    intro k h
    obtain ⟨k, rfl⟩ := k_succ h
    simp only [Tr.size] at h
    have h1 := ih k (by simp only [Tr.size]; omega)
    have h2 : m_leaning_knot k [.sh (l).d, .sh (.int x), .sh (joinL r (.nd l' y r')).d] = ok (kn l x (joinL r (.nd l' y r'))).d := by
      obtain ⟨j, rfl⟩ : ∃ j, k = j + 1 := ⟨k - 1, by omega⟩
      exact e_leaning_knot l x (joinL r (.nd l' y r')) j (by omega) (by rw [joinL_size]; simp only [Tr.size]; omega)
    simp only [Tr.d] at h1
    simp [m_joinL, b_joinL, Tr.d, c, h1, h2]
theorem lcGo_map {α : Type} {t : Tg} {c e : FE} {env : VEnv} (h g : α → D) : ∀ (xs : List α), (∀ x ∈ xs, ∃ env', t (h x) env = some env' ∧ c env' = rb true ∧ (e env').data = some (g x)) → lcGo t c e env (xs.map h) = some (xs.map g)
  | [], _ => rfl
  | x :: r, H => by
    obtain ⟨env', h1, h2, h3⟩ := H x List.mem_cons_self
    have ih := lcGo_map (t := t) (c := c) (e := e) (env := env) h g r fun y hy => H y (List.mem_cons_of_mem _ hy)
    simp only [List.map_cons, lcGo, h1, h2, h3, ih, Option.map_some]
theorem cutD_lo (xs : List D) (n : Nat) : cutD xs (some (n : Int)) none = xs.drop n := by
  unfold cutD
  rw [HT.sIx_nat, HT.sIx_none]
  by_cases h : n ≤ xs.length
  · rw [Nat.min_eq_left h]
    exact List.take_of_length_le (by rw [List.length_drop]; exact Nat.le_refl _)
  · rw [Nat.min_eq_right (by omega), List.drop_length, List.drop_eq_nil_of_le (by omega)]; simp
theorem cutD_hi (xs : List D) (n : Nat) : cutD xs none (some (n : Int)) = xs.take n := by
  unfold cutD
  rw [HT.sIx_nat, HT.sIx_none, List.drop_zero, Nat.sub_zero]
  by_cases h : n ≤ xs.length
  · rw [Nat.min_eq_left h]
  · rw [Nat.min_eq_right (by omega), List.take_of_length_le (Nat.le_refl _), List.take_of_length_le (by omega)]
@[simp] theorem cutD_loL (xs : List D) (n : Nat) : cutD xs (some (no_index (@OfNat.ofNat Int n _))) none = xs.drop n := cutD_lo xs n
@[simp] theorem cutD_hiL (xs : List D) (n : Nat) : cutD xs none (some (no_index (@OfNat.ofNat Int n _))) = xs.take n := cutD_hi xs n
theorem eqvAll_ints : ∀ a b : List Int, PyData.eqvAll (a.map .int) (b.map .int) = (a == b)
  | [], [] => rfl
  | [], _ :: _ => rfl
  | _ :: _, [] => rfl
  | x :: a, y :: b => by
    simp only [List.map_cons, PyData.eqvAll, eqv_int, eqvAll_ints a b]
    rfl
theorem depth_ints : ∀ a : List Int, PyData.depthAll (a.map .int) = 0
  | [] => rfl
  | _ :: a => by simp only [List.map_cons, PyData.depthAll, PyData.depth, depth_ints a]; rfl
@[simp] theorem fEq_ints (a b : List Int) : fEq (.list (a.map .int)) (.list (b.map .int)) = rb (a == b) := by
  unfold fEq
  rw [if_pos (by simp only [PyData.depth, depth_ints]; omega)]
  simp only [PyData.eqv, eqvAll_ints]
@[simp] theorem fNe_ints (a b : List Int) : fNe (.list (a.map .int)) (.list (b.map .int)) = rb (!(a == b)) := by
  unfold fNe
  rw [if_pos (by simp only [PyData.depth, depth_ints]; omega)]
  simp only [PyData.eqv, eqvAll_ints]
theorem lc_ints {t : Tg} {c e : FE} {env : VEnv} (p : Int → Bool) (xs : List Int) (H : ∀ x ∈ xs, ∃ env', t (.int x) env = some env' ∧ c env' = rb true ∧ (e env').data = some (.bool (p x))) : lcGo t c e env (xs.map .int) = some ((xs.map p).map .bool) := by
  rw [lcGo_map (t := t) (c := c) (e := e) (env := env) PyData.int (fun x => .bool (p x)) xs H, List.map_map]; rfl
theorem e_check_keys (r : List Int) (k : Nat) (h : r.length ≤ 40) : m_check_keys (k + 2) [.sh (.list (r.map .int))] = .val (.sh .none) := by
  have e := lc_ints (t := tgN 1) (c := vC (.bool true)) (e := calF 1 (m_is_key (k + 1)) [vVar 1]) (env := [some (.sh (.list (r.map .int))), none]) (fun _ => true) r fun x _ => ⟨_, rfl, rfl, by simp [e_is_key]⟩
  have h1 : r.length ≤ 1000000 := by omega
  have h2 : ¬ (40 : Int) < r.length := by omega
  have h3 : (r.all fun _ => true) = true := by simp only [List.all_eq_true, implies_true]
  simp [m_check_keys, b_check_keys, e, h1, h2, blsOf_map, -List.map_map, h3]
def meldQ (f : Tr → Tr → Tr) : Nat → List Tr → Tr
  | n + 1, a :: b :: r => meldQ f n (r ++ [f a b])
  | _, t :: _ => t
  | _, [] => .lf
theorem meldQ_one (f : Tr → Tr → Tr) (n : Nat) (t : Tr) : meldQ f n [t] = t := by cases n <;> rfl
theorem meld_go (f : Tr → Tr → Tr) {c : FE} {b : FS} (mk : List Tr → VEnv) (P : List Tr → Prop) (hc : ∀ ts, c (mk ts) = rb (decide (1 < ts.length)))
    (hb : ∀ x y r, P (x :: y :: r) → b (mk (x :: y :: r)) = .nx (mk (r ++ [f x y])) ∧ P (r ++ [f x y])) :
    ∀ (n : Nat) (ts : List Tr), ts ≠ [] → ts.length ≤ n + 1 → P ts → sWhile (n + 1) c b (mk ts) = .nx (mk [meldQ f n ts])
  | n, [], h, _, _ => absurd rfl h
  | n, [t], _, _, _ => by
    rw [meldQ_one]; exact sWhile_end ((hc _).trans (by rfl))
  | 0, x :: y :: r, _, h, _ => absurd h (by simp only [List.length_cons]; omega)
  | n + 1, x :: y :: r, _, h, p => by
    obtain ⟨h1, h2⟩ := hb x y r p
    rw [sWhile_go ((hc _).trans (by simp)) h1]
    exact meld_go f mk P hc hb n _ (by simp) (by simp only [List.length_append, List.length_cons, List.length_nil] at *; omega) h2
theorem meldQ_row {f : Tr → Tr → Tr} (hf : ∀ a b, (f a b).row.Perm (a.row ++ b.row)) : ∀ (n : Nat) (ts : List Tr), ts.length ≤ n + 1 → (meldQ f n ts).row.Perm (ts.flatMap Tr.row)
  | 0, [], _ => .refl _
  | n + 1, [], _ => .refl _
  | 0, [t], h => by simp [meldQ]
  | 0, _ :: _ :: _, h => absurd h (by simp)
  | n + 1, [t], h => by simp [meldQ]
  | n + 1, a :: b :: r, h => by
    refine (meldQ_row hf n (r ++ [f a b]) (by simp only [List.length_append, List.length_cons, List.length_nil] at *; omega)).trans ?_
    simp only [List.flatMap_append, List.flatMap_cons, List.flatMap_nil, List.append_nil]
    refine (List.perm_append_comm).trans ?_
    rw [← List.append_assoc]
    exact (hf a b).append_right _
def one (x : Int) : Tr := .nd .lf x .lf
theorem one_rows : ∀ r : List Int, (r.map one).flatMap Tr.row = r
  | [] => rfl
  | x :: r => by simp only [List.map_cons, List.flatMap_cons, one_rows r]; rfl
theorem one_szs : ∀ r : List Int, szs (r.map one) = r.length
  | [] => rfl
  | x :: r => by
    have h := one_szs r
    simp only [szs, List.map_cons, List.sum_cons, List.length_cons] at *
    rw [h]; simp only [one, Tr.size]; omega
def leanOf (r : List Int) : Tr := meldQ joinL 299 (r.map one)
theorem leanOf_row {r : List Int} (h : r.length ≤ 300) : (leanOf r).row.Perm r := by
  have := meldQ_row joinL_row 299 (r.map one) (by rw [List.length_map]; omega)
  rwa [one_rows] at this
theorem leanOf_size {r : List Int} (h : r.length ≤ 300) : (leanOf r).size = r.length := by
  rw [← Tr.row_length]; exact (leanOf_row h).length_eq
theorem leanOf_nil : leanOf [] = .lf := rfl
theorem e_lean_of (r : List Int) (k : Nat) (h : r.length ≤ 40) (hk : 50 ≤ k) : m_lean_of (k + 1) [.sh (.list (r.map .int))] = ok (leanOf r).d := by
  have h0 : m_check_keys k [.sh (.list (r.map .int))] = .val (.sh .none) := by
    obtain ⟨j, rfl⟩ : ∃ j, k = j + 2 := ⟨k - 2, by omega⟩
    exact e_check_keys r j h
  have e := lcGo_map (t := tgN 2) (c := vC (.bool true)) (e := vTup [vTup [], vVar 2, vTup []]) (env := [some (.sh (.list (r.map .int))), none, none]) PyData.int (fun x => (one x).d) r fun x _ => ⟨_, rfl, rfl, by simp [one, Tr.d]⟩
  have e2 : r.map (fun x => (one x).d) = (r.map one).map Tr.d := by rw [List.map_map]; rfl
  rw [e2] at e
  rcases List.eq_nil_or_concat r with rfl | ⟨r', x, hr⟩
  · simp only [List.map_nil] at h0 e
    have g : sWhile 300 (p_lean_of_1 (m_check_keys k) (m_joinL k)) (p_lean_of_2 (m_check_keys k) (m_joinL k)) [some (.sh (.list [])), some (.sh (.list [])), none] = .nx [some (.sh (.list [])), some (.sh (.list [])), none] := sWhile_end (by simp [p_lean_of_1])
    simp [m_lean_of, b_lean_of, h0, WF, leanOf_nil, Tr.d, e, g]
  have hne : r.map one ≠ [] := by rw [hr]; simp
  have g := meld_go joinL (c := p_lean_of_1 (m_check_keys k) (m_joinL k)) (b := p_lean_of_2 (m_check_keys k) (m_joinL k)) (fun ts => [some (.sh (.list (r.map .int))), some (.sh (.list (ts.map Tr.d))), none]) (fun ts => szs ts ≤ 40 ∧ ts.length ≤ 40)
    (fun ts => by simp [p_lean_of_1]; omega) (fun a b q p => by
      obtain ⟨p1, p2⟩ := p
      simp only [szs, List.map_cons, List.sum_cons, List.length_cons] at p1 p2
      have hj := e_joinL a b k (by omega)
      have hl : q.length + 1 ≤ 1000000 := by omega
      refine ⟨by simp [p_lean_of_2, hj, hl], ?_, ?_⟩
      · simp only [szs, List.map_append, List.sum_append, List.map_cons, List.map_nil, List.sum_cons, List.sum_nil, joinL_size]; omega
      · simp only [List.length_append, List.length_cons, List.length_nil]; omega) 299 (r.map one) hne (by rw [List.length_map]; omega) ⟨by rw [one_szs]; exact h, by rw [List.length_map]; exact h⟩
  rw [show (299 + 1 : Nat) = 300 from rfl] at g
  have hL : r.length ≤ 1000000 := by omega
  simp [m_lean_of, b_lean_of, h0, e, WF, g, hL, leanOf, -List.map_map]
theorem e_rank (t : Tr) (k : Nat) (h : t.size ≤ 40) (hk : 50 ≤ k) (hh : t.heap = true) : m_rank (k + 1) [.sh t.d] = ri t.rank := by
  obtain ⟨j, rfl⟩ : ∃ j, k = j + 1 := ⟨k - 1, by omega⟩
  have h1 := e_check_heap t j h (by omega)
  rw [if_pos hh] at h1
  have h2 := e_rank_of t (j + 1) (by omega)
  simp [m_rank, b_rank, h1, h2]
theorem forL_inv {t : Tg} {b : FS} (I : VEnv → Prop) : ∀ {xs : List D} (H : ∀ d ∈ xs, ∀ env, I env → ∃ env' e, t d env = some env' ∧ b env' = .nx e ∧ I e) {env : VEnv}, I env → ∃ e, forL t b xs env = .nx e ∧ I e
  | [], _, env, h => ⟨env, rfl, h⟩
  | x :: r, H, env, h => by
    obtain ⟨e1, e2, h1, h2, h3⟩ := H x List.mem_cons_self env h
    rw [forL_go h1 h2]
    exact forL_inv I (fun d hd => H d (List.mem_cons_of_mem _ hd)) h3
@[simp] theorem intsOf_mapS (ns : List Int) : intsOf (ns.map PyData.int) = some ns := intsOf_map ns
@[simp] theorem intsOf_app (a b : List Int) : intsOf (a.map PyData.int ++ b.map PyData.int) = some (a ++ b) := by rw [← List.map_append, intsOf_map]
def slantL : Tr → List D → List D
  | .lf, _ => []
  | .nd l x r, w => (if l.rank < r.rank then [.list w] else []) ++ slantL l (w ++ [.str "left"]) ++ slantL r (w ++ [.str "right"])
theorem slantL_len : ∀ (t : Tr) (w : List D), (slantL t w).length ≤ t.size
  | .lf, _ => Nat.le_refl _
  | .nd l x r, w => by
    have h1 := slantL_len l (w ++ [.str "left"])
    have h2 := slantL_len r (w ++ [.str "right"])
    simp only [slantL, List.length_append, Tr.size]
    split <;> simp only [List.length_cons, List.length_nil] <;> omega
theorem isEmp_app {α : Type} (a b : List α) : (a ++ b).isEmpty = (a.isEmpty && b.isEmpty) := by cases a <;> rfl
theorem slantL_nil : ∀ (t : Tr) (w : List D), (slantL t w).isEmpty = t.leans
  | .lf, _ => rfl
  | .nd l x r, w => by
    have h1 := slantL_nil l (w ++ [.str "left"])
    have h2 := slantL_nil r (w ++ [.str "right"])
    simp only [slantL, isEmp_app, h1, h2, Tr.leans]
    by_cases c : l.rank < r.rank
    · rw [if_pos c, decide_eq_false (by omega)]; rfl
    · rw [if_neg c, decide_eq_true (by omega)]; rfl
theorem e_slants (l : Tr) (x : Int) (r : Tr) (k : Nat) (h : l.size + r.size < k) : m_slants (k + 1) [.sh (.tuple [l.d, .int x, r.d])] = rb (decide (l.rank < r.rank)) := by
  have h1 := e_rank_of l k (by omega)
  have h2 := e_rank_of r k (by omega)
  simp [m_slants, b_slants, h1, h2]
theorem e_slanting : ∀ (t : Tr) (w : List D) (k : Nat), t.size + 1 < k → k + w.length ≤ 1000 → m_slanting k [.sh t.d, .sh (.list w)] = .val (.ow (slantL t w))
  | .lf, w, k, h, _ => by
    obtain ⟨k, rfl⟩ := k_succ h
    simp [m_slanting, b_slanting, Tr.d, slantL]
  | .nd l x r, w, k, h, hk => by
    obtain ⟨k, rfl⟩ := k_succ h
    simp only [Tr.size] at h
    have h1 := e_slanting l (w ++ [.str "left"]) k (by omega) (by simp only [List.length_append, List.length_cons, List.length_nil] <;> omega)
    have h2 := e_slanting r (w ++ [.str "right"]) k (by omega) (by simp only [List.length_append, List.length_cons, List.length_nil] <;> omega)
    have h3 : m_slants k [.sh (.tuple [l.d, .int x, r.d])] = rb (decide (l.rank < r.rank)) := by
      obtain ⟨j, rfl⟩ : ∃ j, k = j + 1 := ⟨k - 1, by omega⟩
      exact e_slants l x r j (by omega)
    have b1 := slantL_len l (w ++ [.str "left"])
    have b2 := slantL_len r (w ++ [.str "right"])
    have a0 : w.length + 1 ≤ 1000000 := by omega
    have a1 : (slantL l (w ++ [.str "left"])).length ≤ 1000000 := by omega
    have a2 : 1 + (slantL l (w ++ [.str "left"])).length ≤ 1000000 := by omega
    have a3 : (slantL l (w ++ [.str "left"])).length + (slantL r (w ++ [.str "right"])).length ≤ 1000000 := by omega
    have a4 : (slantL l (w ++ [.str "left"])).length + 1 + (slantL r (w ++ [.str "right"])).length ≤ 1000000 := by omega
    by_cases c : l.rank < r.rank <;> simp [m_slanting, b_slanting, Tr.d, h1, h2, h3, c, slantL, a0, a1, a2, a3, a4]
theorem e_check_leaning (t : Tr) (k : Nat) (h : t.size + 1 < k) (hk : k ≤ 1000) : m_check_leaning (k + 1) [.sh t.d] = if t.leans = true then .val (.sh .none) else .err "NotLeaning" := by
  have h1 := e_slanting t [] k h (by simpa using hk)
  have h2 := slantL_nil t []
  cases c : t.leans with
  | true => rw [c] at h2; simp [m_check_leaning, b_check_leaning, h1, h2]
  | false => rw [c] at h2; simp [m_check_leaning, b_check_leaning, h1, h2]
theorem e_check_both (a b : Tr) (k : Nat) (h : a.size + b.size ≤ 40) (hk : 50 ≤ k) (h1 : a.heap = true) (h2 : b.heap = true) : m_check_both (k + 1) [.sh a.d, .sh b.d] = .val (.sh .none) := by
  have a1 : m_check_heap k [.sh a.d] = .val (.sh .none) := by
    obtain ⟨j, rfl⟩ : ∃ j, k = j + 1 := ⟨k - 1, by omega⟩
    rw [e_check_heap a j (by omega) (by omega), if_pos h1]
  have a2 : m_check_heap k [.sh b.d] = .val (.sh .none) := by
    obtain ⟨j, rfl⟩ : ∃ j, k = j + 1 := ⟨k - 1, by omega⟩
    rw [e_check_heap b j (by omega) (by omega), if_pos h2]
  have a3 := e_size_of a k (by omega)
  have a4 := e_size_of b k (by omega)
  have a5 : ¬ (40 : Int) < (a.size : Int) + b.size := by omega
  simp [m_check_both, b_check_both, a1, a2, a3, a4, a5]
theorem e_lean_join (a b : Tr) (k : Nat) (h : a.size + b.size ≤ 40) (hk : 60 ≤ k) (hk2 : k ≤ 1000) (h1 : a.heap = true) (h2 : b.heap = true) :
    m_lean_join (k + 1) [.sh a.d, .sh b.d] = if (a.leans && b.leans) = true then ok (joinL a b).d else .err "NotLeaning" := by
  have a1 : m_check_both k [.sh a.d, .sh b.d] = .val (.sh .none) := by
    obtain ⟨j, rfl⟩ : ∃ j, k = j + 1 := ⟨k - 1, by omega⟩
    exact e_check_both a b j h (by omega) h1 h2
  have a2 : m_check_leaning k [.sh a.d] = if a.leans = true then .val (.sh .none) else .err "NotLeaning" := by
    obtain ⟨j, rfl⟩ : ∃ j, k = j + 1 := ⟨k - 1, by omega⟩
    exact e_check_leaning a j (by omega) (by omega)
  have a3 : m_check_leaning k [.sh b.d] = if b.leans = true then .val (.sh .none) else .err "NotLeaning" := by
    obtain ⟨j, rfl⟩ : ∃ j, k = j + 1 := ⟨k - 1, by omega⟩
    exact e_check_leaning b j (by omega) (by omega)
  have a4 := e_joinL a b k (by omega)
  cases c1 : a.leans <;> cases c2 : b.leans <;> simp [m_lean_join, b_lean_join, a1, a2, a3, a4, c1, c2]
@[simp] theorem fEq_bls (a b : List Bool) : fEq (.list (a.map .bool)) (.list (b.map .bool)) = rb (a == b) := by
  have d : ∀ a : List Bool, PyData.depthAll (a.map .bool) = 0 := fun a => by
    induction a with
    | nil => rfl
    | cons x r ih => simp only [List.map_cons, PyData.depthAll, PyData.depth, ih]; rfl
  have q : ∀ a b : List Bool, PyData.eqvAll (a.map .bool) (b.map .bool) = (a == b) := fun a => by
    induction a with
    | nil => intro b; cases b <;> rfl
    | cons x r ih =>
      intro b
      cases b with
      | nil => rfl
      | cons y s =>
        simp only [List.map_cons, PyData.eqvAll, ih]
        cases x <;> cases y <;> simp [PyData.eqv]
  unfold fEq
  rw [if_pos (by simp only [PyData.depth, d]; omega)]
  simp only [PyData.eqv, q]
theorem E_check_heap (t : Tr) (k : Nat) (h : t.size ≤ 40) (hk : 50 ≤ k) : m_check_heap k [.sh t.d] = if t.heap = true then .val (.sh .none) else .err "BadHeap" := by
  obtain ⟨j, rfl⟩ : ∃ j, k = j + 1 := ⟨k - 1, by omega⟩
  exact e_check_heap t j h (by omega)
theorem E_lean_of (r : List Int) (k : Nat) (h : r.length ≤ 40) (hk : 60 ≤ k) : m_lean_of k [.sh (.list (r.map .int))] = ok (leanOf r).d := by
  obtain ⟨j, rfl⟩ : ∃ j, k = j + 1 := ⟨k - 1, by omega⟩
  exact e_lean_of r j h (by omega)
theorem E_rank (t : Tr) (k : Nat) (h : t.size ≤ 40) (hk : 60 ≤ k) (hh : t.heap = true) : m_rank k [.sh t.d] = ri t.rank := by
  obtain ⟨j, rfl⟩ : ∃ j, k = j + 1 := ⟨k - 1, by omega⟩
  exact e_rank t j h (by omega) hh
theorem E_check_leaning (t : Tr) (k : Nat) (h : t.size + 2 < k) (hk : k ≤ 1001) : m_check_leaning k [.sh t.d] = if t.leans = true then .val (.sh .none) else .err "NotLeaning" := by
  obtain ⟨j, rfl⟩ : ∃ j, k = j + 1 := ⟨k - 1, by omega⟩
  exact e_check_leaning t j (by omega) (by omega)
theorem E_lean_join (a b : Tr) (k : Nat) (h : a.size + b.size ≤ 40) (hk : 65 ≤ k) (hk2 : k ≤ 1001) (h1 : a.heap = true) (h2 : b.heap = true) :
    m_lean_join k [.sh a.d, .sh b.d] = if (a.leans && b.leans) = true then ok (joinL a b).d else .err "NotLeaning" := by
  obtain ⟨j, rfl⟩ : ∃ j, k = j + 1 := ⟨k - 1, by omega⟩
  exact e_lean_join a b j h (by omega) (by omega) h1 h2
def takeL : Tr → R
  | .lf => .err "Empty"
  | .nd l x r => ok (.tuple [.int x, (joinL l r).d])
theorem E_lean_take (t : Tr) (k : Nat) (h : t.size ≤ 40) (hk : 70 ≤ k) (hk2 : k ≤ 1000) (hh : t.heap = true) : m_lean_take k [.sh t.d] = if t.leans = true then takeL t else .err "NotLeaning" := by
  obtain ⟨k, rfl⟩ := k_succ (n := 0) (k := k) (by omega)
  have a1 := E_check_heap t k h (by omega)
  rw [if_pos hh] at a1
  have a2 := E_check_leaning t k (by omega) (by omega)
  cases c : t.leans with
  | false => rw [c] at a2; simp at a2; simp [m_lean_take, b_lean_take, a1, a2]
  | true =>
    rw [c] at a2
    simp only [if_true] at a2
    cases t with
    | lf => simp only [Tr.d] at *; simp [m_lean_take, b_lean_take, a1, a2, takeL]
    | nd l x r =>
      simp only [Tr.size] at h
      have a3 := e_joinL l r k (by omega)
      simp only [Tr.d] at a1 a2
      simp [m_lean_take, b_lean_take, Tr.d, a1, a2, a3, takeL]
@[simp] theorem fNe_str (a b : Str) : fNe (.str a) (.str b) = rb (!(a == b)) := by simp [fNe, PyData.depth, PyData.eqv]
@[simp] theorem fEq_str (a b : Str) : fEq (.str a) (.str b) = rb (a == b) := by simp [fEq, PyData.depth, PyData.eqv]
def joinT : Tr → Tr → Tr × Nat
  | .lf, b => (b, 0)
  | .nd l x r, .lf => (.nd l x r, 0)
  | .nd l x r, .nd l' y r' => if y < x then (.nd (joinT r' (.nd l x r)).1 y l', (joinT r' (.nd l x r)).2 + 1) else (.nd (joinT r (.nd l' y r')).1 x l, (joinT r (.nd l' y r')).2 + 1)
termination_by a b => a.size + b.size
decreasing_by all_goals (simp only [Tr.size]; omega)
def pairD (p : Tr × Nat) : D := .tuple [p.1.d, .int (p.2 : Nat)]
theorem e_joinT (a b : Tr) : ∀ k, a.size + b.size < k → m_joinT k [.sh a.d, .sh b.d] = ok (pairD (joinT a b)) := by
  fun_induction joinT a b with
  | case1 b =>
    intro k h
    obtain ⟨k, rfl⟩ := k_succ h
    cases b <;> simp [m_joinT, b_joinT, Tr.d, pairD]
  | case2 l x r =>
    intro k h
    obtain ⟨k, rfl⟩ := k_succ h
    simp [m_joinT, b_joinT, Tr.d, pairD]
  | case3 l x r l' y r' c ih =>
    intro k h
    obtain ⟨k, rfl⟩ := k_succ h
    simp only [Tr.size] at h
    have h1 := ih k (by simp only [Tr.size]; omega)
    simp only [Tr.d] at h1
    generalize joinT r' (.nd l x r) = q at *
    simp [m_joinT, b_joinT, Tr.d, c, h1, pairD]
  | case4 l x r l' y r' c ih =>
    intro k h
    obtain ⟨k, rfl⟩ := k_succ h
    simp only [Tr.size] at h
    have h1 := ih k (by simp only [Tr.size]; omega)
    simp only [Tr.d] at h1
    generalize joinT r (.nd l' y r') = q at *
    simp [m_joinT, b_joinT, Tr.d, c, h1, pairD]
def takeT : Tr → R
  | .lf => .err "Empty"
  | .nd l x r => ok (.tuple [.int x, (joinT l r).1.d, .int ((joinT l r).2 : Nat)])
theorem E_turn_take (t : Tr) (k : Nat) (h : t.size ≤ 40) (hk : 70 ≤ k) (hh : t.heap = true) : m_turn_take k [.sh t.d] = takeT t := by
  obtain ⟨k, rfl⟩ := k_succ (n := 0) (k := k) (by omega)
  have a1 := E_check_heap t k h (by omega)
  rw [if_pos hh] at a1
  cases t with
  | lf => simp only [Tr.d] at *; simp [m_turn_take, b_turn_take, a1, takeT]
  | nd l x r =>
    simp only [Tr.size] at h
    have a3 := e_joinT l r k (by omega)
    simp only [Tr.d] at a1
    simp only [pairD] at a3
    simp [m_turn_take, b_turn_take, Tr.d, a1, a3, takeT]
inductive Bn where
  | leaf (k : Int)
  | link (o t : Bn)
  deriving DecidableEq
def Bn.key : Bn → Int
  | .leaf k => k
  | .link _ t => t.key
def Bn.cs : Bn → List D
  | .leaf _ => []
  | .link o t => .tuple [.int o.key, .list o.cs] :: t.cs
def Bn.d (t : Bn) : D := .tuple [.int t.key, .list t.cs]
def Bn.ks : Bn → List Int
  | .leaf _ => []
  | .link o t => (o.key :: o.ks) ++ t.ks
def Bn.keys (t : Bn) : List Int := t.key :: t.ks
def Bn.ord : Bn → Nat
  | .leaf _ => 0
  | .link _ t => t.ord + 1
def Bn.ok : Bn → Prop
  | .leaf _ => True
  | .link o t => o.ord = t.ord ∧ t.key ≤ o.key ∧ o.ok ∧ t.ok
def Bn.cl : Bn → List Bn
  | .leaf _ => []
  | .link o t => o :: t.cl
theorem run_rt (n : Nat) (B : FS) (as : List SV) (R : SV) (env : VEnv) (h : as.map some ++ List.replicate (n - as.length) none = env) (q : B env = .rt R) : runB n B as = .val R := by
  subst h
  unfold runB
  rw [q]
theorem rngD_nat (n : Nat) : rngD 0 1 n = (List.range n).map fun (N : Nat) => PyData.int (N : Int) := by
  unfold rngD
  refine List.map_congr_left fun i _ => ?_
  simp
theorem seq_nx {a b : FS} {env e : VEnv} (h : a env = .nx e) : sSeq a b env = b e := by simp [sSeq, h]
theorem E_check_keys (r : List Int) (k : Nat) (h : r.length ≤ 40) (hk : 2 ≤ k) : m_check_keys k [.sh (.list (r.map .int))] = .val (.sh .none) := by
  obtain ⟨k, rfl⟩ : ∃ j, k = j + 2 := ⟨k - 2, by omega⟩
  exact e_check_keys r k h
def szL : Tr → List Nat
  | .lf => []
  | .nd l x r => szL l ++ [(Tr.nd l x r).size] ++ szL r
theorem szL_len : ∀ t : Tr, (szL t).length = t.size
  | .lf => rfl
  | .nd l x r => by simp only [szL, List.length_append, List.length_singleton, szL_len l, szL_len r, Tr.size]; omega
theorem szL_pos : ∀ t : Tr, ∀ s ∈ szL t, 0 < s ∧ s ≤ t.size
  | .lf, s, m => absurd m (by simp [szL])
  | .nd l x r, s, m => by
    simp only [szL, List.mem_append, List.mem_singleton] at m
    rcases m with (m | rfl) | m
    · have := szL_pos l s m; simp only [Tr.size]; omega
    · simp only [Tr.size]; omega
    · have := szL_pos r s m; simp only [Tr.size]; omega
theorem e_sizes_of : ∀ (t : Tr) (k : Nat), t.size + 1 < k → k ≤ 1000 → m_sizes_of k [.sh t.d] = .val (.ow ((szL t).map fun n => PyData.int (n : Nat)))
  | .lf, k, h, _ => by
    obtain ⟨k, rfl⟩ := k_succ h
    simp [m_sizes_of, b_sizes_of, Tr.d, szL]
  | .nd l x r, k, h, h2 => by
    obtain ⟨k, rfl⟩ := k_succ h
    have a1 := e_size_of (.nd l x r) k (by omega)
    simp only [Tr.size] at h
    have a3 := e_sizes_of l k (by omega) (by omega)
    have a4 := e_sizes_of r k (by omega) (by omega)
    have l1 : ((szL l).map fun n => PyData.int (n : Nat)).length + 1 ≤ 1000000 := by rw [List.length_map, szL_len]; omega
    have l2 : ((szL l).map fun n => PyData.int (n : Nat)).length + 1 + ((szL r).map fun n => PyData.int (n : Nat)).length ≤ 1000000 := by rw [List.length_map, List.length_map, szL_len, szL_len]; omega
    simp only [szL, List.map_append, List.map_cons, List.map_nil]
    simp only [Tr.d] at a1 ⊢
    generalize (Tr.nd l x r).size = SZ at *
    rw [m_sizes_of]
    generalize ((szL l).map fun n => PyData.int (n : Nat)) = L1 at *
    generalize ((szL r).map fun n => PyData.int (n : Nat)) = L2 at *
    simp [b_sizes_of, a1, a3, a4, l1, l2]
def facN : Nat → Nat
  | 0 => 1
  | n + 1 => facN n * (n + 1)
theorem fac_go (g1 g2 : List SV → R) (a0 a2 a4 : Option SV) : ∀ (m o : Nat) (z : Option SV), o + m ≤ 100 → ∃ z', forL (tgN 3) (p_how_many_rows_1 g1 g2) ((List.range' o m).map fun (i : Nat) => PyData.int (i : Int)) [a0, some (.sh (.int (facN o : Nat))), a2, z, a4] = .nx [a0, some (.sh (.int (facN (o + m) : Nat))), a2, z', a4]
  | 0, o, z, _ => ⟨z, rfl⟩
  | m + 1, o, z, h => by
    obtain ⟨z', ih⟩ := fac_go g1 g2 a0 a2 a4 m (o + 1) (some (.sh (.int (o : Nat)))) (by omega)
    refine ⟨z', ?_⟩
    have mo : mulOk ((facN o : Nat) : Int) ((o : Int) + 1) = true := mulOk_right (by omega) (by omega)
    have ef : ((facN o : Nat) : Int) * ((o : Int) + 1) = ((facN (o + 1) : Nat) : Int) := by simp only [facN]; push_cast; rfl
    rw [show List.range' o (m + 1) = o :: List.range' (o + 1) m from rfl, List.map_cons, forL_go (env' := [a0, some (.sh (.int (facN o : Nat))), a2, some (.sh (.int (o : Nat))), a4]) rfl (e := [a0, some (.sh (.int (facN (o + 1) : Nat))), a2, some (.sh (.int (o : Nat))), a4]) (by
      generalize ((facN (o + 1) : Nat) : Int) = F1 at *
      generalize ((facN o : Nat) : Int) = F0 at *
      simp [p_how_many_rows_1, mo, ef]), ih, show o + 1 + m = o + (m + 1) by omega]
def divL (a : Nat) (L : List Nat) : Nat := L.foldl (· / ·) a
theorem div_go (g1 g2 : List SV → R) (a0 a2 a3 : Option SV) : ∀ (L : List Nat) (a : Nat) (z : Option SV), (∀ s ∈ L, 0 < s ∧ s ≤ 100) → ∃ z', forL (tgN 4) (p_how_many_rows_2 g1 g2) (L.map fun n => PyData.int (n : Nat)) [a0, some (.sh (.int (a : Nat))), a2, a3, z] = .nx [a0, some (.sh (.int (divL a L : Nat))), a2, a3, z']
  | [], a, z, _ => ⟨z, rfl⟩
  | s :: L, a, z, h => by
    obtain ⟨h1, h2⟩ := h s List.mem_cons_self
    obtain ⟨z', ih⟩ := div_go g1 g2 a0 a2 a3 L (a / s) (some (.sh (.int (s : Nat)))) fun x m => h x (List.mem_cons_of_mem _ m)
    refine ⟨z', ?_⟩
    have fd : fDiv (.int (a : Nat)) (.int (s : Nat)) = ri ((a / s : Nat) : Int) := by
      simp only [fDiv]
      rw [if_pos ⟨by omega, by omega⟩]
      push_cast; rfl
    rw [List.map_cons, forL_go (env' := [a0, some (.sh (.int (a : Nat))), a2, a3, some (.sh (.int (s : Nat)))]) rfl (e := [a0, some (.sh (.int ((a / s : Nat) : Int))), a2, a3, some (.sh (.int (s : Nat)))]) (by simp [p_how_many_rows_2, fd, -fDiv]), ih]
    rfl
theorem E_how_many_rows (t : Tr) (k : Nat) (h : t.size ≤ 40) (hk : 60 ≤ k) (hk2 : k ≤ 900) : m_how_many_rows k [.sh t.d] = ri ((divL (facN t.size) (szL t) : Nat) : Int) := by
  obtain ⟨k, rfl⟩ : ∃ j, k = j + 3 := ⟨k - 3, by omega⟩
  have a1 := e_is_form t k h
  have a2 := e_sizes_of t (k + 2) (by omega) (by omega)
  obtain ⟨z3, f1⟩ := fac_go (m_is_form (k + 2)) (m_sizes_of (k + 2)) (some (.sh t.d)) (some (.sh (.list ((szL t).map fun n => PyData.int (n : Nat))))) none t.size 0 none (by omega)
  obtain ⟨z4, f2⟩ := div_go (m_is_form (k + 2)) (m_sizes_of (k + 2)) (some (.sh t.d)) (some (.sh (.list ((szL t).map fun n => PyData.int (n : Nat))))) z3 (szL t) (facN t.size) none fun s m => ⟨(szL_pos t s m).1, by have := (szL_pos t s m).2; omega⟩
  rw [← List.range_eq_range', ← rngD_nat, Nat.zero_add] at f1
  have f1' : forL (tgN 3) (p_how_many_rows_1 (m_is_form (k + 2)) (m_sizes_of (k + 2))) (rngD 0 1 t.size) [some (.sh t.d), some (.sh (.int 1)), some (.sh (.list ((szL t).map fun n => PyData.int (n : Nat)))), none, none] = .nx [some (.sh t.d), some (.sh (.int (facN t.size : Nat))), some (.sh (.list ((szL t).map fun n => PyData.int (n : Nat)))), z3, none] := f1
  have ll : ((szL t).map fun n => PyData.int (n : Nat)).length = t.size := by rw [List.length_map, szL_len]
  rw [m_how_many_rows]
  unfold b_how_many_rows
  generalize p_how_many_rows_1 (m_is_form (k + 2)) (m_sizes_of (k + 2)) = P1 at *
  generalize p_how_many_rows_2 (m_is_form (k + 2)) (m_sizes_of (k + 2)) = P2 at *
  generalize ((szL t).map fun n => PyData.int (n : Nat)) = LD at *
  generalize divL (facN t.size) (szL t) = RR at *
  generalize facN t.size = FF at *
  have s1 : (t.size : Int) ≤ 1000000 := by omega
  have s2 : (-1000000 : Int) ≤ (t.size : Int) := by omega
  generalize t.d = TD at *
  generalize t.size = SZ at *
  simp [a1, a2, ll, s1, s2, f1', f2]
theorem if_no {f : FE} {s : FS} {env : VEnv} (h : f env = rb false) : sIf f s sNil env = .nx env := by simp [h]
def clsL : List Str := ["BadHeap", "BadKey", "BadShape", "BadCount", "BadNumber", "BadPile", "NotLeaning", "Empty", "TooMany"]
def kdsL (cn : Str) : List Bool := [cn == "BadHeap", cn == "BadKey", cn == "BadShape", cn == "BadCount", cn == "BadNumber", cn == "BadPile", cn == "NotLeaning", cn == "Empty", cn == "TooMany", true]
theorem e_l_kinds (cn : Str) (k : Nat) : m_l_kinds cn (k + 1) [.ob 100 []] = .val (.sh (.list ((kdsL cn).map .bool))) ∨ m_l_kinds cn (k + 1) [.ob 100 []] = .val (.ow ((kdsL cn).map .bool)) := by
  right
  simp [m_l_kinds, b_l_kinds, kdsL]
theorem kds_w : ∀ w, w < 9 → ∀ cn, clsL[w]? = some cn → kdsL cn = ((List.range 9).map fun (j : Nat) => decide (j = w)) ++ [true] := by
  intro w hw cn h
  have : w = 0 ∨ w = 1 ∨ w = 2 ∨ w = 3 ∨ w = 4 ∨ w = 5 ∨ w = 6 ∨ w = 7 ∨ w = 8 := by omega
  rcases this with rfl | rfl | rfl | rfl | rfl | rfl | rfl | rfl | rfl <;> (cases h; decide +kernel)
theorem lc_which (w : Nat) (env : VEnv) (l6 : env.length = 6) (h2 : env[2]? = some (some (.sh (.int (w : Nat))))) : lcGo (tgN 5) (vC (.bool true)) (op2 fEq (vVar 5) (vVar 2)) env (rngD 0 1 9) = some (((List.range 9).map fun (j : Nat) => decide (j = w)).map .bool) := by
  unfold rngD
  rw [List.map_map]
  refine lcGo_map _ _ _ fun i _ => ⟨env.set 5 (some (.sh (.int (0 + (i : Int) * 1)))), rfl, rfl, ?_⟩
  have g2 : (env.set 5 (some (.sh (.int (0 + (i : Int) * 1)))))[2]? = some (some (.sh (.int (w : Nat)))) := by rw [List.getElem?_set_ne (by decide)]; exact h2
  have g5 : (env.set 5 (some (SV.sh (.int (0 + (i : Int) * 1)))))[5]? = some (some (.sh (.int (0 + (i : Int) * 1)))) := List.getElem?_set_self (by omega)
  have e : 0 + (i : Int) * 1 = i := by omega
  rw [e] at g2 g5 ⊢
  generalize env.set 5 (some (SV.sh (.int (i : Int)))) = E2 at *
  have d : decide ((i : Int) = (w : Int)) = decide (i = w) := by
    by_cases c : i = w
    · simp [c]
    · have : ¬ (i : Int) = (w : Int) := by omega
      simp [c, this]
  have d2 : ((i : Int) == (w : Int)) = decide (i = w) := d
  simp [g2, g5, d2]
theorem fEq_blL (a : List Bool) : fEq (.list (a.map .bool)) (.list (a.map .bool)) = rb true := by rw [fEq_bls]; simp
theorem ers_cls : ∀ w, w < 9 → ∀ cn, clsL[w]? = some cn → cn ∈ (["BadHeap", "BadKey", "BadShape", "BadCount", "BadNumber", "BadPile", "NotLeaning", "Empty", "TooMany"] : List Str) := by
  intro w hw cn h
  exact List.mem_of_getElem? h
theorem E_l_refused (m : Nat → List SV → R) (k n w : Nat) (t : SV) (hk : 2 ≤ k) (hw : w < 9) (cn : Str) (hc : clsL[w]? = some cn) (ht : t.fz = t) (nx : noX1 (some t) = true) (tv : ∀ i env, env[i]? = some (some t) → vVar i env = .val t) (h : m n [t] = .err cn) : m_l_refused_k19 m k [.ob 104 [.int (n : Nat)], t, .sh (.int (w : Nat))] = rb true := by
  obtain ⟨k, rfl⟩ : ∃ j, k = j + 2 := ⟨k - 2, by omega⟩
  have ek := e_l_kinds cn k
  have kw := kds_w w hw cn hc
  have me := ers_cls w hw cn hc
  have lc := lc_which w [some (.ob 104 [.int (n : Nat)]), some t, some (.sh (.int (w : Nat))), some (.sh (.list ((kdsL cn).map .bool))), none, none] rfl rfl
  have r9 : (rngD 0 1 9).length = 9 := by simp [rngD]
  have fe := fEq_blL (kdsL cn)
  have ap : ((List.range 9).map fun (j : Nat) => decide (j = w)).map PyData.bool ++ [.bool true] = (kdsL cn).map .bool := by rw [kw, List.map_append]; rfl
  have l10 : (((List.range 9).map fun (j : Nat) => decide (j = w)).map PyData.bool).length = 9 := by simp
  rw [m_l_refused_k19]
  refine run_rt 6 _ _ _ [some (.ob 104 [.int (n : Nat)]), some t, some (.sh (.int (w : Nat))), none, none, none] rfl ?_
  unfold b_l_refused_k19
  refine (seq_nx (e := [some (.ob 104 [.int (n : Nat)]), some t, some (.sh (.int (w : Nat))), some (.sh (.list [])), none, none]) ?_).trans ?_
  · simp
  refine (seq_nx (e := [some (.ob 104 [.int (n : Nat)]), some t, some (.sh (.int (w : Nat))), some (.sh (.list ((kdsL cn).map .bool))), none, none]) ?_).trans ?_
  · have v1 := tv 1 [some (.ob 104 [.int (n : Nat)]), some t, some (.sh (.int (w : Nat))), some (.sh (.list [])), none, none] rfl
    have cx : calX (m_l_kinds cn (k + 1)) 4 [some (.ob 104 [.int (n : Nat)]), some t, some (.sh (.int (w : Nat))), some (.sh (.list [])), some (.ob 100 []), none] = .val (.sh (.list ((kdsL cn).map .bool))) ∨ calX (m_l_kinds cn (k + 1)) 4 [some (.ob 104 [.int (n : Nat)]), some t, some (.sh (.int (w : Nat))), some (.sh (.list [])), some (.ob 100 []), none] = .val (.ow ((kdsL cn).map .bool)) := by
      rcases ek with e | e
      · left; simp [calX, e, keepR]
      · right; simp [calX, e, keepR]
    generalize (kdsL cn).map PyData.bool = KD at *
    have ev : evA [vVar 1] [some (.ob 104 [.int (n : Nat)]), some t, some (.sh (.int (w : Nat))), some (.sh (.list [])), none, none] = .val [t] := by
      simp only [evA, v1, RL.cons, ht]
    have nx2 : ∀ a b : Option SV, noX1 a = true → noX1 b = true → noX [some (.ob 104 [.int (n : Nat)]), some t, some (.sh (.int (w : Nat))), a, b, none] = true := fun a b ha hb => by
      unfold noX
      simp only [List.all_cons, ha, hb, nx, List.all_nil]
      simp
    have n0 := nx2 (some (.sh (.list []))) none rfl rfl
    have n1 := nx2 (some (.sh (.list KD))) none rfl rfl
    unfold sTryV
    simp only [List.getElem?_cons_zero]
    unfold sTryR
    rw [if_pos n0, ev]
    simp only [List.length_singleton, if_true, Int.toNat_natCast, h, me, sSet]
    rcases cx with e | e
    · rw [show ([some (.ob 104 [.int (n : Nat)]), some t, some (.sh (.int (w : Nat))), some (.sh (.list [])), none, none] : VEnv).set 4 (some (.ob 100 [])) = [some (.ob 104 [.int (n : Nat)]), some t, some (.sh (.int (w : Nat))), some (.sh (.list [])), some (.ob 100 []), none] from rfl, e]
      simp only [R.s, SV.fz]
      show (if noX [some (.ob 104 [.int (n : Nat)]), some t, some (.sh (.int (w : Nat))), some (.sh (.list KD)), none, none] = true then _ else _) = _
      rw [if_pos n1]; rfl
    · rw [show ([some (.ob 104 [.int (n : Nat)]), some t, some (.sh (.int (w : Nat))), some (.sh (.list [])), none, none] : VEnv).set 4 (some (.ob 100 [])) = [some (.ob 104 [.int (n : Nat)]), some t, some (.sh (.int (w : Nat))), some (.sh (.list [])), some (.ob 100 []), none] from rfl, e]
      simp only [R.s, SV.fz]
      show (if noX [some (.ob 104 [.int (n : Nat)]), some t, some (.sh (.int (w : Nat))), some (.sh (.list KD)), none, none] = true then _ else _) = _
      rw [if_pos n1]; rfl
  generalize hW : ((List.range 9).map fun (j : Nat) => decide (j = w)).map PyData.bool = WD at *
  generalize (kdsL cn).map PyData.bool = KD at *
  generalize op2 fEq (vVar 5) (vVar 2) = CC at *
  simp [r9, lc, l10, ap, fe]
theorem thSV_ok (d : D) : (thSV d).fz = thSV d ∧ noX1 (some (thSV d)) = true ∧ ∀ i (env : VEnv), env[i]? = some (some (thSV d)) → vVar i env = .val (thSV d) := by
  cases d <;> exact ⟨rfl, rfl, fun i env e => by simp [vVar, thSV, e] at *⟩
theorem E_l_all (m : Nat → List SV → R) (k w : Nat) (ns : List Nat) (ds : List D) (TS : SV) (hT : TS = .ob 107 ds ∨ TS = .sh (.list ds)) (hk : 3 ≤ k) (hw : w < 9) (ld : ds.length ≤ 1000) (cn : Str) (hc : clsL[w]? = some cn) (h : ∀ n ∈ ns, ∀ d ∈ ds, m n [thSV d] = .err cn) :
    m_l_all m k [.ob 105 (ns.map fun (n : Nat) => .int (n : Nat)), TS, .sh (.int (w : Nat))] = rb true := by
  obtain ⟨k, rfl⟩ : ∃ j, k = j + 1 := ⟨k - 1, by omega⟩
  have it : ∀ env : VEnv, env[1]? = some (some TS) → itT (vVar 1) env = some ds := fun env e => by
    rcases hT with rfl | rfl <;> simp [itT, vVar, e]
  have lp : ∀ (L : List Nat) (z3 z4 : Option SV), (∀ n ∈ L, n ∈ ns) → ∃ y3 y4, forL (tgC 3) (p_l_all_1 (m_l_refused_k19 m k)) (L.map fun (n : Nat) => .int (n : Nat)) [some (.ob 105 (ns.map fun (n : Nat) => .int (n : Nat))), some TS, some (.sh (.int (w : Nat))), z3, z4] = .nx [some (.ob 105 (ns.map fun (n : Nat) => .int (n : Nat))), some TS, some (.sh (.int (w : Nat))), y3, y4] := by
    intro L
    induction L with
    | nil => exact fun z3 z4 _ => ⟨z3, z4, rfl⟩
    | cons n L ih =>
      intro z3 z4 hL
      obtain ⟨y3, y4, ih⟩ := ih (some (.ob 104 [.int (n : Nat)])) z4 fun q hq => hL q (List.mem_cons_of_mem _ hq)
      refine ⟨y3, y4, ?_⟩
      rw [List.map_cons, ← ih]
      refine forL_go (env' := [some (.ob 105 (ns.map fun (n : Nat) => .int (n : Nat))), some TS, some (.sh (.int (w : Nat))), some (.ob 104 [.int (n : Nat)]), z4]) rfl ?_
      have lc : lcGo (tgT 4) (vC (.bool true)) (calF 3 (m_l_refused_k19 m k) [vVar 3, vVar 4, vVar 2]) [some (.ob 105 (ns.map fun (n : Nat) => .int (n : Nat))), some TS, some (.sh (.int (w : Nat))), some (.ob 104 [.int (n : Nat)]), none] ds = some ((ds.map fun _ => true).map .bool) := by
        have : ds = ds.map id := (List.map_id ds).symm
        conv => lhs; rw [this]
        rw [List.map_map]
        refine lcGo_map _ _ _ fun d md => ⟨[some (.ob 105 (ns.map fun (n : Nat) => .int (n : Nat))), some TS, some (.sh (.int (w : Nat))), some (.ob 104 [.int (n : Nat)]), some (thSV d)], rfl, rfl, ?_⟩
        obtain ⟨t1, t2, t3⟩ := thSV_ok d
        have r := E_l_refused m k n w (thSV d) (by omega) hw cn hc t1 t2 t3 (h n (hL n List.mem_cons_self) d md)
        have v4 := t3 4 [some (.ob 105 (ns.map fun (n : Nat) => .int (n : Nat))), some TS, some (.sh (.int (w : Nat))), some (.ob 104 [.int (n : Nat)]), some (thSV d)] rfl
        generalize thSV d = TD at *
        simp only [calF, evA, v4, RL.cons, t1]
        simp [r]
      have al : ((ds.map fun _ => true) : List Bool).all id = true := by simp
      have bl := blsOf_map (ds.map fun _ => true)
      unfold p_l_all_1
      have vl : vLcQ [4] (tgT 4) (itT (vVar 1)) (calF 3 (m_l_refused_k19 m k) [vVar 3, vVar 4, vVar 2]) [some (.ob 105 (ns.map fun (n : Nat) => .int (n : Nat))), some TS, some (.sh (.int (w : Nat))), some (.ob 104 [.int (n : Nat)]), z4] = .val (.ow ((ds.map fun _ => true).map .bool)) := by
        unfold vLcQ
        rw [it _ rfl]
        simp only [wipeE]
        rw [if_pos (by omega), show ([some (.ob 105 (ns.map fun (n : Nat) => .int (n : Nat))), some TS, some (.sh (.int (w : Nat))), some (.ob 104 [.int (n : Nat)]), z4] : VEnv).set 4 none = [some (.ob 105 (ns.map fun (n : Nat) => .int (n : Nat))), some TS, some (.sh (.int (w : Nat))), some (.ob 104 [.int (n : Nat)]), none] from rfl, lc]
      generalize vLcQ [4] (tgT 4) (itT (vVar 1)) (calF 3 (m_l_refused_k19 m k) [vVar 3, vVar 4, vVar 2]) = VL at *
      generalize (ds.map fun _ => true) = BB at *
      generalize hB : BB.map PyData.bool = BD at *
      refine if_no ?_
      simp [vl, bl, al]
  obtain ⟨y3, y4, lp⟩ := lp ns none none fun n hn => hn
  rw [m_l_all]
  refine run_rt 5 _ _ _ [some (.ob 105 (ns.map fun (n : Nat) => .int (n : Nat))), some TS, some (.sh (.int (w : Nat))), none, none] rfl ?_
  unfold b_l_all
  generalize p_l_all_1 (m_l_refused_k19 m k) = PP at *
  refine (seq_nx (e := [some (.ob 105 (ns.map fun (n : Nat) => .int (n : Nat))), some TS, some (.sh (.int (w : Nat))), y3, y4]) ?_).trans ?_
  · unfold sForQ itC
    simp only [vVar, List.getElem?_cons_zero]
    exact lp
  · simp
theorem is_form_over (k : Nat) (th z : Option SV) (ts : List D) (x : Int) (l r : D) : p_is_form_2 (m_is_key (k + 1)) [th, some (.ow (ts ++ [.tuple [l, .int x, r]])), some (.sh (.int 40)), z] = .rt (.sh (.bool false)) := by
  simp [p_is_form_2, e_is_key]
theorem is_form_big (k : Nat) (th : Option SV) : ∀ (n : Nat) (ts : List Tr) (c : Nat) (z : Option SV), 2 * (40 - c) + ts.length < n → c ≤ 40 → 40 < c + szs ts → ts.length + (40 - c) ≤ 900 →
    sWhile n (p_is_form_1 (m_is_key (k + 1))) (p_is_form_2 (m_is_key (k + 1))) [th, some (.ow (ts.map Tr.d)), some (.sh (.int (c : Nat))), z] = .rt (.sh (.bool false))
  | 0, _, _, _, h, _, _, _ => by omega
  | n + 1, ts, c, z, h, h1, h2, h3 => by
    rcases list_last ts with rfl | ⟨L, b, rfl⟩
    · simp [szs] at h2; omega
    · rw [szs_append] at h2
      simp only [List.length_append, List.length_cons, List.length_nil] at h h3
      rw [List.map_append]
      have cc : p_is_form_1 (m_is_key (k + 1)) [th, some (.ow (L.map Tr.d ++ [b].map Tr.d)), some (.sh (.int (c : Nat))), z] = rb true := by rw [is_form_c]; simp
      cases b with
      | lf =>
        have hs : szs [Tr.lf] = 0 := rfl
        rw [hs] at h2
        rw [sWhile_go cc (is_form_lf _ _ _ _ _)]
        exact is_form_big k th n L c _ (by omega) h1 (by omega) (by omega)
      | nd l x r =>
        have hs : szs [Tr.nd l x r] = 1 + l.size + r.size := by simp [szs, Tr.size]
        have hs2 : szs [l, r] = l.size + r.size := by simp [szs]
        rw [hs] at h2
        by_cases c4 : c = 40
        · subst c4
          exact sWhile_rt cc (is_form_over k th z _ x l.d r.d)
        · rw [sWhile_go cc (is_form_nd k th z _ c x l.d r.d (by omega) (by simp; omega))]
          have ih := is_form_big k th n (L ++ [l, r]) (c + 1) (some (.sh (Tr.nd l x r).d)) (by simp only [List.length_append, List.length_cons, List.length_nil]; omega) (by omega) (by rw [szs_append, hs2]; omega) (by simp only [List.length_append, List.length_cons, List.length_nil]; omega)
          rw [List.map_append] at ih
          exact ih
theorem e_is_form_big (t : Tr) (k : Nat) (h : 40 < t.size) : m_is_form (k + 2) [.sh t.d] = rb false := by
  have hs : szs [t] = t.size := by simp [szs]
  have e := is_form_big k (some (.sh t.d)) WF [t] 0 none (by unfold WF; simp) (by omega) (by rw [hs]; omega) (by simp)
  simp only [List.map_cons, List.map_nil] at e
  have e : sWhile WF (p_is_form_1 (m_is_key (k + 1))) (p_is_form_2 (m_is_key (k + 1))) [some (.sh t.d), some (.ow [t.d]), some (.sh (.int 0)), none] = .rt (.sh (.bool false)) := e
  generalize t.d = T at *
  simp [m_is_form, b_is_form, e]
def keyB : D → Bool
  | .int _ => true
  | _ => false
theorem key_b (k : Nat) (d : D) : m_is_key (k + 1) [.sh d] = rb (keyB d) := by
  cases d <;> simp [m_is_key, b_is_key, keyB]
def noF : Nat → List D → Nat → Bool
  | 0, _, _ => false
  | n + 1, .tuple [] :: r, c => noF n r c
  | n + 1, .tuple [l, x, q] :: r, c => if 40 < c + 1 then true else if keyB x = true then noF n (q :: l :: r) (c + 1) else true
  | _ + 1, [], _ => false
  | _ + 1, _ :: _, _ => true
theorem form_other (f : List SV → R) (th z : Option SV) (ts : List D) (c : Int) (d : D) (h0 : d ≠ .tuple []) (h3 : ∀ l x q, d ≠ .tuple [l, x, q]) : p_is_form_2 f [th, some (.ow (ts ++ [d])), some (.sh (.int c)), z] = .rt (.sh (.bool false)) := by
  unfold p_is_form_2
  cases d with
  | tuple es =>
    have l0 : es.length ≠ 0 := fun z => h0 (by rw [List.length_eq_zero_iff.mp z])
    have l3 : es.length ≠ 3 := fun z => by
      match es, z with
      | [l, x, q], _ => exact h3 l x q rfl
    have n0 : ¬ (es.length : Int) = 0 := by omega
    have n3 : ¬ (es.length : Int) = 3 := by omega
    have m0 : ¬ (0 : Int) = (es.length : Int) := by omega
    have m3 : ¬ (3 : Int) = (es.length : Int) := by omega
    have b0 : ((0 : Int) == (es.length : Int)) = false := beq_false_of_ne m0
    have b3 : ((3 : Int) == (es.length : Int)) = false := beq_false_of_ne m3
    simp [n0, n3, b0, b3, PyData.eqv, l0, l3]
  | _ => simp
theorem noF_go (k : Nat) (th : Option SV) : ∀ (n : Nat) (st : List D) (c : Nat) (z : Option SV), st.length + n ≤ 900 → c ≤ 40 → noF n st c = true →
    sWhile n (p_is_form_1 (m_is_key (k + 1))) (p_is_form_2 (m_is_key (k + 1))) [th, some (.ow st.reverse), some (.sh (.int (c : Nat))), z] = .rt (.sh (.bool false))
  | 0, _, _, _, _, _, h => by simp [noF] at h
  | n + 1, [], c, z, _, _, h => by simp [noF] at h
  | n + 1, d :: r, c, z, hl, hc, h => by
    have cc : p_is_form_1 (m_is_key (k + 1)) [th, some (.ow (d :: r).reverse), some (.sh (.int (c : Nat))), z] = rb true := by rw [is_form_c]; simp
    simp only [List.length_cons] at hl
    rw [List.reverse_cons] at cc ⊢
    by_cases e0 : d = .tuple []
    · subst e0
      rw [sWhile_go cc (is_form_lf _ _ _ _ _)]
      exact noF_go k th n r c _ (by omega) hc (by simpa [noF] using h)
    · by_cases e3 : ∃ l x q, d = .tuple [l, x, q]
      · obtain ⟨l, x, q, rfl⟩ := e3
        have kb := key_b k x
        by_cases c4 : c = 40
        · subst c4
          refine sWhile_rt cc ?_
          simp [p_is_form_2]
        · cases kx : keyB x with
          | false =>
            rw [kx] at kb
            refine sWhile_rt cc ?_
            have c1 : ¬ (40 : Int) < (c : Int) + 1 := by omega
            simp [p_is_form_2, c1, kb]
          | true =>
            obtain ⟨i, rfl⟩ : ∃ i, x = .int i := by
              cases x <;> simp [keyB] at kx
              exact ⟨_, rfl⟩
            rw [sWhile_go cc (is_form_nd k th z _ c i l q (by omega) (by simp; omega))]
            have h' : noF n (q :: l :: r) (c + 1) = true := by
              have c1 : ¬ 40 < c + 1 := by omega
              simpa [noF, c1, kx] using h
            have ih := noF_go k th n (q :: l :: r) (c + 1) (some (.sh (.tuple [l, .int i, q]))) (by simp only [List.length_cons]; omega) (by omega) h'
            simp only [List.reverse_cons, List.append_assoc, List.cons_append, List.nil_append] at ih
            exact ih
      · exact sWhile_rt cc (form_other _ th z _ c d e0 fun l x q e => e3 ⟨l, x, q, e⟩)
theorem noF_lf (n : Nat) (r : List D) (c : Nat) : noF (n + 1) (.tuple [] :: r) c = noF n r c := rfl
theorem noF_nd (n : Nat) (l x q : D) (r : List D) (c : Nat) : noF (n + 1) (.tuple [l, x, q] :: r) c = if 40 < c + 1 then true else if keyB x = true then noF n (q :: l :: r) (c + 1) else true := rfl
theorem noF_mono : ∀ (n m : Nat) (st : List D) (c : Nat), n ≤ m → noF n st c = true → noF m st c = true := by
  intro n
  induction n with
  | zero => intro m st c _ h; simp [noF] at h
  | succ n ih =>
    intro m st c hn h
    obtain ⟨m, rfl⟩ : ∃ j, m = j + 1 := ⟨m - 1, by omega⟩
    cases st with
    | nil => simp [noF] at h
    | cons d r =>
      by_cases e0 : d = .tuple []
      · subst e0
        rw [noF_lf] at h ⊢
        exact ih m _ _ (by omega) h
      · by_cases e3 : ∃ l x q, d = .tuple [l, x, q]
        · obtain ⟨l, x, q, rfl⟩ := e3
          rw [noF_nd] at h ⊢
          by_cases c4 : 40 < c + 1
          · rw [if_pos c4]
          · rw [if_neg c4] at h ⊢
            by_cases kx : keyB x = true
            · rw [if_pos kx] at h ⊢
              exact ih m _ _ (by omega) h
            · rw [if_neg kx]
        · unfold noF
          split <;> simp_all
theorem e_noF (d : D) (k : Nat) (h : noF 20 [d] 0 = true) : m_is_form (k + 2) [.sh d] = rb false := by
  have e := noF_go k (some (.sh d)) WF [d] 0 none (by unfold WF; simp) (by omega) (noF_mono 20 WF _ _ (by unfold WF; omega) h)
  have e : sWhile WF (p_is_form_1 (m_is_key (k + 1))) (p_is_form_2 (m_is_key (k + 1))) [some (.sh d), some (.ow [d]), some (.sh (.int 0)), none] = .rt (.sh (.bool false)) := e
  clear h
  simp [m_is_form, b_is_form, e]
theorem e_is_form_d0 (k : Nat) : m_is_form (k + 1) [.ob 106 []] = rb false := by simp [m_is_form, b_is_form]
def NoForm (d : D) : Prop := ∀ k, m_is_form (k + 2) [thSV d] = rb false
theorem noForm_tr (t : Tr) (h : 40 < t.size) : NoForm t.d := fun k => by
  have e : thSV t.d = .sh t.d := by cases t <;> rfl
  rw [e]; exact e_is_form_big t k h
theorem noForm_by (d : D) (hd : thSV d = .sh d) (h : noF 20 [d] 0 = true) : NoForm d := fun k => by rw [hd]; exact e_noF d k h
theorem noForm_d0 : NoForm (.dict []) := fun k => e_is_form_d0 (k + 1)
def NoHeap (d : D) : Prop := ∀ k, 50 ≤ k → m_check_heap k [thSV d] = .err "BadHeap"
theorem noHeap_form {d : D} (h : NoForm d) : NoHeap d := fun k hk => by
  obtain ⟨k, rfl⟩ : ∃ j, k = j + 3 := ⟨k - 3, by omega⟩
  have e := h k
  obtain ⟨t1, _, t3⟩ := thSV_ok d
  have v := t3 0 [some (thSV d)] rfl
  rw [m_check_heap]
  generalize thSV d = T at *
  unfold b_check_heap
  have ev : calF 1 (m_is_form (k + 2)) [vVar 0] [some T] = rb false := by
    simp only [calF, evA, v, RL.cons, t1]
    simp [e]
  generalize calF 1 (m_is_form (k + 2)) [vVar 0] = CF at *
  simp [ev]
theorem noHeap_tr (t : Tr) (h : t.size ≤ 40) (hh : t.heap = false) : NoHeap t.d := fun k hk => by
  have e : thSV t.d = .sh t.d := by cases t <;> rfl
  rw [e, E_check_heap t k h (by omega), if_neg (by rw [hh]; decide)]
theorem forL_steps {t : Tg} {b : FS} (S : Nat → VEnv) : ∀ (n lo : Nat), (∀ i, ∃ e', t (.int (i : Nat)) (S i) = some e' ∧ b e' = .nx (S (i + 1))) → forL t b (rngD (lo : Nat) 1 n) (S lo) = .nx (S (lo + n))
  | 0, lo, _ => rfl
  | n + 1, lo, h => by
    obtain ⟨e', h1, h2⟩ := h lo
    rw [rngD_cons, forL_go h1 h2, show ((lo : Nat) : Int) + 1 = ((lo + 1 : Nat) : Int) by omega, forL_steps S n (lo + 1) h]
    congr 1
    congr 1
    omega
theorem sFor_r {t : Tg} {p : FS} {f : FE} {env e : VEnv} {n : Nat} (h : f env = ri (n : Nat)) (hn : n ≤ 1000000) (q : forL t p (rngD ((0 : Nat) : Int) 1 n) env = .nx e) : sFor t (itA iR1 [f]) p env = .nx e := by
  have h1 : ((n : Nat) : Int) ≤ 1000000 := by omega
  have h2 : (-1000000 : Int) ≤ ((n : Nat) : Int) := by omega
  simp only [Int.natCast_zero] at q
  simp [h, h1, h2, q]
def trO : Nat → Option SV
  | 0 => none
  | i + 1 => some (.sh (.int (i : Nat)))
def trZ (z : Option SV) : Nat → Option SV
  | 0 => z
  | i + 1 => some (.sh (.int (i : Nat)))
def chL (f : Nat → Int) : Nat → Tr
  | 0 => .lf
  | n + 1 => .nd (chL f n) (f n) .lf
def chR (y : Int) : Nat → Tr
  | 0 => .lf
  | n + 1 => .nd .lf y (chR y n)
def wdT : Nat → Tr
  | 0 => .lf
  | n + 1 => .nd (wdT n) (-(n : Nat)) (wdT n)
theorem chL_size (f : Nat → Int) : ∀ n, (chL f n).size = n
  | 0 => rfl
  | n + 1 => by simp [chL, Tr.size, chL_size f n]; omega
theorem chR_size (y : Int) : ∀ n, (chR y n).size = n
  | 0 => rfl
  | n + 1 => by simp [chR, Tr.size, chR_size y n]; omega
theorem wdT_size : ∀ n, n ≤ (wdT n).size
  | 0 => Nat.le_refl _
  | n + 1 => by have := wdT_size n; simp only [wdT, Tr.size]; omega
def ngF (i : Nat) : Int := -(i : Int)
def frN (far : Int) : Nat := if far = 0 then 1200 else 41
def NF1 : List D := [.none, .int 5, .str "", .list [], .dict [], .tuple [.int 1], .tuple [.int 1, .int 2], .tuple [.tuple [], .int 1], .tuple [.tuple [], .int 1, .tuple [], .tuple []], .list [.tuple [], .int 1, .tuple []], .tuple [.tuple [], .none, .tuple []]]
def NF2 (far : Int) : List D := [.tuple [.tuple [], .bool true, .tuple []], .tuple [.tuple [], .str "1", .tuple []], .tuple [.list [], .int 1, .tuple []], .tuple [.tuple [], .int 1, .list []], .tuple [.none, .int 1, .tuple []], .tuple [.tuple [], .int 1, .int far]]
def NF3 (far : Int) : List D := [(chL ngF 41).d, (chR (-far) 41).d, (chL ngF (frN far)).d, (wdT 60).d, .tuple [.tuple [.tuple [], .int 5, .tuple []], .int 1, .tuple [.none, .int 7, .tuple []]], (Tr.nd (chL ngF 41) (-99) .lf).d]
def NF (far : Int) : List D := NF1 ++ NF2 far ++ NF3 far
def gdT (far : Int) : Tr := .nd (.nd .lf 4 .lf) 1 (.nd .lf (7 + far) .lf)
def NH1 (far : Int) : List D := [(Tr.nd .lf 1 (.nd .lf 0 .lf)).d, (Tr.nd (.nd .lf (-far) .lf) 1 .lf).d, (Tr.nd (gdT far) 2 .lf).d, (Tr.nd .lf (2 + far) (gdT far)).d]
def NH2 (far : Int) : List D := [(Tr.nd (.nd (gdT far) 1 (.nd .lf 0 .lf)) 0 (gdT far)).d, (Tr.nd .lf 8 (.nd .lf 9 (.nd .lf 8 .lf))).d]
def NH (far : Int) : List D := NF far ++ NH1 far ++ NH2 far
def NR (far : Int) : List D := [.none, .int 5, .str "12", .tuple [], .tuple [.int 1, .int 2], .dict [], .list [.none], .list [.int 1, .str "2"], .list [.bool true], .list [.int 0, .bool false], .list [.list [.int 1]], .list (List.replicate 41 (.int 1))] ++ [.list (List.replicate (41 + (far % 9).toNat) (.int far))]
theorem chain_loop (m : Nat) (x : Int) : forL (tgN 3) p_l_chain_1 (rngD ((0 : Nat) : Int) 1 m) [some (.sh (.int (m : Nat))), some (.sh (.int x)), some (.sh (.tuple [])), none] = .nx [some (.sh (.int (m : Nat))), some (.sh (.int x)), some (.sh (chL (fun i => x - (i : Int)) m).d), trO m] := by
  have h := forL_steps (t := tgN 3) (b := p_l_chain_1) (fun i => [some (.sh (.int (m : Nat))), some (.sh (.int x)), some (.sh (chL (fun i => x - (i : Int)) i).d), trO i]) m 0 fun i => by
    refine ⟨[some (.sh (.int (m : Nat))), some (.sh (.int x)), some (.sh (chL (fun i => x - (i : Int)) i).d), some (.sh (.int (i : Nat)))], rfl, ?_⟩
    simp only [chL, Tr.d, trO]
    generalize (chL (fun i => x - (i : Int)) i).d = T
    simp [p_l_chain_1]
  rw [Nat.zero_add] at h
  exact h
theorem E_l_chain (m : Nat) (x : Int) (k : Nat) (hm : m ≤ 1000000) : m_l_chain (k + 1) [.sh (.int (m : Nat)), .sh (.int x)] = ok (chL (fun i => x - (i : Int)) m).d := by
  rw [m_l_chain]
  refine run_rt 4 _ _ _ [some (.sh (.int (m : Nat))), some (.sh (.int x)), none, none] rfl ?_
  unfold b_l_chain
  refine (seq_nx (e := [some (.sh (.int (m : Nat))), some (.sh (.int x)), some (.sh (.tuple [])), none]) ?_).trans ?_
  · simp
  refine (seq_nx (sFor_r (f := vVar 0) (n := m) (by simp) hm (chain_loop m x))).trans ?_
  simp
theorem noForms_l1 (far : Int) (F z5 z6 : Option SV) : forL (tgN 4) p_l_no_forms_k19_1 (rngD ((0 : Nat) : Int) 1 41) [some (.sh (.int far)), F, some (.sh (.tuple [])), some (.sh (.tuple [])), none, z5, z6] = .nx [some (.sh (.int far)), F, some (.sh (chL ngF 41).d), some (.sh (chR (-far) 41).d), trO 41, z5, z6] := by
  have h := forL_steps (t := tgN 4) (b := p_l_no_forms_k19_1) (fun i => [some (.sh (.int far)), F, some (.sh (chL ngF i).d), some (.sh (chR (-far) i).d), trO i, z5, z6]) 41 0 fun i => by
    refine ⟨[some (.sh (.int far)), F, some (.sh (chL ngF i).d), some (.sh (chR (-far) i).d), some (.sh (.int (i : Nat))), z5, z6], rfl, ?_⟩
    simp only [chL, chR, Tr.d, trO, ngF]
    generalize (chL ngF i).d = T
    generalize (chR (-far) i).d = U
    simp [p_l_no_forms_k19_1]
  rw [Nat.zero_add] at h
  exact h
theorem noForms_l2 (far : Int) (F a b z4 z6 : Option SV) (n : Nat) : forL (tgN 4) p_l_no_forms_k19_2 (rngD ((0 : Nat) : Int) 1 n) [some (.sh (.int far)), F, a, b, z4, some (.sh (.tuple [])), z6] = .nx [some (.sh (.int far)), F, a, b, trZ z4 n, some (.sh (chL ngF n).d), z6] := by
  have h := forL_steps (t := tgN 4) (b := p_l_no_forms_k19_2) (fun i => [some (.sh (.int far)), F, a, b, trZ z4 i, some (.sh (chL ngF i).d), z6]) n 0 fun i => by
    refine ⟨[some (.sh (.int far)), F, a, b, some (.sh (.int (i : Nat))), some (.sh (chL ngF i).d), z6], rfl, ?_⟩
    simp only [chL, Tr.d, trZ, ngF]
    generalize (chL ngF i).d = T
    simp [p_l_no_forms_k19_2]
  rw [Nat.zero_add] at h
  exact h
theorem noForms_l3 (far : Int) (F a b c z4 : Option SV) (n : Nat) : forL (tgN 4) p_l_no_forms_k19_3 (rngD ((0 : Nat) : Int) 1 n) [some (.sh (.int far)), F, a, b, z4, c, some (.sh (.tuple []))] = .nx [some (.sh (.int far)), F, a, b, trZ z4 n, c, some (.sh (wdT n).d)] := by
  have h := forL_steps (t := tgN 4) (b := p_l_no_forms_k19_3) (fun i => [some (.sh (.int far)), F, a, b, trZ z4 i, c, some (.sh (wdT i).d)]) n 0 fun i => by
    refine ⟨[some (.sh (.int far)), F, a, b, some (.sh (.int (i : Nat))), c, some (.sh (wdT i).d)], rfl, ?_⟩
    simp only [wdT, Tr.d, trZ]
    generalize (wdT i).d = T
    simp [p_l_no_forms_k19_3]
  rw [Nat.zero_add] at h
  exact h
theorem E_l_no_forms (far : Int) (k : Nat) (hk : 1 ≤ k) : m_l_no_forms_k19 k [.sh (.int far)] = .val (.ob 107 (NF far)) := by
  obtain ⟨k, rfl⟩ : ∃ j, k = j + 1 := ⟨k - 1, by omega⟩
  rw [m_l_no_forms_k19]
  refine run_rt 7 _ _ _ [some (.sh (.int far)), none, none, none, none, none, none] rfl ?_
  unfold b_l_no_forms_k19
  refine (seq_nx (e := [some (.sh (.int far)), some (.ob 107 NF1), none, none, none, none, none]) ?_).trans ?_
  · simp [vLstT, vD0, thsOf, thOf, gl, NF1]
  refine (seq_nx (e := [some (.sh (.int far)), some (.ob 107 (NF1 ++ NF2 far)), none, none, none, none, none]) ?_).trans ?_
  · have l1 : NF1.length = 11 := rfl
    generalize NF1 = N1 at *
    simp [vAddT, itT, gl, NF2, l1]
  generalize hN : NF1 ++ NF2 far = N2
  have l2 : N2.length = 17 := by rw [← hN]; rfl
  refine (seq_nx (e := [some (.sh (.int far)), some (.ob 107 N2), some (.sh (.tuple [])), some (.sh (.tuple [])), none, none, none]) ?_).trans ?_
  · simp
  refine (seq_nx (sFor_r (f := vC (.int 41)) (n := 41) rfl (by omega) (noForms_l1 far _ none none))).trans ?_
  generalize trO 41 = t4
  have r1 : (Tr.nd (chL ngF 41) (-99) .lf).d = .tuple [(chL ngF 41).d, .int (-99), .tuple []] := rfl
  have eN : NF far = N2 ++ NF3 far := by unfold NF; rw [hN]
  rw [eN]
  unfold NF3
  rw [r1]
  generalize (chL ngF 41).d = A
  generalize (chR (-far) 41).d = B
  refine (seq_nx (e := [some (.sh (.int far)), some (.ob 107 N2), some (.sh A), some (.sh B), t4, some (.sh (.tuple [])), some (.sh (.tuple []))]) ?_).trans ?_
  · simp
  refine (seq_nx (sFor_r (n := frN far) ?_ (by unfold frN; split <;> omega) (noForms_l2 far _ _ _ _ _ (frN far)))).trans ?_
  · unfold frN
    by_cases c : far = 0 <;> simp [c]
  generalize trZ t4 (frN far) = t4
  generalize (chL ngF (frN far)).d = C
  refine (seq_nx (sFor_r (f := vC (.int 60)) (n := 60) rfl (by omega) (noForms_l3 far _ _ _ _ _ 60))).trans ?_
  generalize trZ t4 60 = t4
  generalize (wdT 60).d = W
  simp [vAddT, itT, gl, l2]
theorem NF_length (far : Int) : (NF far).length = 23 := rfl
theorem E_l_no_heaps (far : Int) (k : Nat) (hk : 2 ≤ k) : m_l_no_heaps k [.sh (.int far)] = .val (.ob 107 (NH far)) := by
  obtain ⟨k, rfl⟩ : ∃ j, k = j + 1 := ⟨k - 1, by omega⟩
  have e1 := E_l_no_forms far k (by omega)
  have l1 := NF_length far
  rw [m_l_no_heaps]
  refine run_rt 3 _ _ _ [some (.sh (.int far)), none, none] rfl ?_
  unfold b_l_no_heaps NH
  generalize NF far = N at *
  simp [vAddT, itT, gl, l1, e1, NH1, NH2, Tr.d, gdT]
theorem E_l_no_rows (far : Int) (k : Nat) (hk : 1 ≤ k) (h0 : 0 ≤ far) : m_l_no_rows k [.sh (.int far)] = .val (.ob 107 (NR far)) := by
  obtain ⟨k, rfl⟩ : ∃ j, k = j + 1 := ⟨k - 1, by omega⟩
  rw [m_l_no_rows]
  refine run_rt 2 _ _ _ [some (.sh (.int far)), none] rfl ?_
  unfold b_l_no_rows NR
  have m9 : 0 ≤ far % 9 ∧ far % 9 < 9 := by omega
  have t9 : (41 + far % 9).toNat = 41 + (far % 9).toNat := by omega
  have c9 : 41 + far % 9 ≤ 1000000 ∧ 41 + (far % 9).toNat ≤ 1000000 ∧ -1000 ≤ 41 + far % 9 := by omega
  simp [vLstT, vD0, thsOf, thOf, vAddT, itT, gl, t9, c9]
theorem noForm_NF (far : Int) : ∀ d ∈ NF far, NoForm d := by
  intro d h
  unfold NF at h
  rcases List.mem_append.mp h with h | h
  · rcases List.mem_append.mp h with h | h
    · unfold NF1 at h
      simp only [List.mem_cons, List.not_mem_nil, or_false] at h
      rcases h with rfl | rfl | rfl | rfl | rfl | rfl | rfl | rfl | rfl | rfl | rfl
      all_goals first
        | exact noForm_d0
        | exact noForm_by _ rfl (by decide +kernel)
    · unfold NF2 at h
      simp only [List.mem_cons, List.not_mem_nil, or_false] at h
      rcases h with rfl | rfl | rfl | rfl | rfl | rfl
      all_goals first
        | exact noForm_by _ rfl (by decide +kernel)
        | exact noForm_by _ rfl rfl
  · unfold NF3 at h
    simp only [List.mem_cons, List.not_mem_nil, or_false] at h
    rcases h with rfl | rfl | rfl | rfl | rfl | rfl
    · exact noForm_tr _ (by rw [chL_size]; omega)
    · exact noForm_tr _ (by rw [chR_size]; omega)
    · exact noForm_tr _ (by rw [chL_size]; unfold frN; split <;> omega)
    · exact noForm_tr _ (by have := wdT_size 60; omega)
    · exact noForm_by _ rfl (by decide +kernel)
    · exact noForm_tr _ (by simp only [Tr.size, chL_size]; omega)
theorem noHeap_NH (far : Int) (h0 : 0 ≤ far) : ∀ d ∈ NH far, NoHeap d := by
  intro d h
  unfold NH at h
  rcases List.mem_append.mp h with h | h
  · rcases List.mem_append.mp h with h | h
    · exact noHeap_form (noForm_NF far d h)
    · unfold NH1 at h
      simp only [List.mem_cons, List.not_mem_nil, or_false] at h
      rcases h with rfl | rfl | rfl | rfl
      · exact noHeap_tr _ (by decide) (by decide)
      · refine noHeap_tr _ (by simp [Tr.size]) ?_
        simp [Tr.heap, geTop]; omega
      · refine noHeap_tr _ (by simp [Tr.size, gdT]) ?_
        simp [Tr.heap, geTop, gdT]
      · refine noHeap_tr _ (by simp [Tr.size, gdT]) ?_
        simp [Tr.heap, geTop, gdT]; omega
  · unfold NH2 at h
    simp only [List.mem_cons, List.not_mem_nil, or_false] at h
    rcases h with rfl | rfl
    · refine noHeap_tr _ (by simp [Tr.size, gdT]) ?_
      simp [Tr.heap, geTop, gdT]
    · exact noHeap_tr _ (by decide) (by decide)
theorem exp_err {g : List SV → R} {T : SV} {c : Str} (t1 : T.fz = T) (t3 : ∀ i (env : VEnv), env[i]? = some (some T) → vVar i env = .val T) (h : g [T] = .err c) {env : VEnv} (e0 : env[0]? = some (some T)) (rest : FS) : sSeq (sExpr (calF 1 g [vVar 0])) rest env = .err c := by
  have v := t3 0 env e0
  have ev : calF 1 g [vVar 0] env = .err c := by
    simp only [calF, evA, v, RL.cons, t1]
    simp [h]
  generalize calF 1 g [vVar 0] = CF at *
  simp [ev]
theorem run_err (n : Nat) (B : FS) (as : List SV) (c : Str) (env : VEnv) (h : as.map some ++ List.replicate (n - as.length) none = env) (q : B env = .err c) : runB n B as = .err c := by
  subst h
  unfold runB
  rw [q]
section
variable {d : D} {k : Nat}
theorem NoHeap.keys_of (h : NoHeap d) (hk : 60 ≤ k) : m_keys_of k [thSV d] = .err "BadHeap" := by
  obtain ⟨t1, _, t3⟩ := thSV_ok d
  obtain ⟨k, rfl⟩ : ∃ j, k = j + 1 := ⟨k - 1, by omega⟩
  exact run_err 1 _ _ _ _ rfl (exp_err t1 t3 (h k (by omega)) rfl _)
theorem NoHeap.row_of (h : NoHeap d) (hk : 60 ≤ k) : m_row_of k [thSV d] = .err "BadHeap" := by
  obtain ⟨t1, _, t3⟩ := thSV_ok d
  obtain ⟨k, rfl⟩ : ∃ j, k = j + 1 := ⟨k - 1, by omega⟩
  exact run_err 1 _ _ _ _ rfl (exp_err t1 t3 (h k (by omega)) rfl _)
theorem NoHeap.rank (h : NoHeap d) (hk : 60 ≤ k) : m_rank k [thSV d] = .err "BadHeap" := by
  obtain ⟨t1, _, t3⟩ := thSV_ok d
  obtain ⟨k, rfl⟩ : ∃ j, k = j + 1 := ⟨k - 1, by omega⟩
  exact run_err 1 _ _ _ _ rfl (exp_err t1 t3 (h k (by omega)) rfl _)
theorem NoHeap.judged (h : NoHeap d) (hk : 60 ≤ k) : m_judged k [thSV d] = .err "BadHeap" := by
  obtain ⟨t1, _, t3⟩ := thSV_ok d
  obtain ⟨k, rfl⟩ : ∃ j, k = j + 1 := ⟨k - 1, by omega⟩
  exact run_err 2 _ _ _ _ rfl (exp_err t1 t3 (h k (by omega)) rfl _)
theorem NoHeap.leaned (h : NoHeap d) (hk : 60 ≤ k) : m_leaned k [thSV d] = .err "BadHeap" := by
  obtain ⟨t1, _, t3⟩ := thSV_ok d
  obtain ⟨k, rfl⟩ : ∃ j, k = j + 1 := ⟨k - 1, by omega⟩
  exact run_err 2 _ _ _ _ rfl (exp_err t1 t3 (h k (by omega)) rfl _)
theorem NoHeap.lean_take (h : NoHeap d) (hk : 60 ≤ k) : m_lean_take k [thSV d] = .err "BadHeap" := by
  obtain ⟨t1, _, t3⟩ := thSV_ok d
  obtain ⟨k, rfl⟩ : ∃ j, k = j + 1 := ⟨k - 1, by omega⟩
  exact run_err 1 _ _ _ _ rfl (exp_err t1 t3 (h k (by omega)) rfl _)
theorem NoHeap.turn_take (h : NoHeap d) (hk : 60 ≤ k) : m_turn_take k [thSV d] = .err "BadHeap" := by
  obtain ⟨t1, _, t3⟩ := thSV_ok d
  obtain ⟨k, rfl⟩ : ∃ j, k = j + 1 := ⟨k - 1, by omega⟩
  exact run_err 3 _ _ _ _ rfl (exp_err t1 t3 (h k (by omega)) rfl _)
theorem NoHeap.purse (h : NoHeap d) (hk : 60 ≤ k) : m_purse k [thSV d] = .err "BadHeap" := by
  obtain ⟨t1, _, t3⟩ := thSV_ok d
  obtain ⟨k, rfl⟩ : ∃ j, k = j + 1 := ⟨k - 1, by omega⟩
  exact run_err 1 _ _ _ _ rfl (exp_err t1 t3 (h k (by omega)) rfl _)
theorem NoHeap.both1 (h : NoHeap d) (z : SV) (hk : 60 ≤ k) : m_check_both k [thSV d, z] = .err "BadHeap" := by
  obtain ⟨t1, _, t3⟩ := thSV_ok d
  obtain ⟨k, rfl⟩ : ∃ j, k = j + 1 := ⟨k - 1, by omega⟩
  exact run_err 2 _ _ _ _ rfl (exp_err t1 t3 (h k (by omega)) rfl _)
theorem NoHeap.both2 (h : NoHeap d) (t : Tr) (hs : t.size ≤ 40) (hh : t.heap = true) (hk : 60 ≤ k) : m_check_both k [.sh t.d, thSV d] = .err "BadHeap" := by
  obtain ⟨t1, _, t3⟩ := thSV_ok d
  obtain ⟨k, rfl⟩ : ∃ j, k = j + 1 := ⟨k - 1, by omega⟩
  have e1 := E_check_heap t k hs (by omega)
  rw [if_pos hh] at e1
  have e2 := h k (by omega)
  have v := t3 1 [some (.sh t.d), some (thSV d)] rfl
  rw [m_check_both]
  refine run_err 2 _ _ _ [some (.sh t.d), some (thSV d)] rfl ?_
  unfold b_check_both
  refine (seq_nx (e := [some (.sh t.d), some (thSV d)]) ?_).trans ?_
  · generalize t.d = A at *
    generalize thSV d = T at *
    simp [e1]
  have ev : calF 1 (m_check_heap k) [vVar 1] [some (.sh t.d), some (thSV d)] = .err "BadHeap" := by
    generalize t.d = A at *
    generalize thSV d = T at *
    simp only [calF, evA, v, RL.cons, t1]
    simp [e2]
  generalize calF 1 (m_check_heap k) [vVar 1] = CF at *
  simp [ev]
theorem two_err {g : List SV → R} {T U : SV} {c : Str} (t1 : T.fz = T) (t3 : ∀ i (env : VEnv), env[i]? = some (some T) → vVar i env = .val T) (u1 : U.fz = U) (u3 : ∀ i (env : VEnv), env[i]? = some (some U) → vVar i env = .val U) (h : g [T, U] = .err c) (rest : FS) : sSeq (sExpr (calF 2 g [vVar 0, vVar 1])) rest [some T, some U] = .err c := by
  have v := t3 0 [some T, some U] rfl
  have v2 := u3 1 [some T, some U] rfl
  have ev : calF 2 g [vVar 0, vVar 1] [some T, some U] = .err c := by
    simp only [calF, evA, v, v2, RL.cons, t1, u1]
    simp [h]
  generalize calF 2 g [vVar 0, vVar 1] = CF at *
  simp [ev]
theorem sh_ok (d : D) : (SV.sh d).fz = .sh d ∧ ∀ i (env : VEnv), env[i]? = some (some (.sh d)) → vVar i env = .val (.sh d) := ⟨rfl, fun i env e => by simp [e]⟩
theorem NoHeap.lean1 (h : NoHeap d) (z : D) (hk : 62 ≤ k) : m_lean_join k [thSV d, .sh z] = .err "BadHeap" := by
  obtain ⟨t1, _, t3⟩ := thSV_ok d
  obtain ⟨u1, u3⟩ := sh_ok z
  obtain ⟨k, rfl⟩ : ∃ j, k = j + 1 := ⟨k - 1, by omega⟩
  exact run_err 2 _ _ _ _ rfl (two_err t1 t3 u1 u3 (h.both1 (.sh z) (by omega)) _)
theorem NoHeap.turn1 (h : NoHeap d) (z : D) (hk : 62 ≤ k) : m_turn_join k [thSV d, .sh z] = .err "BadHeap" := by
  obtain ⟨t1, _, t3⟩ := thSV_ok d
  obtain ⟨u1, u3⟩ := sh_ok z
  obtain ⟨k, rfl⟩ : ∃ j, k = j + 1 := ⟨k - 1, by omega⟩
  exact run_err 2 _ _ _ _ rfl (two_err t1 t3 u1 u3 (h.both1 (.sh z) (by omega)) _)
theorem NoHeap.lean2 (h : NoHeap d) (t : Tr) (hs : t.size ≤ 40) (hh : t.heap = true) (hk : 62 ≤ k) : m_lean_join k [.sh t.d, thSV d] = .err "BadHeap" := by
  obtain ⟨t1, _, t3⟩ := thSV_ok d
  obtain ⟨u1, u3⟩ := sh_ok t.d
  obtain ⟨k, rfl⟩ : ∃ j, k = j + 1 := ⟨k - 1, by omega⟩
  exact run_err 2 _ _ _ _ rfl (two_err u1 u3 t1 t3 (h.both2 t hs hh (by omega)) _)
theorem NoHeap.turn2 (h : NoHeap d) (t : Tr) (hs : t.size ≤ 40) (hh : t.heap = true) (hk : 62 ≤ k) : m_turn_join k [.sh t.d, thSV d] = .err "BadHeap" := by
  obtain ⟨t1, _, t3⟩ := thSV_ok d
  obtain ⟨u1, u3⟩ := sh_ok t.d
  obtain ⟨k, rfl⟩ : ∃ j, k = j + 1 := ⟨k - 1, by omega⟩
  exact run_err 2 _ _ _ _ rfl (two_err u1 u3 t1 t3 (h.both2 t hs hh (by omega)) _)
def NoRow (d : D) : Prop := ∀ k, m_check_keys (k + 2) [thSV d] = .err "BadKey"
theorem NoRow.heap_of (h : NoRow d) (hk : 60 ≤ k) : m_heap_of k [thSV d] = .err "BadKey" := by
  obtain ⟨t1, _, t3⟩ := thSV_ok d
  obtain ⟨k, rfl⟩ : ∃ j, k = j + 3 := ⟨k - 3, by omega⟩
  exact run_err 1 _ _ _ _ rfl (exp_err t1 t3 (h k) rfl _)
theorem NoRow.lean_of (h : NoRow d) (hk : 60 ≤ k) : m_lean_of k [thSV d] = .err "BadKey" := by
  obtain ⟨t1, _, t3⟩ := thSV_ok d
  obtain ⟨k, rfl⟩ : ∃ j, k = j + 3 := ⟨k - 3, by omega⟩
  exact run_err 3 _ _ _ _ rfl (exp_err t1 t3 (h k) rfl _)
theorem NoForm.how_many_rows (h : NoForm d) (hk : 60 ≤ k) : m_how_many_rows k [thSV d] = .err "BadShape" := by
  obtain ⟨t1, _, t3⟩ := thSV_ok d
  obtain ⟨k, rfl⟩ : ∃ j, k = j + 3 := ⟨k - 3, by omega⟩
  have e := h k
  rw [m_how_many_rows]
  refine run_err 5 _ _ _ [some (thSV d), none, none, none, none] rfl ?_
  have v := t3 0 [some (thSV d), none, none, none, none] rfl
  unfold b_how_many_rows
  have ev : calF 1 (m_is_form (k + 2)) [vVar 0] [some (thSV d), none, none, none, none] = rb false := by
    generalize thSV d = T at *
    simp only [calF, evA, v, RL.cons, t1]
    simp [e]
  generalize calF 1 (m_is_form (k + 2)) [vVar 0] = CF at *
  simp [ev]
end
theorem noRow_big (n : Nat) (x : Int) (h : 40 < n) : NoRow (.list (List.replicate n (.int x))) := fun k => by
  have l : (List.replicate n (PyData.int x)).length = n := List.length_replicate
  have n4 : (40 : Int) < (n : Int) := by omega
  show m_check_keys (k + 2) [.sh (.list (List.replicate n (.int x)))] = _
  generalize List.replicate n (PyData.int x) = L at *
  simp [m_check_keys, b_check_keys, l, n4]
theorem noRow_NR (far : Int) : ∀ d ∈ NR far, NoRow d := by
  intro d h
  unfold NR at h
  rcases List.mem_append.mp h with h | h
  · simp only [List.mem_cons, List.not_mem_nil, or_false] at h
    rcases h with rfl | rfl | rfl | rfl | rfl | rfl | rfl | rfl | rfl | rfl | rfl | rfl
    case inr.inr.inr.inr.inr.inr.inr.inr.inr.inr.inr => exact noRow_big 41 1 (by omega)
    all_goals exact fun k => by simp [thSV, m_check_keys, b_check_keys, key_b, keyB, lcGo, blsOf]
  · simp only [List.mem_cons, List.not_mem_nil, or_false] at h
    subst h
    exact noRow_big _ _ (by omega)
def NR2 (far : Int) : List D := [.list [.int 1, .int 1], .list [.int far, .int 2, .int far], .list [.int 0, .int 0, .none]]
theorem heap_of_like (r : List Int) (k : Nat) (h : r.length ≤ 40) (hn : metN r ≠ r.length) (hk : 50 ≤ k) : m_heap_of k [.sh (.list (r.map .int))] = .err "BadKey" := by
  obtain ⟨k, rfl⟩ : ∃ j, k = j + 1 := ⟨k - 1, by omega⟩
  have a1 := E_check_keys r k h (by omega)
  have io := intsOf_map r
  have ll : (r.map PyData.int).length = r.length := List.length_map ..
  rw [m_heap_of]
  generalize r.map PyData.int = RD' at *
  have f1 : fLenSetD (.list RD') = ri (metN r : Nat) := by
    simp only [fLenSetD, io]
    rw [if_pos (by omega)]
  have n1 : ¬ ((metN r : Nat) : Int) = ((r.length : Nat) : Int) := by omega
  have n2 : (((metN r : Nat) : Int) == ((r.length : Nat) : Int)) = false := beq_false_of_ne n1
  simp [b_heap_of, a1, f1, ll, fNe, PyData.depth, PyData.eqv, -fLenSetD, n2]
theorem runs_rt (n : Nat) (B : FS) (as : List SV) (d : D) (env : VEnv) (h : as.map some ++ List.replicate (n - as.length) none = env) (ha : allSh as = true) (q : B env = .rt (.sh d)) : runBS n B as = .val (.sh d) := by
  unfold runBS
  rw [if_pos ha, run_rt n B as _ env h q]
  rfl
theorem E_calA (k w : Nat) (ns : List Nat) (ds : List D) (TS : SV) (hT : TS = .ob 107 ds ∨ TS = .sh (.list ds)) (hk : 3 ≤ k) (hw : w < 9) (ld : ds.length ≤ 1000) (cn : Str) (hc : clsL[w]? = some cn) (ms : List (VEnv → List SV → R)) (fs : List FE) (env : VEnv)
    (hev : evA fs env = .val [.ob 105 (ns.map fun (n : Nat) => .int (n : Nat)), TS, .sh (.int (w : Nat))]) (h : ∀ n ∈ ns, ∀ d ∈ ds, askM ms env n [thSV d] = .err cn) : calA 3 (fun m1 => m_l_all m1 k) ms fs env = rb true := by
  have e := E_l_all (askM ms env) k w ns ds TS hT hk hw ld cn hc h
  have al : allC [.ob 105 (ns.map fun (n : Nat) => PyData.int (n : Nat)), TS, .sh (.int (w : Nat))] = true := by
    rcases hT with rfl | rfl <;> simp [allC]
  unfold calA
  rw [hev]
  show (if _ ∧ _ then keepR (m_l_all (askM ms env) k [.ob 105 (ns.map fun (n : Nat) => PyData.int (n : Nat)), TS, .sh (.int (w : Nat))]) else _) = _
  rw [if_pos ⟨rfl, al⟩, e]; rfl
theorem lam_01 {g : List SV → R} {T : SV} {u : D} {c : Str} (t1 : T.fz = T) (t3 : ∀ i (env : VEnv), env[i]? = some (some T) → vVar i env = .val T) (h : g [T, .sh u] = .err c) (js : List Nat) (env : VEnv) (hs : capS env js = some [.sh u]) : lamM js (calF 2 g [vVar 0, vVar 1]) env [T] = .err c := by
  have v := t3 0 [some T, some (.sh u)] rfl
  unfold lamM
  rw [hs]
  show errOf (calF 2 g [vVar 0, vVar 1] [some T, some (.sh u)]) = _
  have ev : calF 2 g [vVar 0, vVar 1] [some T, some (.sh u)] = .err c := by
    simp only [calF, evA, v, RL.cons, t1]
    simp [h]
  rw [ev]; rfl
theorem lam_10 {g : List SV → R} {T : SV} {u : D} {c : Str} (t1 : T.fz = T) (t3 : ∀ i (env : VEnv), env[i]? = some (some T) → vVar i env = .val T) (h : g [.sh u, T] = .err c) (js : List Nat) (env : VEnv) (hs : capS env js = some [.sh u]) : lamM js (calF 2 g [vVar 1, vVar 0]) env [T] = .err c := by
  have v := t3 0 [some T, some (.sh u)] rfl
  unfold lamM
  rw [hs]
  show errOf (calF 2 g [vVar 1, vVar 0] [some T, some (.sh u)]) = _
  have ev : calF 2 g [vVar 1, vVar 0] [some T, some (.sh u)] = .err c := by
    simp only [calF, evA, v, RL.cons, t1]
    simp [h]
  rw [ev]; rfl
theorem lam_0x {g : List SV → R} {T : SV} {u : D} {f : FE} {c : Str} (t1 : T.fz = T) (t3 : ∀ i (env : VEnv), env[i]? = some (some T) → vVar i env = .val T) (hf : f [some T] = .val (.sh u)) (h : g [T, .sh u] = .err c) (env : VEnv) : lamM [] (calF 2 g [vVar 0, f]) env [T] = .err c := by
  have v := t3 0 [some T] rfl
  unfold lamM
  show errOf (calF 2 g [vVar 0, f] [some T]) = _
  have ev : calF 2 g [vVar 0, f] [some T] = .err c := by
    simp only [calF, evA, v, hf, RL.cons, t1]
    simp [h]
  rw [ev]; rfl
theorem lam_x0 {g : List SV → R} {T : SV} {u : D} {f : FE} {c : Str} (t1 : T.fz = T) (t3 : ∀ i (env : VEnv), env[i]? = some (some T) → vVar i env = .val T) (hf : f [some T] = .val (.sh u)) (h : g [.sh u, T] = .err c) (env : VEnv) : lamM [] (calF 2 g [f, vVar 0]) env [T] = .err c := by
  have v := t3 0 [some T] rfl
  unfold lamM
  show errOf (calF 2 g [f, vVar 0] [some T]) = _
  have ev : calF 2 g [f, vVar 0] [some T] = .err c := by
    simp only [calF, evA, v, hf, RL.cons, t1]
    simp [h]
  rw [ev]; rfl
theorem askM_at {ms : List (VEnv → List SV → R)} {n : Nat} {m : VEnv → List SV → R} (env : VEnv) (h : ms[n]? = some m) : askM ms env n = m env := by unfold askM; rw [h]
def slT0 : Tr := .nd .lf 1 (.nd .lf 2 .lf)
theorem mem_rng {n m : Nat} (h : n ∈ List.range m) : n < m := List.mem_range.mp h
theorem E_l_heaps_right (far : Int) (h0 : 0 ≤ far) (k : Nat) (hk : 70 ≤ k) : m_l_heaps_right_k19 k [.sh (.int far)] = rb true := by
  obtain ⟨k, rfl⟩ : ∃ j, k = j + 4 := ⟨k - 4, by omega⟩
  have e1 := E_l_no_heaps far (k + 3) (by omega)
  have nl : (NH far).length ≤ 1000 := by
    have : (NH far).length = 29 := rfl
    omega
  have nh := noHeap_NH far h0
  rw [m_l_heaps_right_k19]
  refine runs_rt 3 _ _ _ [some (.sh (.int far)), none, none] rfl rfl ?_
  unfold b_l_heaps_right_k19
  refine (seq_nx (e := [some (.sh (.int far)), some (.sh slT0.d), none]) ?_).trans ?_
  · simp [slT0, Tr.d]
  generalize hs : slT0.d = S
  refine (seq_nx (e := [some (.sh (.int far)), some (.sh S), some (.ob 105 [.int (0 : Nat), .int (1 : Nat), .int (2 : Nat), .int (3 : Nat), .int (4 : Nat), .int (5 : Nat), .int (6 : Nat), .int (7 : Nat), .int (8 : Nat)])]) ?_).trans ?_
  · simp [vLstC, vFn, cals, gl]
  refine (seq_nx (e := [some (.sh (.int far)), some (.sh S), some (.ob 105 [.int (0 : Nat), .int (1 : Nat), .int (2 : Nat), .int (3 : Nat), .int (4 : Nat), .int (5 : Nat), .int (6 : Nat), .int (7 : Nat), .int (8 : Nat), .int (9 : Nat), .int (10 : Nat)])]) ?_).trans ?_
  · simp [vAddC, vLstC, vFn, cals, gl]
  refine (seq_nx (e := [some (.sh (.int far)), some (.sh S), some (.ob 105 ((List.range 14).map fun (n : Nat) => .int (n : Nat)))]) ?_).trans ?_
  · simp [sSetAppC, vLstC, vFn, cals, gl, List.range_succ]
  have hev : evA [vVar 2, calF 1 (m_l_no_heaps (k + 3)) [vVar 0], vC (.int 0)] [some (.sh (.int far)), some (.sh S), some (.ob 105 ((List.range 14).map fun (n : Nat) => .int (n : Nat)))] = .val [.ob 105 ((List.range 14).map fun (n : Nat) => .int (n : Nat)), .ob 107 (NH far), .sh (.int (0 : Nat))] := by
    generalize NH far = N at *
    generalize ((List.range 14).map fun (n : Nat) => PyData.int (n : Nat)) = RG
    simp [e1]
  have ca := E_calA (k + 3) 0 (List.range 14) (NH far) (.ob 107 (NH far)) (.inl rfl) (by omega) (by omega) nl "BadHeap" rfl [(fun _ => m_keys_of (k + 1)), (fun _ => m_row_of (k + 1)), (fun _ => m_rank (k + 1)), (fun _ => m_judged (k + 1)), (fun _ => m_leaned (k + 1)), (fun _ => m_lean_take (k + 1)), (fun _ => m_turn_take (k + 1)), (fun _ => m_purse (k + 1)), (lamM [1] (calF 2 (m_lean_join k) [vVar 0, vVar 1])), (lamM [1] (calF 2 (m_lean_join k) [vVar 1, vVar 0])), (lamM [] (calF 2 (m_lean_join k) [vVar 0, vC .none])), (lamM [] (calF 2 (m_turn_join k) [vVar 0, vC .none])), (lamM [] (calF 2 (m_turn_join k) [vTup [], vVar 0])), (lamM [] (calF 2 (m_turn_join k) [vVar 0, vTup []]))] _ _ hev fun n hn d hd => by
    have q := nh d hd
    have kk : 60 ≤ k + 1 := by omega
    have kj : 62 ≤ k := by omega
    obtain ⟨t1, _, t3⟩ := thSV_ok d
    have hn := mem_rng hn
    have c : n = 0 ∨ n = 1 ∨ n = 2 ∨ n = 3 ∨ n = 4 ∨ n = 5 ∨ n = 6 ∨ n = 7 ∨ n = 8 ∨ n = 9 ∨ n = 10 ∨ n = 11 ∨ n = 12 ∨ n = 13 := by omega
    rcases c with rfl | rfl | rfl | rfl | rfl | rfl | rfl | rfl | rfl | rfl | rfl | rfl | rfl | rfl
    · exact q.keys_of kk
    · exact q.row_of kk
    · exact q.rank kk
    · exact q.judged kk
    · exact q.leaned kk
    · exact q.lean_take kk
    · exact q.turn_take kk
    · exact q.purse kk
    · rw [askM_at (m := lamM [1] (calF 2 (m_lean_join k) [vVar 0, vVar 1])) _ rfl]
      exact lam_01 t1 t3 (q.lean1 S kj) [1] _ rfl
    · rw [askM_at (m := lamM [1] (calF 2 (m_lean_join k) [vVar 1, vVar 0])) _ rfl]
      exact lam_10 t1 t3 (hs ▸ q.lean2 slT0 (by decide) (by decide) kj) [1] _ rfl
    · rw [askM_at (m := lamM [] (calF 2 (m_lean_join k) [vVar 0, vC .none])) _ rfl]
      exact lam_0x t1 t3 rfl (q.lean1 .none kj) _
    · rw [askM_at (m := lamM [] (calF 2 (m_turn_join k) [vVar 0, vC .none])) _ rfl]
      exact lam_0x t1 t3 rfl (q.turn1 .none kj) _
    · rw [askM_at (m := lamM [] (calF 2 (m_turn_join k) [vTup [], vVar 0])) _ rfl]
      exact lam_x0 t1 t3 (u := .tuple []) (by simp) (q.turn2 .lf (by decide) (by decide) kj) _
    · rw [askM_at (m := lamM [] (calF 2 (m_turn_join k) [vVar 0, vTup []])) _ rfl]
      exact lam_0x t1 t3 (by simp) (q.turn1 (.tuple []) kj) _
  generalize calA 3 _ _ _ = CA at *
  simp [ca]
theorem metN_two (x : Int) : metN [x, x] = 1 := by
  unfold metN PyProof.Rows.firstMet
  simp [List.range_succ, PyProof.Rows.step_dedup]
theorem metN_mid (x y : Int) : metN [x, y, x] ≤ 2 := by
  unfold metN PyProof.Rows.firstMet
  by_cases c : x = y <;> simp [List.range_succ, PyProof.Rows.step_dedup, c]
theorem noRow_00N : NoRow (.list [.int 0, .int 0, .none]) := fun k => by simp [thSV, m_check_keys, b_check_keys, key_b, keyB, lcGo, blsOf]
theorem E_l_rows_right (far : Int) (h0 : 0 ≤ far) (k : Nat) (hk : 70 ≤ k) : m_l_rows_right_k19 k [.sh (.int far)] = rb true := by
  obtain ⟨k, rfl⟩ : ∃ j, k = j + 4 := ⟨k - 4, by omega⟩
  have e1 := E_l_no_rows far (k + 3) (by omega) h0
  have e2 := E_l_no_forms far (k + 3) (by omega)
  have n1 : (NR far).length ≤ 1000 := by
    have : (NR far).length = 13 := rfl
    omega
  have n2 : (NF far).length ≤ 1000 := by
    have := NF_length far
    omega
  rw [m_l_rows_right_k19]
  refine runs_rt 1 _ _ _ [some (.sh (.int far))] rfl rfl ?_
  unfold b_l_rows_right_k19
  have hev1 : evA [vLstC [vFn 0, vFn 1], calF 1 (m_l_no_rows (k + 3)) [vVar 0], vC (.int 1)] [some (.sh (.int far))] = .val [.ob 105 ((List.range 2).map fun (n : Nat) => .int (n : Nat)), .ob 107 (NR far), .sh (.int (1 : Nat))] := by
    generalize NR far = N at *
    simp [e1, vLstC, vFn, cals, gl, List.range_succ]
  have hev2 : evA [vLstC [vFn 0], vLst [vLst [vC (.int 1), vC (.int 1)], vLst [vVar 0, vC (.int 2), vVar 0], vLst [vC (.int 0), vC (.int 0), vC .none]], vC (.int 1)] [some (.sh (.int far))] = .val [.ob 105 ((List.range 1).map fun (n : Nat) => .int (n : Nat)), .sh (.list (NR2 far)), .sh (.int (1 : Nat))] := by
    simp [vLstC, vFn, cals, gl, List.range_succ, NR2]
  have hev3 : evA [vLstC [vFn 2], calF 1 (m_l_no_forms_k19 (k + 3)) [vVar 0], vC (.int 2)] [some (.sh (.int far))] = .val [.ob 105 ([2].map fun (n : Nat) => .int (n : Nat)), .ob 107 (NF far), .sh (.int (2 : Nat))] := by
    generalize NF far = N at *
    simp [e2, vLstC, vFn, cals, gl]
  have ca1 := E_calA (k + 3) 1 (List.range 2) (NR far) (.ob 107 (NR far)) (.inl rfl) (by omega) (by omega) n1 "BadKey" rfl [(fun _ => m_heap_of (k + 1)), (fun _ => m_lean_of (k + 1)), (fun _ => m_how_many_rows (k + 1))] _ _ hev1 fun n hn d hd => by
    have q := noRow_NR far d hd
    have kk : 60 ≤ k + 1 := by omega
    have hn := mem_rng hn
    have c : n = 0 ∨ n = 1 := by omega
    rcases c with rfl | rfl
    · exact q.heap_of kk
    · exact q.lean_of kk
  have ca2 := E_calA (k + 3) 1 (List.range 1) (NR2 far) (.sh (.list (NR2 far))) (.inr rfl) (by omega) (by omega) (by unfold NR2; simp) "BadKey" rfl [(fun _ => m_heap_of (k + 1)), (fun _ => m_lean_of (k + 1)), (fun _ => m_how_many_rows (k + 1))] _ _ hev2 fun n hn d hd => by
    have hn := mem_rng hn
    have c : n = 0 := by omega
    subst c
    have kk : 60 ≤ k + 1 := by omega
    have k5 : 50 ≤ k + 1 := by omega
    unfold NR2 at hd
    simp only [List.mem_cons, List.not_mem_nil, or_false] at hd
    rcases hd with rfl | rfl | rfl
    · exact heap_of_like [1, 1] _ (by simp) (by rw [metN_two]; decide) k5
    · exact heap_of_like [far, 2, far] _ (by simp) (by have := metN_mid far 2; simp only [List.length_cons, List.length_nil]; omega) k5
    · exact noRow_00N.heap_of kk
  have ca3 := E_calA (k + 3) 2 [2] (NF far) (.ob 107 (NF far)) (.inl rfl) (by omega) (by omega) n2 "BadShape" rfl [(fun _ => m_heap_of (k + 1)), (fun _ => m_lean_of (k + 1)), (fun _ => m_how_many_rows (k + 1))] _ _ hev3 fun n hn d hd => by
    have q := noForm_NF far d hd
    have c : n = 2 := by simpa using hn
    subst c
    have kk : 60 ≤ k + 1 := by omega
    exact q.how_many_rows kk
  generalize calA 3 _ _ [vLstC [vFn 0, vFn 1], _, _] = C1 at *
  generalize calA 3 _ _ [vLstC [vFn 0], _, _] = C2 at *
  generalize calA 3 _ _ [vLstC [vFn 2], _, _] = C3 at *
  simp [ca1, ca2, ca3]
theorem far_step (c : Int) (env : VEnv) (h : env[1]? = some (some (.sh (.int c)))) : ∃ far : Int, 0 ≤ far ∧ op2 fMod (cal1 fAbs (vVar 1)) (op2 fPow (vC (.int 10)) (vC (.int 20))) env = ri far := by
  refine ⟨(if c < 0 then -c else c) % 100000000000000000000, Int.emod_nonneg _ (by decide), ?_⟩
  simp [h]
theorem E_both_many (a b : Tr) (k : Nat) (h : 40 < a.size + b.size) (ha : a.size ≤ 40) (hb : b.size ≤ 40) (hk : 60 ≤ k) (h1 : a.heap = true) (h2 : b.heap = true) : m_check_both k [.sh a.d, .sh b.d] = .err "TooMany" := by
  obtain ⟨k, rfl⟩ : ∃ j, k = j + 1 := ⟨k - 1, by omega⟩
  have a1 := E_check_heap a k ha (by omega)
  have a2 := E_check_heap b k hb (by omega)
  rw [if_pos h1] at a1
  rw [if_pos h2] at a2
  have s1 := e_size_of a k (by omega)
  have s2 := e_size_of b k (by omega)
  have c : (40 : Int) < (a.size : Int) + (b.size : Int) := by omega
  rw [m_check_both]
  refine run_err 2 _ _ _ [some (.sh a.d), some (.sh b.d)] rfl ?_
  unfold b_check_both
  generalize a.d = A at *
  generalize b.d = B at *
  simp [a1, a2, s1, s2, c]
theorem many_lean (a b : Tr) (k : Nat) (h : 40 < a.size + b.size) (ha : a.size ≤ 40) (hb : b.size ≤ 40) (hk : 62 ≤ k) (h1 : a.heap = true) (h2 : b.heap = true) : m_lean_join k [.sh a.d, .sh b.d] = .err "TooMany" := by
  obtain ⟨k, rfl⟩ : ∃ j, k = j + 1 := ⟨k - 1, by omega⟩
  obtain ⟨t1, t3⟩ := sh_ok a.d
  obtain ⟨u1, u3⟩ := sh_ok b.d
  exact run_err 2 _ _ _ _ rfl (two_err t1 t3 u1 u3 (E_both_many a b k h ha hb (by omega) h1 h2) _)
theorem many_turn (a b : Tr) (k : Nat) (h : 40 < a.size + b.size) (ha : a.size ≤ 40) (hb : b.size ≤ 40) (hk : 62 ≤ k) (h1 : a.heap = true) (h2 : b.heap = true) : m_turn_join k [.sh a.d, .sh b.d] = .err "TooMany" := by
  obtain ⟨k, rfl⟩ : ∃ j, k = j + 1 := ⟨k - 1, by omega⟩
  obtain ⟨t1, t3⟩ := sh_ok a.d
  obtain ⟨u1, u3⟩ := sh_ok b.d
  exact run_err 2 _ _ _ _ rfl (two_err t1 t3 u1 u3 (E_both_many a b k h ha hb (by omega) h1 h2) _)
theorem chL_heap (x : Int) : ∀ n, (chL (fun i => x - (i : Int)) n).heap = true
  | 0 => rfl
  | 1 => rfl
  | n + 2 => by
    have ih := chL_heap x (n + 1)
    show (geTop (x - ((n + 1 : Nat) : Int)) (chL (fun i => x - (i : Int)) (n + 1)) && geTop (x - ((n + 1 : Nat) : Int)) .lf && (chL (fun i => x - (i : Int)) (n + 1)).heap && Tr.lf.heap) = true
    rw [ih]
    simp [chL, geTop, Tr.heap]
    omega
theorem chL_rank (x : Int) : ∀ n, (chL (fun i => x - (i : Int)) (n + 1)).rank = 1
  | 0 => by simp [chL, Tr.rank]
  | n + 1 => by
    have ih := chL_rank x n
    show 1 + min (chL (fun i => x - (i : Int)) (n + 1)).rank Tr.lf.rank = 1
    rw [ih]; decide
theorem chL_leans (x : Int) : ∀ n, (chL (fun i => x - (i : Int)) n).leans = true
  | 0 => rfl
  | 1 => by simp [chL, Tr.leans, Tr.rank]
  | n + 2 => by
    have ih := chL_leans x (n + 1)
    have hr := chL_rank x n
    show (decide (Tr.lf.rank ≤ (chL (fun i => x - (i : Int)) (n + 1)).rank) && (chL (fun i => x - (i : Int)) (n + 1)).leans && Tr.lf.leans) = true
    rw [ih, hr]; decide
theorem lam_pair {g : List SV → R} {a b : D} {c : Str} (h : g [.sh a, .sh b] = .err c) (env : VEnv) : lamM [] (calF 2 g [op2 fIx (vVar 0) (vC (.int 0)), op2 fIx (vVar 0) (vC (.int 1))]) env [thSV (.tuple [a, b])] = .err c := by
  unfold lamM
  show errOf (calF 2 g [op2 fIx (vVar 0) (vC (.int 0)), op2 fIx (vVar 0) (vC (.int 1))] [some (.sh (.tuple [a, b]))]) = _
  have ev : calF 2 g [op2 fIx (vVar 0) (vC (.int 0)), op2 fIx (vVar 0) (vC (.int 1))] [some (.sh (.tuple [a, b]))] = .err c := by
    simp [h]
  rw [ev]; rfl
def lMs (k : Nat) : List (VEnv → List SV → R) := [(lamM [] (calF 2 (m_lean_join k) [op2 fIx (vVar 0) (vC (.int 0)), op2 fIx (vVar 0) (vC (.int 1))])), (lamM [] (calF 2 (m_turn_join k) [op2 fIx (vVar 0) (vC (.int 0)), op2 fIx (vVar 0) (vC (.int 1))])), (lamM [] (calF 2 (m_lean_join k) [vVar 0, vTup []])), (lamM [3] (calF 2 (m_lean_join k) [vVar 1, vVar 0])), (fun _ => m_lean_take (k + 1)), (fun _ => m_turn_take (k + 1))]
def farSl (far : Int) : Tr := if far < 2 then .nd .lf far slT0 else slT0
def T6 (far : Int) : List Tr := [slT0, farSl far, .nd slT0 0 (.nd .lf 5 .lf)]
theorem T6_ok (far : Int) : ∀ t ∈ T6 far, t.heap = true ∧ t.leans = false ∧ t.size ≤ 4 := by
  intro t h
  unfold T6 at h
  simp only [List.mem_cons, List.not_mem_nil, or_false] at h
  rcases h with rfl | rfl | rfl
  · decide
  · unfold farSl
    split
    · rename_i c
      have : ¬ (1 : Int) < far := by omega
      refine ⟨?_, ?_, ?_⟩
      · simp [Tr.heap, slT0, geTop, this]
      · simp [Tr.leans, slT0, Tr.rank]
      · simp [Tr.size, slT0]
    · decide
  · decide
theorem k19_in (k : Nat) (hk : 70 ≤ k) (hk2 : k ≤ 900) (S : SV) (c : Int) (z2 z3 z4 z5 z6 : Option SV) : ∃ y2 y3 y4 y5 y6, p_law_k19_1 (m_l_heaps_right_k19 (k + 3)) (m_l_rows_right_k19 (k + 3)) (m_l_chain (k + 3)) (m_lean_join k) (m_turn_join k) (fun m1 => m_l_all m1 (k + 3)) (m_lean_take (k + 1)) (m_turn_take (k + 1)) (m_rank (k + 3)) (m_how_many_rows (k + 3)) (m_lean_of (k + 3)) [some S, some (.sh (.int c)), z2, z3, z4, z5, z6] = .nx [some S, some (.sh (.int c)), y2, y3, y4, y5, y6] := by
  obtain ⟨far, h0, hf⟩ := far_step c [some S, some (.sh (.int c)), z2, z3, z4, z5, z6] rfl
  have e1 := E_l_heaps_right far h0 (k + 3) (by omega)
  have e2 := E_l_rows_right far h0 (k + 3) (by omega)
  have c20 : m_l_chain (k + 3) [.sh (.int 20), .sh (.int far)] = ok (chL (fun i => far - (i : Int)) 20).d := E_l_chain 20 far (k + 2) (by omega)
  have c21 : m_l_chain (k + 3) [.sh (.int 21), .sh (.int far)] = ok (chL (fun i => far - (i : Int)) 21).d := E_l_chain 21 far (k + 2) (by omega)
  have c39 : m_l_chain (k + 3) [.sh (.int 39), .sh (.int far)] = ok (chL (fun i => far - (i : Int)) 39).d := E_l_chain 39 far (k + 2) (by omega)
  have c40 : m_l_chain (k + 3) [.sh (.int 40), .sh (.int far)] = ok (chL (fun i => far - (i : Int)) 40).d := E_l_chain 40 far (k + 2) (by omega)
  generalize hA : chL (fun i => far - (i : Int)) 20 = A at *
  generalize hB : chL (fun i => far - (i : Int)) 21 = B at *
  generalize hC : chL (fun i => far - (i : Int)) 39 = C at *
  generalize hD : chL (fun i => far - (i : Int)) 40 = DD at *
  have zA : A.size = 20 ∧ A.heap = true ∧ A.leans = true := by rw [← hA]; exact ⟨chL_size _ _, chL_heap _ _, chL_leans _ _⟩
  have zB : B.size = 21 ∧ B.heap = true := by rw [← hB]; exact ⟨chL_size _ _, chL_heap _ _⟩
  have zC : C.size = 39 ∧ C.heap = true := by rw [← hC]; exact ⟨chL_size _ _, chL_heap _ _⟩
  have zD : DD.size = 40 ∧ DD.heap = true := by rw [← hD]; exact ⟨chL_size _ _, chL_heap _ _⟩
  clear hA hB hC hD
  refine ⟨some (.sh (.int far)), some (.sh A.d), some (.sh B.d), some (.sh slT0.d), some (.ob 105 ([2, 3, 4].map fun (n : Nat) => .int (n : Nat))), ?_⟩
  unfold p_law_k19_1
  refine (seq_nx (e := [some S, some (.sh (.int c)), some (.sh (.int far)), z3, z4, z5, z6]) ?_).trans ?_
  · generalize op2 fMod (cal1 fAbs (vVar 1)) (op2 fPow (vC (.int 10)) (vC (.int 20))) = FF at *
    simp [hf]
  clear hf
  refine (seq_nx (e := [some S, some (.sh (.int c)), some (.sh (.int far)), z3, z4, z5, z6]) ?_).trans ?_
  · refine if_no ?_
    simp [e1, e2]
  refine (seq_nx (e := [some S, some (.sh (.int c)), some (.sh (.int far)), some (.sh A.d), some (.sh B.d), some (.sh slT0.d), z6]) ?_).trans ?_
  · have hs : slT0.d = .tuple [.tuple [], .int 1, .tuple [.tuple [], .int 2, .tuple []]] := rfl
    rw [hs]
    generalize A.d = AD at *
    generalize B.d = BD at *
    simp [c20, c21]
  refine (seq_nx (e := [some S, some (.sh (.int c)), some (.sh (.int far)), some (.sh A.d), some (.sh B.d), some (.sh slT0.d), some (.ob 105 ((List.range 2).map fun (n : Nat) => .int (n : Nat)))]) ?_).trans ?_
  · simp [vLstC, vFn, cals, gl, List.range_succ]
  have ca1 := E_calA (k + 3) 8 (List.range 2) [.tuple [A.d, B.d], .tuple [DD.d, (Tr.nd .lf far .lf).d], .tuple [C.d, slT0.d]] (.sh (.list [.tuple [A.d, B.d], .tuple [DD.d, (Tr.nd .lf far .lf).d], .tuple [C.d, slT0.d]])) (.inr rfl) (by omega) (by omega) (by simp) "TooMany" rfl (lMs k) [vVar 6, vLst [vTup [vVar 3, vVar 4], vTup [calF 2 (m_l_chain (k + 3)) [vC (.int 40), vVar 2], vTup [vTup [], vVar 2, vTup []]], vTup [calF 2 (m_l_chain (k + 3)) [vC (.int 39), vVar 2], vVar 5]], vC (.int 8)] [some S, some (.sh (.int c)), some (.sh (.int far)), some (.sh A.d), some (.sh B.d), some (.sh slT0.d), some (.ob 105 ((List.range 2).map fun (n : Nat) => .int (n : Nat)))] (by
      simp only [Tr.d]
      generalize A.d = AD at *
      generalize B.d = BD at *
      generalize C.d = CD at *
      generalize DD.d = DD' at *
      generalize slT0.d = SD at *
      generalize ((List.range 2).map fun (n : Nat) => PyData.int (n : Nat)) = RG
      simp [c39, c40]) fun n hn d hd => by
    have hn := mem_rng hn
    have cn : n = 0 ∨ n = 1 := by omega
    have kj : 62 ≤ k := by omega
    have ks : slT0.size = 2 ∧ slT0.heap = true := by decide
    have kf : (Tr.nd .lf far .lf).size = 1 ∧ (Tr.nd .lf far .lf).heap = true := ⟨rfl, rfl⟩
    simp only [List.mem_cons, List.not_mem_nil, or_false] at hd
    rcases cn with rfl | rfl
    · rw [askM_at (m := lamM [] (calF 2 (m_lean_join k) [op2 fIx (vVar 0) (vC (.int 0)), op2 fIx (vVar 0) (vC (.int 1))])) _ rfl]
      rcases hd with rfl | rfl | rfl
      · exact lam_pair (many_lean A B k (by omega) (by omega) (by omega) kj zA.2.1 zB.2) _
      · exact lam_pair (many_lean DD _ k (by omega) (by omega) (by omega) kj zD.2 kf.2) _
      · exact lam_pair (many_lean C slT0 k (by omega) (by omega) (by omega) kj zC.2 ks.2) _
    · rw [askM_at (m := lamM [] (calF 2 (m_turn_join k) [op2 fIx (vVar 0) (vC (.int 0)), op2 fIx (vVar 0) (vC (.int 1))])) _ rfl]
      rcases hd with rfl | rfl | rfl
      · exact lam_pair (many_turn A B k (by omega) (by omega) (by omega) kj zA.2.1 zB.2) _
      · exact lam_pair (many_turn DD _ k (by omega) (by omega) (by omega) kj zD.2 kf.2) _
      · exact lam_pair (many_turn C slT0 k (by omega) (by omega) (by omega) kj zC.2 ks.2) _
  refine (seq_nx (if_no ?_)).trans ?_
  · unfold lMs at ca1
    generalize calA 3 _ _ _ = CA at *
    simp [ca1]
  clear ca1
  refine (seq_nx (e := [some S, some (.sh (.int c)), some (.sh (.int far)), some (.sh A.d), some (.sh B.d), some (.sh slT0.d), some (.ob 105 ([2, 3, 4].map fun (n : Nat) => .int (n : Nat)))]) ?_).trans ?_
  · simp [vLstC, vFn, cals, gl]
  have ca2 := E_calA (k + 3) 6 [2, 3, 4] ((T6 far).map Tr.d) (.sh (.list ((T6 far).map Tr.d))) (.inr rfl) (by omega) (by omega) (by simp [T6]) "NotLeaning" rfl (lMs k) [vVar 6, vLst [vVar 5, vIf (op2 fLt (vVar 2) (vC (.int 2))) (vTup [vTup [], vVar 2, vVar 5]) (vVar 5), vTup [vVar 5, vC (.int 0), vTup [vTup [], vC (.int 5), vTup []]]], vC (.int 6)] [some S, some (.sh (.int c)), some (.sh (.int far)), some (.sh A.d), some (.sh B.d), some (.sh slT0.d), some (.ob 105 ([2, 3, 4].map fun (n : Nat) => .int (n : Nat)))] (by
      simp only [T6, farSl, List.map_cons, List.map_nil, Tr.d]
      generalize slT0 = SS at *
      by_cases c2 : far < 2
      · rw [if_pos c2]
        simp only [Tr.d]
        generalize SS.d = SD at *
        simp [c2]
      · rw [if_neg c2]
        generalize SS.d = SD at *
        simp [c2]) fun n hn d hd => by
    obtain ⟨t, ht, rfl⟩ := List.mem_map.mp hd
    obtain ⟨q1, q2, q3⟩ := T6_ok far t ht
    have et : thSV t.d = .sh t.d := by cases t <;> rfl
    have kj : 65 ≤ k := by omega
    obtain ⟨t1, t3⟩ := sh_ok t.d
    simp only [List.mem_cons, List.not_mem_nil, or_false] at hn
    rw [et]
    rcases hn with rfl | rfl | rfl
    · rw [askM_at (m := lamM [] (calF 2 (m_lean_join k) [vVar 0, vTup []])) _ rfl]
      have e := E_lean_join t .lf k (by simp only [Tr.size]; omega) kj (by omega) q1 rfl
      rw [q2] at e
      exact lam_0x t1 t3 (u := .tuple []) (by simp) e _
    · rw [askM_at (m := lamM [3] (calF 2 (m_lean_join k) [vVar 1, vVar 0])) _ rfl]
      have e := E_lean_join A t k (by omega) kj (by omega) zA.2.1 q1
      rw [q2, Bool.and_false] at e
      exact lam_10 t1 t3 e [3] _ rfl
    · rw [askM_at (m := fun _ => m_lean_take (k + 1)) _ rfl]
      have e := E_lean_take t (k + 1) (by omega) (by omega) (by omega) q1
      rw [q2] at e
      exact e
  refine if_no ?_
  unfold lMs at ca2
  generalize calA 3 _ _ _ = CA at *
  generalize ([2, 3, 4].map fun (n : Nat) => PyData.int (n : Nat)) = RG at *
  simp [ca2]
theorem ones_top (r : List Int) (x : Int) (hr : ∀ y ∈ r, y = x) (h1 : 0 < r.length) (h2 : r.length ≤ 300) : ∃ l q, leanOf r = .nd l x q := by
  have hp := leanOf_row h2
  have hz := leanOf_size h2
  cases e : leanOf r with
  | lf => rw [e] at hz; simp [Tr.size] at hz; omega
  | nd l y q =>
    rw [e] at hp
    have : y = x := hr y (hp.mem_iff.mp (by simp [Tr.row]))
    exact ⟨l, q, by rw [this]⟩
theorem law_main_k19 (ns : List Int) (h : ns.length ≤ 63) (hb : ∀ z ∈ ns, Builtin.Int.intBits z ≤ 1048576) : m_law_k19 (200 + 4) [.sh (.list (ns.map .int))] = .val (.sh (.bool true)) := by
  obtain ⟨e, h2, y1, y2, y3, y4, y5, y6, rfl⟩ := forL_inv (t := tgN 1) (b := p_law_k19_1 (m_l_heaps_right_k19 (200 + 3)) (m_l_rows_right_k19 (200 + 3)) (m_l_chain (200 + 3)) (m_lean_join 200) (m_turn_join 200) (fun m1 => m_l_all m1 (200 + 3)) (m_lean_take (200 + 1)) (m_turn_take (200 + 1)) (m_rank (200 + 3)) (m_how_many_rows (200 + 3)) (m_lean_of (200 + 3))) (xs := (0 :: ns.take 3).map PyData.int) (fun e => ∃ y1 y2 y3 y4 y5 y6, e = [some (.sh (.list (ns.map .int))), y1, y2, y3, y4, y5, y6]) (env := [some (.sh (.list (ns.map .int))), none, none, none, none, none, none]) (fun d hd env h => by
    obtain ⟨y1, y2, y3, y4, y5, y6, rfl⟩ := h
    obtain ⟨c, _, rfl⟩ := List.mem_map.mp hd
    obtain ⟨w2, w3, w4, w5, w6, e⟩ := k19_in 200 (by omega) (by omega) (.sh (.list (ns.map .int))) c y2 y3 y4 y5 y6
    exact ⟨_, _, rfl, e, _, _, _, _, _, _, rfl⟩) ⟨_, _, _, _, _, _, rfl⟩
  have ca3 := fun env (ev : evA [vLstC [vFn 4, vFn 5], vLst [vTup []], vC (.int 7)] env = .val [.ob 105 ([4, 5].map fun (n : Nat) => .int (n : Nat)), .sh (.list [.tuple []]), .sh (.int (7 : Nat))]) => E_calA (200 + 3) 7 [4, 5] [.tuple []] (.sh (.list [.tuple []])) (.inr rfl) (by omega) (by omega) (by simp) "Empty" rfl (lMs 200) [vLstC [vFn 4, vFn 5], vLst [vTup []], vC (.int 7)] env ev fun n hn d hd => by
    simp only [List.mem_cons, List.not_mem_nil, or_false] at hn hd
    subst hd
    rcases hn with rfl | rfl
    · rw [askM_at (m := fun _ => m_lean_take (200 + 1)) _ rfl]
      exact E_lean_take .lf (200 + 1) (by decide) (by omega) (by omega) rfl
    · rw [askM_at (m := fun _ => m_turn_take (200 + 1)) _ rfl]
      exact E_turn_take .lf (200 + 1) (by decide) (by omega) rfl
  have f1 : m_l_chain 203 [.sh (.int 40), .sh (.int 0)] = ok (chL (fun i => 0 - (i : Int)) 40).d := E_l_chain 40 0 202 (by omega)
  have f2 := E_rank (chL (fun i => 0 - (i : Int)) 40) 203 (by rw [chL_size]; omega) (by omega) (chL_heap 0 40)
  rw [chL_rank 0 39] at f2
  have f3 := E_how_many_rows (.nd .lf 3 (.nd .lf 1 .lf)) 203 (by decide) (by omega) (by omega)
  have f3n : divL (facN (Tr.nd .lf 3 (.nd .lf 1 .lf)).size) (szL (.nd .lf 3 (.nd .lf 1 .lf))) = 1 := by decide +kernel
  rw [f3n] at f3
  have f4 := E_lean_of (List.replicate 40 1) 203 (by simp) (by omega)
  obtain ⟨l, q, et⟩ := ones_top (List.replicate 40 1) 1 (fun y hy => List.eq_of_mem_replicate hy) (by simp) (by simp)
  rw [et, List.map_replicate] at f4
  rw [m_law_k19]
  have nt : (ns.map PyData.int).take 3 = (ns.take 3).map .int := (List.map_take ..).symm
  refine runs_rt 7 _ _ _ [some (.sh (.list (ns.map .int))), none, none, none, none, none, none] rfl rfl ?_
  unfold b_law_k19
  refine (seq_nx (e := [some (.sh (.list (ns.map .int))), y1, y2, y3, y4, y5, y6]) ?_).trans ?_
  · generalize p_law_k19_1 _ _ _ _ _ _ _ _ _ _ _ = PP at *
    rw [List.map_cons] at h2
    rw [← nt] at h2
    have l4 : 1 + min 3 (ns.map PyData.int).length ≤ 1000000 := by omega
    generalize ns.map PyData.int = ND at *
    simp [h2, l4]
  have ca := ca3 [some (.sh (.list (ns.map .int))), y1, y2, y3, y4, y5, y6] (by simp [vLstC, vFn, cals, gl])
  unfold lMs at ca
  refine (seq_nx (if_no (f := vNot _) ?_)).trans ?_
  · generalize calA 3 _ _ _ = CA at *
    simp [ca]
  clear ca ca3 h2
  simp only [Tr.d] at f3 f4
  generalize (chL (fun i => 0 - (i : Int)) 40).d = CH at *
  generalize l.d = LD at *
  generalize q.d = QD at *
  generalize hr : List.replicate 40 (PyData.int 1) = RP at *
  simp [f1, f2, f3, f4, hr, -List.reduceReplicate]
def top (i : Nat) : Stmt := PySem.Challenge.pw_heapmeld_k19_refused_heaps.main.body.getD i (.Pass ⟨0, 0, 0, 0⟩)
structure Top (K : PySem.W.Frag) (mg : Str → Option Value) (T : Ct) : Prop where
  d_rank_of : Df K mg "rank_of" "rank_of" (top 3) ["heap"]
  d_slants : Df K mg "slants" "slants" (top 4) ["knot"]
  d_slanting : Df K mg "slanting" "slanting" (top 5) ["heap", "way"]
  d_exchanged : Df K mg "exchanged" "exchanged" (top 6) ["heap", "way", "ways"]
  d_is_key : Df K mg "is_key" "is_key" (top 23) ["thing"]
  d_is_form : Df K mg "is_form" "is_form" (top 24) ["thing"]
  d_is_ordered : Df K mg "is_ordered" "is_ordered" (top 25) ["heap"]
  d_check_heap : Df K mg "check_heap" "check_heap" (top 26) ["heap"]
  d_check_keys : Df K mg "check_keys" "check_keys" (top 27) ["keys"]
  d_row_from : Df K mg "row_from" "row_from" (top 28) ["heap"]
  d_size_of : Df K mg "size_of" "size_of" (top 29) ["heap"]
  d_keys_of : Df K mg "keys_of" "keys_of" (top 30) ["heap"]
  d_check_both : Df K mg "check_both" "check_both" (top 31) ["one", "other"]
  d_check_leaning : Df K mg "check_leaning" "check_leaning" (top 33) ["heap"]
  d_rank : Df K mg "rank" "rank" (top 34) ["heap"]
  d_judged : Df K mg "judged" "judged" (top 35) ["heap"]
  d_leaning_knot : Df K mg "leaning_knot" "leaning_knot" (top 36) ["left", "key", "right"]
  d_joinL : Df K mg "joined_of_leaning" "joined_of" (top 37) ["one", "other"]
  d_lean_join : Df K mg "lean_join" "lean_join" (top 39) ["one", "other"]
  d_lean_take : Df K mg "lean_take" "lean_take" (top 40) ["heap"]
  d_lean_of : Df K mg "lean_of" "lean_of" (top 41) ["keys"]
  d_leaned : Df K mg "leaned" "leaned" (top 42) ["heap"]
  d_heap_from : Df K mg "heap_from" "heap_from" (top 44) ["row"]
  d_heap_of : Df K mg "heap_of" "heap_of" (top 45) ["row"]
  d_row_of : Df K mg "row_of" "row_of" (top 46) ["heap"]
  d_sizes_of : Df K mg "sizes_of" "sizes_of" (top 47) ["shape"]
  d_how_many_rows : Df K mg "how_many_rows" "how_many_rows" (top 48) ["shape"]
  d_joinT : Df K mg "joined_of_turning" "joined_of" (top 50) ["one", "other"]
  d_turn_join : Df K mg "turn_join" "turn_join" (top 52) ["one", "other"]
  d_turn_take : Df K mg "turn_take" "turn_take" (top 53) ["heap"]
  d_purse_of : Df K mg "purse_of" "purse_of" (top 54) ["heap"]
  d_purse : Df K mg "purse" "purse" (top 55) ["heap"]
  d_l_kinds : Df K mg "_law_kinds" "_law_kinds" (top 57) ["_law_error"]
  d_l_refused_k19 : Df K mg "_law_refused" "_law_refused" (top 58) ["_law_ask", "_law_thing", "_law_which"]
  d_l_all : Df K mg "_law_all" "_law_all" (top 59) ["_law_asks", "_law_things", "_law_which"]
  d_l_no_forms_k19 : Df K mg "_law_no_forms" "_law_no_forms" (top 60) ["_law_far"]
  d_l_no_heaps : Df K mg "_law_no_heaps" "_law_no_heaps" (top 61) ["_law_far"]
  d_l_no_rows : Df K mg "_law_no_rows" "_law_no_rows" (top 62) ["_law_far"]
  d_l_chain : Df K mg "_law_chain" "_law_chain" (top 63) ["_law_many", "_law_first"]
  d_l_heaps_right_k19 : Df K mg "_law_heaps_right" "_law_heaps_right" (top 64) ["_law_far"]
  d_l_rows_right_k19 : Df K mg "_law_rows_right" "_law_rows_right" (top 65) ["_law_far"]
  d_law_k19 : Df K mg "law" "law" (top 66) ["_law_script"]
  b_min : mg "min" = none
  b_isinstance : mg "isinstance" = none
  b_int : mg "int" = none
  b_bool : mg "bool" = none
  b_tuple : mg "tuple" = none
  b_len : mg "len" = none
  k_MOST : ∃ tk, mg "MOST" = some (.int 40 tk)
  e_BadHeap : Er K mg T "BadHeap"
  b_list : mg "list" = none
  b_all : mg "all" = none
  e_BadKey : Er K mg T "BadKey"
  b_sorted : mg "sorted" = none
  e_TooMany : Er K mg T "TooMany"
  e_NotLeaning : Er K mg T "NotLeaning"
  z_Leans : PySem.W.findIn K (.ref (T.ad 0)) "__init__" = some (some (.builtin "object.__init__"))
  c_Leans : Oc K mg T "Leans" 0
  c_Slants : Oc K mg T "Slants" 1
  e_Empty : Er K mg T "Empty"
  c_Leaned : Oc K mg T "Leaned" 2
  b_set : mg "set" = none
  e_BadShape : Er K mg T "BadShape"
  b_range : mg "range" = none
  b_ValueError : mg "ValueError" = none
  x_l_kinds : ∀ c ∈ (["BadHeap", "BadKey", "BadShape", "BadCount", "BadNumber", "BadPile", "NotLeaning", "Empty", "TooMany"] : List Str), Xc K mg T "HeapError" ["BadHeap", "BadKey", "BadShape", "BadCount", "BadNumber", "BadPile", "NotLeaning", "Empty", "TooMany"] c
  x_l_refused_k19 : ∀ c ∈ (["BadHeap", "BadKey", "BadShape", "BadCount", "BadNumber", "BadPile", "NotLeaning", "Empty", "TooMany"] : List Str), Xc K mg T "HeapError" [] c
  b_abs : mg "abs" = none
  n_Slants : Di K T 1 "Slants.__init__" (inClass (top 8) 0) ["self", "way"]
  n_Leaned : Di K T 2 "Leaned.__init__" (inClass (top 9) 0) ["self", "heap", "ways"]
  v_l_kinds : ∀ c ∈ (["BadHeap", "BadKey", "BadShape", "BadCount", "BadNumber", "BadPile", "NotLeaning", "Empty", "TooMany"] : List Str), Xv K T c
theorem Top.cal {K : PySem.W.Frag} {mg : Str → Option Value} {T : Ct} (t : Top K mg T) (fr : Nat → Addr → Hp → Prop) (fm : ∀ (n : Nat) (f : Addr) (G G' : Hp), Same G G' → fr n f G → fr n f G') (l : List Addr) (G : Hp) (a : Addr) : Top K mg { T with fr := fr, fm := fm, tb := l, gc := G, xa := a } :=
  ⟨t.d_rank_of, t.d_slants, t.d_slanting, t.d_exchanged, t.d_is_key, t.d_is_form, t.d_is_ordered, t.d_check_heap, t.d_check_keys, t.d_row_from, t.d_size_of, t.d_keys_of, t.d_check_both, t.d_check_leaning, t.d_rank, t.d_judged, t.d_leaning_knot, t.d_joinL, t.d_lean_join, t.d_lean_take, t.d_lean_of, t.d_leaned, t.d_heap_from, t.d_heap_of, t.d_row_of, t.d_sizes_of, t.d_how_many_rows, t.d_joinT, t.d_turn_join, t.d_turn_take, t.d_purse_of, t.d_purse, t.d_l_kinds, t.d_l_refused_k19, t.d_l_all, t.d_l_no_forms_k19, t.d_l_no_heaps, t.d_l_no_rows, t.d_l_chain, t.d_l_heaps_right_k19, t.d_l_rows_right_k19, t.d_law_k19, t.b_min, t.b_isinstance, t.b_int, t.b_bool, t.b_tuple, t.b_len, t.k_MOST, ⟨t.e_BadHeap.ex⟩, t.b_list, t.b_all, ⟨t.e_BadKey.ex⟩, t.b_sorted, ⟨t.e_TooMany.ex⟩, ⟨t.e_NotLeaning.ex⟩, t.z_Leans, t.c_Leans.calx fr fm l G a, t.c_Slants.calx fr fm l G a, ⟨t.e_Empty.ex⟩, t.c_Leaned.calx fr fm l G a, t.b_set, ⟨t.e_BadShape.ex⟩, t.b_range, t.b_ValueError, fun c h => ⟨(t.x_l_kinds c h).ex, (t.x_l_kinds c h).ct, (t.x_l_kinds c h).is⟩, fun c h => ⟨(t.x_l_refused_k19 c h).ex, (t.x_l_refused_k19 c h).ct, (t.x_l_refused_k19 c h).is⟩, t.b_abs, t.n_Slants, t.n_Leaned, fun c h => ⟨(t.v_l_kinds c h).v⟩⟩
structure TopM (K : PySem.W.Frag) (mg : Str → Option Value) (base : Heap) (T : Ct) : Prop where
  mt_l_heaps_right_k19 : MkT K mg base T "_law_heaps_right"
  mt_law_k19 : MkT K mg base T "law"
section
variable {P : Program} {w : World} {K : PySem.W.Frag} {mg : Str → Option Value} {base : Heap} {T : Ct}
abbrev s_Slants_init : Stmt := inClass (top 8) 0
theorem sc_Slants_init : FnScope ["self", "way"] ["self", "way"] (defScope s_Slants_init) := ⟨rfl, rfl, rfl, by decide +kernel, rfl, by decide +kernel, by decide +kernel⟩
theorem fi_Slants (t : Top K mg T) : FnI P w K mg base T 1 mk1 := by
  obtain ⟨f, fd, F, M, hb⟩ := t.n_Slants
  exact ⟨f, fd, _, M, gd_mk (k := 0) F sc_Slants_init (spN_len (by rw [t.c_Slants.fl]; rfl)) (fun cdv A outer s0 H vs Q E hq hr hsp => ⟨_, pss_one (ps_fld (pe_var (i := 0) rfl (Or.inl rfl)) (pe_callTy call_list_of rfl t.b_list (by decide +kernel) (pa_cons (pe_var (i := 1) rfl (Or.inl rfl)) pa_nil rfl)) rfl), init1_rd t.c_Slants hsp⟩), hb⟩
theorem all_Slants (t : Top K mg T) (k : Nat) : FnN P w K mg base T k 1 (m_Slants k) := fnN_of (fi_Slants t) k
abbrev s_Leaned_init : Stmt := inClass (top 9) 0
theorem sc_Leaned_init : FnScope ["self", "heap", "ways", "way"] ["self", "heap", "ways"] (defScope s_Leaned_init) := ⟨rfl, rfl, rfl, by decide +kernel, rfl, by decide +kernel, by decide +kernel⟩
theorem fi_Leaned (t : Top K mg T) : FnI P w K mg base T 2 mk2 := by
  obtain ⟨f, fd, F, M, hb⟩ := t.n_Leaned
  exact ⟨f, fd, _, M, gd_mk (k := 0) F sc_Leaned_init (spN_len (by rw [t.c_Leaned.fl]; rfl)) (fun cdv A outer s0 H vs Q E hq hr hsp => ⟨_, pss_cons (ps_fld (pe_var (i := 0) rfl (Or.inl rfl)) (pe_var (i := 1) rfl (Or.inl rfl)) rfl) (pss_one (ps_fld (pe_var (i := 0) rfl (Or.inl rfl))
    (pe_lc (own := [("way", 3)]) rfl sc_Leaned_init.nd (pi_list (pe_var (i := 2) rfl (Or.inl rfl))) (blkOk_by (N := ["self", "heap", "ways", "way"]) (sc := defScope s_Leaned_init) (by decide +kernel)) (fun _ _ _ _ _ => pg_name (i := 3) sc_Leaned_init.nd rfl (by first | exact Or.inl rfl | exact Or.inr rfl)) (fun _ _ _ _ _ => pts_nil)
      (fun _ _ _ _ _ => pe_callTy call_list_of rfl t.b_list (by decide +kernel) (pa_cons (pe_var (i := 3) rfl (Or.inl rfl)) pa_nil rfl))) rfl)), init2_rd t.c_Leaned hsp⟩), hb⟩
theorem all_Leaned (t : Top K mg T) (k : Nat) : FnN P w K mg base T k 2 (m_Leaned k) := fnN_of (fi_Leaned t) k
abbrev s_rank_of : Stmt := top 3
abbrev N_rank_of : List Str := ["heap"]
theorem sc_rank_of : FnScope N_rank_of ["heap"] (defScope s_rank_of) := ⟨rfl, rfl, rfl, by decide +kernel, rfl, by decide +kernel, by decide +kernel⟩
theorem bd_rank_of {k : Nat} {c_rank_of : List SV → R} (t : Top K mg T) (h_rank_of : Fn P w K mg base T k "rank_of" 1 c_rank_of) : Bd P w K mg base T k N_rank_of "rank_of" s_rank_of (b_rank_of c_rank_of) := by
  intro f cdv A outer s0 H E B hr C po tk
  unfold b_rank_of
  exact vss_one (vs_ret (ve_if (vt_cm (c_eq C) (ve_var 0) (ve_tup (va_nil))) (ve_int) (ve_add (ve_int) (ve_min2 C ⟨rfl, t.b_min⟩ (ve_callF h_rank_of hr rfl C (va_cons (ve_ix (ve_var 0) (ve_int)) (va_nil))) (ve_callF h_rank_of hr rfl C (va_cons (ve_ix (ve_var 0) (ve_int)) (va_nil)))))))
theorem all_rank_of (t : Top K mg T) : ∀ k, Fn P w K mg base T k "rank_of" 1 (m_rank_of k)
  | 0 => fn_zero t.d_rank_of rfl
  | k + 1 => fn_mk t.d_rank_of sc_rank_of (bd_rank_of t (all_rank_of t k))
abbrev s_slants : Stmt := top 4
abbrev N_slants : List Str := ["knot"]
theorem sc_slants : FnScope N_slants ["knot"] (defScope s_slants) := ⟨rfl, rfl, rfl, by decide +kernel, rfl, by decide +kernel, by decide +kernel⟩
theorem bd_slants {k : Nat} {c_rank_of : List SV → R} (t : Top K mg T) (h_rank_of : Fn P w K mg base T k "rank_of" 1 c_rank_of) : Bd P w K mg base T k N_slants "slants" s_slants (b_slants c_rank_of) := by
  intro f cdv A outer s0 H E B hr C po tk
  unfold b_slants
  exact vss_one (vs_ret (ve_and (ve_cm (c_ne C) (ve_var 0) (ve_tup (va_nil))) (ve_one (ve_cm c_gt (ve_callF h_rank_of hr rfl C (va_cons (ve_ix (ve_var 0) (ve_int)) (va_nil))) (ve_callF h_rank_of hr rfl C (va_cons (ve_ix (ve_var 0) (ve_int)) (va_nil)))))))
theorem all_slants (t : Top K mg T) : ∀ k, Fn P w K mg base T k "slants" 1 (m_slants k)
  | 0 => fn_zero t.d_slants rfl
  | k + 1 => fn_mk t.d_slants sc_slants (bd_slants t (all_rank_of t k))
abbrev s_slanting : Stmt := top 5
abbrev N_slanting : List Str := ["heap", "way", "found"]
theorem sc_slanting : FnScope N_slanting ["heap", "way"] (defScope s_slanting) := ⟨rfl, rfl, rfl, by decide +kernel, rfl, by decide +kernel, by decide +kernel⟩
theorem bd_slanting {k : Nat} {c_slants : List SV → R} {c_slanting : List SV → R} (t : Top K mg T) (h_slants : Fn P w K mg base T k "slants" 1 c_slants) (h_slanting : Fn P w K mg base T k "slanting" 2 c_slanting) : Bd P w K mg base T k N_slanting "slanting" s_slanting (b_slanting c_slants c_slanting) := by
  intro f cdv A outer s0 H E B hr C po tk
  unfold b_slanting
  exact vss_cons (vs_if (vt_cm (c_eq C) (ve_var 0) (ve_tup (va_nil))) (vss_one (vs_ret (ve_lst (va_nil)))) (vss_nil)) (vss_cons (vs_set 2 C (ve_if (vt_val (ve_callF h_slants hr rfl C (va_cons (ve_var 0) (va_nil)))) (ve_lst (va_cons (ve_var 1) (va_nil))) (ve_lst (va_nil)))) (vss_one (vs_ret (ve_add (ve_add (ve_var 2) (ve_callF h_slanting hr rfl C (va_cons (ve_ix (ve_var 0) (ve_int)) (va_cons (ve_add (ve_var 1) (ve_lst (va_cons (ve_str) (va_nil)))) (va_nil))))) (ve_callF h_slanting hr rfl C (va_cons (ve_ix (ve_var 0) (ve_int)) (va_cons (ve_add (ve_var 1) (ve_lst (va_cons (ve_str) (va_nil)))) (va_nil))))))))
theorem all_slanting (t : Top K mg T) : ∀ k, Fn P w K mg base T k "slanting" 2 (m_slanting k)
  | 0 => fn_zero t.d_slanting rfl
  | k + 1 => fn_mk t.d_slanting sc_slanting (bd_slanting t (all_slants t k) (all_slanting t k))
abbrev s_exchanged : Stmt := top 6
abbrev N_exchanged : List Str := ["heap", "way", "ways", "left", "right"]
theorem sc_exchanged : FnScope N_exchanged ["heap", "way", "ways"] (defScope s_exchanged) := ⟨rfl, rfl, rfl, by decide +kernel, rfl, by decide +kernel, by decide +kernel⟩
theorem bd_exchanged {k : Nat} {c_exchanged : List SV → R} (t : Top K mg T) (h_exchanged : Fn P w K mg base T k "exchanged" 3 c_exchanged) : Bd P w K mg base T k N_exchanged "exchanged" s_exchanged (b_exchanged c_exchanged) := by
  intro f cdv A outer s0 H E B hr C po tk
  unfold b_exchanged
  exact vss_cons (vs_if (vt_cm (c_eq C) (ve_var 0) (ve_tup (va_nil))) (vss_one (vs_ret (ve_tup (va_nil)))) (vss_nil)) (vss_cons (vs_par2 3 4 false false C (ve_callF h_exchanged hr rfl C (va_cons (ve_ix (ve_var 0) (ve_int)) (va_cons (ve_add (ve_var 1) (ve_lst (va_cons (ve_str) (va_nil)))) (va_cons (ve_var 2) (va_nil))))) (ve_callF h_exchanged hr rfl C (va_cons (ve_ix (ve_var 0) (ve_int)) (va_cons (ve_add (ve_var 1) (ve_lst (va_cons (ve_str) (va_nil)))) (va_cons (ve_var 2) (va_nil)))))) (vss_one (vs_ret (ve_if (vt_cm (c_in C) (ve_var 1) (ve_var 2)) (ve_tup (va_cons (ve_var 4) (va_cons (ve_ix (ve_var 0) (ve_int)) (va_cons (ve_var 3) (va_nil))))) (ve_tup (va_cons (ve_var 3) (va_cons (ve_ix (ve_var 0) (ve_int)) (va_cons (ve_var 4) (va_nil)))))))))
theorem all_exchanged (t : Top K mg T) : ∀ k, Fn P w K mg base T k "exchanged" 3 (m_exchanged k)
  | 0 => fn_zero t.d_exchanged rfl
  | k + 1 => fn_mk t.d_exchanged sc_exchanged (bd_exchanged t (all_exchanged t k))
abbrev s_is_key : Stmt := top 23
abbrev N_is_key : List Str := ["thing"]
theorem sc_is_key : FnScope N_is_key ["thing"] (defScope s_is_key) := ⟨rfl, rfl, rfl, by decide +kernel, rfl, by decide +kernel, by decide +kernel⟩
theorem bd_is_key {k : Nat} (t : Top K mg T) : Bd P w K mg base T k N_is_key "is_key" s_is_key (b_is_key) := by
  intro f cdv A outer s0 H E B hr C po tk
  unfold b_is_key
  exact vss_one (vs_ret (ve_and (ve_isT ty_int ⟨rfl, t.b_isinstance⟩ ⟨rfl, t.b_int⟩ (by decide +kernel) (ve_var 0)) (ve_one (ve_not (ve_isT ty_bool ⟨rfl, t.b_isinstance⟩ ⟨rfl, t.b_bool⟩ (by decide +kernel) (ve_var 0))))))
theorem all_is_key (t : Top K mg T) : ∀ k, Fn P w K mg base T k "is_key" 1 (m_is_key k)
  | 0 => fn_zero t.d_is_key rfl
  | k + 1 => fn_mk t.d_is_key sc_is_key (bd_is_key t)
abbrev s_is_form : Stmt := top 24
abbrev N_is_form : List Str := ["thing", "waiting", "many", "here"]
theorem sc_is_form : FnScope N_is_form ["thing"] (defScope s_is_form) := ⟨rfl, rfl, rfl, by decide +kernel, rfl, by decide +kernel, by decide +kernel⟩
theorem bd_is_form {k : Nat} {c_is_key : List SV → R} (t : Top K mg T) (h_is_key : Fn P w K mg base T k "is_key" 1 c_is_key) : Bd P w K mg base T k N_is_form "is_form" s_is_form (b_is_form c_is_key) := by
  obtain ⟨tk_MOST, h_MOST⟩ := t.k_MOST
  intro f cdv A outer s0 H E B hr C po tk
  unfold b_is_form p_is_form_2 p_is_form_1
  exact vss_form0 C po (vss_cons (vs_par2 1 2 true false C (ve_lst (va_cons (ve_var 0) (va_nil))) (ve_int)) (vss_cons (vs_while WF po (vt_bor 1 (vt_cm (c_ne C) (ve_var 1) (ve_lst (va_nil)))) (vss_cons (vs_pop 3 1 C) (vss_cons (vs_if (vt_w (vw_or (vt_not (vt_val (ve_isT ty_tuple ⟨rfl, t.b_isinstance⟩ ⟨rfl, t.b_tuple⟩ (by decide +kernel) (ve_var 3)))) (vw_or1 (vt_cm (c_nin C) (ve_len ⟨rfl, t.b_len⟩ (ve_var 3)) (ve_tup (va_cons (ve_int) (va_cons (ve_int) (va_nil)))))))) (vss_one (vs_ret (ve_bl))) (vss_nil)) (vss_one (vs_if (vt_cm (c_eq C) (ve_len ⟨rfl, t.b_len⟩ (ve_var 3)) (ve_int)) (vss_cons (vs_add 2 C (ve_int)) (vss_cons (vs_if (vt_w (vw_or (vt_cm c_gt (ve_var 2) (ve_gint rfl h_MOST)) (vw_or1 (vt_not (vt_val (ve_callF h_is_key hr rfl C (va_cons (ve_ix (ve_var 3) (ve_int)) (va_nil)))))))) (vss_one (vs_ret (ve_bl))) (vss_nil)) (vss_one (vs_ext 1 (ve_lst (va_cons (ve_ix (ve_var 3) (ve_int)) (va_cons (ve_ix (ve_var 3) (ve_int)) (va_nil)))))))) (vss_nil)))))) (vss_one (vs_ret (ve_bl))))) pe_int (vss_cons (vs_if (vt_w (vw_or (vt_not (vt_val (ve_isT ty_tuple ⟨rfl, t.b_isinstance⟩ ⟨rfl, t.b_tuple⟩ (by decide +kernel) (ve_var 3)))) (vw_or1 (vt_cm (c_nin C) (ve_len ⟨rfl, t.b_len⟩ (ve_var 3)) (ve_tup (va_cons (ve_int) (va_cons (ve_int) (va_nil)))))))) (vss_one (vs_ret (ve_bl))) (vss_nil)) (vss_one (vs_if (vt_cm (c_eq C) (ve_len ⟨rfl, t.b_len⟩ (ve_var 3)) (ve_int)) (vss_cons (vs_add 2 C (ve_int)) (vss_cons (vs_if (vt_w (vw_or (vt_cm c_gt (ve_var 2) (ve_gint rfl h_MOST)) (vw_or1 (vt_not (vt_val (ve_callF h_is_key hr rfl C (va_cons (ve_ix (ve_var 3) (ve_int)) (va_nil)))))))) (vss_one (vs_ret (ve_bl))) (vss_nil)) (vss_one (vs_ext 1 (ve_lst (va_cons (ve_ix (ve_var 3) (ve_int)) (va_cons (ve_ix (ve_var 3) (ve_int)) (va_nil)))))))) (vss_nil)))) (vss_one (vs_ret (ve_bl))) (fun fs => by simp)
theorem all_is_form (t : Top K mg T) : ∀ k, Fn P w K mg base T k "is_form" 1 (m_is_form k)
  | 0 => fn_zero t.d_is_form rfl
  | k + 1 => fn_mk t.d_is_form sc_is_form (bd_is_form t (all_is_key t k))
abbrev s_is_ordered : Stmt := top 25
abbrev N_is_ordered : List Str := ["heap", "side"]
theorem sc_is_ordered : FnScope N_is_ordered ["heap"] (defScope s_is_ordered) := ⟨rfl, rfl, rfl, by decide +kernel, rfl, by decide +kernel, by decide +kernel⟩
theorem bd_is_ordered {k : Nat} {c_is_ordered : List SV → R} (t : Top K mg T) (h_is_ordered : Fn P w K mg base T k "is_ordered" 1 c_is_ordered) : Bd P w K mg base T k N_is_ordered "is_ordered" s_is_ordered (b_is_ordered c_is_ordered) := by
  intro f cdv A outer s0 H E B hr C po tk
  unfold b_is_ordered p_is_ordered_1
  exact vss_cons (vs_if (vt_cm (c_eq C) (ve_var 0) (ve_tup (va_nil))) (vss_one (vs_ret (ve_bl))) (vss_nil)) (vss_cons (vs_for C po (vi_tup (ve_tup (va_cons (ve_ix (ve_var 0) (ve_int)) (va_cons (ve_ix (ve_var 0) (ve_int)) (va_nil))))) tr_name (pg_name (i := 1) C.nd rfl (by first | exact Or.inl rfl | exact Or.inr rfl)) (vss_one (vs_if (vt_w (vw_and (vt_cm (c_ne C) (ve_var 1) (ve_tup (va_nil))) (vw_and1 (vt_cm c_lt (ve_ix (ve_var 1) (ve_int)) (ve_ix (ve_var 0) (ve_int)))))) (vss_one (vs_ret (ve_bl))) (vss_nil)))) (vss_one (vs_ret (ve_and (ve_callF h_is_ordered hr rfl C (va_cons (ve_ix (ve_var 0) (ve_int)) (va_nil))) (ve_one (ve_callF h_is_ordered hr rfl C (va_cons (ve_ix (ve_var 0) (ve_int)) (va_nil))))))))
theorem all_is_ordered (t : Top K mg T) : ∀ k, Fn P w K mg base T k "is_ordered" 1 (m_is_ordered k)
  | 0 => fn_zero t.d_is_ordered rfl
  | k + 1 => fn_mk t.d_is_ordered sc_is_ordered (bd_is_ordered t (all_is_ordered t k))
abbrev s_check_heap : Stmt := top 26
abbrev N_check_heap : List Str := ["heap"]
theorem sc_check_heap : FnScope N_check_heap ["heap"] (defScope s_check_heap) := ⟨rfl, rfl, rfl, by decide +kernel, rfl, by decide +kernel, by decide +kernel⟩
theorem bd_check_heap {k : Nat} {c_is_form : List SV → R} {c_is_ordered : List SV → R} (t : Top K mg T) (h_is_form : Fn P w K mg base T k "is_form" 1 c_is_form) (h_is_ordered : Fn P w K mg base T k "is_ordered" 1 c_is_ordered) : Bd P w K mg base T k N_check_heap "check_heap" s_check_heap (b_check_heap c_is_form c_is_ordered) := by
  intro f cdv A outer s0 H E B hr C po tk
  unfold b_check_heap
  exact vss_one (vs_if (vt_w (vw_or (vt_not (vt_val (ve_callF h_is_form hr rfl C (va_cons (ve_var 0) (va_nil))))) (vw_or1 (vt_not (vt_val (ve_callF h_is_ordered hr rfl C (va_cons (ve_var 0) (va_nil)))))))) (vss_one (vs_raiseE C tk t.e_BadHeap rfl)) (vss_nil))
theorem all_check_heap (t : Top K mg T) : ∀ k, Fn P w K mg base T k "check_heap" 1 (m_check_heap k)
  | 0 => fn_zero t.d_check_heap rfl
  | k + 1 => fn_mk t.d_check_heap sc_check_heap (bd_check_heap t (all_is_form t k) (all_is_ordered t k))
abbrev s_check_keys : Stmt := top 27
abbrev N_check_keys : List Str := ["keys", "key"]
theorem sc_check_keys : FnScope N_check_keys ["keys"] (defScope s_check_keys) := ⟨rfl, rfl, rfl, by decide +kernel, rfl, by decide +kernel, by decide +kernel⟩
theorem bd_check_keys {k : Nat} {c_is_key : List SV → R} (t : Top K mg T) (h_is_key : Fn P w K mg base T k "is_key" 1 c_is_key) : Bd P w K mg base T k N_check_keys "check_keys" s_check_keys (b_check_keys c_is_key) := by
  obtain ⟨tk_MOST, h_MOST⟩ := t.k_MOST
  intro f cdv A outer s0 H E B hr C po tk
  unfold b_check_keys
  exact vss_one (vs_if (vt_w (vw_or (vt_not (vt_val (ve_isT ty_list ⟨rfl, t.b_isinstance⟩ ⟨rfl, t.b_list⟩ (by decide +kernel) (ve_var 0)))) (vw_or (vt_cm c_gt (ve_len ⟨rfl, t.b_len⟩ (ve_var 0)) (ve_gint rfl h_MOST)) (vw_or1 (vt_not (vt_val (ve_all C ⟨rfl, t.b_all⟩ (ve_lc (own := [("key", 1)]) C (vi_list (ve_var 0)) (blkOk_by (N := N_check_keys) (sc := defScope s_check_keys) (by decide +kernel)) tr_name (fun _ _ _ _ _ => pg_name (i := 1) C.nd rfl (by first | exact Or.inl rfl | exact Or.inr rfl)) (fun _ _ _ _ _ => vts_nil) (fun _ _ _ _ _ => ve_callF h_is_key hr rfl C.blk (va_cons (ve_var 1) (va_nil))))))))))) (vss_one (vs_raiseE C tk t.e_BadKey rfl)) (vss_nil))
theorem all_check_keys (t : Top K mg T) : ∀ k, Fn P w K mg base T k "check_keys" 1 (m_check_keys k)
  | 0 => fn_zero t.d_check_keys rfl
  | k + 1 => fn_mk t.d_check_keys sc_check_keys (bd_check_keys t (all_is_key t k))
abbrev s_row_from : Stmt := top 28
abbrev N_row_from : List Str := ["heap"]
theorem sc_row_from : FnScope N_row_from ["heap"] (defScope s_row_from) := ⟨rfl, rfl, rfl, by decide +kernel, rfl, by decide +kernel, by decide +kernel⟩
theorem bd_row_from {k : Nat} {c_row_from : List SV → R} (t : Top K mg T) (h_row_from : Fn P w K mg base T k "row_from" 1 c_row_from) : Bd P w K mg base T k N_row_from "row_from" s_row_from (b_row_from c_row_from) := by
  intro f cdv A outer s0 H E B hr C po tk
  unfold b_row_from
  exact vss_one (vs_ret (ve_if (vt_cm (c_eq C) (ve_var 0) (ve_tup (va_nil))) (ve_lst (va_nil)) (ve_add (ve_add (ve_callF h_row_from hr rfl C (va_cons (ve_ix (ve_var 0) (ve_int)) (va_nil))) (ve_lst (va_cons (ve_ix (ve_var 0) (ve_int)) (va_nil)))) (ve_callF h_row_from hr rfl C (va_cons (ve_ix (ve_var 0) (ve_int)) (va_nil))))))
theorem all_row_from (t : Top K mg T) : ∀ k, Fn P w K mg base T k "row_from" 1 (m_row_from k)
  | 0 => fn_zero t.d_row_from rfl
  | k + 1 => fn_mk t.d_row_from sc_row_from (bd_row_from t (all_row_from t k))
abbrev s_size_of : Stmt := top 29
abbrev N_size_of : List Str := ["heap"]
theorem sc_size_of : FnScope N_size_of ["heap"] (defScope s_size_of) := ⟨rfl, rfl, rfl, by decide +kernel, rfl, by decide +kernel, by decide +kernel⟩
theorem bd_size_of {k : Nat} {c_size_of : List SV → R} (t : Top K mg T) (h_size_of : Fn P w K mg base T k "size_of" 1 c_size_of) : Bd P w K mg base T k N_size_of "size_of" s_size_of (b_size_of c_size_of) := by
  intro f cdv A outer s0 H E B hr C po tk
  unfold b_size_of
  exact vss_one (vs_ret (ve_if (vt_cm (c_eq C) (ve_var 0) (ve_tup (va_nil))) (ve_int) (ve_add (ve_add (ve_int) (ve_callF h_size_of hr rfl C (va_cons (ve_ix (ve_var 0) (ve_int)) (va_nil)))) (ve_callF h_size_of hr rfl C (va_cons (ve_ix (ve_var 0) (ve_int)) (va_nil))))))
theorem all_size_of (t : Top K mg T) : ∀ k, Fn P w K mg base T k "size_of" 1 (m_size_of k)
  | 0 => fn_zero t.d_size_of rfl
  | k + 1 => fn_mk t.d_size_of sc_size_of (bd_size_of t (all_size_of t k))
abbrev s_keys_of : Stmt := top 30
abbrev N_keys_of : List Str := ["heap"]
theorem sc_keys_of : FnScope N_keys_of ["heap"] (defScope s_keys_of) := ⟨rfl, rfl, rfl, by decide +kernel, rfl, by decide +kernel, by decide +kernel⟩
theorem bd_keys_of {k : Nat} {c_check_heap : List SV → R} {c_row_from : List SV → R} (t : Top K mg T) (h_check_heap : Fn P w K mg base T k "check_heap" 1 c_check_heap) (h_row_from : Fn P w K mg base T k "row_from" 1 c_row_from) : Bd P w K mg base T k N_keys_of "keys_of" s_keys_of (b_keys_of c_check_heap c_row_from) := by
  intro f cdv A outer s0 H E B hr C po tk
  unfold b_keys_of
  exact vss_cons (vs_expr (ve_callF h_check_heap hr rfl C (va_cons (ve_var 0) (va_nil)))) (vss_one (vs_ret (ve_sorted ⟨rfl, t.b_sorted⟩ (ve_callF h_row_from hr rfl C (va_cons (ve_var 0) (va_nil))))))
theorem all_keys_of (t : Top K mg T) : ∀ k, Fn P w K mg base T k "keys_of" 1 (m_keys_of k)
  | 0 => fn_zero t.d_keys_of rfl
  | k + 1 => fn_mk t.d_keys_of sc_keys_of (bd_keys_of t (all_check_heap t k) (all_row_from t k))
abbrev s_check_both : Stmt := top 31
abbrev N_check_both : List Str := ["one", "other"]
theorem sc_check_both : FnScope N_check_both ["one", "other"] (defScope s_check_both) := ⟨rfl, rfl, rfl, by decide +kernel, rfl, by decide +kernel, by decide +kernel⟩
theorem bd_check_both {k : Nat} {c_check_heap : List SV → R} {c_size_of : List SV → R} (t : Top K mg T) (h_check_heap : Fn P w K mg base T k "check_heap" 1 c_check_heap) (h_size_of : Fn P w K mg base T k "size_of" 1 c_size_of) : Bd P w K mg base T k N_check_both "check_both" s_check_both (b_check_both c_check_heap c_size_of) := by
  obtain ⟨tk_MOST, h_MOST⟩ := t.k_MOST
  intro f cdv A outer s0 H E B hr C po tk
  unfold b_check_both
  exact vss_cons (vs_expr (ve_callF h_check_heap hr rfl C (va_cons (ve_var 0) (va_nil)))) (vss_cons (vs_expr (ve_callF h_check_heap hr rfl C (va_cons (ve_var 1) (va_nil)))) (vss_one (vs_if (vt_cm c_gt (ve_add (ve_callF h_size_of hr rfl C (va_cons (ve_var 0) (va_nil))) (ve_callF h_size_of hr rfl C (va_cons (ve_var 1) (va_nil)))) (ve_gint rfl h_MOST)) (vss_one (vs_raiseE C tk t.e_TooMany rfl)) (vss_nil))))
theorem all_check_both (t : Top K mg T) : ∀ k, Fn P w K mg base T k "check_both" 2 (m_check_both k)
  | 0 => fn_zero t.d_check_both rfl
  | k + 1 => fn_mk t.d_check_both sc_check_both (bd_check_both t (all_check_heap t k) (all_size_of t k))
abbrev s_check_leaning : Stmt := top 33
abbrev N_check_leaning : List Str := ["heap"]
theorem sc_check_leaning : FnScope N_check_leaning ["heap"] (defScope s_check_leaning) := ⟨rfl, rfl, rfl, by decide +kernel, rfl, by decide +kernel, by decide +kernel⟩
theorem bd_check_leaning {k : Nat} {c_slanting : List SV → R} (t : Top K mg T) (h_slanting : Fn P w K mg base T k "slanting" 2 c_slanting) : Bd P w K mg base T k N_check_leaning "check_leaning" s_check_leaning (b_check_leaning c_slanting) := by
  intro f cdv A outer s0 H E B hr C po tk
  unfold b_check_leaning
  exact vss_one (vs_if (vt_cm (c_ne C) (ve_callF h_slanting hr rfl C (va_cons (ve_var 0) (va_cons (ve_lst (va_nil)) (va_nil)))) (ve_lst (va_nil))) (vss_one (vs_raiseE C tk t.e_NotLeaning rfl)) (vss_nil))
theorem all_check_leaning (t : Top K mg T) : ∀ k, Fn P w K mg base T k "check_leaning" 1 (m_check_leaning k)
  | 0 => fn_zero t.d_check_leaning rfl
  | k + 1 => fn_mk t.d_check_leaning sc_check_leaning (bd_check_leaning t (all_slanting t k))
abbrev s_rank : Stmt := top 34
abbrev N_rank : List Str := ["heap"]
theorem sc_rank : FnScope N_rank ["heap"] (defScope s_rank) := ⟨rfl, rfl, rfl, by decide +kernel, rfl, by decide +kernel, by decide +kernel⟩
theorem bd_rank {k : Nat} {c_check_heap : List SV → R} {c_rank_of : List SV → R} (t : Top K mg T) (h_check_heap : Fn P w K mg base T k "check_heap" 1 c_check_heap) (h_rank_of : Fn P w K mg base T k "rank_of" 1 c_rank_of) : Bd P w K mg base T k N_rank "rank" s_rank (b_rank c_check_heap c_rank_of) := by
  intro f cdv A outer s0 H E B hr C po tk
  unfold b_rank
  exact vss_cons (vs_expr (ve_callF h_check_heap hr rfl C (va_cons (ve_var 0) (va_nil)))) (vss_one (vs_ret (ve_callF h_rank_of hr rfl C (va_cons (ve_var 0) (va_nil)))))
theorem all_rank (t : Top K mg T) : ∀ k, Fn P w K mg base T k "rank" 1 (m_rank k)
  | 0 => fn_zero t.d_rank rfl
  | k + 1 => fn_mk t.d_rank sc_rank (bd_rank t (all_check_heap t k) (all_rank_of t k))
abbrev s_judged : Stmt := top 35
abbrev N_judged : List Str := ["heap", "found"]
theorem sc_judged : FnScope N_judged ["heap"] (defScope s_judged) := ⟨rfl, rfl, rfl, by decide +kernel, rfl, by decide +kernel, by decide +kernel⟩
theorem bd_judged {k : Nat} {c_check_heap : List SV → R} {c_slanting : List SV → R} {c_Slants : List FE → FE} (t : Top K mg T) (h_check_heap : Fn P w K mg base T k "check_heap" 1 c_check_heap) (h_slanting : Fn P w K mg base T k "slanting" 2 c_slanting) (h_Slants : FnN P w K mg base T k 1 c_Slants) : Bd P w K mg base T k N_judged "judged" s_judged (b_judged c_check_heap c_slanting c_Slants) := by
  intro f cdv A outer s0 H E B hr C po tk
  unfold b_judged
  exact vss_cons (vs_expr (ve_callF h_check_heap hr rfl C (va_cons (ve_var 0) (va_nil)))) (vss_cons (vs_set 1 C (ve_callF h_slanting hr rfl C (va_cons (ve_var 0) (va_cons (ve_lst (va_nil)) (va_nil))))) (vss_one (vs_ret (ve_if (vt_cm (c_eq C) (ve_var 1) (ve_lst (va_nil))) (ve_new0 0 t.c_Leans t.z_Leans rfl) (ve_new t.c_Slants h_Slants hr rfl C (va_cons (ve_ix (ve_var 1) (ve_int)) (va_nil)))))))
theorem all_judged (t : Top K mg T) : ∀ k, Fn P w K mg base T k "judged" 1 (m_judged k)
  | 0 => fn_zero t.d_judged rfl
  | k + 1 => fn_mk t.d_judged sc_judged (bd_judged t (all_check_heap t k) (all_slanting t k) (all_Slants t k))
abbrev s_leaning_knot : Stmt := top 36
abbrev N_leaning_knot : List Str := ["left", "key", "right"]
theorem sc_leaning_knot : FnScope N_leaning_knot ["left", "key", "right"] (defScope s_leaning_knot) := ⟨rfl, rfl, rfl, by decide +kernel, rfl, by decide +kernel, by decide +kernel⟩
theorem bd_leaning_knot {k : Nat} {c_rank_of : List SV → R} (t : Top K mg T) (h_rank_of : Fn P w K mg base T k "rank_of" 1 c_rank_of) : Bd P w K mg base T k N_leaning_knot "leaning_knot" s_leaning_knot (b_leaning_knot c_rank_of) := by
  intro f cdv A outer s0 H E B hr C po tk
  unfold b_leaning_knot
  exact vss_cons (vs_if (vt_cm c_lt (ve_callF h_rank_of hr rfl C (va_cons (ve_var 0) (va_nil))) (ve_callF h_rank_of hr rfl C (va_cons (ve_var 2) (va_nil)))) (vss_one (vs_ret (ve_tup (va_cons (ve_var 2) (va_cons (ve_var 1) (va_cons (ve_var 0) (va_nil))))))) (vss_nil)) (vss_one (vs_ret (ve_tup (va_cons (ve_var 0) (va_cons (ve_var 1) (va_cons (ve_var 2) (va_nil)))))))
theorem all_leaning_knot (t : Top K mg T) : ∀ k, Fn P w K mg base T k "leaning_knot" 3 (m_leaning_knot k)
  | 0 => fn_zero t.d_leaning_knot rfl
  | k + 1 => fn_mk t.d_leaning_knot sc_leaning_knot (bd_leaning_knot t (all_rank_of t k))
abbrev s_joinL : Stmt := top 37
abbrev N_joinL : List Str := ["one", "other"]
theorem sc_joinL : FnScope N_joinL ["one", "other"] (defScope s_joinL) := ⟨rfl, rfl, rfl, by decide +kernel, rfl, by decide +kernel, by decide +kernel⟩
theorem bd_joinL {k : Nat} {c_joinL : List SV → R} {c_leaning_knot : List SV → R} (t : Top K mg T) (h_joinL : Fn P w K mg base T k "joined_of_leaning" 2 c_joinL) (h_leaning_knot : Fn P w K mg base T k "leaning_knot" 3 c_leaning_knot) : Bd P w K mg base T k N_joinL "joined_of" s_joinL (b_joinL c_joinL c_leaning_knot) := by
  intro f cdv A outer s0 H E B hr C po tk
  unfold b_joinL
  exact vss_cons (vs_if (vt_w (vw_or (vt_cm (c_eq C) (ve_var 0) (ve_tup (va_nil))) (vw_or1 (vt_cm (c_eq C) (ve_var 1) (ve_tup (va_nil)))))) (vss_one (vs_ret (ve_if (vt_cm (c_eq C) (ve_var 1) (ve_tup (va_nil))) (ve_var 0) (ve_var 1)))) (vss_nil)) (vss_cons (vs_if (vt_cm c_lt (ve_ix (ve_var 1) (ve_int)) (ve_ix (ve_var 0) (ve_int))) (vss_one (vs_par2 0 1 false false C (ve_var 1) (ve_var 0))) (vss_nil)) (vss_one (vs_ret (ve_callF h_leaning_knot hr rfl C (va_cons (ve_ix (ve_var 0) (ve_int)) (va_cons (ve_ix (ve_var 0) (ve_int)) (va_cons (ve_callF h_joinL hr rfl C (va_cons (ve_ix (ve_var 0) (ve_int)) (va_cons (ve_var 1) (va_nil)))) (va_nil))))))))
theorem all_joinL (t : Top K mg T) : ∀ k, Fn P w K mg base T k "joined_of_leaning" 2 (m_joinL k)
  | 0 => fn_zero t.d_joinL rfl
  | k + 1 => fn_mk t.d_joinL sc_joinL (bd_joinL t (all_joinL t k) (all_leaning_knot t k))
abbrev s_lean_join : Stmt := top 39
abbrev N_lean_join : List Str := ["one", "other"]
theorem sc_lean_join : FnScope N_lean_join ["one", "other"] (defScope s_lean_join) := ⟨rfl, rfl, rfl, by decide +kernel, rfl, by decide +kernel, by decide +kernel⟩
theorem bd_lean_join {k : Nat} {c_check_both : List SV → R} {c_check_leaning : List SV → R} {c_joinL : List SV → R} (t : Top K mg T) (h_check_both : Fn P w K mg base T k "check_both" 2 c_check_both) (h_check_leaning : Fn P w K mg base T k "check_leaning" 1 c_check_leaning) (h_joinL : Fn P w K mg base T k "joined_of_leaning" 2 c_joinL) : Bd P w K mg base T k N_lean_join "lean_join" s_lean_join (b_lean_join c_check_both c_check_leaning c_joinL) := by
  intro f cdv A outer s0 H E B hr C po tk
  unfold b_lean_join
  exact vss_cons (vs_expr (ve_callF h_check_both hr rfl C (va_cons (ve_var 0) (va_cons (ve_var 1) (va_nil))))) (vss_cons (vs_expr (ve_callF h_check_leaning hr rfl C (va_cons (ve_var 0) (va_nil)))) (vss_cons (vs_expr (ve_callF h_check_leaning hr rfl C (va_cons (ve_var 1) (va_nil)))) (vss_one (vs_ret (ve_callF h_joinL hr rfl C (va_cons (ve_var 0) (va_cons (ve_var 1) (va_nil))))))))
theorem all_lean_join (t : Top K mg T) : ∀ k, Fn P w K mg base T k "lean_join" 2 (m_lean_join k)
  | 0 => fn_zero t.d_lean_join rfl
  | k + 1 => fn_mk t.d_lean_join sc_lean_join (bd_lean_join t (all_check_both t k) (all_check_leaning t k) (all_joinL t k))
abbrev s_lean_take : Stmt := top 40
abbrev N_lean_take : List Str := ["heap"]
theorem sc_lean_take : FnScope N_lean_take ["heap"] (defScope s_lean_take) := ⟨rfl, rfl, rfl, by decide +kernel, rfl, by decide +kernel, by decide +kernel⟩
theorem bd_lean_take {k : Nat} {c_check_heap : List SV → R} {c_check_leaning : List SV → R} {c_joinL : List SV → R} (t : Top K mg T) (h_check_heap : Fn P w K mg base T k "check_heap" 1 c_check_heap) (h_check_leaning : Fn P w K mg base T k "check_leaning" 1 c_check_leaning) (h_joinL : Fn P w K mg base T k "joined_of_leaning" 2 c_joinL) : Bd P w K mg base T k N_lean_take "lean_take" s_lean_take (b_lean_take c_check_heap c_check_leaning c_joinL) := by
  intro f cdv A outer s0 H E B hr C po tk
  unfold b_lean_take
  exact vss_cons (vs_expr (ve_callF h_check_heap hr rfl C (va_cons (ve_var 0) (va_nil)))) (vss_cons (vs_expr (ve_callF h_check_leaning hr rfl C (va_cons (ve_var 0) (va_nil)))) (vss_cons (vs_if (vt_cm (c_eq C) (ve_var 0) (ve_tup (va_nil))) (vss_one (vs_raiseE C tk t.e_Empty rfl)) (vss_nil)) (vss_one (vs_ret (ve_tup (va_cons (ve_ix (ve_var 0) (ve_int)) (va_cons (ve_callF h_joinL hr rfl C (va_cons (ve_ix (ve_var 0) (ve_int)) (va_cons (ve_ix (ve_var 0) (ve_int)) (va_nil)))) (va_nil))))))))
theorem all_lean_take (t : Top K mg T) : ∀ k, Fn P w K mg base T k "lean_take" 1 (m_lean_take k)
  | 0 => fn_zero t.d_lean_take rfl
  | k + 1 => fn_mk t.d_lean_take sc_lean_take (bd_lean_take t (all_check_heap t k) (all_check_leaning t k) (all_joinL t k))
abbrev s_lean_of : Stmt := top 41
abbrev N_lean_of : List Str := ["keys", "waiting", "key"]
theorem sc_lean_of : FnScope N_lean_of ["keys"] (defScope s_lean_of) := ⟨rfl, rfl, rfl, by decide +kernel, rfl, by decide +kernel, by decide +kernel⟩
theorem bd_lean_of {k : Nat} {c_check_keys : List SV → R} {c_joinL : List SV → R} (t : Top K mg T) (h_check_keys : Fn P w K mg base T k "check_keys" 1 c_check_keys) (h_joinL : Fn P w K mg base T k "joined_of_leaning" 2 c_joinL) : Bd P w K mg base T k N_lean_of "lean_of" s_lean_of (b_lean_of c_check_keys c_joinL) := by
  intro f cdv A outer s0 H E B hr C po tk
  unfold b_lean_of p_lean_of_2 p_lean_of_1
  exact vss_cons (vs_expr (ve_callF h_check_keys hr rfl C (va_cons (ve_var 0) (va_nil)))) (vss_cons (vs_setLc 1 (own := [("key", 2)]) C (vi_list (ve_var 0)) (blkOk_by (N := N_lean_of) (sc := defScope s_lean_of) (by decide +kernel)) tr_name (fun _ _ _ _ _ => pg_name (i := 2) C.nd rfl (by first | exact Or.inl rfl | exact Or.inr rfl)) (fun _ _ _ _ _ => vts_nil) (fun _ _ _ _ _ => ve_tup (va_cons (ve_tup (va_nil)) (va_cons (ve_var 2) (va_cons (ve_tup (va_nil)) (va_nil)))))) (vss_cons (vs_while WF po (vt_cm c_gt (ve_len ⟨rfl, t.b_len⟩ (ve_var 1)) (ve_int)) (vss_one (vs_set 1 C (ve_add (ve_slL (ve_var 1) (ve_int)) (ve_lst (va_cons (ve_callF h_joinL hr rfl C (va_cons (ve_ix (ve_var 1) (ve_int)) (va_cons (ve_ix (ve_var 1) (ve_int)) (va_nil)))) (va_nil))))))) (vss_one (vs_ret (ve_if (vt_cm (c_ne C) (ve_var 1) (ve_lst (va_nil))) (ve_ix (ve_var 1) (ve_int)) (ve_tup (va_nil)))))))
theorem all_lean_of (t : Top K mg T) : ∀ k, Fn P w K mg base T k "lean_of" 1 (m_lean_of k)
  | 0 => fn_zero t.d_lean_of rfl
  | k + 1 => fn_mk t.d_lean_of sc_lean_of (bd_lean_of t (all_check_keys t k) (all_joinL t k))
abbrev s_leaned : Stmt := top 42
abbrev N_leaned : List Str := ["heap", "ways"]
theorem sc_leaned : FnScope N_leaned ["heap"] (defScope s_leaned) := ⟨rfl, rfl, rfl, by decide +kernel, rfl, by decide +kernel, by decide +kernel⟩
theorem bd_leaned {k : Nat} {c_check_heap : List SV → R} {c_slanting : List SV → R} {c_exchanged : List SV → R} {c_Leaned : List FE → FE} (t : Top K mg T) (h_check_heap : Fn P w K mg base T k "check_heap" 1 c_check_heap) (h_slanting : Fn P w K mg base T k "slanting" 2 c_slanting) (h_exchanged : Fn P w K mg base T k "exchanged" 3 c_exchanged) (h_Leaned : FnN P w K mg base T k 2 c_Leaned) : Bd P w K mg base T k N_leaned "leaned" s_leaned (b_leaned c_check_heap c_slanting c_exchanged c_Leaned) := by
  intro f cdv A outer s0 H E B hr C po tk
  unfold b_leaned
  exact vss_cons (vs_expr (ve_callF h_check_heap hr rfl C (va_cons (ve_var 0) (va_nil)))) (vss_cons (vs_set 1 C (ve_sortedD C ⟨rfl, t.b_sorted⟩ (ve_callF h_slanting hr rfl C (va_cons (ve_var 0) (va_cons (ve_lst (va_nil)) (va_nil)))))) (vss_one (vs_ret (ve_new t.c_Leaned h_Leaned hr rfl C (va_cons (ve_callF h_exchanged hr rfl C (va_cons (ve_var 0) (va_cons (ve_lst (va_nil)) (va_cons (ve_var 1) (va_nil))))) (va_cons (ve_var 1) (va_nil)))))))
theorem all_leaned (t : Top K mg T) : ∀ k, Fn P w K mg base T k "leaned" 1 (m_leaned k)
  | 0 => fn_zero t.d_leaned rfl
  | k + 1 => fn_mk t.d_leaned sc_leaned (bd_leaned t (all_check_heap t k) (all_slanting t k) (all_exchanged t k) (all_Leaned t k))
abbrev s_heap_from : Stmt := top 44
abbrev N_heap_from : List Str := ["row", "at"]
theorem sc_heap_from : FnScope N_heap_from ["row"] (defScope s_heap_from) := ⟨rfl, rfl, rfl, by decide +kernel, rfl, by decide +kernel, by decide +kernel⟩
theorem bd_heap_from {k : Nat} {c_heap_from : List SV → R} (t : Top K mg T) (h_heap_from : Fn P w K mg base T k "heap_from" 1 c_heap_from) : Bd P w K mg base T k N_heap_from "heap_from" s_heap_from (b_heap_from c_heap_from) := by
  intro f cdv A outer s0 H E B hr C po tk
  unfold b_heap_from
  exact vss_cons (vs_if (vt_cm (c_eq C) (ve_var 0) (ve_lst (va_nil))) (vss_one (vs_ret (ve_tup (va_nil)))) (vss_nil)) (vss_cons (vs_set 1 C (ve_index (ve_var 0) (ve_min1 C ⟨rfl, t.b_min⟩ (ve_var 0)))) (vss_one (vs_ret (ve_tup (va_cons (ve_callF h_heap_from hr rfl C (va_cons (ve_slH (ve_var 0) (ve_var 1)) (va_nil))) (va_cons (ve_ix (ve_var 0) (ve_var 1)) (va_cons (ve_callF h_heap_from hr rfl C (va_cons (ve_slL (ve_var 0) (ve_add (ve_var 1) (ve_int))) (va_nil))) (va_nil))))))))
theorem all_heap_from (t : Top K mg T) : ∀ k, Fn P w K mg base T k "heap_from" 1 (m_heap_from k)
  | 0 => fn_zero t.d_heap_from rfl
  | k + 1 => fn_mk t.d_heap_from sc_heap_from (bd_heap_from t (all_heap_from t k))
abbrev s_heap_of : Stmt := top 45
abbrev N_heap_of : List Str := ["row"]
theorem sc_heap_of : FnScope N_heap_of ["row"] (defScope s_heap_of) := ⟨rfl, rfl, rfl, by decide +kernel, rfl, by decide +kernel, by decide +kernel⟩
theorem bd_heap_of {k : Nat} {c_check_keys : List SV → R} {c_heap_from : List SV → R} (t : Top K mg T) (h_check_keys : Fn P w K mg base T k "check_keys" 1 c_check_keys) (h_heap_from : Fn P w K mg base T k "heap_from" 1 c_heap_from) : Bd P w K mg base T k N_heap_of "heap_of" s_heap_of (b_heap_of c_check_keys c_heap_from) := by
  intro f cdv A outer s0 H E B hr C po tk
  unfold b_heap_of
  exact vss_cons (vs_expr (ve_callF h_check_keys hr rfl C (va_cons (ve_var 0) (va_nil)))) (vss_cons (vs_if (vt_cm (c_ne C) (ve_lenSetD C ⟨rfl, t.b_len⟩ ⟨rfl, t.b_set⟩ (ve_var 0)) (ve_len ⟨rfl, t.b_len⟩ (ve_var 0))) (vss_one (vs_raiseE C tk t.e_BadKey rfl)) (vss_nil)) (vss_one (vs_ret (ve_callF h_heap_from hr rfl C (va_cons (ve_var 0) (va_nil))))))
theorem all_heap_of (t : Top K mg T) : ∀ k, Fn P w K mg base T k "heap_of" 1 (m_heap_of k)
  | 0 => fn_zero t.d_heap_of rfl
  | k + 1 => fn_mk t.d_heap_of sc_heap_of (bd_heap_of t (all_check_keys t k) (all_heap_from t k))
abbrev s_row_of : Stmt := top 46
abbrev N_row_of : List Str := ["heap"]
theorem sc_row_of : FnScope N_row_of ["heap"] (defScope s_row_of) := ⟨rfl, rfl, rfl, by decide +kernel, rfl, by decide +kernel, by decide +kernel⟩
theorem bd_row_of {k : Nat} {c_check_heap : List SV → R} {c_row_from : List SV → R} (t : Top K mg T) (h_check_heap : Fn P w K mg base T k "check_heap" 1 c_check_heap) (h_row_from : Fn P w K mg base T k "row_from" 1 c_row_from) : Bd P w K mg base T k N_row_of "row_of" s_row_of (b_row_of c_check_heap c_row_from) := by
  intro f cdv A outer s0 H E B hr C po tk
  unfold b_row_of
  exact vss_cons (vs_expr (ve_callF h_check_heap hr rfl C (va_cons (ve_var 0) (va_nil)))) (vss_one (vs_ret (ve_callF h_row_from hr rfl C (va_cons (ve_var 0) (va_nil)))))
theorem all_row_of (t : Top K mg T) : ∀ k, Fn P w K mg base T k "row_of" 1 (m_row_of k)
  | 0 => fn_zero t.d_row_of rfl
  | k + 1 => fn_mk t.d_row_of sc_row_of (bd_row_of t (all_check_heap t k) (all_row_from t k))
abbrev s_sizes_of : Stmt := top 47
abbrev N_sizes_of : List Str := ["shape"]
theorem sc_sizes_of : FnScope N_sizes_of ["shape"] (defScope s_sizes_of) := ⟨rfl, rfl, rfl, by decide +kernel, rfl, by decide +kernel, by decide +kernel⟩
theorem bd_sizes_of {k : Nat} {c_sizes_of : List SV → R} {c_size_of : List SV → R} (t : Top K mg T) (h_sizes_of : Fn P w K mg base T k "sizes_of" 1 c_sizes_of) (h_size_of : Fn P w K mg base T k "size_of" 1 c_size_of) : Bd P w K mg base T k N_sizes_of "sizes_of" s_sizes_of (b_sizes_of c_sizes_of c_size_of) := by
  intro f cdv A outer s0 H E B hr C po tk
  unfold b_sizes_of
  exact vss_one (vs_ret (ve_if (vt_cm (c_eq C) (ve_var 0) (ve_tup (va_nil))) (ve_lst (va_nil)) (ve_add (ve_add (ve_callF h_sizes_of hr rfl C (va_cons (ve_ix (ve_var 0) (ve_int)) (va_nil))) (ve_lst (va_cons (ve_callF h_size_of hr rfl C (va_cons (ve_var 0) (va_nil))) (va_nil)))) (ve_callF h_sizes_of hr rfl C (va_cons (ve_ix (ve_var 0) (ve_int)) (va_nil))))))
theorem all_sizes_of (t : Top K mg T) : ∀ k, Fn P w K mg base T k "sizes_of" 1 (m_sizes_of k)
  | 0 => fn_zero t.d_sizes_of rfl
  | k + 1 => fn_mk t.d_sizes_of sc_sizes_of (bd_sizes_of t (all_sizes_of t k) (all_size_of t k))
abbrev s_how_many_rows : Stmt := top 48
abbrev N_how_many_rows : List Str := ["shape", "found", "sizes", "at", "size"]
theorem sc_how_many_rows : FnScope N_how_many_rows ["shape"] (defScope s_how_many_rows) := ⟨rfl, rfl, rfl, by decide +kernel, rfl, by decide +kernel, by decide +kernel⟩
theorem bd_how_many_rows {k : Nat} {c_is_form : List SV → R} {c_sizes_of : List SV → R} (t : Top K mg T) (h_is_form : Fn P w K mg base T k "is_form" 1 c_is_form) (h_sizes_of : Fn P w K mg base T k "sizes_of" 1 c_sizes_of) : Bd P w K mg base T k N_how_many_rows "how_many_rows" s_how_many_rows (b_how_many_rows c_is_form c_sizes_of) := by
  intro f cdv A outer s0 H E B hr C po tk
  unfold b_how_many_rows p_how_many_rows_2 p_how_many_rows_1
  exact vss_cons (vs_if (vt_not (vt_val (ve_callF h_is_form hr rfl C (va_cons (ve_var 0) (va_nil))))) (vss_one (vs_raiseE C tk t.e_BadShape rfl)) (vss_nil)) (vss_cons (vs_set 1 C (ve_int)) (vss_cons (vs_set 2 C (ve_callF h_sizes_of hr rfl C (va_cons (ve_var 0) (va_nil)))) (vss_cons (vs_for C po (vi_range1 ⟨rfl, t.b_range⟩ (va_cons (ve_len ⟨rfl, t.b_len⟩ (ve_var 2)) (va_nil))) tr_name (pg_name (i := 3) C.nd rfl (by first | exact Or.inl rfl | exact Or.inr rfl)) (vss_one (vs_set 1 C (ve_mul (ve_var 1) (ve_add (ve_var 3) (ve_int)))))) (vss_cons (vs_for C po (vi_list (ve_var 2)) tr_name (pg_name (i := 4) C.nd rfl (by first | exact Or.inl rfl | exact Or.inr rfl)) (vss_one (vs_set 1 C (ve_fdiv (ve_var 1) (ve_var 4))))) (vss_one (vs_ret (ve_var 1)))))))
theorem all_how_many_rows (t : Top K mg T) : ∀ k, Fn P w K mg base T k "how_many_rows" 1 (m_how_many_rows k)
  | 0 => fn_zero t.d_how_many_rows rfl
  | k + 1 => fn_mk t.d_how_many_rows sc_how_many_rows (bd_how_many_rows t (all_is_form t k) (all_sizes_of t k))
abbrev s_joinT : Stmt := top 50
abbrev N_joinT : List Str := ["one", "other", "side", "steps"]
theorem sc_joinT : FnScope N_joinT ["one", "other"] (defScope s_joinT) := ⟨rfl, rfl, rfl, by decide +kernel, rfl, by decide +kernel, by decide +kernel⟩
theorem bd_joinT {k : Nat} {c_joinT : List SV → R} (t : Top K mg T) (h_joinT : Fn P w K mg base T k "joined_of_turning" 2 c_joinT) : Bd P w K mg base T k N_joinT "joined_of" s_joinT (b_joinT c_joinT) := by
  intro f cdv A outer s0 H E B hr C po tk
  unfold b_joinT
  exact vss_cons (vs_if (vt_w (vw_or (vt_cm (c_eq C) (ve_var 0) (ve_tup (va_nil))) (vw_or1 (vt_cm (c_eq C) (ve_var 1) (ve_tup (va_nil)))))) (vss_one (vs_ret (ve_tup (va_cons (ve_if (vt_cm (c_eq C) (ve_var 1) (ve_tup (va_nil))) (ve_var 0) (ve_var 1)) (va_cons (ve_int) (va_nil)))))) (vss_nil)) (vss_cons (vs_if (vt_cm c_lt (ve_ix (ve_var 1) (ve_int)) (ve_ix (ve_var 0) (ve_int))) (vss_one (vs_par2 0 1 false false C (ve_var 1) (ve_var 0))) (vss_nil)) (vss_cons (vs_unp (ve_callF h_joinT hr rfl C (va_cons (ve_ix (ve_var 0) (ve_int)) (va_cons (ve_var 1) (va_nil)))) tr_2 (pg_tup rfl (pgs_cons (pg_name (i := 2) C.nd rfl (by first | exact Or.inl rfl | exact Or.inr rfl)) (pgs_cons (pg_name (i := 3) C.nd rfl (by first | exact Or.inl rfl | exact Or.inr rfl)) (pgs_nil))))) (vss_one (vs_ret (ve_tup (va_cons (ve_tup (va_cons (ve_var 2) (va_cons (ve_ix (ve_var 0) (ve_int)) (va_cons (ve_ix (ve_var 0) (ve_int)) (va_nil))))) (va_cons (ve_add (ve_var 3) (ve_int)) (va_nil))))))))
theorem all_joinT (t : Top K mg T) : ∀ k, Fn P w K mg base T k "joined_of_turning" 2 (m_joinT k)
  | 0 => fn_zero t.d_joinT rfl
  | k + 1 => fn_mk t.d_joinT sc_joinT (bd_joinT t (all_joinT t k))
abbrev s_turn_join : Stmt := top 52
abbrev N_turn_join : List Str := ["one", "other"]
theorem sc_turn_join : FnScope N_turn_join ["one", "other"] (defScope s_turn_join) := ⟨rfl, rfl, rfl, by decide +kernel, rfl, by decide +kernel, by decide +kernel⟩
theorem bd_turn_join {k : Nat} {c_check_both : List SV → R} {c_joinT : List SV → R} (t : Top K mg T) (h_check_both : Fn P w K mg base T k "check_both" 2 c_check_both) (h_joinT : Fn P w K mg base T k "joined_of_turning" 2 c_joinT) : Bd P w K mg base T k N_turn_join "turn_join" s_turn_join (b_turn_join c_check_both c_joinT) := by
  intro f cdv A outer s0 H E B hr C po tk
  unfold b_turn_join
  exact vss_cons (vs_expr (ve_callF h_check_both hr rfl C (va_cons (ve_var 0) (va_cons (ve_var 1) (va_nil))))) (vss_one (vs_ret (ve_callF h_joinT hr rfl C (va_cons (ve_var 0) (va_cons (ve_var 1) (va_nil))))))
theorem all_turn_join (t : Top K mg T) : ∀ k, Fn P w K mg base T k "turn_join" 2 (m_turn_join k)
  | 0 => fn_zero t.d_turn_join rfl
  | k + 1 => fn_mk t.d_turn_join sc_turn_join (bd_turn_join t (all_check_both t k) (all_joinT t k))
abbrev s_turn_take : Stmt := top 53
abbrev N_turn_take : List Str := ["heap", "found", "steps"]
theorem sc_turn_take : FnScope N_turn_take ["heap"] (defScope s_turn_take) := ⟨rfl, rfl, rfl, by decide +kernel, rfl, by decide +kernel, by decide +kernel⟩
theorem bd_turn_take {k : Nat} {c_check_heap : List SV → R} {c_joinT : List SV → R} (t : Top K mg T) (h_check_heap : Fn P w K mg base T k "check_heap" 1 c_check_heap) (h_joinT : Fn P w K mg base T k "joined_of_turning" 2 c_joinT) : Bd P w K mg base T k N_turn_take "turn_take" s_turn_take (b_turn_take c_check_heap c_joinT) := by
  intro f cdv A outer s0 H E B hr C po tk
  unfold b_turn_take
  exact vss_cons (vs_expr (ve_callF h_check_heap hr rfl C (va_cons (ve_var 0) (va_nil)))) (vss_cons (vs_if (vt_cm (c_eq C) (ve_var 0) (ve_tup (va_nil))) (vss_one (vs_raiseE C tk t.e_Empty rfl)) (vss_nil)) (vss_cons (vs_unp (ve_callF h_joinT hr rfl C (va_cons (ve_ix (ve_var 0) (ve_int)) (va_cons (ve_ix (ve_var 0) (ve_int)) (va_nil)))) tr_2 (pg_tup rfl (pgs_cons (pg_name (i := 1) C.nd rfl (by first | exact Or.inl rfl | exact Or.inr rfl)) (pgs_cons (pg_name (i := 2) C.nd rfl (by first | exact Or.inl rfl | exact Or.inr rfl)) (pgs_nil))))) (vss_one (vs_ret (ve_tup (va_cons (ve_ix (ve_var 0) (ve_int)) (va_cons (ve_var 1) (va_cons (ve_var 2) (va_nil)))))))))
theorem all_turn_take (t : Top K mg T) : ∀ k, Fn P w K mg base T k "turn_take" 1 (m_turn_take k)
  | 0 => fn_zero t.d_turn_take rfl
  | k + 1 => fn_mk t.d_turn_take sc_turn_take (bd_turn_take t (all_check_heap t k) (all_joinT t k))
abbrev s_purse_of : Stmt := top 54
abbrev N_purse_of : List Str := ["heap"]
theorem sc_purse_of : FnScope N_purse_of ["heap"] (defScope s_purse_of) := ⟨rfl, rfl, rfl, by decide +kernel, rfl, by decide +kernel, by decide +kernel⟩
theorem bd_purse_of {k : Nat} {c_size_of : List SV → R} {c_purse_of : List SV → R} (t : Top K mg T) (h_size_of : Fn P w K mg base T k "size_of" 1 c_size_of) (h_purse_of : Fn P w K mg base T k "purse_of" 1 c_purse_of) : Bd P w K mg base T k N_purse_of "purse_of" s_purse_of (b_purse_of c_size_of c_purse_of) := by
  intro f cdv A outer s0 H E B hr C po tk
  unfold b_purse_of
  exact vss_cons (vs_if (vt_cm (c_eq C) (ve_var 0) (ve_tup (va_nil))) (vss_one (vs_ret (ve_int))) (vss_nil)) (vss_one (vs_ret (ve_add (ve_add (ve_int1 ⟨rfl, t.b_int⟩ (ve_cm c_gt (ve_callF h_size_of hr rfl C (va_cons (ve_ix (ve_var 0) (ve_int)) (va_nil))) (ve_callF h_size_of hr rfl C (va_cons (ve_ix (ve_var 0) (ve_int)) (va_nil))))) (ve_callF h_purse_of hr rfl C (va_cons (ve_ix (ve_var 0) (ve_int)) (va_nil)))) (ve_callF h_purse_of hr rfl C (va_cons (ve_ix (ve_var 0) (ve_int)) (va_nil))))))
theorem all_purse_of (t : Top K mg T) : ∀ k, Fn P w K mg base T k "purse_of" 1 (m_purse_of k)
  | 0 => fn_zero t.d_purse_of rfl
  | k + 1 => fn_mk t.d_purse_of sc_purse_of (bd_purse_of t (all_size_of t k) (all_purse_of t k))
abbrev s_purse : Stmt := top 55
abbrev N_purse : List Str := ["heap"]
theorem sc_purse : FnScope N_purse ["heap"] (defScope s_purse) := ⟨rfl, rfl, rfl, by decide +kernel, rfl, by decide +kernel, by decide +kernel⟩
theorem bd_purse {k : Nat} {c_check_heap : List SV → R} {c_purse_of : List SV → R} (t : Top K mg T) (h_check_heap : Fn P w K mg base T k "check_heap" 1 c_check_heap) (h_purse_of : Fn P w K mg base T k "purse_of" 1 c_purse_of) : Bd P w K mg base T k N_purse "purse" s_purse (b_purse c_check_heap c_purse_of) := by
  intro f cdv A outer s0 H E B hr C po tk
  unfold b_purse
  exact vss_cons (vs_expr (ve_callF h_check_heap hr rfl C (va_cons (ve_var 0) (va_nil)))) (vss_one (vs_ret (ve_callF h_purse_of hr rfl C (va_cons (ve_var 0) (va_nil)))))
theorem all_purse (t : Top K mg T) : ∀ k, Fn P w K mg base T k "purse" 1 (m_purse k)
  | 0 => fn_zero t.d_purse rfl
  | k + 1 => fn_mk t.d_purse sc_purse (bd_purse t (all_check_heap t k) (all_purse_of t k))
abbrev s_l_kinds : Stmt := top 57
abbrev N_l_kinds : List Str := ["_law_error", "_law_found"]
theorem sc_l_kinds : FnScope N_l_kinds ["_law_error"] (defScope s_l_kinds) := ⟨rfl, rfl, rfl, by decide +kernel, rfl, by decide +kernel, by decide +kernel⟩
theorem all_l_kinds (t : Top K mg T) : ∀ k, FnKs P w K mg base T k "_law_kinds" ["BadHeap", "BadKey", "BadShape", "BadCount", "BadNumber", "BadPile", "NotLeaning", "Empty", "TooMany"] (fun cn => m_l_kinds cn k)
  | 0 => fnKs_zero t.d_l_kinds (fun _ => rfl)
  | k + 1 => fnKs_mk t.d_l_kinds rfl sc_l_kinds (fun oe cn hcn hz hfl f cdv A outer s0 H E B => by
    unfold b_l_kinds
    exact vss_cons (vs_setN 1 sc_l_kinds.nd (ve_lst (va_cons (ve_isEK 0 (t.x_l_kinds cn hcn) hz hfl (.head _) (.head _) ⟨rfl, t.b_isinstance⟩ rfl) (va_cons (ve_isEK 0 (t.x_l_kinds cn hcn) hz hfl (.head _) (.tail _ (.head _)) ⟨rfl, t.b_isinstance⟩ rfl) (va_cons (ve_isEK 0 (t.x_l_kinds cn hcn) hz hfl (.head _) (.tail _ (.tail _ (.head _))) ⟨rfl, t.b_isinstance⟩ rfl) (va_nil)))))) (vss_cons (vs_setN 1 sc_l_kinds.nd (ve_add (ve_var 1) (ve_lst (va_cons (ve_isEK 0 (t.x_l_kinds cn hcn) hz hfl (.head _) (.tail _ (.tail _ (.tail _ (.head _)))) ⟨rfl, t.b_isinstance⟩ rfl) (va_cons (ve_isEK 0 (t.x_l_kinds cn hcn) hz hfl (.head _) (.tail _ (.tail _ (.tail _ (.tail _ (.head _))))) ⟨rfl, t.b_isinstance⟩ rfl) (va_cons (ve_isEK 0 (t.x_l_kinds cn hcn) hz hfl (.head _) (.tail _ (.tail _ (.tail _ (.tail _ (.tail _ (.head _)))))) ⟨rfl, t.b_isinstance⟩ rfl) (va_nil))))))) (vss_cons (vs_setN 1 sc_l_kinds.nd (ve_add (ve_var 1) (ve_lst (va_cons (ve_isEK 0 (t.x_l_kinds cn hcn) hz hfl (.head _) (.tail _ (.tail _ (.tail _ (.tail _ (.tail _ (.tail _ (.head _))))))) ⟨rfl, t.b_isinstance⟩ rfl) (va_cons (ve_isEK 0 (t.x_l_kinds cn hcn) hz hfl (.head _) (.tail _ (.tail _ (.tail _ (.tail _ (.tail _ (.tail _ (.tail _ (.head _)))))))) ⟨rfl, t.b_isinstance⟩ rfl) (va_cons (ve_isEK 0 (t.x_l_kinds cn hcn) hz hfl (.head _) (.tail _ (.tail _ (.tail _ (.tail _ (.tail _ (.tail _ (.tail _ (.tail _ (.head _))))))))) ⟨rfl, t.b_isinstance⟩ rfl) (va_nil))))))) (vss_one (vs_ret (ve_add (ve_var 1) (ve_lst (va_cons (ve_isXK 0 (t.x_l_kinds cn hcn) (t.v_l_kinds cn hcn) hz hfl (.head _) ⟨rfl, t.b_isinstance⟩ ⟨rfl, t.b_ValueError⟩) (va_nil)))))))))
abbrev s_l_refused_k19 : Stmt := top 58
abbrev N_l_refused_k19 : List Str := ["_law_ask", "_law_thing", "_law_which", "_law_sorts", "_law_error", "_law_at"]
theorem sc_l_refused_k19 : FnScope N_l_refused_k19 ["_law_ask", "_law_thing", "_law_which"] (defScope s_l_refused_k19) := ⟨rfl, rfl, rfl, by decide +kernel, rfl, by decide +kernel, by decide +kernel⟩
theorem bd_l_refused_k19 {k : Nat} {c_ask : Nat → List SV → R} {c_kinds : Str → List SV → R} (t : Top K mg T) (h_ask : FnVs P w K mg base T k 1 c_ask) (h_kinds : ∀ ad : Addr, FnKs P w K mg base { T with xa := ad } k "_law_kinds" ["BadHeap", "BadKey", "BadShape", "BadCount", "BadNumber", "BadPile", "NotLeaning", "Empty", "TooMany"] c_kinds) : Bd P w K mg base T k N_l_refused_k19 "_law_refused" s_l_refused_k19 (b_l_refused_k19 c_ask c_kinds) := by
  intro f cdv A outer s0 H E B hr C po tk
  unfold b_l_refused_k19
  exact vss_cons (vs_set 3 C (ve_lst (va_nil))) (vss_cons (vs_tryV 4 0 C rfl rfl h_ask hr rfl t.x_l_refused_k19 (let ⟨cH, h1, _⟩ := (t.x_l_refused_k19 _ (.head _)).ct; ⟨cH, h1⟩) (fun pn xe => (va_cons (ve_var 1) (va_nil))) (fun ad oe pn cn hcn hz hfl => vss_one (vs_setN 3 C.nd (ve_callK 4 hr rfl (h_kinds ad) hcn hz hfl)))) (vss_one (vs_ret (ve_cm (c_eq C) (ve_var 3) (ve_add (ve_lc (own := [("_law_at", 5)]) C (vi_range1 ⟨rfl, t.b_range⟩ (va_cons (ve_int) (va_nil))) (blkOk_by (N := N_l_refused_k19) (sc := defScope s_l_refused_k19) (by decide +kernel)) tr_name (fun _ _ _ _ _ => pg_name (i := 5) C.nd rfl (by first | exact Or.inl rfl | exact Or.inr rfl)) (fun _ _ _ _ _ => vts_nil) (fun _ _ _ _ _ => ve_cm (c_eq C.blk) (ve_var 5) (ve_var 2))) (ve_lst (va_cons (ve_bl) (va_nil))))))))
theorem all_l_refused_k19 (t : Top K mg T) {k : Nat} {m : Nat → List SV → R} (h_ask : FnVs P w K mg base T k 1 m) : Fn P w K mg base T (k + 1) "_law_refused" 3 (m_l_refused_k19 m (k + 1)) := fn_mk t.d_l_refused_k19 sc_l_refused_k19 (bd_l_refused_k19 t h_ask (fun ad => all_l_kinds (t.cal T.fr T.fm T.tb T.gc ad) k))
abbrev s_l_all : Stmt := top 59
abbrev N_l_all : List Str := ["_law_asks", "_law_things", "_law_which", "_law_ask", "_law_thing"]
theorem sc_l_all : FnScope N_l_all ["_law_asks", "_law_things", "_law_which"] (defScope s_l_all) := ⟨rfl, rfl, rfl, by decide +kernel, rfl, by decide +kernel, by decide +kernel⟩
theorem bd_l_all {k : Nat} {c_l_refused_k19 : List SV → R} (t : Top K mg T) (h_l_refused_k19 : Fn P w K mg base T k "_law_refused" 3 c_l_refused_k19) : Bd P w K mg base T k N_l_all "_law_all" s_l_all (b_l_all c_l_refused_k19) := by
  intro f cdv A outer s0 H E B hr C po tk
  unfold b_l_all p_l_all_1
  exact vss_cons (vs_forQ C po (viC (EX := E0) (ve_var 0)) tr_C (pg_name (i := 3) C.nd rfl (by first | exact Or.inl rfl | exact Or.inr rfl)) (vss_one (vs_if (vt_not (vt_val (ve_all C ⟨rfl, t.b_all⟩ (ve_lcQ (own := [("_law_thing", 4)]) C (viT (EX := E0) (ve_var 1)) (blkOk_by (N := N_l_all) (sc := defScope s_l_all) (by decide +kernel)) tr_T (fun _ _ _ _ _ => pg_name (i := 4) C.nd rfl (by first | exact Or.inl rfl | exact Or.inr rfl)) (fun _ _ _ _ _ => ve_callF h_l_refused_k19 hr rfl C.blk (va_cons (ve_var 3) (va_cons (ve_var 4) (va_cons (ve_var 2) (va_nil))))))))) (vss_one (vs_ret (ve_bl))) (vss_nil)))) (vss_one (vs_ret (ve_bl)))
theorem all_l_all (t : Top K mg T) {k : Nat} {m : Nat → List SV → R} (h_ask : FnVs P w K mg base T k 1 m) : Fn P w K mg base T (k + 2) "_law_all" 3 (m_l_all m (k + 2)) := fn_mk t.d_l_all sc_l_all (bd_l_all t (all_l_refused_k19 t h_ask))
abbrev s_l_no_forms_k19 : Stmt := top 60
abbrev N_l_no_forms_k19 : List Str := ["_law_far", "_law_found", "_law_row", "_law_back", "_law_turn", "_law_long", "_law_wide"]
theorem sc_l_no_forms_k19 : FnScope N_l_no_forms_k19 ["_law_far"] (defScope s_l_no_forms_k19) := ⟨rfl, rfl, rfl, by decide +kernel, rfl, by decide +kernel, by decide +kernel⟩
theorem bd_l_no_forms_k19 {k : Nat} (t : Top K mg T) : Bd P w K mg base T k N_l_no_forms_k19 "_law_no_forms" s_l_no_forms_k19 (b_l_no_forms_k19) := by
  intro f cdv A outer s0 H E B hr C po tk
  unfold b_l_no_forms_k19 p_l_no_forms_k19_3 p_l_no_forms_k19_2 p_l_no_forms_k19_1
  exact vss_cons (vs_set 1 C (ve_lstT (va_cons (ve_non) (va_cons (ve_int) (va_cons (ve_str) (va_cons (ve_lst (va_nil)) (va_cons (ve_d0) (va_cons (ve_tup (va_cons (ve_int) (va_nil))) (va_cons (ve_tup (va_cons (ve_int) (va_cons (ve_int) (va_nil)))) (va_cons (ve_tup (va_cons (ve_tup (va_nil)) (va_cons (ve_int) (va_nil)))) (va_cons (ve_tup (va_cons (ve_tup (va_nil)) (va_cons (ve_int) (va_cons (ve_tup (va_nil)) (va_cons (ve_tup (va_nil)) (va_nil)))))) (va_cons (ve_lst (va_cons (ve_tup (va_nil)) (va_cons (ve_int) (va_cons (ve_tup (va_nil)) (va_nil))))) (va_cons (ve_tup (va_cons (ve_tup (va_nil)) (va_cons (ve_non) (va_cons (ve_tup (va_nil)) (va_nil))))) (va_nil)))))))))))))) (vss_cons (vs_set 1 C (ve_addT (ve_var 1) (ve_lst (va_cons (ve_tup (va_cons (ve_tup (va_nil)) (va_cons (ve_bl) (va_cons (ve_tup (va_nil)) (va_nil))))) (va_cons (ve_tup (va_cons (ve_tup (va_nil)) (va_cons (ve_str) (va_cons (ve_tup (va_nil)) (va_nil))))) (va_cons (ve_tup (va_cons (ve_lst (va_nil)) (va_cons (ve_int) (va_cons (ve_tup (va_nil)) (va_nil))))) (va_cons (ve_tup (va_cons (ve_tup (va_nil)) (va_cons (ve_int) (va_cons (ve_lst (va_nil)) (va_nil))))) (va_cons (ve_tup (va_cons (ve_non) (va_cons (ve_int) (va_cons (ve_tup (va_nil)) (va_nil))))) (va_cons (ve_tup (va_cons (ve_tup (va_nil)) (va_cons (ve_int) (va_cons (ve_var 0) (va_nil))))) (va_nil)))))))))) (vss_cons (vs_unp (ve_tup (va_cons (ve_tup (va_nil)) (va_cons (ve_tup (va_nil)) (va_nil)))) tr_2 (pg_tup rfl (pgs_cons (pg_name (i := 2) C.nd rfl (by first | exact Or.inl rfl | exact Or.inr rfl)) (pgs_cons (pg_name (i := 3) C.nd rfl (by first | exact Or.inl rfl | exact Or.inr rfl)) (pgs_nil))))) (vss_cons (vs_for C po (vi_range1 ⟨rfl, t.b_range⟩ (va_cons (ve_int) (va_nil))) tr_name (pg_name (i := 4) C.nd rfl (by first | exact Or.inl rfl | exact Or.inr rfl)) (vss_one (vs_par2 2 3 false false C (ve_tup (va_cons (ve_var 2) (va_cons (ve_neg (ve_var 4)) (va_cons (ve_tup (va_nil)) (va_nil))))) (ve_tup (va_cons (ve_tup (va_nil)) (va_cons (ve_neg (ve_var 0)) (va_cons (ve_var 3) (va_nil)))))))) (vss_cons (vs_unp (ve_tup (va_cons (ve_tup (va_nil)) (va_cons (ve_tup (va_nil)) (va_nil)))) tr_2 (pg_tup rfl (pgs_cons (pg_name (i := 5) C.nd rfl (by first | exact Or.inl rfl | exact Or.inr rfl)) (pgs_cons (pg_name (i := 6) C.nd rfl (by first | exact Or.inl rfl | exact Or.inr rfl)) (pgs_nil))))) (vss_cons (vs_for C po (vi_range1 ⟨rfl, t.b_range⟩ (va_cons (ve_if (vt_cm (c_eq C) (ve_var 0) (ve_int)) (ve_int) (ve_int)) (va_nil))) tr_name (pg_name (i := 4) C.nd rfl (by first | exact Or.inl rfl | exact Or.inr rfl)) (vss_one (vs_set 5 C (ve_tup (va_cons (ve_var 5) (va_cons (ve_neg (ve_var 4)) (va_cons (ve_tup (va_nil)) (va_nil)))))))) (vss_cons (vs_for C po (vi_range1 ⟨rfl, t.b_range⟩ (va_cons (ve_int) (va_nil))) tr_name (pg_name (i := 4) C.nd rfl (by first | exact Or.inl rfl | exact Or.inr rfl)) (vss_one (vs_set 6 C (ve_tup (va_cons (ve_var 6) (va_cons (ve_neg (ve_var 4)) (va_cons (ve_var 6) (va_nil)))))))) (vss_one (vs_ret (ve_addT (ve_var 1) (ve_lst (va_cons (ve_var 2) (va_cons (ve_var 3) (va_cons (ve_var 5) (va_cons (ve_var 6) (va_cons (ve_tup (va_cons (ve_tup (va_cons (ve_tup (va_nil)) (va_cons (ve_int) (va_cons (ve_tup (va_nil)) (va_nil))))) (va_cons (ve_int) (va_cons (ve_tup (va_cons (ve_non) (va_cons (ve_int) (va_cons (ve_tup (va_nil)) (va_nil))))) (va_nil))))) (va_cons (ve_tup (va_cons (ve_var 2) (va_cons (ve_neg (ve_int)) (va_cons (ve_tup (va_nil)) (va_nil))))) (va_nil)))))))))))))))))
theorem all_l_no_forms_k19 (t : Top K mg T) : ∀ k, Fn P w K mg base T k "_law_no_forms" 1 (m_l_no_forms_k19 k)
  | 0 => fn_zero t.d_l_no_forms_k19 rfl
  | k + 1 => fn_mk t.d_l_no_forms_k19 sc_l_no_forms_k19 (bd_l_no_forms_k19 t)
abbrev s_l_no_heaps : Stmt := top 61
abbrev N_l_no_heaps : List Str := ["_law_far", "_law_good", "_law_found"]
theorem sc_l_no_heaps : FnScope N_l_no_heaps ["_law_far"] (defScope s_l_no_heaps) := ⟨rfl, rfl, rfl, by decide +kernel, rfl, by decide +kernel, by decide +kernel⟩
theorem bd_l_no_heaps {k : Nat} {c_l_no_forms_k19 : List SV → R} (t : Top K mg T) (h_l_no_forms_k19 : Fn P w K mg base T k "_law_no_forms" 1 c_l_no_forms_k19) : Bd P w K mg base T k N_l_no_heaps "_law_no_heaps" s_l_no_heaps (b_l_no_heaps c_l_no_forms_k19) := by
  intro f cdv A outer s0 H E B hr C po tk
  unfold b_l_no_heaps
  exact vss_cons (vs_set 1 C (ve_tup (va_cons (ve_tup (va_cons (ve_tup (va_nil)) (va_cons (ve_int) (va_cons (ve_tup (va_nil)) (va_nil))))) (va_cons (ve_int) (va_cons (ve_tup (va_cons (ve_tup (va_nil)) (va_cons (ve_add (ve_int) (ve_var 0)) (va_cons (ve_tup (va_nil)) (va_nil))))) (va_nil)))))) (vss_cons (vs_set 2 C (ve_lst (va_cons (ve_tup (va_cons (ve_tup (va_nil)) (va_cons (ve_int) (va_cons (ve_tup (va_cons (ve_tup (va_nil)) (va_cons (ve_int) (va_cons (ve_tup (va_nil)) (va_nil))))) (va_nil))))) (va_cons (ve_tup (va_cons (ve_tup (va_cons (ve_tup (va_nil)) (va_cons (ve_neg (ve_var 0)) (va_cons (ve_tup (va_nil)) (va_nil))))) (va_cons (ve_int) (va_cons (ve_tup (va_nil)) (va_nil))))) (va_cons (ve_tup (va_cons (ve_var 1) (va_cons (ve_int) (va_cons (ve_tup (va_nil)) (va_nil))))) (va_cons (ve_tup (va_cons (ve_tup (va_nil)) (va_cons (ve_add (ve_int) (ve_var 0)) (va_cons (ve_var 1) (va_nil))))) (va_nil))))))) (vss_one (vs_ret (ve_addT (ve_addT (ve_callF h_l_no_forms_k19 hr rfl C (va_cons (ve_var 0) (va_nil))) (ve_var 2)) (ve_lst (va_cons (ve_tup (va_cons (ve_tup (va_cons (ve_var 1) (va_cons (ve_int) (va_cons (ve_tup (va_cons (ve_tup (va_nil)) (va_cons (ve_int) (va_cons (ve_tup (va_nil)) (va_nil))))) (va_nil))))) (va_cons (ve_int) (va_cons (ve_var 1) (va_nil))))) (va_cons (ve_tup (va_cons (ve_tup (va_nil)) (va_cons (ve_int) (va_cons (ve_tup (va_cons (ve_tup (va_nil)) (va_cons (ve_int) (va_cons (ve_tup (va_cons (ve_tup (va_nil)) (va_cons (ve_int) (va_cons (ve_tup (va_nil)) (va_nil))))) (va_nil))))) (va_nil))))) (va_nil))))))))
theorem all_l_no_heaps (t : Top K mg T) : ∀ k, Fn P w K mg base T k "_law_no_heaps" 1 (m_l_no_heaps k)
  | 0 => fn_zero t.d_l_no_heaps rfl
  | k + 1 => fn_mk t.d_l_no_heaps sc_l_no_heaps (bd_l_no_heaps t (all_l_no_forms_k19 t k))
abbrev s_l_no_rows : Stmt := top 62
abbrev N_l_no_rows : List Str := ["_law_far", "_law_found"]
theorem sc_l_no_rows : FnScope N_l_no_rows ["_law_far"] (defScope s_l_no_rows) := ⟨rfl, rfl, rfl, by decide +kernel, rfl, by decide +kernel, by decide +kernel⟩
theorem bd_l_no_rows {k : Nat} (t : Top K mg T) : Bd P w K mg base T k N_l_no_rows "_law_no_rows" s_l_no_rows (b_l_no_rows) := by
  intro f cdv A outer s0 H E B hr C po tk
  unfold b_l_no_rows
  exact vss_cons (vs_set 1 C (ve_lstT (va_cons (ve_non) (va_cons (ve_int) (va_cons (ve_str) (va_cons (ve_tup (va_nil)) (va_cons (ve_tup (va_cons (ve_int) (va_cons (ve_int) (va_nil)))) (va_cons (ve_d0) (va_cons (ve_lst (va_cons (ve_non) (va_nil))) (va_cons (ve_lst (va_cons (ve_int) (va_cons (ve_str) (va_nil)))) (va_cons (ve_lst (va_cons (ve_bl) (va_nil))) (va_cons (ve_lst (va_cons (ve_int) (va_cons (ve_bl) (va_nil)))) (va_cons (ve_lst (va_cons (ve_lst (va_cons (ve_int) (va_nil))) (va_nil))) (va_cons (ve_mul (ve_lst (va_cons (ve_int) (va_nil))) (ve_int)) (va_nil))))))))))))))) (vss_one (vs_ret (ve_addT (ve_var 1) (ve_lst (va_cons (ve_mul (ve_lst (va_cons (ve_var 0) (va_nil))) (ve_add (ve_int) (ve_mod (ve_var 0) (ve_int)))) (va_nil))))))
theorem all_l_no_rows (t : Top K mg T) : ∀ k, Fn P w K mg base T k "_law_no_rows" 1 (m_l_no_rows k)
  | 0 => fn_zero t.d_l_no_rows rfl
  | k + 1 => fn_mk t.d_l_no_rows sc_l_no_rows (bd_l_no_rows t)
abbrev s_l_chain : Stmt := top 63
abbrev N_l_chain : List Str := ["_law_many", "_law_first", "_law_found", "_law_turn"]
theorem sc_l_chain : FnScope N_l_chain ["_law_many", "_law_first"] (defScope s_l_chain) := ⟨rfl, rfl, rfl, by decide +kernel, rfl, by decide +kernel, by decide +kernel⟩
theorem bd_l_chain {k : Nat} (t : Top K mg T) : Bd P w K mg base T k N_l_chain "_law_chain" s_l_chain (b_l_chain) := by
  intro f cdv A outer s0 H E B hr C po tk
  unfold b_l_chain p_l_chain_1
  exact vss_cons (vs_set 2 C (ve_tup (va_nil))) (vss_cons (vs_for C po (vi_range1 ⟨rfl, t.b_range⟩ (va_cons (ve_var 0) (va_nil))) tr_name (pg_name (i := 3) C.nd rfl (by first | exact Or.inl rfl | exact Or.inr rfl)) (vss_one (vs_set 2 C (ve_tup (va_cons (ve_var 2) (va_cons (ve_sub (ve_var 1) (ve_var 3)) (va_cons (ve_tup (va_nil)) (va_nil)))))))) (vss_one (vs_ret (ve_var 2))))
theorem all_l_chain (t : Top K mg T) : ∀ k, Fn P w K mg base T k "_law_chain" 2 (m_l_chain k)
  | 0 => fn_zero t.d_l_chain rfl
  | k + 1 => fn_mk t.d_l_chain sc_l_chain (bd_l_chain t)
abbrev s_l_heaps_right_k19 : Stmt := top 64
abbrev N_l_heaps_right_k19 : List Str := ["_law_far", "_law_slant", "_law_asks"]
theorem sc_l_heaps_right_k19 : FnScope N_l_heaps_right_k19 ["_law_far"] (defScope s_l_heaps_right_k19) := ⟨rfl, rfl, rfl, by decide +kernel, rfl, by decide +kernel, by decide +kernel⟩
theorem bd_l_heaps_right_k19 : ∃ tab : List CS, ∀ {P : Program} {w : World} {K : PySem.W.Frag} {mg : Str → Option Value} {base : Heap} {T : Ct} {k : Nat} {c_G_keys_of : List SV → R} {c_G_row_of : List SV → R} {c_G_rank : List SV → R} {c_G_judged : List SV → R} {c_G_leaned : List SV → R} {c_G_lean_take : List SV → R} {c_G_turn_take : List SV → R} {c_G_purse : List SV → R} {c_W_lean_join : List SV → R} {c_W_turn_join : List SV → R} {c_l_no_heaps : List SV → R} {c_L_l_all : (Nat → List SV → R) → List SV → R} (t : Top K mg T) (h_G_keys_of : ∀ (B' : Heap) (T' : Ct), Top K mg T' → Fn P w K mg B' T' (k + 1) "keys_of" 1 c_G_keys_of) (h_G_row_of : ∀ (B' : Heap) (T' : Ct), Top K mg T' → Fn P w K mg B' T' (k + 1) "row_of" 1 c_G_row_of) (h_G_rank : ∀ (B' : Heap) (T' : Ct), Top K mg T' → Fn P w K mg B' T' (k + 1) "rank" 1 c_G_rank) (h_G_judged : ∀ (B' : Heap) (T' : Ct), Top K mg T' → Fn P w K mg B' T' (k + 1) "judged" 1 c_G_judged) (h_G_leaned : ∀ (B' : Heap) (T' : Ct), Top K mg T' → Fn P w K mg B' T' (k + 1) "leaned" 1 c_G_leaned) (h_G_lean_take : ∀ (B' : Heap) (T' : Ct), Top K mg T' → Fn P w K mg B' T' (k + 1) "lean_take" 1 c_G_lean_take) (h_G_turn_take : ∀ (B' : Heap) (T' : Ct), Top K mg T' → Fn P w K mg B' T' (k + 1) "turn_take" 1 c_G_turn_take) (h_G_purse : ∀ (B' : Heap) (T' : Ct), Top K mg T' → Fn P w K mg B' T' (k + 1) "purse" 1 c_G_purse) (h_W_lean_join : ∀ (B' : Heap) (T' : Ct), Top K mg T' → Fn P w K mg B' T' k "lean_join" 2 c_W_lean_join) (h_W_turn_join : ∀ (B' : Heap) (T' : Ct), Top K mg T' → Fn P w K mg B' T' k "turn_join" 2 c_W_turn_join) (h_l_no_heaps : Fn P w K mg base T (k + 3) "_law_no_heaps" 1 c_l_no_heaps) (h_L_l_all : ∀ (B' : Heap) (fr : Nat → Addr → Prop) (G' : Hp) (m1 : Nat → List SV → R), FnVs P w K mg B' (T.cal fr G') (k + 1) 1 m1 → Fn P w K mg B' (T.cal fr G') (k + 3) "_law_all" 3 (c_L_l_all m1)), BdM P w K mg base T (k + 3) N_l_heaps_right_k19 "_law_heaps_right" s_l_heaps_right_k19 tab (b_l_heaps_right_k19 c_G_keys_of c_G_row_of c_G_rank c_G_judged c_G_leaned c_G_lean_take c_G_turn_take c_G_purse c_W_lean_join c_W_turn_join c_l_no_heaps c_L_l_all) := by
  refine ⟨[.glob "keys_of", .glob "row_of", .glob "rank", .glob "judged", .glob "leaned", .glob "lean_take", .glob "turn_take", .glob "purse", .lam (lamD "_law_one" ["_law_slant"] [1] (kid (kid (ndS (defBody s_l_heaps_right_k19) 1) 0) 8)), .lam (lamD "_law_two" ["_law_slant"] [1] (kid (kid (kid (ndS (defBody s_l_heaps_right_k19) 2) 0) 1) 0)), .lam (lamD "_law_this" [] [] (kid (kid (kid (ndS (defBody s_l_heaps_right_k19) 2) 0) 1) 1)), .lam (lamD "_law_that" [] [] (kid (kid (kid (ndS (defBody s_l_heaps_right_k19) 3) 0) 1) 0)), .lam (lamD "_law_here" [] [] (kid (kid (kid (ndS (defBody s_l_heaps_right_k19) 3) 0) 1) 1)), .lam (lamD "_law_one" [] [] (kid (kid (ndS (defBody s_l_heaps_right_k19) 4) 0) 0))], ?_⟩
  intro P w K mg base T k c_G_keys_of c_G_row_of c_G_rank c_G_judged c_G_leaned c_G_lean_take c_G_turn_take c_G_purse c_W_lean_join c_W_turn_join c_l_no_heaps c_L_l_all t h_G_keys_of h_G_row_of h_G_rank h_G_judged h_G_leaned h_G_lean_take h_G_turn_take h_G_purse h_W_lean_join h_W_turn_join h_l_no_heaps h_L_l_all
  intro f c Pt A outer s0 H E B TB hP hr hT C po tk
  unfold b_l_heaps_right_k19
  exact vss_cons (vs_set 1 C (ve_tup (va_cons (ve_tup (va_nil)) (va_cons (ve_int) (va_cons (ve_tup (va_cons (ve_tup (va_nil)) (va_cons (ve_int) (va_cons (ve_tup (va_nil)) (va_nil))))) (va_nil)))))) (vss_cons (vs_set 2 C (ve_lstC (va_cons (ve_cglob (n := 0) hT rfl rfl (let ⟨g, h, _⟩ := df_at t.d_keys_of; ⟨g, h⟩)) (va_cons (ve_cglob (n := 1) hT rfl rfl (let ⟨g, h, _⟩ := df_at t.d_row_of; ⟨g, h⟩)) (va_cons (ve_cglob (n := 2) hT rfl rfl (let ⟨g, h, _⟩ := df_at t.d_rank; ⟨g, h⟩)) (va_cons (ve_cglob (n := 3) hT rfl rfl (let ⟨g, h, _⟩ := df_at t.d_judged; ⟨g, h⟩)) (va_cons (ve_cglob (n := 4) hT rfl rfl (let ⟨g, h, _⟩ := df_at t.d_leaned; ⟨g, h⟩)) (va_cons (ve_cglob (n := 5) hT rfl rfl (let ⟨g, h, _⟩ := df_at t.d_lean_take; ⟨g, h⟩)) (va_cons (ve_cglob (n := 6) hT rfl rfl (let ⟨g, h, _⟩ := df_at t.d_turn_take; ⟨g, h⟩)) (va_cons (ve_cglob (n := 7) hT rfl rfl (let ⟨g, h, _⟩ := df_at t.d_purse; ⟨g, h⟩)) (va_cons (ve_lam (n := 8) (L := (lamD "_law_one" ["_law_slant"] [1] (kid (kid (ndS (defBody s_l_heaps_right_k19) 1) 0) 8))) hT rfl TB rfl hP (lamOk_by (N := N_l_heaps_right_k19) (sc := defScope s_l_heaps_right_k19) (p := "_law_one") (ys := ["_law_slant"]) (js := [1]) (by decide +kernel)).fr) (va_nil)))))))))))) (vss_cons (vs_set 2 C (ve_addC (ve_var 2) (ve_lstC (va_cons (ve_lam (n := 9) (L := (lamD "_law_two" ["_law_slant"] [1] (kid (kid (kid (ndS (defBody s_l_heaps_right_k19) 2) 0) 1) 0))) hT rfl TB rfl hP (lamOk_by (N := N_l_heaps_right_k19) (sc := defScope s_l_heaps_right_k19) (p := "_law_two") (ys := ["_law_slant"]) (js := [1]) (by decide +kernel)).fr) (va_cons (ve_lam (n := 10) (L := (lamD "_law_this" [] [] (kid (kid (kid (ndS (defBody s_l_heaps_right_k19) 2) 0) 1) 1))) hT rfl TB rfl hP (lamOk_by (N := N_l_heaps_right_k19) (sc := defScope s_l_heaps_right_k19) (p := "_law_this") (ys := []) (js := []) (by decide +kernel)).fr) (va_nil)))))) (vss_setAppC 2 C (ve_var 2) (ve_lstC (va_cons (ve_lam (n := 11) (L := (lamD "_law_that" [] [] (kid (kid (kid (ndS (defBody s_l_heaps_right_k19) 3) 0) 1) 0))) hT rfl TB rfl hP (lamOk_by (N := N_l_heaps_right_k19) (sc := defScope s_l_heaps_right_k19) (p := "_law_that") (ys := []) (js := []) (by decide +kernel)).fr) (va_cons (ve_lam (n := 12) (L := (lamD "_law_here" [] [] (kid (kid (kid (ndS (defBody s_l_heaps_right_k19) 3) 0) 1) 1))) hT rfl TB rfl hP (lamOk_by (N := N_l_heaps_right_k19) (sc := defScope s_l_heaps_right_k19) (p := "_law_here") (ys := []) (js := []) (by decide +kernel)).fr) (va_nil)))) (ve_lam (n := 13) (L := (lamD "_law_one" [] [] (kid (kid (ndS (defBody s_l_heaps_right_k19) 4) 0) 0))) hT rfl TB rfl hP (lamOk_by (N := N_l_heaps_right_k19) (sc := defScope s_l_heaps_right_k19) (p := "_law_one") (ys := []) (js := []) (by decide +kernel)).fr) (vss_one (vs_ret (ve_callA (k := k) C hr rfl (df_at t.d_l_all) h_L_l_all rfl hT (.cons (⟨_, rfl, fun B' fr G' kin f hf => fnV_of t.d_keys_of (h_G_keys_of B' _ (t.cal (fun n g _ => fr n g) (fun _ _ _ _ _ h => h) [] G' T.xa)) kin hf⟩) (.cons (⟨_, rfl, fun B' fr G' kin f hf => fnV_of t.d_row_of (h_G_row_of B' _ (t.cal (fun n g _ => fr n g) (fun _ _ _ _ _ h => h) [] G' T.xa)) kin hf⟩) (.cons (⟨_, rfl, fun B' fr G' kin f hf => fnV_of t.d_rank (h_G_rank B' _ (t.cal (fun n g _ => fr n g) (fun _ _ _ _ _ h => h) [] G' T.xa)) kin hf⟩) (.cons (⟨_, rfl, fun B' fr G' kin f hf => fnV_of t.d_judged (h_G_judged B' _ (t.cal (fun n g _ => fr n g) (fun _ _ _ _ _ h => h) [] G' T.xa)) kin hf⟩) (.cons (⟨_, rfl, fun B' fr G' kin f hf => fnV_of t.d_leaned (h_G_leaned B' _ (t.cal (fun n g _ => fr n g) (fun _ _ _ _ _ h => h) [] G' T.xa)) kin hf⟩) (.cons (⟨_, rfl, fun B' fr G' kin f hf => fnV_of t.d_lean_take (h_G_lean_take B' _ (t.cal (fun n g _ => fr n g) (fun _ _ _ _ _ h => h) [] G' T.xa)) kin hf⟩) (.cons (⟨_, rfl, fun B' fr G' kin f hf => fnV_of t.d_turn_take (h_G_turn_take B' _ (t.cal (fun n g _ => fr n g) (fun _ _ _ _ _ h => h) [] G' T.xa)) kin hf⟩) (.cons (⟨_, rfl, fun B' fr G' kin f hf => fnV_of t.d_purse (h_G_purse B' _ (t.cal (fun n g _ => fr n g) (fun _ _ _ _ _ h => h) [] G' T.xa)) kin hf⟩) (.cons (⟨_, rfl, (lamOk_by (N := N_l_heaps_right_k19) (sc := defScope s_l_heaps_right_k19) (p := "_law_one") (ys := ["_law_slant"]) (js := [1]) (by decide +kernel)), (fun _ _ _ _ _ us hl => match us, hl with | [_], _ => rfl), fun B' f1 c1 fr G' q cl A1 ou1 s1 H1 E1 Bd1 hr C => ve_callF (h_W_lean_join B' _ (t.cal (fun n g _ => fr n g) (fun _ _ _ _ _ h => h) [] G' T.xa)) hr rfl C (va_cons (ve_var 0) (va_cons (ve_var 1) (va_nil)))⟩) (.cons (⟨_, rfl, (lamOk_by (N := N_l_heaps_right_k19) (sc := defScope s_l_heaps_right_k19) (p := "_law_two") (ys := ["_law_slant"]) (js := [1]) (by decide +kernel)), (fun _ _ _ _ _ us hl => match us, hl with | [_], _ => rfl), fun B' f1 c1 fr G' q cl A1 ou1 s1 H1 E1 Bd1 hr C => ve_callF (h_W_lean_join B' _ (t.cal (fun n g _ => fr n g) (fun _ _ _ _ _ h => h) [] G' T.xa)) hr rfl C (va_cons (ve_var 1) (va_cons (ve_var 0) (va_nil)))⟩) (.cons (⟨_, rfl, (lamOk_by (N := N_l_heaps_right_k19) (sc := defScope s_l_heaps_right_k19) (p := "_law_this") (ys := []) (js := []) (by decide +kernel)), (fun _ _ _ _ _ us hl => match us, hl with | [_], _ => rfl), fun B' f1 c1 fr G' q cl A1 ou1 s1 H1 E1 Bd1 hr C => ve_callF (h_W_lean_join B' _ (t.cal (fun n g _ => fr n g) (fun _ _ _ _ _ h => h) [] G' T.xa)) hr rfl C (va_cons (ve_var 0) (va_cons (ve_non) (va_nil)))⟩) (.cons (⟨_, rfl, (lamOk_by (N := N_l_heaps_right_k19) (sc := defScope s_l_heaps_right_k19) (p := "_law_that") (ys := []) (js := []) (by decide +kernel)), (fun _ _ _ _ _ us hl => match us, hl with | [_], _ => rfl), fun B' f1 c1 fr G' q cl A1 ou1 s1 H1 E1 Bd1 hr C => ve_callF (h_W_turn_join B' _ (t.cal (fun n g _ => fr n g) (fun _ _ _ _ _ h => h) [] G' T.xa)) hr rfl C (va_cons (ve_var 0) (va_cons (ve_non) (va_nil)))⟩) (.cons (⟨_, rfl, (lamOk_by (N := N_l_heaps_right_k19) (sc := defScope s_l_heaps_right_k19) (p := "_law_here") (ys := []) (js := []) (by decide +kernel)), (fun _ _ _ _ _ us hl => match us, hl with | [_], _ => rfl), fun B' f1 c1 fr G' q cl A1 ou1 s1 H1 E1 Bd1 hr C => ve_callF (h_W_turn_join B' _ (t.cal (fun n g _ => fr n g) (fun _ _ _ _ _ h => h) [] G' T.xa)) hr rfl C (va_cons (ve_tup (va_nil)) (va_cons (ve_var 0) (va_nil)))⟩) (.cons (⟨_, rfl, (lamOk_by (N := N_l_heaps_right_k19) (sc := defScope s_l_heaps_right_k19) (p := "_law_one") (ys := []) (js := []) (by decide +kernel)), (fun _ _ _ _ _ us hl => match us, hl with | [_], _ => rfl), fun B' f1 c1 fr G' q cl A1 ou1 s1 H1 E1 Bd1 hr C => ve_callF (h_W_turn_join B' _ (t.cal (fun n g _ => fr n g) (fun _ _ _ _ _ h => h) [] G' T.xa)) hr rfl C (va_cons (ve_var 0) (va_cons (ve_tup (va_nil)) (va_nil)))⟩) (.nil))))))))))))))) (va_cons (ve_var 2) (va_cons (ve_callF h_l_no_heaps hr rfl C (va_cons (ve_var 0) (va_nil))) (va_cons (ve_int) (va_nil))))))))))
theorem all_l_heaps_right_k19 (t : Top K mg T) (tm : TopM K mg base T) : ∀ k, Fn P w K mg base T k "_law_heaps_right" 1 (m_l_heaps_right_k19 k)
  | 0 => fn_no t.d_l_heaps_right_k19 rfl
  | 1 => fn_no t.d_l_heaps_right_k19 rfl
  | 2 => fn_no t.d_l_heaps_right_k19 rfl
  | 3 => fn_no t.d_l_heaps_right_k19 rfl
  | k + 4 => fn_mkM t.d_l_heaps_right_k19 tm.mt_l_heaps_right_k19 sc_l_heaps_right_k19 (let ⟨tab, h⟩ := bd_l_heaps_right_k19; ⟨tab, fun fr0 fm0 => have t0 := t.cal fr0 fm0 T.tb T.gc T.xa; have tm0 : TopM K mg base { T with fr := fr0, fm := fm0 } := ⟨tm.mt_l_heaps_right_k19, tm.mt_law_k19⟩; h t0 (fun B' T' t' => all_keys_of t' (k + 1)) (fun B' T' t' => all_row_of t' (k + 1)) (fun B' T' t' => all_rank t' (k + 1)) (fun B' T' t' => all_judged t' (k + 1)) (fun B' T' t' => all_leaned t' (k + 1)) (fun B' T' t' => all_lean_take t' (k + 1)) (fun B' T' t' => all_turn_take t' (k + 1)) (fun B' T' t' => all_purse t' (k + 1)) (fun B' T' t' => all_lean_join t' k) (fun B' T' t' => all_turn_join t' k) (all_l_no_heaps t0 (k + 3)) (fun B' fr G' m1 V => all_l_all (t0.cal (fun n g _ => fr n g) (fun _ _ _ _ _ h => h) [] G' T.xa) V)⟩)
abbrev s_l_rows_right_k19 : Stmt := top 65
abbrev N_l_rows_right_k19 : List Str := ["_law_far"]
theorem sc_l_rows_right_k19 : FnScope N_l_rows_right_k19 ["_law_far"] (defScope s_l_rows_right_k19) := ⟨rfl, rfl, rfl, by decide +kernel, rfl, by decide +kernel, by decide +kernel⟩
theorem bd_l_rows_right_k19 : ∃ tab : List CS, ∀ {P : Program} {w : World} {K : PySem.W.Frag} {mg : Str → Option Value} {base : Heap} {T : Ct} {k : Nat} {c_G_heap_of : List SV → R} {c_G_lean_of : List SV → R} {c_l_no_rows : List SV → R} {c_L_l_all : (Nat → List SV → R) → List SV → R} {c_G_how_many_rows : List SV → R} {c_l_no_forms_k19 : List SV → R} (t : Top K mg T) (h_G_heap_of : ∀ (B' : Heap) (T' : Ct), Top K mg T' → Fn P w K mg B' T' (k + 1) "heap_of" 1 c_G_heap_of) (h_G_lean_of : ∀ (B' : Heap) (T' : Ct), Top K mg T' → Fn P w K mg B' T' (k + 1) "lean_of" 1 c_G_lean_of) (h_l_no_rows : Fn P w K mg base T (k + 3) "_law_no_rows" 1 c_l_no_rows) (h_L_l_all : ∀ (B' : Heap) (fr : Nat → Addr → Prop) (G' : Hp) (m1 : Nat → List SV → R), FnVs P w K mg B' (T.cal fr G') (k + 1) 1 m1 → Fn P w K mg B' (T.cal fr G') (k + 3) "_law_all" 3 (c_L_l_all m1)) (h_G_how_many_rows : ∀ (B' : Heap) (T' : Ct), Top K mg T' → Fn P w K mg B' T' (k + 1) "how_many_rows" 1 c_G_how_many_rows) (h_l_no_forms_k19 : Fn P w K mg base T (k + 3) "_law_no_forms" 1 c_l_no_forms_k19), BdN P w K mg base T (k + 3) N_l_rows_right_k19 "_law_rows_right" s_l_rows_right_k19 tab (b_l_rows_right_k19 c_G_heap_of c_G_lean_of c_l_no_rows c_L_l_all c_G_how_many_rows c_l_no_forms_k19) := by
  refine ⟨[.glob "heap_of", .glob "lean_of", .glob "how_many_rows"], ?_⟩
  intro P w K mg base T k c_G_heap_of c_G_lean_of c_l_no_rows c_L_l_all c_G_how_many_rows c_l_no_forms_k19 t h_G_heap_of h_G_lean_of h_l_no_rows h_L_l_all h_G_how_many_rows h_l_no_forms_k19
  intro f cdv A outer s0 H E B hr hT C po tk
  unfold b_l_rows_right_k19
  exact vss_cons (vs_if (vt_not (vt_val (ve_callA (k := k) C hr rfl (df_at t.d_l_all) h_L_l_all rfl hT (.cons (⟨_, rfl, fun B' fr G' kin f hf => fnV_of t.d_heap_of (h_G_heap_of B' _ (t.cal (fun n g _ => fr n g) (fun _ _ _ _ _ h => h) [] G' T.xa)) kin hf⟩) (.cons (⟨_, rfl, fun B' fr G' kin f hf => fnV_of t.d_lean_of (h_G_lean_of B' _ (t.cal (fun n g _ => fr n g) (fun _ _ _ _ _ h => h) [] G' T.xa)) kin hf⟩) (.cons (⟨_, rfl, fun B' fr G' kin f hf => fnV_of t.d_how_many_rows (h_G_how_many_rows B' _ (t.cal (fun n g _ => fr n g) (fun _ _ _ _ _ h => h) [] G' T.xa)) kin hf⟩) (.nil)))) (va_cons (ve_lstC (va_cons (ve_cglob (n := 0) hT rfl rfl (let ⟨g, h, _⟩ := df_at t.d_heap_of; ⟨g, h⟩)) (va_cons (ve_cglob (n := 1) hT rfl rfl (let ⟨g, h, _⟩ := df_at t.d_lean_of; ⟨g, h⟩)) (va_nil)))) (va_cons (ve_callF h_l_no_rows hr rfl C (va_cons (ve_var 0) (va_nil))) (va_cons (ve_int) (va_nil))))))) (vss_one (vs_ret (ve_bl))) (vss_nil)) (vss_cons (vs_if (vt_not (vt_val (ve_callA (k := k) C hr rfl (df_at t.d_l_all) h_L_l_all rfl hT (.cons (⟨_, rfl, fun B' fr G' kin f hf => fnV_of t.d_heap_of (h_G_heap_of B' _ (t.cal (fun n g _ => fr n g) (fun _ _ _ _ _ h => h) [] G' T.xa)) kin hf⟩) (.cons (⟨_, rfl, fun B' fr G' kin f hf => fnV_of t.d_lean_of (h_G_lean_of B' _ (t.cal (fun n g _ => fr n g) (fun _ _ _ _ _ h => h) [] G' T.xa)) kin hf⟩) (.cons (⟨_, rfl, fun B' fr G' kin f hf => fnV_of t.d_how_many_rows (h_G_how_many_rows B' _ (t.cal (fun n g _ => fr n g) (fun _ _ _ _ _ h => h) [] G' T.xa)) kin hf⟩) (.nil)))) (va_cons (ve_lstC (va_cons (ve_cglob (n := 0) hT rfl rfl (let ⟨g, h, _⟩ := df_at t.d_heap_of; ⟨g, h⟩)) (va_nil))) (va_cons (ve_lst (va_cons (ve_lst (va_cons (ve_int) (va_cons (ve_int) (va_nil)))) (va_cons (ve_lst (va_cons (ve_var 0) (va_cons (ve_int) (va_cons (ve_var 0) (va_nil))))) (va_cons (ve_lst (va_cons (ve_int) (va_cons (ve_int) (va_cons (ve_non) (va_nil))))) (va_nil))))) (va_cons (ve_int) (va_nil))))))) (vss_one (vs_ret (ve_bl))) (vss_nil)) (vss_one (vs_ret (ve_callA (k := k) C hr rfl (df_at t.d_l_all) h_L_l_all rfl hT (.cons (⟨_, rfl, fun B' fr G' kin f hf => fnV_of t.d_heap_of (h_G_heap_of B' _ (t.cal (fun n g _ => fr n g) (fun _ _ _ _ _ h => h) [] G' T.xa)) kin hf⟩) (.cons (⟨_, rfl, fun B' fr G' kin f hf => fnV_of t.d_lean_of (h_G_lean_of B' _ (t.cal (fun n g _ => fr n g) (fun _ _ _ _ _ h => h) [] G' T.xa)) kin hf⟩) (.cons (⟨_, rfl, fun B' fr G' kin f hf => fnV_of t.d_how_many_rows (h_G_how_many_rows B' _ (t.cal (fun n g _ => fr n g) (fun _ _ _ _ _ h => h) [] G' T.xa)) kin hf⟩) (.nil)))) (va_cons (ve_lstC (va_cons (ve_cglob (n := 2) hT rfl rfl (let ⟨g, h, _⟩ := df_at t.d_how_many_rows; ⟨g, h⟩)) (va_nil))) (va_cons (ve_callF h_l_no_forms_k19 hr rfl C (va_cons (ve_var 0) (va_nil))) (va_cons (ve_int) (va_nil))))))))
theorem all_l_rows_right_k19 (t : Top K mg T) (tm : TopM K mg base T) : ∀ k, Fn P w K mg base T k "_law_rows_right" 1 (m_l_rows_right_k19 k)
  | 0 => fn_no t.d_l_rows_right_k19 rfl
  | 1 => fn_no t.d_l_rows_right_k19 rfl
  | 2 => fn_no t.d_l_rows_right_k19 rfl
  | 3 => fn_no t.d_l_rows_right_k19 rfl
  | k + 4 => fn_mkN t.d_l_rows_right_k19 sc_l_rows_right_k19 (let ⟨tab, h⟩ := bd_l_rows_right_k19; ⟨tab, fun fr0 fm0 => have t0 := t.cal fr0 fm0 T.tb T.gc T.xa; have tm0 : TopM K mg base { T with fr := fr0, fm := fm0 } := ⟨tm.mt_l_heaps_right_k19, tm.mt_law_k19⟩; h t0 (fun B' T' t' => all_heap_of t' (k + 1)) (fun B' T' t' => all_lean_of t' (k + 1)) (all_l_no_rows t0 (k + 3)) (fun B' fr G' m1 V => all_l_all (t0.cal (fun n g _ => fr n g) (fun _ _ _ _ _ h => h) [] G' T.xa) V) (fun B' T' t' => all_how_many_rows t' (k + 1)) (all_l_no_forms_k19 t0 (k + 3))⟩)
abbrev s_law_k19 : Stmt := top 66
abbrev N_law_k19 : List Str := ["_law_script", "_law_cell", "_law_far", "_law_one", "_law_other", "_law_slant", "_law_asks"]
theorem sc_law_k19 : FnScope N_law_k19 ["_law_script"] (defScope s_law_k19) := ⟨rfl, rfl, rfl, by decide +kernel, rfl, by decide +kernel, by decide +kernel⟩
theorem bd_law_k19 : ∃ tab : List CS, ∀ {P : Program} {w : World} {K : PySem.W.Frag} {mg : Str → Option Value} {base : Heap} {T : Ct} {k : Nat} {c_l_heaps_right_k19 : List SV → R} {c_l_rows_right_k19 : List SV → R} {c_l_chain : List SV → R} {c_W_lean_join : List SV → R} {c_W_turn_join : List SV → R} {c_L_l_all : (Nat → List SV → R) → List SV → R} {c_G_lean_take : List SV → R} {c_G_turn_take : List SV → R} {c_rank : List SV → R} {c_how_many_rows : List SV → R} {c_lean_of : List SV → R} (t : Top K mg T) (h_l_heaps_right_k19 : Fn P w K mg base T (k + 3) "_law_heaps_right" 1 c_l_heaps_right_k19) (h_l_rows_right_k19 : Fn P w K mg base T (k + 3) "_law_rows_right" 1 c_l_rows_right_k19) (h_l_chain : Fn P w K mg base T (k + 3) "_law_chain" 2 c_l_chain) (h_W_lean_join : ∀ (B' : Heap) (T' : Ct), Top K mg T' → Fn P w K mg B' T' k "lean_join" 2 c_W_lean_join) (h_W_turn_join : ∀ (B' : Heap) (T' : Ct), Top K mg T' → Fn P w K mg B' T' k "turn_join" 2 c_W_turn_join) (h_L_l_all : ∀ (B' : Heap) (fr : Nat → Addr → Prop) (G' : Hp) (m1 : Nat → List SV → R), FnVs P w K mg B' (T.cal fr G') (k + 1) 1 m1 → Fn P w K mg B' (T.cal fr G') (k + 3) "_law_all" 3 (c_L_l_all m1)) (h_G_lean_take : ∀ (B' : Heap) (T' : Ct), Top K mg T' → Fn P w K mg B' T' (k + 1) "lean_take" 1 c_G_lean_take) (h_G_turn_take : ∀ (B' : Heap) (T' : Ct), Top K mg T' → Fn P w K mg B' T' (k + 1) "turn_take" 1 c_G_turn_take) (h_rank : Fn P w K mg base T (k + 3) "rank" 1 c_rank) (h_how_many_rows : Fn P w K mg base T (k + 3) "how_many_rows" 1 c_how_many_rows) (h_lean_of : Fn P w K mg base T (k + 3) "lean_of" 1 c_lean_of), BdM P w K mg base T (k + 3) N_law_k19 "law" s_law_k19 tab (b_law_k19 c_l_heaps_right_k19 c_l_rows_right_k19 c_l_chain c_W_lean_join c_W_turn_join c_L_l_all c_G_lean_take c_G_turn_take c_rank c_how_many_rows c_lean_of) := by
  refine ⟨[.lam (lamD "_law_pair" [] [] (kid (kid (kid (ndS (defBody s_law_k19) 0) 4) 0) 0)), .lam (lamD "_law_both" [] [] (kid (kid (kid (ndS (defBody s_law_k19) 0) 4) 0) 1)), .lam (lamD "_law_low" [] [] (kid (kid (kid (ndS (defBody s_law_k19) 0) 6) 0) 0)), .lam (lamD "_law_high" ["_law_one"] [3] (kid (kid (kid (ndS (defBody s_law_k19) 0) 6) 0) 1)), .glob "lean_take", .glob "turn_take"], ?_⟩
  intro P w K mg base T k c_l_heaps_right_k19 c_l_rows_right_k19 c_l_chain c_W_lean_join c_W_turn_join c_L_l_all c_G_lean_take c_G_turn_take c_rank c_how_many_rows c_lean_of t h_l_heaps_right_k19 h_l_rows_right_k19 h_l_chain h_W_lean_join h_W_turn_join h_L_l_all h_G_lean_take h_G_turn_take h_rank h_how_many_rows h_lean_of
  intro f c Pt A outer s0 H E B TB hP hr hT C po tk
  unfold b_law_k19 p_law_k19_1
  exact vss_cons (vs_for C po (vi_list (ve_add (ve_lst (va_cons (ve_int) (va_nil))) (ve_slH (ve_var 0) (ve_int)))) tr_name (pg_name (i := 1) C.nd rfl (by first | exact Or.inl rfl | exact Or.inr rfl)) (vss_cons (vs_set 2 C (ve_mod (ve_abs ⟨rfl, t.b_abs⟩ (ve_var 1)) (ve_pow (ve_int) (ve_int)))) (vss_cons (vs_if (vt_w (vw_or (vt_not (vt_val (ve_callF h_l_heaps_right_k19 hr rfl C (va_cons (ve_var 2) (va_nil))))) (vw_or1 (vt_not (vt_val (ve_callF h_l_rows_right_k19 hr rfl C (va_cons (ve_var 2) (va_nil)))))))) (vss_one (vs_ret (ve_bl))) (vss_nil)) (vss_cons (vs_unp (ve_tup (va_cons (ve_callF h_l_chain hr rfl C (va_cons (ve_int) (va_cons (ve_var 2) (va_nil)))) (va_cons (ve_callF h_l_chain hr rfl C (va_cons (ve_int) (va_cons (ve_var 2) (va_nil)))) (va_cons (ve_tup (va_cons (ve_tup (va_nil)) (va_cons (ve_int) (va_cons (ve_tup (va_cons (ve_tup (va_nil)) (va_cons (ve_int) (va_cons (ve_tup (va_nil)) (va_nil))))) (va_nil))))) (va_nil))))) tr_3 (pg_tup rfl (pgs_cons (pg_name (i := 3) C.nd rfl (by first | exact Or.inl rfl | exact Or.inr rfl)) (pgs_cons (pg_name (i := 4) C.nd rfl (by first | exact Or.inl rfl | exact Or.inr rfl)) (pgs_cons (pg_name (i := 5) C.nd rfl (by first | exact Or.inl rfl | exact Or.inr rfl)) (pgs_nil)))))) (vss_cons (vs_set 6 C (ve_lstC (va_cons (ve_lam (n := 0) (L := (lamD "_law_pair" [] [] (kid (kid (kid (ndS (defBody s_law_k19) 0) 4) 0) 0))) hT rfl TB rfl hP (lamOk_by (N := N_law_k19) (sc := defScope s_law_k19) (p := "_law_pair") (ys := []) (js := []) (by decide +kernel)).fr) (va_cons (ve_lam (n := 1) (L := (lamD "_law_both" [] [] (kid (kid (kid (ndS (defBody s_law_k19) 0) 4) 0) 1))) hT rfl TB rfl hP (lamOk_by (N := N_law_k19) (sc := defScope s_law_k19) (p := "_law_both") (ys := []) (js := []) (by decide +kernel)).fr) (va_nil))))) (vss_cons (vs_if (vt_not (vt_val (ve_callA (k := k) C hr rfl (df_at t.d_l_all) h_L_l_all rfl hT (.cons (⟨_, rfl, (lamOk_by (N := N_law_k19) (sc := defScope s_law_k19) (p := "_law_pair") (ys := []) (js := []) (by decide +kernel)), (fun _ _ _ _ _ us hl => match us, hl with | [_], _ => rfl), fun B' f1 c1 fr G' q cl A1 ou1 s1 H1 E1 Bd1 hr C => ve_callF (h_W_lean_join B' _ (t.cal (fun n g _ => fr n g) (fun _ _ _ _ _ h => h) [] G' T.xa)) hr rfl C (va_cons (ve_ix (ve_var 0) (ve_int)) (va_cons (ve_ix (ve_var 0) (ve_int)) (va_nil)))⟩) (.cons (⟨_, rfl, (lamOk_by (N := N_law_k19) (sc := defScope s_law_k19) (p := "_law_both") (ys := []) (js := []) (by decide +kernel)), (fun _ _ _ _ _ us hl => match us, hl with | [_], _ => rfl), fun B' f1 c1 fr G' q cl A1 ou1 s1 H1 E1 Bd1 hr C => ve_callF (h_W_turn_join B' _ (t.cal (fun n g _ => fr n g) (fun _ _ _ _ _ h => h) [] G' T.xa)) hr rfl C (va_cons (ve_ix (ve_var 0) (ve_int)) (va_cons (ve_ix (ve_var 0) (ve_int)) (va_nil)))⟩) (.cons (⟨_, rfl, (lamOk_by (N := N_law_k19) (sc := defScope s_law_k19) (p := "_law_low") (ys := []) (js := []) (by decide +kernel)), (fun _ _ _ _ _ us hl => match us, hl with | [_], _ => rfl), fun B' f1 c1 fr G' q cl A1 ou1 s1 H1 E1 Bd1 hr C => ve_callF (h_W_lean_join B' _ (t.cal (fun n g _ => fr n g) (fun _ _ _ _ _ h => h) [] G' T.xa)) hr rfl C (va_cons (ve_var 0) (va_cons (ve_tup (va_nil)) (va_nil)))⟩) (.cons (⟨_, rfl, (lamOk_by (N := N_law_k19) (sc := defScope s_law_k19) (p := "_law_high") (ys := ["_law_one"]) (js := [3]) (by decide +kernel)), (fun _ _ _ _ _ us hl => match us, hl with | [_], _ => rfl), fun B' f1 c1 fr G' q cl A1 ou1 s1 H1 E1 Bd1 hr C => ve_callF (h_W_lean_join B' _ (t.cal (fun n g _ => fr n g) (fun _ _ _ _ _ h => h) [] G' T.xa)) hr rfl C (va_cons (ve_var 1) (va_cons (ve_var 0) (va_nil)))⟩) (.cons (⟨_, rfl, fun B' fr G' kin f hf => fnV_of t.d_lean_take (h_G_lean_take B' _ (t.cal (fun n g _ => fr n g) (fun _ _ _ _ _ h => h) [] G' T.xa)) kin hf⟩) (.cons (⟨_, rfl, fun B' fr G' kin f hf => fnV_of t.d_turn_take (h_G_turn_take B' _ (t.cal (fun n g _ => fr n g) (fun _ _ _ _ _ h => h) [] G' T.xa)) kin hf⟩) (.nil))))))) (va_cons (ve_var 6) (va_cons (ve_lst (va_cons (ve_tup (va_cons (ve_var 3) (va_cons (ve_var 4) (va_nil)))) (va_cons (ve_tup (va_cons (ve_callF h_l_chain hr rfl C (va_cons (ve_int) (va_cons (ve_var 2) (va_nil)))) (va_cons (ve_tup (va_cons (ve_tup (va_nil)) (va_cons (ve_var 2) (va_cons (ve_tup (va_nil)) (va_nil))))) (va_nil)))) (va_cons (ve_tup (va_cons (ve_callF h_l_chain hr rfl C (va_cons (ve_int) (va_cons (ve_var 2) (va_nil)))) (va_cons (ve_var 5) (va_nil)))) (va_nil))))) (va_cons (ve_int) (va_nil))))))) (vss_one (vs_ret (ve_bl))) (vss_nil)) (vss_cons (vs_set 6 C (ve_lstC (va_cons (ve_lam (n := 2) (L := (lamD "_law_low" [] [] (kid (kid (kid (ndS (defBody s_law_k19) 0) 6) 0) 0))) hT rfl TB rfl hP (lamOk_by (N := N_law_k19) (sc := defScope s_law_k19) (p := "_law_low") (ys := []) (js := []) (by decide +kernel)).fr) (va_cons (ve_lam (n := 3) (L := (lamD "_law_high" ["_law_one"] [3] (kid (kid (kid (ndS (defBody s_law_k19) 0) 6) 0) 1))) hT rfl TB rfl hP (lamOk_by (N := N_law_k19) (sc := defScope s_law_k19) (p := "_law_high") (ys := ["_law_one"]) (js := [3]) (by decide +kernel)).fr) (va_cons (ve_cglob (n := 4) hT rfl rfl (let ⟨g, h, _⟩ := df_at t.d_lean_take; ⟨g, h⟩)) (va_nil)))))) (vss_one (vs_if (vt_not (vt_val (ve_callA (k := k) C hr rfl (df_at t.d_l_all) h_L_l_all rfl hT (.cons (⟨_, rfl, (lamOk_by (N := N_law_k19) (sc := defScope s_law_k19) (p := "_law_pair") (ys := []) (js := []) (by decide +kernel)), (fun _ _ _ _ _ us hl => match us, hl with | [_], _ => rfl), fun B' f1 c1 fr G' q cl A1 ou1 s1 H1 E1 Bd1 hr C => ve_callF (h_W_lean_join B' _ (t.cal (fun n g _ => fr n g) (fun _ _ _ _ _ h => h) [] G' T.xa)) hr rfl C (va_cons (ve_ix (ve_var 0) (ve_int)) (va_cons (ve_ix (ve_var 0) (ve_int)) (va_nil)))⟩) (.cons (⟨_, rfl, (lamOk_by (N := N_law_k19) (sc := defScope s_law_k19) (p := "_law_both") (ys := []) (js := []) (by decide +kernel)), (fun _ _ _ _ _ us hl => match us, hl with | [_], _ => rfl), fun B' f1 c1 fr G' q cl A1 ou1 s1 H1 E1 Bd1 hr C => ve_callF (h_W_turn_join B' _ (t.cal (fun n g _ => fr n g) (fun _ _ _ _ _ h => h) [] G' T.xa)) hr rfl C (va_cons (ve_ix (ve_var 0) (ve_int)) (va_cons (ve_ix (ve_var 0) (ve_int)) (va_nil)))⟩) (.cons (⟨_, rfl, (lamOk_by (N := N_law_k19) (sc := defScope s_law_k19) (p := "_law_low") (ys := []) (js := []) (by decide +kernel)), (fun _ _ _ _ _ us hl => match us, hl with | [_], _ => rfl), fun B' f1 c1 fr G' q cl A1 ou1 s1 H1 E1 Bd1 hr C => ve_callF (h_W_lean_join B' _ (t.cal (fun n g _ => fr n g) (fun _ _ _ _ _ h => h) [] G' T.xa)) hr rfl C (va_cons (ve_var 0) (va_cons (ve_tup (va_nil)) (va_nil)))⟩) (.cons (⟨_, rfl, (lamOk_by (N := N_law_k19) (sc := defScope s_law_k19) (p := "_law_high") (ys := ["_law_one"]) (js := [3]) (by decide +kernel)), (fun _ _ _ _ _ us hl => match us, hl with | [_], _ => rfl), fun B' f1 c1 fr G' q cl A1 ou1 s1 H1 E1 Bd1 hr C => ve_callF (h_W_lean_join B' _ (t.cal (fun n g _ => fr n g) (fun _ _ _ _ _ h => h) [] G' T.xa)) hr rfl C (va_cons (ve_var 1) (va_cons (ve_var 0) (va_nil)))⟩) (.cons (⟨_, rfl, fun B' fr G' kin f hf => fnV_of t.d_lean_take (h_G_lean_take B' _ (t.cal (fun n g _ => fr n g) (fun _ _ _ _ _ h => h) [] G' T.xa)) kin hf⟩) (.cons (⟨_, rfl, fun B' fr G' kin f hf => fnV_of t.d_turn_take (h_G_turn_take B' _ (t.cal (fun n g _ => fr n g) (fun _ _ _ _ _ h => h) [] G' T.xa)) kin hf⟩) (.nil))))))) (va_cons (ve_var 6) (va_cons (ve_lst (va_cons (ve_var 5) (va_cons (ve_if (vt_cm c_lt (ve_var 2) (ve_int)) (ve_tup (va_cons (ve_tup (va_nil)) (va_cons (ve_var 2) (va_cons (ve_var 5) (va_nil))))) (ve_var 5)) (va_cons (ve_tup (va_cons (ve_var 5) (va_cons (ve_int) (va_cons (ve_tup (va_cons (ve_tup (va_nil)) (va_cons (ve_int) (va_cons (ve_tup (va_nil)) (va_nil))))) (va_nil))))) (va_nil))))) (va_cons (ve_int) (va_nil))))))) (vss_one (vs_ret (ve_bl))) (vss_nil)))))))))) (vss_cons (vs_if (vt_not (vt_val (ve_callA (k := k) C hr rfl (df_at t.d_l_all) h_L_l_all rfl hT (.cons (⟨_, rfl, (lamOk_by (N := N_law_k19) (sc := defScope s_law_k19) (p := "_law_pair") (ys := []) (js := []) (by decide +kernel)), (fun _ _ _ _ _ us hl => match us, hl with | [_], _ => rfl), fun B' f1 c1 fr G' q cl A1 ou1 s1 H1 E1 Bd1 hr C => ve_callF (h_W_lean_join B' _ (t.cal (fun n g _ => fr n g) (fun _ _ _ _ _ h => h) [] G' T.xa)) hr rfl C (va_cons (ve_ix (ve_var 0) (ve_int)) (va_cons (ve_ix (ve_var 0) (ve_int)) (va_nil)))⟩) (.cons (⟨_, rfl, (lamOk_by (N := N_law_k19) (sc := defScope s_law_k19) (p := "_law_both") (ys := []) (js := []) (by decide +kernel)), (fun _ _ _ _ _ us hl => match us, hl with | [_], _ => rfl), fun B' f1 c1 fr G' q cl A1 ou1 s1 H1 E1 Bd1 hr C => ve_callF (h_W_turn_join B' _ (t.cal (fun n g _ => fr n g) (fun _ _ _ _ _ h => h) [] G' T.xa)) hr rfl C (va_cons (ve_ix (ve_var 0) (ve_int)) (va_cons (ve_ix (ve_var 0) (ve_int)) (va_nil)))⟩) (.cons (⟨_, rfl, (lamOk_by (N := N_law_k19) (sc := defScope s_law_k19) (p := "_law_low") (ys := []) (js := []) (by decide +kernel)), (fun _ _ _ _ _ us hl => match us, hl with | [_], _ => rfl), fun B' f1 c1 fr G' q cl A1 ou1 s1 H1 E1 Bd1 hr C => ve_callF (h_W_lean_join B' _ (t.cal (fun n g _ => fr n g) (fun _ _ _ _ _ h => h) [] G' T.xa)) hr rfl C (va_cons (ve_var 0) (va_cons (ve_tup (va_nil)) (va_nil)))⟩) (.cons (⟨_, rfl, (lamOk_by (N := N_law_k19) (sc := defScope s_law_k19) (p := "_law_high") (ys := ["_law_one"]) (js := [3]) (by decide +kernel)), (fun _ _ _ _ _ us hl => match us, hl with | [_], _ => rfl), fun B' f1 c1 fr G' q cl A1 ou1 s1 H1 E1 Bd1 hr C => ve_callF (h_W_lean_join B' _ (t.cal (fun n g _ => fr n g) (fun _ _ _ _ _ h => h) [] G' T.xa)) hr rfl C (va_cons (ve_var 1) (va_cons (ve_var 0) (va_nil)))⟩) (.cons (⟨_, rfl, fun B' fr G' kin f hf => fnV_of t.d_lean_take (h_G_lean_take B' _ (t.cal (fun n g _ => fr n g) (fun _ _ _ _ _ h => h) [] G' T.xa)) kin hf⟩) (.cons (⟨_, rfl, fun B' fr G' kin f hf => fnV_of t.d_turn_take (h_G_turn_take B' _ (t.cal (fun n g _ => fr n g) (fun _ _ _ _ _ h => h) [] G' T.xa)) kin hf⟩) (.nil))))))) (va_cons (ve_lstC (va_cons (ve_cglob (n := 4) hT rfl rfl (let ⟨g, h, _⟩ := df_at t.d_lean_take; ⟨g, h⟩)) (va_cons (ve_cglob (n := 5) hT rfl rfl (let ⟨g, h, _⟩ := df_at t.d_turn_take; ⟨g, h⟩)) (va_nil)))) (va_cons (ve_lst (va_cons (ve_tup (va_nil)) (va_nil))) (va_cons (ve_int) (va_nil))))))) (vss_one (vs_ret (ve_bl))) (vss_nil)) (vss_one (vs_ret (ve_and (ve_cm (c_eq C) (ve_callF h_rank hr rfl C (va_cons (ve_callF h_l_chain hr rfl C (va_cons (ve_int) (va_cons (ve_int) (va_nil)))) (va_nil))) (ve_int)) (ve_and (ve_cm (c_eq C) (ve_callF h_how_many_rows hr rfl C (va_cons (ve_tup (va_cons (ve_tup (va_nil)) (va_cons (ve_int) (va_cons (ve_tup (va_cons (ve_tup (va_nil)) (va_cons (ve_int) (va_cons (ve_tup (va_nil)) (va_nil))))) (va_nil))))) (va_nil))) (ve_int)) (ve_one (ve_cm (c_eq C) (ve_ix (ve_callF h_lean_of hr rfl C (va_cons (ve_mul (ve_lst (va_cons (ve_int) (va_nil))) (ve_int)) (va_nil))) (ve_int)) (ve_int))))))))
theorem all_law_k19 (t : Top K mg T) (tm : TopM K mg base T) : ∀ k, Fn P w K mg base T k "law" 1 (m_law_k19 k)
  | 0 => fn_no t.d_law_k19 rfl
  | 1 => fn_no t.d_law_k19 rfl
  | 2 => fn_no t.d_law_k19 rfl
  | 3 => fn_no t.d_law_k19 rfl
  | k + 4 => fn_mkM t.d_law_k19 tm.mt_law_k19 sc_law_k19 (let ⟨tab, h⟩ := bd_law_k19; ⟨tab, fun fr0 fm0 => have t0 := t.cal fr0 fm0 T.tb T.gc T.xa; have tm0 : TopM K mg base { T with fr := fr0, fm := fm0 } := ⟨tm.mt_l_heaps_right_k19, tm.mt_law_k19⟩; h t0 (all_l_heaps_right_k19 t0 tm0 (k + 3)) (all_l_rows_right_k19 t0 tm0 (k + 3)) (all_l_chain t0 (k + 3)) (fun B' T' t' => all_lean_join t' k) (fun B' T' t' => all_turn_join t' k) (fun B' fr G' m1 V => all_l_all (t0.cal (fun n g _ => fr n g) (fun _ _ _ _ _ h => h) [] G' T.xa) V) (fun B' T' t' => all_lean_take t' (k + 1)) (fun B' T' t' => all_turn_take t' (k + 1)) (all_rank t0 (k + 3)) (all_how_many_rows t0 (k + 3)) (all_lean_of t0 (k + 3))⟩)
end
theorem law_fin {P : Program} {w : World} {K : PySem.W.Frag} {mg : Str → Option Value} {k : Nat} {h : Heap} (t : Top K mg (ctOf mg)) {fa : Addr} (hfa : mg "law" = some (.ref fa)) {c1 P1 c2 P2 : Addr} (x1 : TabX K mg h "_law_heaps_right" c1 P1) (x2 : TabX K mg h "law" c2 P2) (hm : ∀ ns : List Int, ns.length ≤ 63 → (∀ z ∈ ns, Builtin.Int.intBits z ≤ 1048576) → m_law_k19 (k + 4) [.sh (.list (ns.map .int))] = .val (.sh (.bool true))) :
    ∃ (fd : FuncData) (cs : List (Addr × Addr)), TabF K h cs ∧ (∀ (s : Shared) (u : Value), BindsTo s fd ⟨[u], []⟩ [("_law_script", u)]) ∧ ∀ base : Heap, K.In base → (∀ p ∈ cs, LamX.TabB base mg p.1 p.2) → FnGd P w K mg base (L2.CX P w) (k + 4) fa fd ["_law_script"] (spLawT (cs.map (·.2))) := by
  obtain ⟨f, fd, F, hm2, hb⟩ := t.d_law_k19
  have e := hfa.symm.trans hm2
  cases e
  refine ⟨fd, [(c1, P1), (c2, P2)], .cons x1 (.cons x2 (.nil)), fun s u => ?_, fun base _ hT => ?_⟩
  · obtain ⟨_, _, _, _, _, _, _, _, _, rfl, _, _⟩ := F.ex
    exact .of_eq rfl
  have t := t.cal (fun _ _ _ => False) (fun _ _ _ _ _ h => h) [P1, P2] (fun _ => none) 0
  have tm : TopM K mg base { ctOf mg with fr := fun _ _ _ => False, fm := fun _ _ _ _ _ h => h, tb := [P1, P2], gc := fun _ => none, xa := 0 } := ⟨⟨c1, P1, hT _ (.head _), (.head _), x1.co⟩, ⟨c2, P2, hT _ (.tail _ (.head _)), (.tail _ (.head _)), x2.co⟩⟩
  obtain ⟨c, Pt, TB, hP, hc⟩ := tm.mt_law_k19
  obtain ⟨_, _, _, _, _, _, _, _, _, _, lk, _⟩ := id F.ex
  obtain ⟨tab, h⟩ := bd_law_k19
  refine FnGd.weak (gd_mkM (tab := tab) F (hc _ _ fd hfa lk rfl) TB hP sc_law_k19 (fun fr0 fm0 => ?_)) (law_impT (T := { ctOf mg with fr := fun _ _ _ => False, fm := fun _ _ _ _ _ h => h, tb := [P1, P2], gc := fun _ => none, xa := 0 }) rfl rfl hm)
  have t0 := t.cal fr0 fm0 [P1, P2] (fun _ => none) 0
  have tm0 : TopM K mg base { ctOf mg with fr := fr0, fm := fm0, tb := [P1, P2], gc := fun _ => none, xa := 0 } := ⟨tm.mt_l_heaps_right_k19, tm.mt_law_k19⟩
  exact h t0 (all_l_heaps_right_k19 t0 tm0 (k + 3)) (all_l_rows_right_k19 t0 tm0 (k + 3)) (all_l_chain t0 (k + 3)) (fun B' T' t' => all_lean_join t' k) (fun B' T' t' => all_turn_join t' k) (fun B' fr G' m1 V => all_l_all (t0.cal (fun n g _ => fr n g) (fun _ _ _ _ _ h => h) [] G' 0) V) (fun B' T' t' => all_lean_take t' (k + 1)) (fun B' T' t' => all_turn_take t' (k + 1)) (all_rank t0 (k + 3)) (all_how_many_rows t0 (k + 3)) (all_lean_of t0 (k + 3))

abbrev LEVEL : Nat := 200
theorem law_main : ∀ ns : List Int, ns.length ≤ 63 → (∀ z ∈ ns, Builtin.Int.intBits z ≤ 1048576) → m_law_k19 (LEVEL + 4) [.sh (.list (ns.map .int))] = .val (.sh (.bool true)) := law_main_k19

end HM
open PySem PySem.W PyProof.Rows
set_option maxRecDepth 100000 in
set_option maxHeartbeats 0 in
theorem PySem.Challenge.cw_heapmeld_k19_refused_heaps_holds : PySem.Challenge.rw_heapmeld_k19_refused_heaps.Holds := by
  w_on; o_law; k_head; (case hw => w_witness2)
  k_fill
  refine VL.walkT (l := PySem.Challenge.rw_heapmeld_k19_refused_heaps) (k := HM.LEVEL + 4) ⟨rfl, by decide, by decide⟩ rfl rfl (fun w h Y => PySem.W.km_in_of Y) ?L ?F
  case L => intro w; kernel_rfl
  case F =>
    intro w s0 mg mb fa h KX G hmg GR Y
    refine' HM.law_fin (k := HM.LEVEL) ?tt hmg (VL.tabX_mk (x := "_law_heaps_right") (q := "_law_heaps_right") (st := HM.s_l_heaps_right_k19) KX G ?a0 ?l0 ?v0 ?w0 ?d0 ?n0 ?e0) (VL.tabX_mk (x := "law") (q := "law") (st := HM.s_law_k19) KX G ?a1 ?l1 ?v1 ?w1 ?d1 ?n1 ?e1) HM.law_main
    (case a0 => k_is); (case l0 => k_is); (case v0 => k_is)
    (case w0 => rfl); (case d0 => (first | kernel_rfl | k_is)); (case n0 => (first | k_is | kernel_rfl)); (case e0 => exact PySem.W.km_tabs_of Y _ (by decide))
    (case a1 => k_is); (case l1 => k_is); (case v1 => k_is)
    (case w1 => rfl); (case d1 => (first | kernel_rfl | k_is)); (case n1 => (first | k_is | kernel_rfl)); (case e1 => exact PySem.W.km_tabs_of Y _ (by decide))
    constructor
    case d_rank_of =>
      refine' VL.df_mk KX G ?a ?l ?c ?k ?b
      (case a => k_is); (case l => k_is); (case c => k_is); (case k => k_is)
      (case b => exact fun _ _ _ _ _ _ us hl => match us, hl with | [_], _ => rfl)
    case d_slants =>
      refine' VL.df_mk KX G ?a ?l ?c ?k ?b
      (case a => k_is); (case l => k_is); (case c => k_is); (case k => k_is)
      (case b => exact fun _ _ _ _ _ _ us hl => match us, hl with | [_], _ => rfl)
    case d_slanting =>
      refine' VL.df_mk KX G ?a ?l ?c ?k ?b
      (case a => k_is); (case l => k_is); (case c => k_is); (case k => k_is)
      (case b => exact fun _ _ _ _ _ _ us hl => match us, hl with | [_, _], _ => rfl)
    case d_exchanged =>
      refine' VL.df_mk KX G ?a ?l ?c ?k ?b
      (case a => k_is); (case l => k_is); (case c => k_is); (case k => k_is)
      (case b => exact fun _ _ _ _ _ _ us hl => match us, hl with | [_, _, _], _ => rfl)
    case d_is_key =>
      refine' VL.df_mk KX G ?a ?l ?c ?k ?b
      (case a => k_is); (case l => k_is); (case c => k_is); (case k => k_is)
      (case b => exact fun _ _ _ _ _ _ us hl => match us, hl with | [_], _ => rfl)
    case d_is_form =>
      refine' VL.df_mk KX G ?a ?l ?c ?k ?b
      (case a => k_is); (case l => k_is); (case c => k_is); (case k => k_is)
      (case b => exact fun _ _ _ _ _ _ us hl => match us, hl with | [_], _ => rfl)
    case d_is_ordered =>
      refine' VL.df_mk KX G ?a ?l ?c ?k ?b
      (case a => k_is); (case l => k_is); (case c => k_is); (case k => k_is)
      (case b => exact fun _ _ _ _ _ _ us hl => match us, hl with | [_], _ => rfl)
    case d_check_heap =>
      refine' VL.df_mk KX G ?a ?l ?c ?k ?b
      (case a => k_is); (case l => k_is); (case c => k_is); (case k => k_is)
      (case b => exact fun _ _ _ _ _ _ us hl => match us, hl with | [_], _ => rfl)
    case d_check_keys =>
      refine' VL.df_mk KX G ?a ?l ?c ?k ?b
      (case a => k_is); (case l => k_is); (case c => k_is); (case k => k_is)
      (case b => exact fun _ _ _ _ _ _ us hl => match us, hl with | [_], _ => rfl)
    case d_row_from =>
      refine' VL.df_mk KX G ?a ?l ?c ?k ?b
      (case a => k_is); (case l => k_is); (case c => k_is); (case k => k_is)
      (case b => exact fun _ _ _ _ _ _ us hl => match us, hl with | [_], _ => rfl)
    case d_size_of =>
      refine' VL.df_mk KX G ?a ?l ?c ?k ?b
      (case a => k_is); (case l => k_is); (case c => k_is); (case k => k_is)
      (case b => exact fun _ _ _ _ _ _ us hl => match us, hl with | [_], _ => rfl)
    case d_keys_of =>
      refine' VL.df_mk KX G ?a ?l ?c ?k ?b
      (case a => k_is); (case l => k_is); (case c => k_is); (case k => k_is)
      (case b => exact fun _ _ _ _ _ _ us hl => match us, hl with | [_], _ => rfl)
    case d_check_both =>
      refine' VL.df_mk KX G ?a ?l ?c ?k ?b
      (case a => k_is); (case l => k_is); (case c => k_is); (case k => k_is)
      (case b => exact fun _ _ _ _ _ _ us hl => match us, hl with | [_, _], _ => rfl)
    case d_check_leaning =>
      refine' VL.df_mk KX G ?a ?l ?c ?k ?b
      (case a => k_is); (case l => k_is); (case c => k_is); (case k => k_is)
      (case b => exact fun _ _ _ _ _ _ us hl => match us, hl with | [_], _ => rfl)
    case d_rank =>
      refine' VL.df_mk KX G ?a ?l ?c ?k ?b
      (case a => k_is); (case l => k_is); (case c => k_is); (case k => k_is)
      (case b => exact fun _ _ _ _ _ _ us hl => match us, hl with | [_], _ => rfl)
    case d_judged =>
      refine' VL.df_mk KX G ?a ?l ?c ?k ?b
      (case a => k_is); (case l => k_is); (case c => k_is); (case k => k_is)
      (case b => exact fun _ _ _ _ _ _ us hl => match us, hl with | [_], _ => rfl)
    case d_leaning_knot =>
      refine' VL.df_mk KX G ?a ?l ?c ?k ?b
      (case a => k_is); (case l => k_is); (case c => k_is); (case k => k_is)
      (case b => exact fun _ _ _ _ _ _ us hl => match us, hl with | [_, _, _], _ => rfl)
    case d_joinL =>
      refine' VL.df_mk KX G ?a ?l ?c ?k ?b
      (case a => k_is); (case l => k_is); (case c => k_is); (case k => k_is)
      (case b => exact fun _ _ _ _ _ _ us hl => match us, hl with | [_, _], _ => rfl)
    case d_lean_join =>
      refine' VL.df_mk KX G ?a ?l ?c ?k ?b
      (case a => k_is); (case l => k_is); (case c => k_is); (case k => k_is)
      (case b => exact fun _ _ _ _ _ _ us hl => match us, hl with | [_, _], _ => rfl)
    case d_lean_take =>
      refine' VL.df_mk KX G ?a ?l ?c ?k ?b
      (case a => k_is); (case l => k_is); (case c => k_is); (case k => k_is)
      (case b => exact fun _ _ _ _ _ _ us hl => match us, hl with | [_], _ => rfl)
    case d_lean_of =>
      refine' VL.df_mk KX G ?a ?l ?c ?k ?b
      (case a => k_is); (case l => k_is); (case c => k_is); (case k => k_is)
      (case b => exact fun _ _ _ _ _ _ us hl => match us, hl with | [_], _ => rfl)
    case d_leaned =>
      refine' VL.df_mk KX G ?a ?l ?c ?k ?b
      (case a => k_is); (case l => k_is); (case c => k_is); (case k => k_is)
      (case b => exact fun _ _ _ _ _ _ us hl => match us, hl with | [_], _ => rfl)
    case d_heap_from =>
      refine' VL.df_mk KX G ?a ?l ?c ?k ?b
      (case a => k_is); (case l => k_is); (case c => k_is); (case k => k_is)
      (case b => exact fun _ _ _ _ _ _ us hl => match us, hl with | [_], _ => rfl)
    case d_heap_of =>
      refine' VL.df_mk KX G ?a ?l ?c ?k ?b
      (case a => k_is); (case l => k_is); (case c => k_is); (case k => k_is)
      (case b => exact fun _ _ _ _ _ _ us hl => match us, hl with | [_], _ => rfl)
    case d_row_of =>
      refine' VL.df_mk KX G ?a ?l ?c ?k ?b
      (case a => k_is); (case l => k_is); (case c => k_is); (case k => k_is)
      (case b => exact fun _ _ _ _ _ _ us hl => match us, hl with | [_], _ => rfl)
    case d_sizes_of =>
      refine' VL.df_mk KX G ?a ?l ?c ?k ?b
      (case a => k_is); (case l => k_is); (case c => k_is); (case k => k_is)
      (case b => exact fun _ _ _ _ _ _ us hl => match us, hl with | [_], _ => rfl)
    case d_how_many_rows =>
      refine' VL.df_mk KX G ?a ?l ?c ?k ?b
      (case a => k_is); (case l => k_is); (case c => k_is); (case k => k_is)
      (case b => exact fun _ _ _ _ _ _ us hl => match us, hl with | [_], _ => rfl)
    case d_joinT =>
      refine' VL.df_mk KX G ?a ?l ?c ?k ?b
      (case a => k_is); (case l => k_is); (case c => k_is); (case k => k_is)
      (case b => exact fun _ _ _ _ _ _ us hl => match us, hl with | [_, _], _ => rfl)
    case d_turn_join =>
      refine' VL.df_mk KX G ?a ?l ?c ?k ?b
      (case a => k_is); (case l => k_is); (case c => k_is); (case k => k_is)
      (case b => exact fun _ _ _ _ _ _ us hl => match us, hl with | [_, _], _ => rfl)
    case d_turn_take =>
      refine' VL.df_mk KX G ?a ?l ?c ?k ?b
      (case a => k_is); (case l => k_is); (case c => k_is); (case k => k_is)
      (case b => exact fun _ _ _ _ _ _ us hl => match us, hl with | [_], _ => rfl)
    case d_purse_of =>
      refine' VL.df_mk KX G ?a ?l ?c ?k ?b
      (case a => k_is); (case l => k_is); (case c => k_is); (case k => k_is)
      (case b => exact fun _ _ _ _ _ _ us hl => match us, hl with | [_], _ => rfl)
    case d_purse =>
      refine' VL.df_mk KX G ?a ?l ?c ?k ?b
      (case a => k_is); (case l => k_is); (case c => k_is); (case k => k_is)
      (case b => exact fun _ _ _ _ _ _ us hl => match us, hl with | [_], _ => rfl)
    case d_l_kinds =>
      refine' VL.df_mk KX G ?a ?l ?c ?k ?b
      (case a => k_is); (case l => k_is); (case c => k_is); (case k => k_is)
      (case b => exact fun _ _ _ _ _ _ us hl => match us, hl with | [_], _ => rfl)
    case d_l_refused_k19 =>
      refine' VL.df_mk KX G ?a ?l ?c ?k ?b
      (case a => k_is); (case l => k_is); (case c => k_is); (case k => k_is)
      (case b => exact fun _ _ _ _ _ _ us hl => match us, hl with | [_, _, _], _ => rfl)
    case d_l_all =>
      refine' VL.df_mk KX G ?a ?l ?c ?k ?b
      (case a => k_is); (case l => k_is); (case c => k_is); (case k => k_is)
      (case b => exact fun _ _ _ _ _ _ us hl => match us, hl with | [_, _, _], _ => rfl)
    case d_l_no_forms_k19 =>
      refine' VL.df_mk KX G ?a ?l ?c ?k ?b
      (case a => k_is); (case l => k_is); (case c => k_is); (case k => k_is)
      (case b => exact fun _ _ _ _ _ _ us hl => match us, hl with | [_], _ => rfl)
    case d_l_no_heaps =>
      refine' VL.df_mk KX G ?a ?l ?c ?k ?b
      (case a => k_is); (case l => k_is); (case c => k_is); (case k => k_is)
      (case b => exact fun _ _ _ _ _ _ us hl => match us, hl with | [_], _ => rfl)
    case d_l_no_rows =>
      refine' VL.df_mk KX G ?a ?l ?c ?k ?b
      (case a => k_is); (case l => k_is); (case c => k_is); (case k => k_is)
      (case b => exact fun _ _ _ _ _ _ us hl => match us, hl with | [_], _ => rfl)
    case d_l_chain =>
      refine' VL.df_mk KX G ?a ?l ?c ?k ?b
      (case a => k_is); (case l => k_is); (case c => k_is); (case k => k_is)
      (case b => exact fun _ _ _ _ _ _ us hl => match us, hl with | [_, _], _ => rfl)
    case d_l_heaps_right_k19 =>
      refine' VL.df_mk KX G ?a ?l ?c ?k ?b
      (case a => k_is); (case l => k_is); (case c => k_is); (case k => k_is)
      (case b => exact fun _ _ _ _ _ _ us hl => match us, hl with | [_], _ => rfl)
    case d_l_rows_right_k19 =>
      refine' VL.df_mk KX G ?a ?l ?c ?k ?b
      (case a => k_is); (case l => k_is); (case c => k_is); (case k => k_is)
      (case b => exact fun _ _ _ _ _ _ us hl => match us, hl with | [_], _ => rfl)
    case d_law_k19 =>
      refine' VL.df_mk KX G ?a ?l ?c ?k ?b
      (case a => k_is); (case l => k_is); (case c => k_is); (case k => k_is)
      (case b => exact fun _ _ _ _ _ _ us hl => match us, hl with | [_], _ => rfl)
    case b_min =>
      exact VL.no_mk KX G (by k_is)
    case b_isinstance =>
      exact VL.no_mk KX G (by k_is)
    case b_int =>
      exact VL.no_mk KX G (by k_is)
    case b_bool =>
      exact VL.no_mk KX G (by k_is)
    case b_tuple =>
      exact VL.no_mk KX G (by k_is)
    case b_len =>
      exact VL.no_mk KX G (by k_is)
    case k_MOST =>
      refine' VL.k_mk KX G ?a
      (case a => k_is)
    case e_BadHeap =>
      refine' VL.er_mk KX G ?a ?e ?k ?s ?t
      (case a => k_is); (case e => k_exc); (case k => k_is); (case s => k_is); (case t => k_is)
    case b_list =>
      exact VL.no_mk KX G (by k_is)
    case b_all =>
      exact VL.no_mk KX G (by k_is)
    case e_BadKey =>
      refine' VL.er_mk KX G ?a ?e ?k ?s ?t
      (case a => k_is); (case e => k_exc); (case k => k_is); (case s => k_is); (case t => k_is)
    case b_sorted =>
      exact VL.no_mk KX G (by k_is)
    case e_TooMany =>
      refine' VL.er_mk KX G ?a ?e ?k ?s ?t
      (case a => k_is); (case e => k_exc); (case k => k_is); (case s => k_is); (case t => k_is)
    case e_NotLeaning =>
      refine' VL.er_mk KX G ?a ?e ?k ?s ?t
      (case a => k_is); (case e => k_exc); (case k => k_is); (case s => k_is); (case t => k_is)
    case z_Leans =>
      refine' VL.z_mk KX G ?a rfl ?g
      (case a => k_is); (case g => k_is)
    case c_Leans =>
      refine' VL.oc_mk KX G ?a rfl ?cl ?na ?ha ?hn ?ht ?hm ?mk ?kp
      (case a => k_is); (case cl => exact ⟨by k_is, by k_is, by k_is, by k_is⟩); (case na => exact VL.na0); (case ha => k_is); (case hn => k_is); (case ht => k_is); (case hm => k_is); (case mk => k_is); (case kp => k_is)
    case c_Slants =>
      refine' VL.oc_mk KX G ?a rfl ?cl ?na ?ha ?hn ?ht ?hm ?mk ?kp
      (case a => k_is); (case cl => exact ⟨by k_is, by k_is, by k_is, by k_is⟩); (case na => exact VL.na1 (by k_is)); (case ha => k_is); (case hn => k_is); (case ht => k_is); (case hm => k_is); (case mk => k_is); (case kp => k_is)
    case e_Empty =>
      refine' VL.er_mk KX G ?a ?e ?k ?s ?t
      (case a => k_is); (case e => k_exc); (case k => k_is); (case s => k_is); (case t => k_is)
    case c_Leaned =>
      refine' VL.oc_mk KX G ?a rfl ?cl ?na ?ha ?hn ?ht ?hm ?mk ?kp
      (case a => k_is); (case cl => exact ⟨by k_is, by k_is, by k_is, by k_is⟩); (case na => exact VL.na2 (by k_is) (by k_is)); (case ha => k_is); (case hn => k_is); (case ht => k_is); (case hm => k_is); (case mk => k_is); (case kp => k_is)
    case b_set =>
      exact VL.no_mk KX G (by k_is)
    case e_BadShape =>
      refine' VL.er_mk KX G ?a ?e ?k ?s ?t
      (case a => k_is); (case e => k_exc); (case k => k_is); (case s => k_is); (case t => k_is)
    case b_range =>
      exact VL.no_mk KX G (by k_is)
    case v_l_kinds =>
      exact (VL.xa_cons (VL.xv_mk KX G (by first | rfl | k_is) (by first | rfl | k_is)) (VL.xa_cons (VL.xv_mk KX G (by first | rfl | k_is) (by first | rfl | k_is)) (VL.xa_cons (VL.xv_mk KX G (by first | rfl | k_is) (by first | rfl | k_is)) (VL.xa_cons (VL.xv_mk KX G (by first | rfl | k_is) (by first | rfl | k_is)) (VL.xa_cons (VL.xv_mk KX G (by first | rfl | k_is) (by first | rfl | k_is)) (VL.xa_cons (VL.xv_mk KX G (by first | rfl | k_is) (by first | rfl | k_is)) (VL.xa_cons (VL.xv_mk KX G (by first | rfl | k_is) (by first | rfl | k_is)) (VL.xa_cons (VL.xv_mk KX G (by first | rfl | k_is) (by first | rfl | k_is)) (VL.xa_cons (VL.xv_mk KX G (by first | rfl | k_is) (by first | rfl | k_is)) VL.xa_nil)))))))))
    case b_ValueError =>
      exact VL.no_mk KX G (by k_is)
    case x_l_kinds =>
      exact (VL.xa_cons (VL.xc_mk KX G (by first | rfl | k_is) ⟨by k_is, by k_is, by k_is, by k_is, by k_is, by k_is, by k_is, by k_is⟩ (by k_is) (by first | rfl | k_is) (VL.xi_cons (by first | rfl | k_is) (by first | rfl | k_is) (by decide +kernel) (VL.xi_cons (by first | rfl | k_is) (by first | rfl | k_is) (by decide +kernel) (VL.xi_cons (by first | rfl | k_is) (by first | rfl | k_is) (by decide +kernel) (VL.xi_cons (by first | rfl | k_is) (by first | rfl | k_is) (by decide +kernel) (VL.xi_cons (by first | rfl | k_is) (by first | rfl | k_is) (by decide +kernel) (VL.xi_cons (by first | rfl | k_is) (by first | rfl | k_is) (by decide +kernel) (VL.xi_cons (by first | rfl | k_is) (by first | rfl | k_is) (by decide +kernel) (VL.xi_cons (by first | rfl | k_is) (by first | rfl | k_is) (by decide +kernel) (VL.xi_cons (by first | rfl | k_is) (by first | rfl | k_is) (by decide +kernel) VL.xi_nil)))))))))) (VL.xa_cons (VL.xc_mk KX G (by first | rfl | k_is) ⟨by k_is, by k_is, by k_is, by k_is, by k_is, by k_is, by k_is, by k_is⟩ (by k_is) (by first | rfl | k_is) (VL.xi_cons (by first | rfl | k_is) (by first | rfl | k_is) (by decide +kernel) (VL.xi_cons (by first | rfl | k_is) (by first | rfl | k_is) (by decide +kernel) (VL.xi_cons (by first | rfl | k_is) (by first | rfl | k_is) (by decide +kernel) (VL.xi_cons (by first | rfl | k_is) (by first | rfl | k_is) (by decide +kernel) (VL.xi_cons (by first | rfl | k_is) (by first | rfl | k_is) (by decide +kernel) (VL.xi_cons (by first | rfl | k_is) (by first | rfl | k_is) (by decide +kernel) (VL.xi_cons (by first | rfl | k_is) (by first | rfl | k_is) (by decide +kernel) (VL.xi_cons (by first | rfl | k_is) (by first | rfl | k_is) (by decide +kernel) (VL.xi_cons (by first | rfl | k_is) (by first | rfl | k_is) (by decide +kernel) VL.xi_nil)))))))))) (VL.xa_cons (VL.xc_mk KX G (by first | rfl | k_is) ⟨by k_is, by k_is, by k_is, by k_is, by k_is, by k_is, by k_is, by k_is⟩ (by k_is) (by first | rfl | k_is) (VL.xi_cons (by first | rfl | k_is) (by first | rfl | k_is) (by decide +kernel) (VL.xi_cons (by first | rfl | k_is) (by first | rfl | k_is) (by decide +kernel) (VL.xi_cons (by first | rfl | k_is) (by first | rfl | k_is) (by decide +kernel) (VL.xi_cons (by first | rfl | k_is) (by first | rfl | k_is) (by decide +kernel) (VL.xi_cons (by first | rfl | k_is) (by first | rfl | k_is) (by decide +kernel) (VL.xi_cons (by first | rfl | k_is) (by first | rfl | k_is) (by decide +kernel) (VL.xi_cons (by first | rfl | k_is) (by first | rfl | k_is) (by decide +kernel) (VL.xi_cons (by first | rfl | k_is) (by first | rfl | k_is) (by decide +kernel) (VL.xi_cons (by first | rfl | k_is) (by first | rfl | k_is) (by decide +kernel) VL.xi_nil)))))))))) (VL.xa_cons (VL.xc_mk KX G (by first | rfl | k_is) ⟨by k_is, by k_is, by k_is, by k_is, by k_is, by k_is, by k_is, by k_is⟩ (by k_is) (by first | rfl | k_is) (VL.xi_cons (by first | rfl | k_is) (by first | rfl | k_is) (by decide +kernel) (VL.xi_cons (by first | rfl | k_is) (by first | rfl | k_is) (by decide +kernel) (VL.xi_cons (by first | rfl | k_is) (by first | rfl | k_is) (by decide +kernel) (VL.xi_cons (by first | rfl | k_is) (by first | rfl | k_is) (by decide +kernel) (VL.xi_cons (by first | rfl | k_is) (by first | rfl | k_is) (by decide +kernel) (VL.xi_cons (by first | rfl | k_is) (by first | rfl | k_is) (by decide +kernel) (VL.xi_cons (by first | rfl | k_is) (by first | rfl | k_is) (by decide +kernel) (VL.xi_cons (by first | rfl | k_is) (by first | rfl | k_is) (by decide +kernel) (VL.xi_cons (by first | rfl | k_is) (by first | rfl | k_is) (by decide +kernel) VL.xi_nil)))))))))) (VL.xa_cons (VL.xc_mk KX G (by first | rfl | k_is) ⟨by k_is, by k_is, by k_is, by k_is, by k_is, by k_is, by k_is, by k_is⟩ (by k_is) (by first | rfl | k_is) (VL.xi_cons (by first | rfl | k_is) (by first | rfl | k_is) (by decide +kernel) (VL.xi_cons (by first | rfl | k_is) (by first | rfl | k_is) (by decide +kernel) (VL.xi_cons (by first | rfl | k_is) (by first | rfl | k_is) (by decide +kernel) (VL.xi_cons (by first | rfl | k_is) (by first | rfl | k_is) (by decide +kernel) (VL.xi_cons (by first | rfl | k_is) (by first | rfl | k_is) (by decide +kernel) (VL.xi_cons (by first | rfl | k_is) (by first | rfl | k_is) (by decide +kernel) (VL.xi_cons (by first | rfl | k_is) (by first | rfl | k_is) (by decide +kernel) (VL.xi_cons (by first | rfl | k_is) (by first | rfl | k_is) (by decide +kernel) (VL.xi_cons (by first | rfl | k_is) (by first | rfl | k_is) (by decide +kernel) VL.xi_nil)))))))))) (VL.xa_cons (VL.xc_mk KX G (by first | rfl | k_is) ⟨by k_is, by k_is, by k_is, by k_is, by k_is, by k_is, by k_is, by k_is⟩ (by k_is) (by first | rfl | k_is) (VL.xi_cons (by first | rfl | k_is) (by first | rfl | k_is) (by decide +kernel) (VL.xi_cons (by first | rfl | k_is) (by first | rfl | k_is) (by decide +kernel) (VL.xi_cons (by first | rfl | k_is) (by first | rfl | k_is) (by decide +kernel) (VL.xi_cons (by first | rfl | k_is) (by first | rfl | k_is) (by decide +kernel) (VL.xi_cons (by first | rfl | k_is) (by first | rfl | k_is) (by decide +kernel) (VL.xi_cons (by first | rfl | k_is) (by first | rfl | k_is) (by decide +kernel) (VL.xi_cons (by first | rfl | k_is) (by first | rfl | k_is) (by decide +kernel) (VL.xi_cons (by first | rfl | k_is) (by first | rfl | k_is) (by decide +kernel) (VL.xi_cons (by first | rfl | k_is) (by first | rfl | k_is) (by decide +kernel) VL.xi_nil)))))))))) (VL.xa_cons (VL.xc_mk KX G (by first | rfl | k_is) ⟨by k_is, by k_is, by k_is, by k_is, by k_is, by k_is, by k_is, by k_is⟩ (by k_is) (by first | rfl | k_is) (VL.xi_cons (by first | rfl | k_is) (by first | rfl | k_is) (by decide +kernel) (VL.xi_cons (by first | rfl | k_is) (by first | rfl | k_is) (by decide +kernel) (VL.xi_cons (by first | rfl | k_is) (by first | rfl | k_is) (by decide +kernel) (VL.xi_cons (by first | rfl | k_is) (by first | rfl | k_is) (by decide +kernel) (VL.xi_cons (by first | rfl | k_is) (by first | rfl | k_is) (by decide +kernel) (VL.xi_cons (by first | rfl | k_is) (by first | rfl | k_is) (by decide +kernel) (VL.xi_cons (by first | rfl | k_is) (by first | rfl | k_is) (by decide +kernel) (VL.xi_cons (by first | rfl | k_is) (by first | rfl | k_is) (by decide +kernel) (VL.xi_cons (by first | rfl | k_is) (by first | rfl | k_is) (by decide +kernel) VL.xi_nil)))))))))) (VL.xa_cons (VL.xc_mk KX G (by first | rfl | k_is) ⟨by k_is, by k_is, by k_is, by k_is, by k_is, by k_is, by k_is, by k_is⟩ (by k_is) (by first | rfl | k_is) (VL.xi_cons (by first | rfl | k_is) (by first | rfl | k_is) (by decide +kernel) (VL.xi_cons (by first | rfl | k_is) (by first | rfl | k_is) (by decide +kernel) (VL.xi_cons (by first | rfl | k_is) (by first | rfl | k_is) (by decide +kernel) (VL.xi_cons (by first | rfl | k_is) (by first | rfl | k_is) (by decide +kernel) (VL.xi_cons (by first | rfl | k_is) (by first | rfl | k_is) (by decide +kernel) (VL.xi_cons (by first | rfl | k_is) (by first | rfl | k_is) (by decide +kernel) (VL.xi_cons (by first | rfl | k_is) (by first | rfl | k_is) (by decide +kernel) (VL.xi_cons (by first | rfl | k_is) (by first | rfl | k_is) (by decide +kernel) (VL.xi_cons (by first | rfl | k_is) (by first | rfl | k_is) (by decide +kernel) VL.xi_nil)))))))))) (VL.xa_cons (VL.xc_mk KX G (by first | rfl | k_is) ⟨by k_is, by k_is, by k_is, by k_is, by k_is, by k_is, by k_is, by k_is⟩ (by k_is) (by first | rfl | k_is) (VL.xi_cons (by first | rfl | k_is) (by first | rfl | k_is) (by decide +kernel) (VL.xi_cons (by first | rfl | k_is) (by first | rfl | k_is) (by decide +kernel) (VL.xi_cons (by first | rfl | k_is) (by first | rfl | k_is) (by decide +kernel) (VL.xi_cons (by first | rfl | k_is) (by first | rfl | k_is) (by decide +kernel) (VL.xi_cons (by first | rfl | k_is) (by first | rfl | k_is) (by decide +kernel) (VL.xi_cons (by first | rfl | k_is) (by first | rfl | k_is) (by decide +kernel) (VL.xi_cons (by first | rfl | k_is) (by first | rfl | k_is) (by decide +kernel) (VL.xi_cons (by first | rfl | k_is) (by first | rfl | k_is) (by decide +kernel) (VL.xi_cons (by first | rfl | k_is) (by first | rfl | k_is) (by decide +kernel) VL.xi_nil)))))))))) VL.xa_nil)))))))))
    case x_l_refused_k19 =>
      exact (VL.xa_cons (VL.xc_mk KX G (by first | rfl | k_is) ⟨by k_is, by k_is, by k_is, by k_is, by k_is, by k_is, by k_is, by k_is⟩ (by k_is) (by first | rfl | k_is) VL.xi_nil) (VL.xa_cons (VL.xc_mk KX G (by first | rfl | k_is) ⟨by k_is, by k_is, by k_is, by k_is, by k_is, by k_is, by k_is, by k_is⟩ (by k_is) (by first | rfl | k_is) VL.xi_nil) (VL.xa_cons (VL.xc_mk KX G (by first | rfl | k_is) ⟨by k_is, by k_is, by k_is, by k_is, by k_is, by k_is, by k_is, by k_is⟩ (by k_is) (by first | rfl | k_is) VL.xi_nil) (VL.xa_cons (VL.xc_mk KX G (by first | rfl | k_is) ⟨by k_is, by k_is, by k_is, by k_is, by k_is, by k_is, by k_is, by k_is⟩ (by k_is) (by first | rfl | k_is) VL.xi_nil) (VL.xa_cons (VL.xc_mk KX G (by first | rfl | k_is) ⟨by k_is, by k_is, by k_is, by k_is, by k_is, by k_is, by k_is, by k_is⟩ (by k_is) (by first | rfl | k_is) VL.xi_nil) (VL.xa_cons (VL.xc_mk KX G (by first | rfl | k_is) ⟨by k_is, by k_is, by k_is, by k_is, by k_is, by k_is, by k_is, by k_is⟩ (by k_is) (by first | rfl | k_is) VL.xi_nil) (VL.xa_cons (VL.xc_mk KX G (by first | rfl | k_is) ⟨by k_is, by k_is, by k_is, by k_is, by k_is, by k_is, by k_is, by k_is⟩ (by k_is) (by first | rfl | k_is) VL.xi_nil) (VL.xa_cons (VL.xc_mk KX G (by first | rfl | k_is) ⟨by k_is, by k_is, by k_is, by k_is, by k_is, by k_is, by k_is, by k_is⟩ (by k_is) (by first | rfl | k_is) VL.xi_nil) (VL.xa_cons (VL.xc_mk KX G (by first | rfl | k_is) ⟨by k_is, by k_is, by k_is, by k_is, by k_is, by k_is, by k_is, by k_is⟩ (by k_is) (by first | rfl | k_is) VL.xi_nil) VL.xa_nil)))))))))
    case b_abs =>
      exact VL.no_mk KX G (by k_is)
    case n_Slants =>
      refine' VL.di_mk KX G ?a rfl ?g ?n ?l ?c ?k ?mk ?kp ?b
      (case a => k_is); (case g => k_is); (case n => k_is); (case l => k_is); (case c => k_is); (case k => k_is); (case mk => k_is); (case kp => k_is)
      (case b => exact fun _ _ _ _ _ _ us hl => match us, hl with | [_, _], _ => rfl)
    case n_Leaned =>
      refine' VL.di_mk KX G ?a rfl ?g ?n ?l ?c ?k ?mk ?kp ?b
      (case a => k_is); (case g => k_is); (case n => k_is); (case l => k_is); (case c => k_is); (case k => k_is); (case mk => k_is); (case kp => k_is)
      (case b => exact fun _ _ _ _ _ _ us hl => match us, hl with | [_, _, _], _ => rfl)
